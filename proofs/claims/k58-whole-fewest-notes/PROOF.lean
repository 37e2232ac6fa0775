import PyProof.Rows.All
import Wide.All
import OpenK.AllK
import Wide.FinOn
import KE.KSuper
import HandS.ForMost
import HandS.Defaults
import HandS.MakeKw
import HandS.MakeKwOnly
import HandS.ClsMeth
import HandS.Star
import KE.KOpsOwn
import KE.KOwnIter
import HandS.IterVal
import HandS.OwnIter
import HandS.Lambda
import HandS.Walk
import HandS.Deep
import KE.GoesMore
import HandS.IsInst
import HandS.RaiseMore
import HandS.SortKw
import HandS.TupAny
import KE.SortData
import HandS.HeadHook4
import HandS.HeadNt
import KE.SortKeyHeap
import HandS.NoneIn
import KE.KStateDown
import HandS.HeadWalk
import HandS.Head2
import PyProof.DictCompW
import HandS.DictComp
import HandS.SetBool
import HandS.Iter
import HandS.Set
import KE.KLam
import HandS.TupSets
import HandS.Wide
import HandS.Text
import PySem.Challenge.RW_pastnotes_k58_whole_fewest_notes
set_option Elab.async false
set_option linter.all false
set_option maxRecDepth 100000
set_option maxHeartbeats 0
/-! #### Fnd1 -/
namespace Pn
open PySem PySem.Spec PyProof.Rows L2

/-! ### calls with a star and keywords -/
section
variable {M : Model} {A : Around} {E : Value → Shared → Prop} {s : Shared}
theorem call_mark {f : Value} {first : List Value} {pos : Pos} {Q : Value → Shared → Prop} {P : Heap → Prop} {args : List (Bool × Sem Value)} {kws : List (Option Str × Sem Value)} (hst : (args.any (·.1) || kws.any (·.1.isNone)) = true)
    (hk : ∀ h, P h → ∃ k, (k = Keeper.frame ∨ k = Keeper.machine ∨ k = Keeper.boundFrame) ∧ PySem.W.Looks M h (keeperOf f) k)
    (h : wpAny M A (evalArgs f true args kws) (fun a s₁ => P s₁.heap ∧ wpAny M A (call f (first ++ a.pos) a.kw) Q E s₁) E s) : wpAny M A (callWith pos f first args kws) Q E s := by
  unfold callWith
  refine wpAny_bind (wpAny_holding (wpAny_mono h (fun a s₁ h₁ => wpAny_bind (wpAny_standAt ?_)) fun _ _ x => x))
  obtain ⟨k, hk', L⟩ := hk _ h₁.1
  simp only [hst]
  refine wpAny_bind (L.here ?_)
  have tail : ∀ {t : Sem Value}, wpAny M A t Q E s₁ → wpAny M A (t >>= fun r => holding [r] point >>= fun _ => pure r) Q E s₁ :=
    fun ht => wpAny_bind (wpAny_mono ht (fun r s₂ hr => wpAny_bind (wpAny_holding (wpAny_point (wpAny_pure hr)))) fun _ _ x => x)
  have marked (mk : Value) : wpAny M A (callMarked mk f (first ++ a.pos) a.kw) Q E s₁ := by unfold callMarked; exact Calls.wpAny_keep h₁.2
  rcases hk' with rfl | rfl | rfl <;> dsimp only <;> first | exact tail (marked _) | exact tail (wpAny_operating h₁.2)
theorem callWith_SKW {K : PySem.W.Frag} {env : Env} {pos : Pos} {f : Value} {first : List Value} {Q : Value → Shared → Prop} {e : Expr} {rest : List Expr} {kws : List Keyword} (hk : PySem.W.keepIn K f = true) (hall : (backToKw pos (keywordEach kws env)).all (·.1.isSome) = true)
    (h : wpAny M A (spliced (backTo pos (starEach (e :: rest) env))) (fun vs s₁ => wpAny M A (evalAll ((backToKw pos (keywordEach kws env)).map (·.2)))
      (fun ks s₂ => K.In s₂.heap ∧ wpAny M A (call f (first ++ vs) (((backToKw pos (keywordEach kws env)).filterMap (·.1)).zip ks)) Q E s₂) E s₁) E s)
    (hst : (backTo pos (starEach (e :: rest) env)).any (·.1) = true) (he : starEach (e :: rest) env = (false, eval e env) :: starEach rest env := by rfl) :
    wpAny M A (callWith pos f first (backTo pos (starEach (e :: rest) env)) (backToKw pos (keywordEach kws env))) Q E s :=
  call_mark (by rw [hst, Bool.true_or]) (PySem.W.keeps_K hk) (evalArgs_kw2 hall h he)
end

/-- a def called with positional values and keywords (names ks, all written) -/
def FnG (P : Program) (w : World) (K : PySem.W.Frag) (mg : Str → Option Value) (base : Heap) (k : Nat) (f : Addr) (ks : List Str) (sp : List V → List V → Hp → VK → Prop) : Prop :=
  ∀ (A : Around) (outer : List Env) (s : Shared) (H : Hp) (us ws : List Value) (vs zs : List V) (Q : VK), Room k A → Env0 P w K mg base A outer s H → Vals vs us → Vals zs ws → zs.length = ks.length → sp vs zs H Q →
    codeAny (model P w) A (.call (.ref f) ⟨us, ks.zip ws⟩) (CR CX0 outer P w H s Q E0) s
section
variable {P : Program} {w : World} {K : PySem.W.Frag} {mg : Str → Option Value} {base : Heap} {j k : Nat} {f : Addr} {ks : List Str} {sp sp' : List V → List V → Hp → VK → Prop}
theorem FnG.mono (F : FnG P w K mg base j f ks sp) (h : j ≤ k) : FnG P w K mg base k f ks sp := fun A outer s H us ws vs zs Q hr => F A outer s H us ws vs zs Q (hr.mono h)
theorem FnG.imp (F : FnG P w K mg base k f ks sp) (h : ∀ vs zs H Q, sp' vs zs H Q → sp vs zs H Q) : FnG P w K mg base k f ks sp' := fun A outer s H us ws vs zs Q hr e0 r rz l hs => F A outer s H us ws vs zs Q hr e0 r rz l (h _ _ _ _ hs)
/-- from a def of fixed parameters -/
theorem FnG.of {fd : FuncData} {ps : List Str} {n : Nat} {g : List Value → List Value → List Value} {gV : List V → List V → List V} {sp : Sp} (F : FnOk P w K mg base CX0 k f fd ps sp) (hb : KBn K fd ps n ks g gV) :
    FnG P w K mg base k f ks (fun vs zs H Q => vs.length = n ∧ sp (gV vs zs) H Q E0) := by
  intro A outer s H us ws vs zs Q hr e0 r rz lz hs
  have KX : K.In s.heap := e0.mod.kin.keeps fun b o e => (e0.bs b o e).1
  exact F.run A outer s H ⟨us, ks.zip ws⟩ (g us ws) (gV vs zs) Q E0 hr e0 (hb.to s us ws KX (r.length.symm.trans hs.1) (rz.length.symm.trans lz)) (hb.rel r rz) hs.2
end
section
variable {X : Cx} {k : Nat} {f C : Addr} {ks : List Str} {sp : List V → List V → Hp → VK → Prop}
/-- C is made by such an __init__ -/
theorem run_makeG {pins : List (Addr × Obj)} {σ : L2.St} {H : Hp} {s : Shared} {Q : VK} {us ws : List Value} {vs zs : List V} (M : Mk X.K C f) (F : FnG X.prog X.w X.K X.mg X.base k f ks sp) (hr : Room (k + 1) X.A)
    (I : Inv X pins σ H s) (r : Vals vs us) (rz : Vals zs ws) (lz : zs.length = ks.length)
    (h : ∀ x dx, H x = none → H dx = none → dx ≠ x → sp (.ref x :: vs) zs (upd (upd H dx (.own x)) x (.ins C dx [])) (fun v H2 => v = .non ∧ Q (.ref x) H2)) :
    wpAny (model X.prog X.w) X.A (call (.ref C) us (ks.zip ws)) (EP X pins σ Q) X.xe s := by
  have hq := h (s.heap.objs.size + 1) s.heap.objs.size (I.hok.fresh (Nat.le_succ _)) (I.hok.fresh (Nat.le_refl _)) (Nat.ne_of_lt (Nat.lt_succ_self _))
  have I2 := Inv.made (C := C) I
  have r2 : Vals (V.ref (s.heap.objs.size + 1) :: vs) (Value.ref (s.heap.objs.size + 1) :: us) := .cons rfl r
  refine wpAny_call (make_map (f := f) I.kIn M.makes M.init (beq_iff_eq.mp M.fn) (codeAny_mono (F _ X.stack _ _ (Value.ref (s.heap.objs.size + 1) :: us) ws _ _ _ (hr.make C us (ks.zip ws)) (I2.env0.make C us (ks.zip ws)) r2 rz lz hq) fun r s' hq' => ?_))
  cases r with
  | error e => exact False.elim hq'
  | ok fl =>
    cases fl with
    | ret u =>
      obtain ⟨v, H', I3, rv, ev, q3⟩ := I2.after hq'
      subst ev
      exact ⟨rv, ⟨V.ref (s.heap.objs.size + 1), H', I3, rfl, q3⟩⟩
    | next => exact False.elim hq'
    | brk => exact False.elim hq'
    | cont => exact False.elim hq'
/-- x(..) where x gives the class at C: written values, a starred one, keywords -/
def tMakeG (C : Addr) (sp : List V → List V → Hp → VK → Prop) (n : Nat) (tf : TE) (t tk : TA) : TE := fun σ H Q => tf σ H fun y H0 => y = .ref C ∧ t σ H0 fun vs H1 => tk σ H1 fun zs H2 => zs.length = n ∧ ∀ x dx, H2 x = none → H2 dx = none → dx ≠ x →
  sp (.ref x :: vs) zs (upd (upd H2 dx (.own x)) x (.ins C dx [])) (fun v H3 => v = .non ∧ Q (.ref x) H3)
theorem pe_makeG {x : Str} {p pos : Pos} {e : Expr} {es : List Expr} {kws : List Keyword} {tf : TE} {t tk : TA} (M : Mk X.K C f) (F : FnG X.prog X.w X.K X.mg X.base k f ks sp) (hr : Room (k + 1) X.A) (hf : PE X (.Name x p) tf)
    (ha : PA X (e :: es) t) (hkw : PK X kws tk) (hall : (backToKw pos (keywordEach kws X.env)).all (·.1.isSome) = true := by rfl) (hks : (backToKw pos (keywordEach kws X.env)).filterMap (·.1) = ks := by rfl)
    (he : starEach (e :: es) X.env = (false, eval e X.env) :: starEach es X.env := by rfl) (hst : (backTo pos (starEach (e :: es) X.env)).any (·.1) = true := by rfl) :
    PE X (.Call (.Name x p) (e :: es) kws pos) (tMakeG C sp ks.length tf t tk) := by
  refine ⟨fun pins s σ H Q I h => ?_⟩
  refine wpAny_Call_Name_kw (thn (hf.run pins s σ H _ I h) fun u s0 ⟨y, H0, I0, ry, ey, q0⟩ => ?_)
  subst ey
  obtain rfl : u = Value.ref C := ry
  refine callWith_SKW (K := X.K) M.kp hall (thn (ha.run pos pins s0 σ H0 _ I0 q0) fun us s1 ⟨vs, H1, I1, r, q⟩ => ?_) hst he
  refine thn (hkw.run pos pins s1 σ H1 _ I1 q) fun ws s2 ⟨zs, H2, I2, rz, l2, q2⟩ => ⟨I2.kIn, ?_⟩
  rw [hks]
  exact run_makeG M F hr I2 r rz l2 q2
/-- C.m(.., k = v ..), m a classmethod -/
def tCMethK (C : Addr) (sp : List V → List V → Hp → VK → Prop) (n : Nat) (ta : TE) (t tk : TA) : TE := fun σ H Q => ta σ H fun x H1 => x = .ref C ∧ t σ H1 fun vs H2 => tk σ H2 fun zs H3 => zs.length = n ∧ sp (.ref C :: vs) zs H3 Q
theorem callwith_cmK {pos : Pos} {g : Addr} {e : Expr} {es : List Expr} {kws : List Keyword} {q : Addr} {Q : Value → Shared → Prop} {E : Value → Shared → Prop} {A : Around} {pins : List (Addr × Obj)} {σ : L2.St} {H : Hp} {s : Shared} (I : Inv X ((q, PySem.W.methodObj (.ref g) (.ref C)) :: pins) σ H s) (hb : X.base.get? q = none) (hf : PySem.W.fnIn X.K g = true)
    (hall : (backToKw pos (keywordEach kws X.env)).all (·.1.isSome) = true)
    (h : wpAny (model X.prog X.w) A (spliced (backTo pos (starEach (e :: es) X.env))) (fun vs s₁ => wpAny (model X.prog X.w) A (evalAll ((backToKw pos (keywordEach kws X.env)).map (·.2))) (fun ws s₂ => PySem.W.MethP X.K q g (.ref C) s₂.heap ∧ wpAny (model X.prog X.w) A (call (.ref q) vs (((backToKw pos (keywordEach kws X.env)).filterMap (·.1)).zip ws)) Q E s₂) E s₁) E s)
    (he : starEach (e :: es) X.env = (false, eval e X.env) :: starEach es X.env) (hpl : ((backTo pos (starEach (e :: es) X.env)).any (·.1) || (backToKw pos (keywordEach kws X.env)).any (·.1.isNone)) = false) :
    wpAny (model X.prog X.w) A (callWith pos (.ref q) [] (backTo pos (starEach (e :: es) X.env)) (backToKw pos (keywordEach kws X.env))) Q E s := by
  have hq := ClX.pin_at I
  have hL : q ≠ X.env.locals := (I.pin (q, PySem.W.methodObj (.ref g) (.ref C)) (List.mem_append_right _ List.mem_cons_self)).2.2.1
  exact PySem.W.callWith_of (P := PySem.W.MethP X.K q g (.ref C)) hpl (PySem.W.keeps_M hf) (evalArgs_kw2 hall h he)
theorem run_cmK {q g : Addr} {Q : VK} {us ws : List Value} {vs zs : List V} {pins : List (Addr × Obj)} {σ : L2.St} {H : Hp} {s : Shared} (F : FnG X.prog X.w X.K X.mg X.base k g ks sp) (hr : Room k X.A) (I : Inv X ((q, PySem.W.methodObj (.ref g) (.ref C)) :: pins) σ H s)
    (r : Vals vs us) (rz : Vals zs ws) (lz : zs.length = ks.length) (h : sp (.ref C :: vs) zs H Q) : wpAny (model X.prog X.w) X.A (call (.ref q) us (ks.zip ws)) (EP X pins σ Q) X.xe s := by
  have z : wpAny (model X.prog X.w) X.A (call (.ref q) us (ks.zip ws)) (EP X ((q, PySem.W.methodObj (.ref g) (.ref C)) :: pins) σ Q) X.xe s :=
    wpAny_call (PySem.W.method_call (ClX.pin_at I) (codeAny_mono (F X.A X.stack s H (.ref C :: us) ws (.ref C :: vs) zs Q hr I.env0 (.cons rfl r) rz lz h) fun r s' hq => by
      cases r with
      | error e => exact False.elim hq
      | ok fl =>
        cases fl with
        | ret u => exact I.after hq
        | next => exact False.elim hq
        | brk => exact False.elim hq
        | cont => exact False.elim hq))
  exact thn z fun _ _ y => ClX.unpinE y
theorem pe_cmethK {p g : Addr} {mc : Value} {o e : Expr} {es : List Expr} {kws : List Keyword} {m : Str} {pos apos : Pos} {ta : TE} {t tk : TA} {pl : Sem Bool} (he : PE X o ta) (r : ClX.CRead X.K C mc) (c : ClX.CMet X.K C mc m p g) (F : FnG X.prog X.w X.K X.mg X.base k g ks sp) (hr : Room k X.A)
    (ha : PA X (e :: es) t) (hkw : PK X kws tk) (hall : (backToKw pos (keywordEach kws X.env)).all (·.1.isSome) = true := by rfl) (hks : (backToKw pos (keywordEach kws X.env)).filterMap (·.1) = ks := by rfl)
    (hst : starEach (e :: es) X.env = (false, eval e X.env) :: starEach es X.env := by rfl) (hpl : ((backTo pos (starEach (e :: es) X.env)).any (·.1) || (backToKw pos (keywordEach kws X.env)).any (·.1.isNone)) = false := by rfl)
    (ht : eval (.Call (.Attribute o m apos) (e :: es) kws pos) X.env = (do
      let ov ← eval o X.env
      standAt apos.atName
      let (f, first) ← holding [ov] (getMethod ov m pl)
      callWith pos f first (backTo pos (starEach (e :: es) X.env)) (backToKw pos (keywordEach kws X.env))) := by rfl) :
    PE X (.Call (.Attribute o m apos) (e :: es) kws pos) (tCMethK C sp ks.length ta t tk) := by
  refine ⟨fun pins s σ H Q I h => ?_⟩
  refine PySem.W.methodCall_KW (pl := pl) (thn (he.run pins s σ H _ I h) fun u s1 ⟨x, H1, I1, rx, ex, q⟩ => ?_) ht
  subst ex
  obtain rfl : u = Value.ref C := rx
  refine ClX.getmethcm_ok I1 r c fun s2 I2 => ?_
  refine callwith_cmK I2 (ClX.base_none I1 (Nat.le_refl _)) c.fi hall (thn (ha.run pos _ s2 σ H1 _ I2 q) fun us s3 ⟨vs, H2, I3, rv, q2⟩ => thn (hkw.run pos _ s3 σ H2 _ I3 q2) fun ws s4 ⟨zs, H3, I4, rz, lz, q3⟩ => ⟨⟨ClX.pin_at I4, I4.kIn⟩, ?_⟩) hst hpl
  rw [hks]
  exact run_cmK F hr I4 rv rz lz q3
end
end Pn
/-! #### Fnd2 -/
namespace Pn
open PySem PySem.Spec PyProof.Rows L2

/-! ### a def with a star and keyword-only parameters, all given -/
section
variable {P : Program} {w : World} {K : PySem.W.Frag} {mg : Str → Option Value} {base : Heap} {k : Nat} {f : Addr} {name qual : Str} {params : Arguments} {body : List Stmt} {scope : Scope} {dV kV doc pm cdv ct oc : Value} {an od : Option Addr}
  {osl : Array (Option Value)} {N ps ks : List Str} {sp : List V → List V → Hp → VK → Prop}
/-- what the def binds: the positional ones, the keyword-only ones, then the new tuple -/
theorem fnG_star {pv : Str} {cdw : Value} (lk : K.lookup f = some ⟨oc, od, .func (PySem.W.fnOf name qual params body scope dV kV doc pm an cdw ct), osl⟩) (hcd : PySem.W.codeIn K cdw qual = true) (S : FnScope N (ps ++ ks ++ [pv]) scope)
    (hb : ∀ us rest ws : List Value, us.length = ps.length → ws.length = ks.length → ∀ (A' : Around) (Ex : Value → Shared → Prop) (Q : List (Str × Value) → Shared → Prop) (s : Shared), K.In s.heap →
      wpAny (model P w) A' (newTuple rest >>= fun t => pure (ps.zip us ++ ks.zip ws ++ [(pv, t)])) Q Ex s → wpAny (model P w) A' (bindArgs (PySem.W.fnOf name qual params body scope dV kV doc pm an cdw ct) ⟨us ++ rest, ks.zip ws⟩) Q Ex s)
    (hbody : ∀ (A : Around) (outer : List Env) (s : Shared) (H : Hp) (as rest zs : List V) (p : Addr) (Q : VK), Room k (A.deeper (envOfC qual scope s.heap.objs.size f cdw)) → as.length = ps.length → zs.length = ks.length → H p = some (.tup rest) → sp (as ++ rest) zs H Q →
      ∃ t, PSs (cxOf CX0 P w K mg base N qual scope f cdw A outer s H E0) body t ∧ t { nx := fun _ H' => Q .non H', rt := Q } (start N (as ++ zs ++ [V.ref p])) H) :
    FnG P w K mg base (k + 1) f ks (fun vs zs H Q => ∃ as rest, vs = as ++ rest ∧ as.length = ps.length ∧ rest.length ≤ sizeLine ∧ ∀ p, H p = none → sp vs zs (upd H p (.tup rest)) Q) := by
  intro A outer s H us ws vs zs Q hr e0 r rz lz hsp
  obtain ⟨as, rest, ev, hl, hz, hq⟩ := hsp
  subst ev
  obtain ⟨u1, u2, eu, r1, r2⟩ := StX.vals_split r
  subst eu
  have hn : H s.heap.objs.size = Option.none := e0.hok.fresh (Nat.le_refl _)
  have hl1 : u1.length = ps.length := by rw [← r1.length]; exact hl
  have hl3 : ws.length = ks.length := by rw [← rz.length]; exact lz
  have hl2 : u2.length ≤ sizeLine := by rw [← r2.length]; exact hz
  refine StX.run_bnd (ps := ps ++ ks ++ [pv]) (E := E0) lk hcd S hr e0 (G := fun xs H2 => ∃ p, H p = Option.none ∧ xs = as ++ zs ++ [V.ref p] ∧ H2 = upd H p (.tup rest)) (fun A' Ex Q' h => ?_) fun s2 H2 xs ⟨p, hp, ex, eH⟩ hr' => ?_
  · refine hb u1 u2 ws hl1 hl3 A' Ex _ s (e0.mod.kin.keeps fun b o e => (e0.bs b o e).1) (wpAny_bind (wpAny_newTuple (wpAny_pure ?_) hl2))
    have new : ObjOk P w (upd H s.heap.objs.size (.tup rest)) (s.heap.push ({ cls := .type "tuple", data := .seq u2.toArray } : Obj)) s.heap.objs.size (.tup rest) := ⟨hz, u2, r2, ⟨_, Heap.get?_push_size _ rfl, rfl, _, rfl⟩⟩
    have un := StX.un_laid (fs := frs outer) (s := s) (o := ({ cls := .type "tuple", data := .seq u2.toArray } : Obj)) (u := .tup rest) hn
    have z := h _ _ (as ++ zs ++ [V.ref s.heap.objs.size]) (u1 ++ ws ++ [Value.ref s.heap.objs.size]) (StX.env0_laid e0 new) un rfl (fun e s' z => z) ((r1.append rz).append (.cons rfl .nil))
      (by simp only [List.length_append, hl, lz]; rfl) ⟨_, hn, rfl, rfl⟩
    rw [List.zip_append (by simp only [List.length_append, hl1, hl3]), List.zip_append hl1.symm] at z
    exact z
  · subst ex eH
    exact hbody A outer s2 _ as rest zs p Q hr' hl lz upd_same (hq p hp)
end

/-! ### a def that says super() -/
structure FnScopeX (N P : List Str) (sc : Scope) : Prop where
  kind : sc.kind = .function
  co : sc.isCoroutine = false
  gen : sc.isGenerator = false
  nd : N.Nodup
  pre : N.take P.length = P
  par : ∀ x ∈ P, sc.names.lookup x = some .local
  nocell : ∀ y ∈ sc.names, y.2 ≠ .cell
  free : ∀ y ∈ sc.names, y.2 = .free → y.1 = "__class__"
def cxX (P : Program) (w : World) (K : PySem.W.Frag) (mg : Str → Option Value) (base : Heap) (N : List Str) (qual : Str) (scope : Scope) (f : Addr) (cd : Value) (cc : Addr) (A : Around) (outer : List Env) (s : Shared) (H : Hp) : Cx where
  prog := P
  w := w
  K := K
  mg := mg
  base := base
  A := A.deeper (PySem.W.ksEnv qual scope s.heap.objs.size f cd cc)
  N := N
  s_0 := s
  H_0 := H
  env := PySem.W.ksEnv qual scope s.heap.objs.size f cd cc
  outer := outer
  stack := PySem.W.ksEnv qual scope s.heap.objs.size f cd cc :: outer
  ex := []
  calm := true
  fn := fun _ => false
  pn := []
  xe := fun e s' => wpAny (model P w) (A.deeper (PySem.W.ksEnv qual scope s.heap.objs.size f cd cc)) (leaving (PySem.W.ksEnv qual scope s.heap.objs.size f cd cc) e) (fun _ _ => False) (fun _ _ => False) s'
theorem lookup_nodup {P : List Str} {us : List Value} {i : Nat} {x : Str} {u : Value} (nd : P.Nodup) (h1 : P[i]? = some x) (h2 : us[i]? = some u) : (P.zip us).reverse.lookup x = some u := by
  have e : (P.zip us)[i]? = some (x, u) := by
    rw [List.getElem?_zip_eq_some]
    exact ⟨h1, h2⟩
  have hm : (x, u) ∈ (P.zip us).reverse := List.mem_reverse.mpr (List.mem_of_getElem? e)
  have uniq : ∀ v, (x, v) ∈ (P.zip us).reverse → v = u := fun v hv => by
    obtain ⟨j, hj⟩ := List.getElem?_of_mem (List.mem_reverse.mp hv)
    rw [List.getElem?_zip_eq_some] at hj
    have : j = i := nodup_ix nd hj.1 h1
    rw [this, h2] at hj
    exact (Option.some.inj hj.2).symm
  obtain ⟨v, hv⟩ := mem_lookup hm
  rw [hv, uniq v (PySem.mem_of_lookup hv)]
theorem inv_startX {P : Program} {w : World} {K : PySem.W.Frag} {mg : Str → Option Value} {base : Heap} {N ps : List Str} {qual : Str} {scope : Scope} {f cc : Addr} {cd cv : Value} {A : Around} {outer : List Env} {s : Shared} {h1 : Heap} {tk : Nat} {H : Hp} {us : List Value} {vs : List V}
    {ccl : Value} {ccd : Option Addr} {ccs : Array (Option Value)}
    (S : FnScopeX N ps scope) (hd : A.handled = none) (e0 : Env0 P w K mg base A outer s H) (hc : K.lookup cc = some ⟨ccl, ccd, .cell (some cv), ccs⟩) (hl : vs.length = ps.length) (r : Vals vs us)
    (hns : h1.Ns s.heap.objs.size (fun x => (ps.zip us).reverse.lookup x)) (hk : ∀ b o, s.heap.get? b = some o → h1.get? b = some o) :
    Inv (cxX P w K mg base N qual scope f cd cc A outer s H) [] (start N vs) H { s with heap := h1, toks := tk } := by
  have hpl : ps.length ≤ N.length := by have := congrArg List.length S.pre; rw [List.length_take] at this; omega
  have noA : ∀ b : Addr, b ∉ (cxX P w K mg base N qual scope f cd cc A outer s H).ex := fun b z => absurd (show b ∈ ([] : List Addr) from z) (by simp)
  obtain ⟨oc', eoc⟩ : ∃ oc', base.get? cc = some oc' ∧ oc'.data = .cell (some cv) := ⟨_, e0.mod.kin _ _ hc, rfl⟩
  have hcs := e0.bs _ _ eoc.1
  have cl1 : ∀ y c, ([("__class__", cc)] : List (Str × Addr)).lookup y = some c → y = "__class__" ∧ c = cc := fun y c e => by
    have := PySem.mem_of_lookup e
    simp only [List.mem_singleton, Prod.mk.injEq] at this
    exact this
  refine ⟨⟨e0.mod, S.kind, rfl, rfl, Nat.le_refl _, fun y z c h1 h2 => by rw [(cl1 _ _ h1).1, (cl1 _ _ h2).1], fun y hy => ?_, fun y c z _ => absurd z Bool.false_ne_true, fun _ => hd, Around.frames_deeper e0.frames, .inr ⟨rfl, rfl⟩, fun b z => absurd z (noA b), e0.bs, e0.bsz, fun b _ _ => noA b, fun b z => absurd z (noA b), e0.funs, e0.frf⟩,
    rfl, e0.bare, Un.kept hk, ⟨_, hns, fun i y v h1 h2 h3 => ?_⟩, fun y c h => ?_, e0.hok.fresh (Nat.le_refl _), fun y c h => ?_, fun p hp => absurd (show p ∈ ([] : List (Addr × Obj)) from hp) (by simp), e0.hok.kept hk, ?_⟩
  · have hy : scope.names.lookup y = some .cell ∨ scope.names.lookup y = some .free := hy
    rcases hy with hy | hy
    · exact absurd rfl (S.nocell _ (PySem.mem_of_lookup hy))
    · have e := S.free _ (PySem.mem_of_lookup hy) rfl
      dsimp only at e
      subst e
      exact ⟨cc, rfl⟩
  · have hi : i < vs.length := by
      unfold L2.start at h2
      by_cases hi : i < vs.length
      · exact hi
      · rw [List.getElem?_append_right (by simpa using hi)] at h2
        rw [List.getElem?_replicate] at h2
        split at h2 <;> cases h2
    have ha : vs[i]? = some v := by
      unfold L2.start at h2
      rw [List.getElem?_append_left (by simpa using hi), List.getElem?_map] at h2
      cases e : vs[i]? with
      | none => rw [e] at h2; cases h2
      | some a => rw [e] at h2; cases h2; rfl
    obtain ⟨u, hu, rv⟩ := r.get ha
    have hp : ps[i]? = some y := by
      rw [← S.pre, List.getElem?_take_of_lt (by omega)]; exact h1
    have ndP : ps.Nodup := by rw [← S.pre]; exact S.nd.sublist (List.take_sublist _ _)
    exact ⟨u, rv, .inl ⟨S.par y (List.mem_of_getElem? hp), lookup_nodup ndP hp hu⟩⟩
  · obtain ⟨_, e⟩ := cl1 y c h
    subst e
    exact ⟨_, _, hk _ _ hcs.1, eoc.2⟩
  · obtain ⟨_, e⟩ := cl1 y c h
    subst e
    exact hcs.2
  · unfold L2.start
    show _ = N.length
    rw [List.length_append, List.length_map, List.length_replicate]
    omega
/-- a block run as the def's own code -/
structure PSA (X : Cx) (c : Code) (st : List Stmt) (t : TS) : Prop where
  run : ∀ (pins : List (Addr × Obj)) (s : Shared) (σ : L2.St) (H : Hp) (D : Ends), Inv X pins σ H s → t D σ H → PySem.wpAt (model X.prog X.w) X.A c (execs st X.env) (SP X pins D) X.xe s
theorem psa_cons {X : Cx} {c : Code} {st : Stmt} {rest : List Stmt} {t u : TS} (h1 : PS X st t) (h2 : PSA X c rest u) : PSA X c (st :: rest) (tSeq t u) := by
  refine ⟨fun pins s σ H D I h => ?_⟩
  refine ks_wpAt_execs_cons (wpAt_of_wpAny (thn (h1.run pins s σ H _ I h) fun f s1 q => ?_))
  cases f with
  | next =>
    obtain ⟨σ', H', I', q⟩ := q
    exact h2.run pins s1 σ' H' D I' q
  | ret v => exact q
  | brk => exact q
  | cont => exact q
section
variable {P : Program} {w : World} {K : PySem.W.Frag} {mg : Str → Option Value} {base : Heap} {k : Nat} {f cc : Addr} {name qual : Str} {params : Arguments} {body : List Stmt} {scope : Scope} {dV kV doc pm cdv ct oc cv ccl : Value} {an od ccd : Option Addr}
  {osl ccs : Array (Option Value)} {N ps ks : List Str} {sp : List V → List V → Hp → VK → Prop}
/-- such a def, by what it binds -/
theorem run_bndX {A : Around} {outer : List Env} {s : Shared} {H : Hp} {args : Args} {Q : VK} {G : List V → Hp → Prop} (lk : K.lookup f = some ⟨oc, od, .func (PySem.W.ksFn name qual params body scope dV kV doc pm an cdv ct cc), osl⟩) (hcd : PySem.W.codeIn K cdv qual = true)
    (hc : K.lookup cc = some ⟨ccl, ccd, .cell (some cv), ccs⟩) (S : FnScopeX N ps scope) (hr : Room (k + 1) A) (e0 : Env0 P w K mg base A outer s H)
    (hb : StX.Bnd CX0 P w K mg base (PySem.W.ksFn name qual params body scope dV kV doc pm an cdv ct cc) args ps A outer s H E0 G)
    (hbody : ∀ (s2 : Shared) (H2 : Hp) (vs : List V), G vs H2 → Room k (A.deeper (PySem.W.ksEnv qual scope s2.heap.objs.size f cdv cc)) →
      ∃ t, PSA (cxX P w K mg base N qual scope f cdv cc A outer s2 H2) (.func body (PySem.W.ksEnv qual scope s2.heap.objs.size f cdv cc)) body t ∧ t { nx := fun _ H' => Q .non H', rt := Q } (start N vs) H2) : codeAny (model P w) A (.call (.ref f) args) (CR CX0 outer P w H s Q E0) s := by
  have KX : K.In s.heap := e0.mod.kin.keeps fun b o e => (e0.bs b o e).1
  refine codeAny_call_function hr.depth (KX _ _ lk) rfl S.co S.gen rfl (PySem.W.codeRec_of KX hcd) ?_
  refine hb _ _ _ fun s2 H2 vs us e2 un ho hx r hl g => ?_
  have lim : s2.heap.NoLimit := e0.mod.nolimit.keeps fun b o e => (e2.bs b o e).1
  refine wpAny_newFunctionEnv S.nocell (fun y hy => S.par y.1 (List.of_mem_zip hy).1) (fun h1 hns hsb => ⟨lim.fresh _ hsb, ks_codeAny_funcAt ?_⟩) S.kind
  have kp : ∀ b o, s2.heap.get? b = some o → h1.get? b = some o := fun b o e => hsb.extBut b o (Nat.ne_of_lt (Heap.lt_size e)) (Heap.get?_push_of_some _ e)
  obtain ⟨t, ht, hq⟩ := hbody s2 H2 vs g (hr.deeper _)
  have I : Inv (cxX P w K mg base N qual scope f cdv cc A outer s2 H2) [] (start N vs) H2 { s2 with heap := h1, toks := s2.toks + (ps.zip us).length } := inv_startX S hr.hd e2 hc hl r hns kp
  refine ks_wpAt_mono (ht.run [] _ _ _ _ I hq) (fun fl s' hs => ?_) fun e s' hs => ?_
  · have fin : ∀ {σ' : L2.St} {H' : Hp} {v' : V} {u' : Value}, Inv (cxX P w K mg base N qual scope f cdv cc A outer s2 H2) [] σ' H' s' → RelV v' u' → Q v' H' → CE outer P w H s Q u' s' :=
      fun {σ' H' v' u'} J rv' q => ⟨v', H', J.os.trans ho, J.bare, un.trans J.base, J.hok, rv', q⟩
    cases fl with
    | ret u' =>
      obtain ⟨v', σ', H', J, rv', q⟩ := hs
      exact fin J rv' q
    | next =>
      obtain ⟨σ', H', J, q⟩ := hs
      exact fin (v' := V.non) (u' := Value.none) J rfl q
    | brk =>
      obtain ⟨_, _, _, q⟩ := hs
      exact False.elim q
    | cont =>
      obtain ⟨_, _, _, q⟩ := hs
      exact False.elim q
  · exact wpAny_mono hs (fun _ s'' z => False.elim z) fun e' s'' z => False.elim z
end

section
variable {P : Program} {w : World} {K : PySem.W.Frag} {mg : Str → Option Value} {base : Heap} {k : Nat} {f cc : Addr} {name qual : Str} {params : Arguments} {body : List Stmt} {scope : Scope} {dV kV doc pm cdv ct oc cv ccl : Value} {an od ccd : Option Addr}
  {osl ccs : Array (Option Value)} {N ps ks : List Str} {sp : List V → List V → Hp → VK → Prop}
theorem fnG_starX {pv : Str} (lk : K.lookup f = some ⟨oc, od, .func (PySem.W.ksFn name qual params body scope dV kV doc pm an cdv ct cc), osl⟩) (hcd : PySem.W.codeIn K cdv qual = true) (hc : K.lookup cc = some ⟨ccl, ccd, .cell (some cv), ccs⟩) (S : FnScopeX N (ps ++ ks ++ [pv]) scope)
    (hb : ∀ us rest ws : List Value, us.length = ps.length → ws.length = ks.length → ∀ (A' : Around) (Ex : Value → Shared → Prop) (Q : List (Str × Value) → Shared → Prop) (s : Shared), K.In s.heap →
      wpAny (model P w) A' (newTuple rest >>= fun t => pure (ps.zip us ++ ks.zip ws ++ [(pv, t)])) Q Ex s → wpAny (model P w) A' (bindArgs (PySem.W.ksFn name qual params body scope dV kV doc pm an cdv ct cc) ⟨us ++ rest, ks.zip ws⟩) Q Ex s)
    (hbody : ∀ (A : Around) (outer : List Env) (s : Shared) (H : Hp) (as rest zs : List V) (p : Addr) (Q : VK), Room k (A.deeper (PySem.W.ksEnv qual scope s.heap.objs.size f cdv cc)) → as.length = ps.length → zs.length = ks.length → H p = some (.tup rest) → sp (as ++ rest) zs H Q →
      ∃ t, PSA (cxX P w K mg base N qual scope f cdv cc A outer s H) (.func body (PySem.W.ksEnv qual scope s.heap.objs.size f cdv cc)) body t ∧ t { nx := fun _ H' => Q .non H', rt := Q } (L2.start N (as ++ zs ++ [V.ref p])) H) :
    FnG P w K mg base (k + 1) f ks (fun vs zs H Q => ∃ as rest, vs = as ++ rest ∧ as.length = ps.length ∧ rest.length ≤ sizeLine ∧ ∀ p, H p = none → sp vs zs (upd H p (.tup rest)) Q) := by
  intro A outer s H us ws vs zs Q hr e0 r rz lz hsp
  obtain ⟨as, rest, ev, hl, hz, hq⟩ := hsp
  subst ev
  obtain ⟨u1, u2, eu, r1, r2⟩ := StX.vals_split r
  subst eu
  have hn : H s.heap.objs.size = Option.none := e0.hok.fresh (Nat.le_refl _)
  have hl1 : u1.length = ps.length := by rw [← r1.length]; exact hl
  have hl3 : ws.length = ks.length := by rw [← rz.length]; exact lz
  have hl2 : u2.length ≤ sizeLine := by rw [← r2.length]; exact hz
  refine run_bndX (ps := ps ++ ks ++ [pv]) lk hcd hc S hr e0 (G := fun xs H2 => ∃ p, H p = Option.none ∧ xs = as ++ zs ++ [V.ref p] ∧ H2 = upd H p (.tup rest)) (fun A' Ex Q' h => ?_) fun s2 H2 xs ⟨p, hp, ex, eH⟩ hr' => ?_
  · refine hb u1 u2 ws hl1 hl3 A' Ex _ s (e0.mod.kin.keeps fun b o e => (e0.bs b o e).1) (wpAny_bind (wpAny_newTuple (wpAny_pure ?_) hl2))
    have new : ObjOk P w (upd H s.heap.objs.size (.tup rest)) (s.heap.push ({ cls := .type "tuple", data := .seq u2.toArray } : Obj)) s.heap.objs.size (.tup rest) := ⟨hz, u2, r2, ⟨_, Heap.get?_push_size _ rfl, rfl, _, rfl⟩⟩
    have un := StX.un_laid (fs := frs outer) (s := s) (o := ({ cls := .type "tuple", data := .seq u2.toArray } : Obj)) (u := .tup rest) hn
    have z := h _ _ (as ++ zs ++ [V.ref s.heap.objs.size]) (u1 ++ ws ++ [Value.ref s.heap.objs.size]) (StX.env0_laid e0 new) un rfl (fun e s' z => z) ((r1.append rz).append (.cons rfl .nil))
      (by simp only [List.length_append, hl, lz]; rfl) ⟨_, hn, rfl, rfl⟩
    rw [List.zip_append (by simp only [List.length_append, hl1, hl3]), List.zip_append hl1.symm] at z
    exact z
  · subst ex eH
    exact hbody A outer s2 _ as rest zs p Q hr' hl lz upd_same (hq p hp)
/-- no star: all parameters given, the keyword-only ones by keywords -/
theorem fnG_X (lk : K.lookup f = some ⟨oc, od, .func (PySem.W.ksFn name qual params body scope dV kV doc pm an cdv ct cc), osl⟩) (hcd : PySem.W.codeIn K cdv qual = true) (hc : K.lookup cc = some ⟨ccl, ccd, .cell (some cv), ccs⟩) (S : FnScopeX N (ps ++ ks) scope)
    (hb : ∀ us ws : List Value, us.length = ps.length → ws.length = ks.length → ∀ (A' : Around) (Ex : Value → Shared → Prop) (Q : List (Str × Value) → Shared → Prop) (s : Shared), K.In s.heap →
      Q (ps.zip us ++ ks.zip ws) s → wpAny (model P w) A' (bindArgs (PySem.W.ksFn name qual params body scope dV kV doc pm an cdv ct cc) ⟨us, ks.zip ws⟩) Q Ex s)
    (hbody : ∀ (A : Around) (outer : List Env) (s : Shared) (H : Hp) (as zs : List V) (Q : VK), Room k (A.deeper (PySem.W.ksEnv qual scope s.heap.objs.size f cdv cc)) → as.length = ps.length → zs.length = ks.length → sp as zs H Q →
      ∃ t, PSA (cxX P w K mg base N qual scope f cdv cc A outer s H) (.func body (PySem.W.ksEnv qual scope s.heap.objs.size f cdv cc)) body t ∧ t { nx := fun _ H' => Q .non H', rt := Q } (L2.start N (as ++ zs)) H) :
    FnG P w K mg base (k + 1) f ks (fun vs zs H Q => vs.length = ps.length ∧ sp vs zs H Q) := by
  intro A outer s H us ws vs zs Q hr e0 r rz lz hsp
  obtain ⟨hl, hq⟩ := hsp
  have hl1 : us.length = ps.length := by rw [← r.length]; exact hl
  have hl3 : ws.length = ks.length := by rw [← rz.length]; exact lz
  refine run_bndX (ps := ps ++ ks) lk hcd hc S hr e0 (G := fun xs H2 => xs = vs ++ zs ∧ H2 = H) (fun A' Ex Q' h => ?_) fun s2 H2 xs ⟨ex, eH⟩ hr' => ?_
  · refine hb us ws hl1 hl3 A' Ex _ s (e0.mod.kin.keeps fun b o e => (e0.bs b o e).1) ?_
    have z := h s H (vs ++ zs) (us ++ ws) e0 Un.refl rfl (fun e s' z => z) (r.append rz) (by simp only [List.length_append, hl, lz]) ⟨rfl, rfl⟩
    rw [List.zip_append hl1.symm] at z
    exact z
  · subst ex eH
    exact hbody A outer s2 _ vs zs Q hr' hl lz hq
end

/-! ### super().m(..) as the last statement -/
/-- what the class at C above D hands on -/
structure SupC (K : PySem.W.Frag) (C D : Addr) (m : Str) (g : Addr) : Prop where
  sub : PySem.W.mroIn K C (.ref D) = some true
  at_ : PySem.W.ks_superIn K C D m = some (some (.ref g))
  ty : PySem.W.typeIn K (.ref g) = some (.type "function")
  fi : PySem.W.fnIn K g = true
/-- what the def itself has for it -/
structure SupF (X : Cx) (D f cc cda : Addr) : Prop where
  fn : X.env.func = some f
  fd : ∃ oc od fd osl ar, X.K.lookup f = some ⟨oc, od, .func fd, osl⟩ ∧ (fd.params.posonlyargs ++ fd.params.args).head? = some ar ∧ ar.arg = "self"
  cell : X.env.cells.lookup ("__class__" : Str) = some cc
  cat : ∃ ccl ccd ccs, X.K.lookup cc = some ⟨ccl, ccd, .cell (some (.ref D)), ccs⟩
  code : X.env.code = .ref cda
  file : ∃ cl cd vs cs file tf, X.K.lookup cda = some ⟨cl, cd, .fields vs, cs⟩ ∧ vs[2]? = some (.str file tf) ∧ ((X.prog.main.file : Str) == file) = true
  top : (X.prog.main.scope.names.lookup ("super" : Str)).isSome = false
  mg : X.mg "super" = none
  op : PySem.W.nsIn X.K cStatics "thirdparty.any" = some none
  cls : ∃ cdD, PySem.W.clsIn X.K D = some cdD
def tSuper (C : Addr) (sp : Sp) (t : TA) : TS := fun D σ H => ∃ a, σ[0]? = some (some (.ref a)) ∧ (∃ dx fs, H a = some (.ins C dx fs)) ∧ t σ H fun vs H2 => sp (.ref a :: vs) H2 (fun _ H3 => D.nx σ H3) E0
theorem boot_super : bootBuiltins "super" = some (.type "super") := by decide +kernel
theorem psa_super {X : Cx} {k : Nat} {C D f cc cda g : Addr} {body : List Stmt} {sp : Sp} {m : Str} {e : Expr} {es : List Expr} {t : TA} {p0 p1 apos pos pos' : Pos} {pl : Sem Bool} (F : FnR X.prog X.w X.K X.mg X.base CX0 k g sp) (hr : Room k X.A) (SF : SupF X D f cc cda) (SC : SupC X.K C D m g)
    (hks : X.env.scope.names.lookup ("super" : Str) = some .globalImplicit) (hkc : X.env.scope.names.lookup ("__class__" : Str) = some .free) (hN : X.N[0]? = some ("self" : Str)) (hka : X.env.scope.names.lookup ("self" : Str) = some .local) (ha : PA X (e :: es) t)
    (hm1 : (m == ("__class__" : Str)) = false := by decide) (hst : starEach (e :: es) X.env = (false, eval e X.env) :: starEach es X.env := by rfl) (hpl : (backTo pos (starEach es X.env)).any (·.1) = false := by rfl)
    (he : eval (.Call (.Attribute (.Call (.Name "super" p0) [] [] p1) m apos) (e :: es) [] pos) X.env = (do
      let ov ← attributeBase (.Call (.Name "super" p0) [] [] p1) m X.env (eval (.Call (.Name "super" p0) [] [] p1) X.env)
      standAt apos.atName
      let (f, first) ← holding [ov] (getMethod ov m pl)
      callWith pos f first (backTo pos (starEach (e :: es) X.env)) []) := by rfl)
    (hi : interactive X.env = false := by rfl) (hs : swapsWith (.Call (.Attribute (.Call (.Name "super" p0) [] [] p1) m apos) (e :: es) [] pos) none pos'.line X.env = pure false := by rfl) :
    PSA X (.func body X.env) [.Expr (.Call (.Attribute (.Call (.Name "super" p0) [] [] p1) m apos) (e :: es) [] pos) pos'] (tSuper C sp t) := by
  refine ⟨fun pins s σ H Dn I h => ?_⟩
  obtain ⟨a, ea, ⟨dx, fs, hin⟩, h⟩ := h
  obtain ⟨oc, od, fd, osl, ar, lk, hp, har⟩ := SF.fd
  obtain ⟨ccl, ccd, ccs, lc⟩ := SF.cat
  obtain ⟨cl, cd, vs0, cs, file, tf, lf, hvs, hfile⟩ := SF.file
  obtain ⟨cdD, hD⟩ := SF.cls
  have X0 : X.K.In s.heap := I.kIn
  have eX : eval (.Call (.Attribute (.Call (.Name "super" p0) [] [] p1) m apos) (e :: es) [] pos) X.env = _ := he
  refine ks_wpAt_execs_cons (ks_wpAt_Expr_any (ks_wpAt_MethodCall ?_ he) hi hs)
  obtain ⟨mA, O, _, _, _, _⟩ := ins_get I.hok hin
  obtain ⟨odI, J, _⟩ := O.look
  obtain ⟨oD, hD1, hD2⟩ : ∃ oD, s.heap.get? D = some oD ∧ oD.data = .cls cdD := by
    unfold PySem.W.clsIn at hD
    split at hD
    · rename_i c d cd' sl ho
      cases hD
      exact ⟨_, X0 _ _ ho, rfl⟩
    · cases hD
  have hk := I.ok.kind
  have ea' : ar.arg = ("self" : Str) := har
  obtain ⟨mm, hn, hl⟩ := I.loc
  obtain ⟨u, ru, lu⟩ := hl 0 "self" (.ref a) hN ea (.inl hka)
  obtain rfl : u = Value.ref a := ru
  have hself : mm "self" = some (.ref a) := by
    rcases lu with ⟨_, z⟩ | ⟨z, _⟩
    · exact z
    · rcases z with z | z
      · have z : X.env.scope.names.lookup ("self" : Str) = some .cell := z
        rw [hka] at z
        cases z
      · have z : X.env.scope.names.lookup ("self" : Str) = some .free := z
        rw [hka] at z
        cases z
  refine ks_wpAt_super_base (env := X.env) hks hkc hm1 SF.fn (X0 _ _ lk) rfl hp SF.code (X0 _ _ lf) rfl hvs hfile SF.top ?_
  obtain ⟨mb, b1, b2⟩ := I.mod.blt
  refine PySem.W.ks_loadName_global hk hks (Calls.loadGlobal_builtin (by rw [I.ok.glob]; exact I.mod.glob.keeps I.bk) SF.mg (by rw [I.ok.blt]; exact b1.keeps I.bk) ((b2 "super" (by decide)).trans boot_super) ⟨rfl, ?_⟩)
  refine wpAny_loadName_free hk hkc SF.cell ⟨_, X0 _ _ lc, rfl⟩ ?_
  rw [ea']
  refine wpAny_loadName_local hk hka hn hself ?_
  refine ks_wpAny_isType_cls hD1 hD2 ⟨rfl, ?_⟩
  refine ks_wpAny_call_super hD1 hD2 J.at_ J.cls (fun c e => ?_) (PySem.W.looks_mroIn X0 SC.sub) (fun h' hso hk' => ?_)
  · have := J.no
    unfold PySem.W.notCls at this
    rw [e] at this
    exact Bool.noConfusion this
  · have I1 : Inv X pins σ H { s with heap := h' } := I.kept (t' := s.toks) hk'
    obtain ⟨of, hof, hofc⟩ : ∃ of, h'.get? g = some of ∧ of.cls = .type "function" := by
      have ht' : (X.K.lookup g).map (·.cls) = some (.type "function") := SC.ty
      cases z : X.K.lookup g with
      | none => rw [z] at ht'; cases ht'
      | some of => rw [z] at ht'; exact ⟨of, hk' _ _ (X0 _ _ z), Option.some.inj ht'⟩
    obtain ⟨cd, hcd, hal⟩ : ∃ cd, PySem.W.clsIn X.K C = some cd ∧ PySem.W.alongIn X.K m ((cd.mro.dropWhile (· != .ref D)).drop 1) = some (some (.ref g)) := by
      have q := SC.at_
      unfold PySem.W.ks_superIn at q
      cases z : PySem.W.clsIn X.K C with
      | none => rw [z] at q; cases q
      | some cd => rw [z] at q; exact ⟨cd, rfl, q⟩
    have X1 : X.K.In h' := I1.kIn
    refine ks_wpAny_getMethod_super (K := X.K) hso (PySem.W.looks_opaque X1 SF.op) (l₀ := cd.mro) ?_ rfl X1 hal hof hofc (PySem.W.ks_ne X0 J hcd) hm1 ?_
    · exact fun A Q E s k q => wpAny_bind ((PySem.W.looks_clsIn X1 hcd) A _ E s k (wpAny_pure q))
    · have I2 := ClX.pin_new (t' := s.toks + 1) (o := PySem.W.methodObj (.ref g) (.ref a)) (h' := h'.push (PySem.W.methodObj (.ref g) (.ref a))) (a := h'.objs.size) I1 (fun _ _ z => Heap.get?_push_of_some _ z) (Nat.le_refl _) (Heap.get?_push_size h' rfl) (fun v z => nomatch z)
      refine ClX.callwith_cm I2 (ClX.base_none I1 (Nat.le_refl _)) SC.fi (thn (ha.run pos _ _ σ H _ I2 h) fun us s3 ⟨vs, H2, I3, rv, q2⟩ => ⟨⟨ClX.pin_at I3, I3.kIn⟩, ?_⟩) hst hpl
      exact thn (ClX.run_cm (E := E0) F hr (fun _ _ _ _ _ _ _ z => False.elim z) I3 rv q2) fun u' s4 ⟨v4, H4, I4, r4, q4⟩ => wpAt_of_wpAny (wpAny_execs_nil ⟨σ, H4, I4, q4⟩)
end Pn
/-! #### Fnd3 -/
namespace Pn
open PySem PySem.Spec PyProof.Rows L2

/-! ### a def run at another depth of the same frames -/
theorem Room.sub {k : Nat} {X : Cx} (h : Room k X.A) : Sub X k X.A := ⟨h, rfl⟩
theorem run_at {X : Cx} {A1 : Around} {n f : Nat} {fd : FuncData} {ps : List Str} {sp : Sp} {pins : List (Addr × Obj)} {σ : L2.St} {H : Hp} {s : Shared} {Q : VK} {us : List Value} {vs : List V} (sb : Sub X n A1) (F : FnOk X.prog X.w X.K X.mg X.base CX0 n f fd ps sp) (hb : Binds X.K fd ps [])
    {E : Value → Shared → Prop} (I : Inv X pins σ H s) (r : Vals vs us) (h : sp vs H Q E0) : wpAny (model X.prog X.w) A1 (call (.ref f) us) (EP X pins σ Q) E s := by
  have hl : us.length = ps.length := by rw [← r.length]; exact F.len _ _ _ _ h
  have e0 : Env0 X.prog X.w X.K X.mg X.base A1 X.stack s H := by
    have e := I.env0
    exact ⟨by rw [sb.fr]; exact e.frames, e.mod, e.bs, e.bsz, e.funs, e.frf, e.hok, e.bare⟩
  have hbt : BindsTo s fd ⟨us, []⟩ (ps.zip us) := by
    have := hb s us I.kIn (by simpa using hl)
    simpa using this
  refine wpAny_call (codeAny_mono (F.run A1 X.stack s H ⟨us, []⟩ us vs Q E0 sb.room e0 hbt r h) fun r s' hq => ?_)
  cases r with
  | error e => exact False.elim hq
  | ok fl =>
    cases fl with
    | ret u => exact I.after hq
    | next => exact False.elim hq
    | brk => exact False.elim hq
    | cont => exact False.elim hq

/-! ### own __getitem__, __setitem__ -/
structure GetC (K : PySem.W.Frag) (C g : Addr) : Prop where
  at_ : PySem.W.findIn K (.ref C) "__getitem__" = some (some (.ref g))
  fn : PySem.W.isFn K (.ref g) = true
  fi : PySem.W.fnIn K g = true
structure SetC (K : PySem.W.Frag) (C g : Addr) : Prop where
  sq : PySem.W.noSeq K C = true
  at_ : PySem.W.findIn K (.ref C) "__setitem__" = some (some (.ref g))
  fn : PySem.W.isFn K (.ref g) = true
section
variable {X : Cx} {k : Nat} {C g : Addr} {fd : FuncData} {ps : List Str} {sp : Sp} {o i : Expr} {to ti : TE} {pos : Pos}
/-- o[i] by an own __getitem__ -/
def tOwnIx (C : Addr) (sp : Sp) (to ti : TE) : TE := fun σ H Q => to σ H fun x H1 => ti σ H1 fun y H2 => ∃ a dx fs, x = .ref a ∧ H2 a = some (.ins C dx fs) ∧ sp [.ref a, y] H2 Q E0
theorem pe_ownix (c : GetC X.K C g) (F : FnOk X.prog X.w X.K X.mg X.base CX0 k g fd ps sp) (hb : Binds X.K fd ps []) (hr : Room (k + 1) X.A) (ho : PE X o to) (hi : PE X i ti)
    (hsl : ∀ a v, subscripted i true (.ref a) v = runValue (.builtin "lifetime.subscript" ⟨[.ref a, v], []⟩) := by intros; rfl) : PE X (.Subscript o i pos) (tOwnIx C sp to ti) := by
  refine ⟨fun pins s σ H Q I h => ?_⟩
  refine Subscript_ (thn (ho.run pins s σ H _ I h) fun u s1 ⟨x, H1, I1, rx, q1⟩ => thn (hi.run pins s1 σ H1 _ I1 q1) fun iv s2 ⟨y, H2, I2, ry, a, dx, fs, ex, ea, q2⟩ => ?_)
  subst ex
  obtain rfl : u = Value.ref a := rx
  obtain ⟨mA, O, _⟩ := ins_get I2.hok ea
  obtain ⟨od, J, _⟩ := O.look
  obtain ⟨m0, hF⟩ := I2.fr
  exact PySem.W.sub_K hF I2.ok.mod.kin J c.at_ c.fi c.fn (run_at (Sub.in1 ⟨hr, rfl⟩) F hb I2 (vs := [.ref a, y]) (.cons (show L2.RelV (.ref a) (Value.ref a) from rfl) (.cons ry .nil)) q2) (hsl a iv)
/-- o[i] = v by an own __setitem__ -/
theorem set_own (c : SetC X.K C g) (F : FnOk X.prog X.w X.K X.mg X.base CX0 k g fd ps sp) (hb : Binds X.K fd ps []) (hr : Room k X.A) :
    PSet X (fun o i v H Q => ∃ a dx fs, o = .ref a ∧ H a = some (.ins C dx fs) ∧ sp [.ref a, i, v] H (fun _ H' => Q H') E0) := by
  intro pins s σ H o i v ov iv u Q I ro ri rv h
  obtain ⟨a, dx, fs, eo, ea, q⟩ := h
  subst eo
  obtain rfl : ov = Value.ref a := ro
  obtain ⟨mA, O, _⟩ := ins_get I.hok ea
  obtain ⟨od, J, _⟩ := O.look
  obtain ⟨m0, hF⟩ := I.fr
  exact PySem.W.ksp_setItem hF I.ok.mod.kin J c.sq c.at_ c.fn (thn (run_at ⟨hr, rfl⟩ F hb I (vs := [.ref a, i, v]) (.cons (show L2.RelV (.ref a) (Value.ref a) from rfl) (.cons ri (.cons rv .nil))) q) fun _ s' ⟨_, H', I', _, q'⟩ => ⟨H', I', q'⟩)
end

/-! ### an own __iter__ that says: return iter(self.fld) -/
structure IterC (K : PySem.W.Frag) (C g : Addr) (fld : Str) : Prop where
  it : PySem.W.findIn K (.ref C) "__iter__" = some (some (.ref g))
  fn : PySem.W.isFn K (.ref g) = true
  def_ : ∃ qual pa bd sc fd, FunD K "__iter__" qual pa bd sc [] [] g fd ∧ FnScope ["self"] ["self"] sc ∧ (∃ p1 p2 p3 p4 p5, bd = [.Return (some (.Call (.Name "iter" p1) [.Attribute (.Name "self" p2) fld p3] [] p4)) p5]) ∧ sc.names.lookup ("iter" : Str) = some .globalImplicit ∧ Binds K fd ["self"] []
  cls : Cls K C
  noat : NoAttr K C fld
section
variable {X : Cx} {C g : Addr} {fld : Str}
theorem iter_run {A1 : Around} {pins : List (Addr × Obj)} {σ : L2.St} {H : Hp} {s : Shared} {a dx l : Addr} {fs : List (Str × V)} {xs : List V} (c : IterC X.K C g fld) (hm : X.mg "iter" = none) (sb : Sub X 1 A1) (I : Inv X pins σ H s)
    (ha : H a = some (.ins C dx fs)) (hl : fs.lookup fld = some (.ref l)) (hx : SqL X.K H l xs) :
    wpAny (model X.prog X.w) A1 (call (.ref g) [.ref a]) (fun v s' => ∃ it : Addr, v = .ref it ∧ Inv X pins σ H s' ∧ FpOk X pins H it ∧ s'.heap.IsListIter it l 0) X.xe s := by
  obtain ⟨qual, pa, bd, sc, fd, F, S, ⟨p1, p2, p3, p4, p5, rfl⟩, hit, hb⟩ := c.def_
  obtain ⟨oc, od, dV, kV, doc, pm, an, cdv, ct, osl, rfl, lk, hcd, _, _⟩ := F.ex
  have e0 : Env0 X.prog X.w X.K X.mg X.base A1 X.stack s H := by
    have e := I.env0
    exact ⟨by rw [sb.fr]; exact e.frames, e.mod, e.bs, e.bsz, e.funs, e.frf, e.hok, e.bare⟩
  have hbt : BindsTo s (PySem.W.fnOf "__iter__" qual pa [.Return (some (.Call (.Name "iter" p1) [.Attribute (.Name "self" p2) fld p3] [] p4)) p5] sc dV kV doc pm an cdv ct) ⟨[.ref a], []⟩ ((["self"] : List Str).zip [.ref a]) := by
    have := hb s [.ref a] I.kIn rfl
    simpa using this
  refine wpAny_call (codeAny_mono (LamX.run_ofS (CX := CX0) (E := E0) (vs := [.ref a]) (Q := fun v H' => ∃ it, v = .ref it ∧ H it = none ∧ s.heap.objs.size ≤ it ∧ H' = upd H it (ItO l it 0)) lk hcd S sb.room e0 hbt (.cons rfl .nil) rfl fun hr' => ?_) fun r s' hq => ?_)
  · refine ⟨_, pss_one (ps_ret (pe_callB (X := cxOf CX0 X.prog X.w X.K X.mg X.base ["self"] qual sc g cdv A1 X.stack s H E0) ItX.call_iterN hit hm (by decide +kernel) (pa_cons (pe_fld (pe_var (i := 0) rfl ?_) rfl) pa_nil))), ?_⟩
    · rcases S.par "self" (by simp) with z | z
      · exact .inl z
      · exact .inr (.inl z)
    · refine ⟨_, rfl, a, C, dx, fs, .ref l, rfl, ha, c.cls, c.noat, hl, l, xs, rfl, hx, fun it hn hs => ⟨it, rfl, hn, hs, rfl⟩⟩
  · cases r with
    | error e => exact False.elim hq
    | ok fl =>
      cases fl with
      | next => exact False.elim hq
      | brk => exact False.elim hq
      | cont => exact False.elim hq
      | ret u =>
        obtain ⟨v, H', I', rv, it, ev, hn, hs, eH⟩ := I.after hq
        subst ev eH
        obtain rfl : u = Value.ref it := rv
        have hi := upd_same (H := H) (a := it) (o := ItO l it 0)
        have I2 := ItX.inv_drop (φ := _) I' hi
        have fp := ItX.inv_fp I' hi (Nat.le_trans I.sz hs)
        rw [ItX.dropH_upd hn] at I2 fp
        have e := itO_get I' hi
        exact ⟨it, rfl, I2, fp, _, e, rfl, rfl⟩
/-- for .. in o, o an instance with such an __iter__ -/
def iOwn (K : PySem.W.Frag) (C : Addr) (fld : Str) (te : TE) : TI := fun σ H R => te σ H fun x H1 => ∃ a dx fs l, x = .ref a ∧ H1 a = some (.ins C dx fs) ∧ fs.lookup fld = some (.ref l) ∧ (∃ xs, SqL K H1 l xs) ∧ R (Itl K l) H1
theorem pi_own {tg e : Expr} {te : TE} (c : IterC X.K C g fld) (hm : X.mg "iter" = none) (hr : Room 1 X.A) (he : PE X e te) : PI X tg e (iOwn X.K C fld te) := by
  refine ⟨fun pins s σ H R I h => ?_⟩
  refine thn (he.run pins s σ H _ I h) fun u s1 ⟨x, H1, I1, rx, a, dx, fs, l, ex, ea, el, ⟨xs, hx⟩, q⟩ => ?_
  subst ex
  obtain rfl : u = Value.ref a := rx
  obtain ⟨mA, O, _⟩ := ins_get I1.hok ea
  obtain ⟨od, J, _⟩ := O.look
  obtain ⟨m0, hF⟩ := I1.fr
  refine PySem.W.owit_iter hF I1.ok.mod.kin J c.it c.fn (thn (iter_run c hm ⟨hr, rfl⟩ I1 ea el hx) fun v s2 ⟨it, ev, I2, fp, st⟩ => ?_)
  subst ev
  have hT : s2.TypeIs (.ref it) "list_iterator" := by
    obtain ⟨o, e, c, d⟩ := st
    exact ⟨o, e, c⟩
  unfold PySem.W.OwitIt
  refine wpAny_specialOf hT slot_listiter_next.lookup ?_
  exact ⟨it, [it], fun i h => h.IsListIter it l i, Itl X.K l, H1, rfl, I2, turn_list l it, st, fun b hb => by rw [show b = it by simpa using hb]; exact fp, q⟩
end

/-! ### list(o) of such an instance, which has an own __len__ too -/
structure LenC (K : PySem.W.Frag) (C g : Addr) : Prop where
  at_ : PySem.W.findIn K (.ref C) "__len__" = some (some (.ref g))
  fn : PySem.W.isFn K (.ref g) = true
section
variable {X : Cx} {C g gl : Addr} {fld : Str}
/-- the loop that fills the list at q from the iterator at it over the list at l -/
theorem fill_loop {A1 : Around} {pins : List (Addr × Obj)} {σ : L2.St} {it l q : Addr} {xs : List V} {Rs : Result → Shared → Prop} (hh : A1.in1.handled = none) (res : Value) {H0 : Hp} (hq0 : H0 q = none)
    (hdone : ∀ s, Inv X pins σ (upd H0 q (.lst xs)) s → Rs (.ok (.ret res)) s) (hx0 : SqL X.K H0 l xs) (hfp : FpOk X pins H0 it) (hqi : q ≠ it) :
    ∀ (m i : Nat) (s : Shared), i + m = xs.length → Inv X pins σ (upd H0 q (.lst (xs.take i))) s → s.heap.IsListIter it l i →
      codeAny (model X.prog X.w) A1 (.builtin "list.extend.loop" ⟨[.ref q, .ref it, res], []⟩) Rs s := by
  have sq : ∀ o, SqL X.K (upd H0 q o) l xs := fun o => by
    have hE : ∀ b u, H0 b = some u → upd H0 q o b = some u := fun b u e => by rw [upd_ne (ne_of_none e hq0)]; exact e
    rcases hx0 with h | h
    · rcases h with h | ⟨u, h⟩
      · exact .inl (.inl (hE _ _ h))
      · exact .inl (.inr ⟨u, hE _ _ h⟩)
    · exact .inr h
  have fpq : ∀ o, FpOk X pins (upd H0 q o) it := fun o => by
    obtain ⟨f0, f1⟩ := hfp
    exact ⟨by rw [upd_ne hqi.symm]; exact f0, f1⟩
  intro m
  induction m with
  | zero =>
    intro i s hi I st
    refine codeAny_builtin PySem.F.entry_extend_loop ?_
    rw [Around.under_plainId PySem.F.plain_extend_loop _]
    show wpAny _ A1.in1 (pyNext (.ref it) >>= _) _ _ s
    obtain ⟨its, rv, p, hz⟩ := I.list (sq _)
    obtain ⟨f0, f1, f2, f3, f4, f5⟩ := fpq (.lst (xs.take i))
    have hl := rv.length
    refine wpAny_bind (wpAny_pyNext_list_end hh st p.isList (by simp; omega) fun h' eb => ?_)
    have I1 : Inv X pins σ (upd H0 q (.lst (xs.take i))) { s with heap := h' } := I.turned (t' := s.toks) (fun b o hb e => eb b o hb e) f0 f1 f3 f4 f5
    have e : xs.take i = xs := List.take_of_length_le (by omega)
    rw [e] at I1
    exact wpAny_pure (hdone _ I1)
  | succ m ih =>
    intro i s hi I st
    refine codeAny_builtin PySem.F.entry_extend_loop ?_
    rw [Around.under_plainId PySem.F.plain_extend_loop _]
    show wpAny _ A1.in1 (pyNext (.ref it) >>= _) _ _ s
    obtain ⟨its, rv, p, hz⟩ := I.list (sq _)
    obtain ⟨f0, f1, f2, f3, f4, f5⟩ := fpq (.lst (xs.take i))
    have hlt : i < xs.length := by omega
    have hxi : xs[i]? = some xs[i] := List.getElem?_eq_getElem hlt
    obtain ⟨u, hu, ru⟩ := rv.get hxi
    refine wpAny_bind (wpAny_pyNext_list_item st p.isList (x := u) (by simpa using hu) fun h' st' sb => ?_)
    have I1 : Inv X pins σ (upd H0 q (.lst (xs.take i))) { s with heap := h' } := I.turned (t' := s.toks) (fun b o hb e => (sb.2 b hb).trans e) f0 f1 f3 f4 f5
    show wpAny _ A1.in1 (updateSeq q (·.push u) >>= _) _ _ _
    obtain ⟨z, its2, k, r2, hl2, e⟩ := I1.lstM upd_same
    have hsz : xs.length ≤ sizeLine := hz
    have htl : (xs.take i).length = i := by rw [List.length_take]; omega
    refine wpAny_bind (wpAny_updateSeq e rfl (wpAny_pure ⟨plainId_quiet PySem.F.plain_extend_loop _, ?_⟩) (by rw [List.size_toArray]; omega) (by show (its2.toArray.push u).size ≤ sizeLine + 1; rw [Array.size_push, List.size_toArray]; omega))
    have I2 := I1.lset (its' := its2 ++ [u]) (ys := xs.take i ++ [xs[i]]) (t' := s.toks) upd_same e (f := (·.push u)) (by simp) (r2.append (.cons ru .nil)) (by rw [List.length_append, List.length_singleton]; omega)
    rw [upd_upd] at I2
    have et : xs.take i ++ [xs[i]] = xs.take (i + 1) := by rw [List.take_succ, hxi]; rfl
    rw [et] at I2
    refine ih (i + 1) _ (by omega) I2 (st'.at fun o eo => ?_)
    exact (Heap.get?_update_other _ _ hqi).trans eo
end

end Pn
/-! #### Fnd3a -/
namespace Pn
open PySem PySem.Spec PyProof.Rows L2

section
variable {X : Cx} {C g gl : Addr} {fld : Str} {fdL : FuncData}
/-- what __len__ promises -/
def spLenI (K : PySem.W.Frag) (C : Addr) (fld : Str) : Sp := fun vs H Q _ => ∃ a dx fs l ys, vs = [.ref a] ∧ H a = some (.ins C dx fs) ∧ fs.lookup fld = some (.ref l) ∧ SqL K H l ys ∧ Q (.int (ys.length : Nat)) H
theorem run_atU {X : Cx} {A1 : Around} {n f : Nat} {fd : FuncData} {ps : List Str} {sp : Sp} {pins : List (Addr × Obj)} {σ : L2.St} {H : Hp} {s : Shared} {Q : VK} {us : List Value} {vs : List V} (sb : Sub X n A1) (F : FnOk X.prog X.w X.K X.mg X.base CX0 n f fd ps sp) (hb : Binds X.K fd ps [])
    {E : Value → Shared → Prop} (I : Inv X pins σ H s) (r : Vals vs us) (h : sp vs H Q E0) : wpAny (model X.prog X.w) A1 (call (.ref f) us) (fun u s' => ∃ v H', Inv X pins σ H' s' ∧ L2.RelV v u ∧ Q v H' ∧ Un (frs X.stack) [] H H' s.heap s'.heap) E s := by
  have hl : us.length = ps.length := by rw [← r.length]; exact F.len _ _ _ _ h
  have e0 : Env0 X.prog X.w X.K X.mg X.base A1 X.stack s H := by
    have e := I.env0
    exact ⟨by rw [sb.fr]; exact e.frames, e.mod, e.bs, e.bsz, e.funs, e.frf, e.hok, e.bare⟩
  have hbt : BindsTo s fd ⟨us, []⟩ (ps.zip us) := by
    have := hb s us I.kIn (by simpa using hl)
    simpa using this
  refine wpAny_call (codeAny_mono (F.run A1 X.stack s H ⟨us, []⟩ us vs Q E0 sb.room e0 hbt r h) fun r s' hq => ?_)
  cases r with
  | error e => exact False.elim hq
  | ok fl =>
    cases fl with
    | ret u =>
      obtain ⟨v, H', os, bare, un, hok, rv, q⟩ := hq
      obtain ⟨hh, g, d, t, os'⟩ := s'
      obtain rfl : os' = s.os := os
      exact ⟨v, H', I.call (h' := hh) (g' := g) (d' := d) (t' := t) (ch := []) un hok bare (fun b z => absurd z (by simp)), rv, q, un⟩
    | next => exact False.elim hq
    | brk => exact False.elim hq
    | cont => exact False.elim hq
theorem own_hintL {A1 : Around} {pins : List (Addr × Obj)} {σ : L2.St} {H : Hp} {s : Shared} {a dx l : Addr} {fs : List (Str × V)} {ys : List V} {psL : List Str} {Q : Bool → Shared → Prop} (cl : LenC X.K C gl) (FL : FnOk X.prog X.w X.K X.mg X.base CX0 1 gl fdL psL (spLenI X.K C fld)) (bL : Binds X.K fdL psL [])
    (sb : Sub X 1 A1.in1) (I : Inv X pins σ H s) (ha : H a = some (.ins C dx fs)) (hl : fs.lookup fld = some (.ref l)) (hx : SqL X.K H l ys) (h : ∀ s', Inv X pins σ H s' → Un (frs X.stack) [] H H s.heap s'.heap → Q (((ys.length : Nat) : Int) != 0) s') :
    wpAny (model X.prog X.w) A1 (Builtin.List.listLengthHint (.ref a)) Q X.xe s := by
  obtain ⟨mA, J, _⟩ := ins_get I.hok ha
  obtain ⟨od, J, _⟩ := J.look
  obtain ⟨m0, hF⟩ := I.fr
  obtain ⟨its, rv, p, hz⟩ := I.list hx
  have hsl := sizeLine_eq
  unfold Builtin.List.listLengthHint
  refine wpAny_bind (wpAny_bind (J.type.here ((PySem.W.looks_findIn I.kIn cl.at_).here ?_)))
  dsimp only
  refine PySem.W.KFB.if_not rfl ?_
  refine PySem.W.KFB.if_so rfl ?_
  refine wpAny_bind (wpAny_rule (wpAny_bind (wpAny_attempt (PySem.W.len_K (A := A1) hF I.ok.mod.kin J cl.at_ cl.fn ?_))))
  refine thn (run_atU sb FL bL I (vs := [.ref a]) (Q := fun v H' => v = .int (ys.length : Nat) ∧ H' = H) (.cons (show L2.RelV (.ref a) (Value.ref a) from rfl) .nil) ⟨a, dx, fs, l, ys, rfl, ha, hl, hx, rfl, rfl⟩) fun u s1 ⟨v, H', I1, rv1, ⟨ev, eH⟩, un⟩ => ?_
  subst ev eH
  obtain ⟨tk, rfl⟩ := rv1
  have hn : ys.length ≤ 16777216 := by omega
  refine ⟨⟨by omega, by omega⟩, ?_⟩
  dsimp only
  refine wpAny_bind (wpAny_of_eq (a := some ((ys.length : Nat) : Int)) (by rfl) ?_)
  dsimp only
  refine PySem.W.KFB.if_not ?_ ?_
  · show Builtin.List.listTooLong (((ys.length : Nat) : Int).toNat) = false
    unfold Builtin.List.listTooLong
    exact decide_eq_false (by omega)
  · exact wpAny_pure (h _ (I1.tok _) un)
def dropQ (H : Hp) (a : Addr) : Hp := fun b => if b = a then none else H b
theorem dropQ_same {H : Hp} {a : Addr} : dropQ H a a = none := if_pos rfl
theorem dropQ_none {H : Hp} {a : Addr} (h : H a = none) : dropQ H a = H := by
  funext b
  unfold dropQ
  split
  · rename_i e
    rw [e, h]
  · rfl
/-- list(o) -/
theorem call_listI {psL : List Str} (c : IterC X.K C g fld) (cl : LenC X.K C gl) (FL : FnOk X.prog X.w X.K X.mg X.base CX0 1 gl fdL psL (spLenI X.K C fld)) (bL : Binds X.K fdL psL []) (hm : X.mg "iter" = none) (hr : Room 5 X.A) :
    CallR X (.type "list") (fun xs H Q => ∃ a dx fs l ys, xs = [.ref a] ∧ H a = some (.ins C dx fs) ∧ fs.lookup fld = some (.ref l) ∧ SqL X.K H l ys ∧ ∀ q, H q = none → Q (.ref q) (upd H q (.lst ys))) := by
  intro pins s σ H xs us Q I rv h
  obtain ⟨a, dx, fs, l, ys, rfl, ha, hl, hx, hq⟩ := h
  obtain ⟨u, rfl, ru⟩ := rv.one
  cases ru
  have sb : Sub X 2 X.A.in1.in1.in1 := Sub.in1 (Sub.in1 (Sub.in1 (⟨hr, rfl⟩ : Sub X 5 X.A)))
  refine callType_codes (Q₁ := fun obj s₁ => obj = .ref s.heap.objs.size ∧ s₁ = { s with heap := s.heap.push { cls := .type "list", data := .seq #[] } }) PySem.F.called_list (PySem.F.typeCall_list_1 _) PySem.F.entry_list_init
    (code_list_new _ ⟨rfl, rfl⟩) fun obj s₁ h₁ => ?_
  obtain ⟨rfl, rfl⟩ := h₁
  have hS : (s.heap.push { cls := .type "list", data := .seq #[] }).get? s.heap.objs.size = some { cls := .type "list", data := .seq #[] } := Heap.get?_push_size _ rfl
  refine ⟨⟨_, hS, rfl⟩, PySem.F.args_list_init_2 _ _, ?_⟩
  have fr : H s.heap.objs.size = none := I.hok.fresh (Nat.le_refl _)
  have I1 : Inv X pins σ (upd H s.heap.objs.size (.lst [])) { s with heap := s.heap.push { cls := .type "list", data := .seq #[] } } := I.lnew (its := []) (t' := s.toks) .nil (Nat.zero_le _)
  show wpAny _ _ (do let old ← Builtin.List.listItems (.ref s.heap.objs.size); Builtin.List.listUpdate (.ref s.heap.objs.size) (fun _ => #[]); letGo old.toList.reverse; Builtin.List.listExtendWith (.ref s.heap.objs.size) (.ref a) .none) _ _ _
  refine wpAny_bind ?_
  unfold Builtin.List.listItems
  refine wpAny_bind (wpAny_seqItems hS rfl (wpAny_pure ?_))
  show wpAny _ _ (updateSeq s.heap.objs.size (fun _ => #[]) >>= fun _ => letGo (#[] : Array Value).toList.reverse >>= fun _ => Builtin.List.listExtendWith (.ref s.heap.objs.size) (.ref a) .none) _ _ _
  refine wpAny_bind (wpAny_updateSeq hS rfl ?_)
  have I2 := I1.lset (f := fun _ => #[]) (its := []) (its' := []) (ys := []) (t' := s.toks) upd_same hS rfl .nil (Nat.zero_le _)
  rw [upd_upd] at I2
  refine wpAny_bind (wpAny_letGo ?_)
  have hE : ∀ b u, H b = some u → upd H s.heap.objs.size (.lst []) b = some u := fun b u e => by rw [upd_ne (ne_of_none e fr)]; exact e
  have ha2 := hE _ _ ha
  have hx2 : SqL X.K (upd H s.heap.objs.size (.lst [])) l ys := by
    rcases hx with h | h
    · rcases h with h | ⟨u, h⟩
      · exact .inl (.inl (hE _ _ h))
      · exact .inl (.inr ⟨u, hE _ _ h⟩)
    · exact .inr h
  generalize hqe : s.heap.objs.size = q at *
  have hne : q ≠ a := ne_of upd_same ha2 (fun z => nomatch z)
  obtain ⟨mA, J, _⟩ := ins_get I2.hok ha2
  obtain ⟨od, J, _⟩ := J.look
  obtain ⟨m0, hF⟩ := I2.fr
  unfold Builtin.List.listExtendWith
  refine wpAny_bind (J.type.here ?_)
  have h1 : Builtin.List.listSameRef (.ref q) (.ref a) = false := by simp [Builtin.List.listSameRef, hne]
  have h2 : (Value.ref C == Value.type "list") = false := rfl
  have h3 : (Value.ref C == Value.type "tuple") = false := rfl
  simp only [h1, h2, h3, Bool.or_false, Bool.false_eq_true, if_false]
  refine wpAny_bind (PySem.W.owit_iter hF I.ok.mod.kin J c.it c.fn (thn (iter_run c hm (A1 := X.A.in1.in1) ⟨hr.in1.in1.mono (by decide), rfl⟩ I2 ha2 hl hx2) fun v s2 ⟨it, ev, I3, fp, st⟩ => ?_))
  subst ev
  have hT : s2.TypeIs (.ref it) "list_iterator" := by
    obtain ⟨o, e, c, d⟩ := st
    exact ⟨o, e, c⟩
  unfold PySem.W.OwitIt
  refine wpAny_specialOf hT slot_listiter_next.lookup ?_
  dsimp only
  have hcA : X.A.in1.in1.handled = none := hr.in1.in1.hd
  have hq0 : (dropQ H q) q = none := dropQ_same
  have hqi : q ≠ it := fun z => by
    have := fp.1
    rw [← z, upd_same] at this
    cases this
  have hHq : dropQ H q = H := dropQ_none fr
  have hfp : FpOk X pins H it := by
    obtain ⟨f0, f1⟩ := fp
    rw [upd_ne hqi.symm] at f0
    exact ⟨f0, f1⟩
  -- what is left: the iterator stands as the hint leaves it
  refine wpAny_bind (wpAny_holding (own_hintL cl FL bL (sb.mono (by decide)) I3 ha2 hl hx2 fun s3 I4 un => ?_))
  have st4 : s3.heap.IsListIter it l 0 := st.at fun o eo => un.keep it o eo fp.1 (fun z => (List.mem_cons.mp (I3.stkSub _ z)).elim fp.2.1 fp.2.2.1) (by simp)
  have done : ∀ s', Inv X pins σ (upd H q (.lst ys)) s' → (wants (fun r s₂ => r = Value.none ∧ EP X pins σ Q (Value.ref q) s₂) X.xe) (.ok (.ret .none)) s' := fun s' I' => ⟨rfl, .ref q, _, I', rfl, hq q fr⟩
  refine wpAny_ite_split (fun _ => ?_) (fun _ => wpAny_pure ⟨plainId_quiet PySem.F.plain_extend_loop _, fill_loop hcA .none fr done hx hfp hqi ys.length 0 s3 (by omega) I4 st4⟩)
  refine wpAny_bind (wpAny_rule ?_)
  refine wpAny_bind ?_
  show wpAny _ _ (updateSeq q (·.push .none) >>= fun _ => updateSeq q (·.pop)) _ _ _
  obtain ⟨z, its, k, r3, hl3, e3⟩ := I4.lstM upd_same
  cases r3
  refine wpAny_bind (wpAny_updateSeq e3 rfl ?_)
  have I5 := I4.lset (f := (·.push Value.none)) (its' := [Value.none]) (ys := [.non]) (t' := s3.toks) upd_same e3 (by simp) (.cons rfl .nil) (by rw [List.length_singleton, sizeLine_eq]; decide)
  obtain ⟨z4, its4, k4, r4, hl4, e4⟩ := I5.lstM upd_same
  obtain ⟨u4, rfl, ru4⟩ := r4.one
  refine wpAny_updateSeq e4 rfl ?_ (by show 1 ≤ sizeLine; rw [sizeLine_eq]; decide) (by show 0 ≤ sizeLine + 1; exact Nat.zero_le _)
  have I6 := I5.lset (f := (·.pop)) (its := [u4]) (its' := []) (ys := []) (t' := s3.toks) upd_same e4 (by rfl) .nil (Nat.zero_le _)
  rw [upd_upd, upd_upd] at I6
  exact wpAny_pure ⟨plainId_quiet PySem.F.plain_extend_loop _, fill_loop hcA .none fr done hx hfp hqi ys.length 0 _ (by omega) I6 ((st4.at fun o eo => (Heap.get?_update_other _ _ hqi).trans eo).at fun o eo => (Heap.get?_update_other _ _ hqi).trans eo)⟩
end
end Pn
/-! #### Fnd4 -/
namespace Pn
open PySem PySem.Spec PyProof.Rows L2

/-! ### frames: what stands stays, but for excused things -/
abbrev Ex := Addr → HO → Prop
def Ex0 : Ex := fun _ _ => False
def Fr (E : Ex) (H H' : Hp) : Prop := ∀ q o, H q = some o → (E q o → ∃ o', E q o' ∧ H' q = some o') ∧ (¬ E q o → H' q = some o)
section
variable {E : Ex} {H H1 H2 : Hp} {p q : Addr} {o : HO}
theorem Fr.refl (E : Ex) (H : Hp) : Fr E H H := fun q o h => ⟨fun e => ⟨o, e, h⟩, fun _ => h⟩
theorem Fr.trans (a : Fr E H H1) (b : Fr E H1 H2) : Fr E H H2 := fun q o h => ⟨fun e => by
    obtain ⟨o', e', h'⟩ := (a q o h).1 e
    exact (b q o' h').1 e', fun n => (b q o ((a q o h).2 n)).2 n⟩
theorem Fr.get (a : Fr E H H1) (h : H q = some o) (n : ¬ E q o) : H1 q = some o := (a q o h).2 n
theorem Fr.free (a : Fr E H H1) (h : H1 q = Option.none) : H q = Option.none := by
  cases z : H q with
  | none => rfl
  | some o =>
    by_cases e : E q o
    · obtain ⟨o', _, h'⟩ := (a q o z).1 e
      rw [h] at h'; cases h'
    · rw [(a q o z).2 e] at h; cases h
theorem Fr.same (a : Fr Ex0 H H1) : Same H H1 := fun q o h => (a q o h).2 fun z => z
theorem Fr.of (a : Same H H1) : Fr E H H1 := fun q o h => ⟨fun e => ⟨o, e, a q o h⟩, fun _ => a q o h⟩
theorem Fr.wide {E' : Ex} (a : Fr E H H1) (h : ∀ q o, E q o → E' q o) (h2 : ∀ q o o', E q o → E q o' → E' q o → E' q o' := by intros; first | assumption | exact h _ _ (by assumption)) : Fr E' H H1 := fun q o z => by
  by_cases e : E q o
  · obtain ⟨o', e', h'⟩ := (a q o z).1 e
    exact ⟨fun x => ⟨o', h2 q o o' e e' x, h'⟩, fun x => absurd (h q o e) x⟩
  · have := (a q o z).2 e
    exact ⟨fun x => ⟨o, x, this⟩, fun _ => this⟩
/-- a new thing, or one that was not there at first, is put -/
theorem Fr.put (a : Fr E H H1) (n : H p = Option.none) : Fr E H (upd H1 p o) := fun q u h => by
  have hne : q ≠ p := fun z => by rw [z, n] at h; cases h
  rw [upd_ne hne]
  exact a q u h
theorem Fr.new (n : H p = Option.none) : Fr E H (upd H p o) := (Fr.refl E H).put n
theorem Fr.new' (a : Fr E H H1) (n : H1 p = Option.none) : Fr E H (upd H1 p o) := a.put (a.free n)
/-- an excused thing is changed -/
theorem Fr.set {u : HO} (a : Fr E H H1) (h : H1 p = some u) (e : E p u) (e' : E p o) : Fr E H (upd H1 p o) := a.trans fun q v h2 => by
  by_cases z : q = p
  · subst z
    rw [h] at h2; cases h2
    exact ⟨fun _ => ⟨o, e', upd_same⟩, fun n => absurd e n⟩
  · rw [upd_ne z]
    exact ⟨fun x => ⟨v, x, h2⟩, fun _ => h2⟩
end

/-! ### pairs of texts, lists of texts -/
abbrev Pr := Str × Str
def kP (p : Pr) : List L2.Key := [.inr p.1, .inr p.2]
def vP (p : Pr) : List V := [.str p.1, .str p.2]
theorem kP_map (p : Pr) : (kP p).map kV = vP p := rfl
theorem kP_inj {p q : Pr} (h : kP p = kP q) : p = q := by
  obtain ⟨a, b⟩ := p; obtain ⟨c, d⟩ := q
  simp only [kP, List.cons.injEq, Sum.inr.injEq, and_true] at h
  exact Prod.ext h.1 h.2
def IsP (H : Hp) (v : V) (p : Pr) : Prop := ∃ a, v = .ref a ∧ H a = some (.tup (vP p))
abbrev IsPs (H : Hp) (vs : List V) (ps : List Pr) : Prop := Paired (IsP H) vs ps
theorem IsP.mono {H H' : Hp} {v : V} {p : Pr} (s : Same H H') (h : IsP H v p) : IsP H' v p := by
  obtain ⟨a, e, h⟩ := h
  exact ⟨a, e, s _ _ h⟩
theorem IsPs.mono {H H' : Hp} {vs : List V} {ps : List Pr} (s : Same H H') (h : IsPs H vs ps) : IsPs H' vs ps := Paired.mono (fun _ _ => IsP.mono s) h
def prD2 (p : Pr) : PyData := .tuple [.str p.1, .str p.2]
/-- a text of real signs -/
def Sk (x : Str) : Prop := PyData.strOk x = true
def SkP (p : Pr) : Prop := Sk p.1 ∧ Sk p.2
theorem prD2_lay {z : Pr} (h : SkP z) : (prD2 z).canLay0 = true := by
  have h1 : PyData.strOk z.1 = true := h.1
  have h2 : PyData.strOk z.2 = true := h.2
  simp [prD2, PyData.canLay0, PyData.canLayAll0, h1, h2]
theorem prD2_depth (z : Pr) : (prD2 z).depth = 1 := by simp [prD2, PyData.depth, PyData.depthAll]
theorem prDs2_lay : ∀ {zs : List Pr}, (∀ z ∈ zs, SkP z) → PyData.canLayAll0 (zs.map prD2) = true
  | [], _ => by simp [PyData.canLayAll0]
  | z :: zs, h => by simp [PyData.canLayAll0, prD2_lay (h z List.mem_cons_self), prDs2_lay (zs := zs) fun y hy => h y (List.mem_cons_of_mem _ hy)]
theorem prDs2_depth : ∀ zs : List Pr, PyData.depthAll (zs.map prD2) ≤ 2
  | [] => by simp [PyData.depthAll]
  | z :: zs => by
    have h1 := prDs2_depth zs
    have h2 := prD2_depth z
    simp only [List.map_cons, PyData.depthAll]
    omega
theorem prD2_shaped {z : Pr} (hz : SkP z) : SeqAt.shaped (prD2 z) = true := by
  have h := prD2_depth z
  show ((prD2 z).canLay0 && decide ((prD2 z).depth ≤ 64)) = true
  rw [Bool.and_eq_true]
  exact ⟨prD2_lay hz, decide_eq_true (by omega)⟩
theorem prDs2_shaped {zs : List Pr} (hz : ∀ z ∈ zs, SkP z) : SeqAt.shaped (.list (zs.map prD2)) = true := by
  have h1 := prDs2_depth zs
  have h2 : PyData.depth (.list (zs.map prD2)) ≤ 64 := by simp only [PyData.depth]; omega
  show (PyData.canLay0 (.list (zs.map prD2)) && decide (PyData.depth (.list (zs.map prD2)) ≤ 64)) = true
  rw [Bool.and_eq_true]
  exact ⟨by simp only [PyData.canLay0]; exact prDs2_lay hz, decide_eq_true h2⟩
theorem prD2_eqv (z w : Pr) : PyData.eqv (prD2 z) (prD2 w) = decide (z = w) := by
  obtain ⟨a, b⟩ := z; obtain ⟨c, d⟩ := w
  have e : PyData.eqv (prD2 (a, b)) (prD2 (c, d)) = ((a == c) && ((b == d) && true)) := by simp only [prD2, PyData.eqv, PyData.eqvAll]
  rw [e]
  by_cases h1 : a = c
  · by_cases h2 : b = d
    · subst h1 h2; simp
    · simp [h1, h2]
  · simp [h1]
theorem prDs2_any (z : Pr) : ∀ zs : List Pr, ((zs.map prD2).any fun w => PyData.eqv w (prD2 z)) = decide (z ∈ zs)
  | [] => by simp
  | w :: zs => by
    rw [List.map_cons, List.any_cons, prDs2_any z zs, prD2_eqv]
    by_cases h : w = z
    · subst h; simp
    · have h' : ¬ z = w := fun e => h e.symm
      simp [h, h']
section
variable {K : PySem.W.Frag} {H : Hp}
theorem IsP.dp {v : V} {p : Pr} (h : IsP H v p) : Dp K H v (prD2 p) := by
  obtain ⟨a, rfl, h⟩ := h
  exact .tup (.inl (.inl h)) (.cons (.str _) (.cons (.str _) .nil))
theorem IsPs.dpAll : ∀ {vs : List V} {ps : List Pr}, IsPs H vs ps → DpAll K H vs (ps.map prD2)
  | _, _, .nil => .nil
  | _, _, .cons h t => .cons h.dp (IsPs.dpAll t)
theorem IsPs.dp {vs : List V} {ps : List Pr} {a : Addr} (h : IsPs H vs ps) (e : H a = some (.lst vs)) : Dp K H (.ref a) (.list (ps.map prD2)) := .lst (.inl (.inl e)) h.dpAll
end
theorem Paired.get {α β : Type} {F : α → β → Prop} : ∀ {l1 : List α} {l2 : List β}, Paired F l1 l2 → ∀ {i : Nat} {a : α}, l1[i]? = some a → ∃ b, l2[i]? = some b ∧ F a b
  | _, _, .nil, i, a, h => by simp at h
  | _, _, .cons h t, 0, a, e => by simp at e; subst e; exact ⟨_, rfl, h⟩
  | _, _, .cons h t, i + 1, a, e => by simpa using Paired.get t (by simpa using e)
theorem Paired.get' {α β : Type} {F : α → β → Prop} : ∀ {l1 : List α} {l2 : List β}, Paired F l1 l2 → ∀ {i : Nat} {b : β}, l2[i]? = some b → ∃ a, l1[i]? = some a ∧ F a b
  | _, _, .nil, i, a, h => by simp at h
  | _, _, .cons h t, 0, a, e => by simp at e; subst e; exact ⟨_, rfl, h⟩
  | _, _, .cons h t, i + 1, a, e => by simpa using Paired.get' t (by simpa using e)
theorem Paired.at {α β : Type} {F : α → β → Prop} {l1 : List α} {l2 : List β} {i : Nat} {a : α} {b : β} (h : Paired F l1 l2) (h1 : l1[i]? = some a) (h2 : l2[i]? = some b) : F a b := by
  obtain ⟨b', e, f⟩ := Paired.get h h1
  rw [h2] at e; cases e; exact f
theorem Paired.app {α β : Type} {F : α → β → Prop} : ∀ {l1 m1 : List α} {l2 m2 : List β}, Paired F l1 l2 → Paired F m1 m2 → Paired F (l1 ++ m1) (l2 ++ m2)
  | _, _, _, _, .nil, s => s
  | _, _, _, _, .cons h t, s => .cons h (Paired.app t s)
theorem Paired.of_map {α β γ : Type} {F : α → β → Prop} (f : γ → α) (g : γ → β) (h : ∀ c, F (f c) (g c)) : ∀ l : List γ, Paired F (l.map f) (l.map g)
  | [] => .nil
  | c :: l => .cons (h c) (Paired.of_map f g h l)
theorem Paired.str {H : Hp} : ∀ {vs : List V} {xs : List Str}, Paired (fun v x => v = V.str x) vs xs → vs = xs.map V.str
  | _, _, .nil => rfl
  | _, _, .cons h t => by rw [h, Paired.str (H := H) t]; rfl
theorem Paired.mapEq {β : Type} {f : β → V} : ∀ {vs : List V} {xs : List β}, Paired (fun v x => v = f x) vs xs → vs = xs.map f
  | _, _, .nil => rfl
  | _, _, .cons h t => by rw [h, Paired.mapEq t]; rfl
theorem Paired.left {α β : Type} {F : α → β → Prop} : ∀ {l₁ : List α} {l₂ : List β}, Paired F l₁ l₂ → ∀ a ∈ l₁, ∃ b ∈ l₂, F a b
  | _, _, .nil, a, h => by simp at h
  | _, _, .cons h t, a, m => by
    rcases List.mem_cons.mp m with rfl | m
    · exact ⟨_, List.mem_cons_self, h⟩
    · obtain ⟨b, hb, f⟩ := Paired.left t a m
      exact ⟨b, List.mem_cons_of_mem _ hb, f⟩

/-! ### a comprehension by what its turns give -/
/-- told of values, kept by frames and by a list's growing -/
structure Sta (E : Ex) {B : Type} (R : Hp → V → B → Prop) : Prop where
  fr : ∀ H H' v b, Fr E H H' → R H v b → R H' v b
  li : ∀ H D ys ys' v b, H D = some (.lst ys) → R H v b → R (upd H D (.lst ys')) v b
section
variable {J : It} {n : Nat} {G : Hp → Prop} {Y : Nat → Hp → V → Hp → Prop} {E : Ex}
theorem lc_gen (w : Walk J n G Y) {B : Type} {g : TG} {tt : TT} {te : TE} {vs : List Nat} {σ : L2.St} {H1 : Hp} {D : Addr} {Qd : Hp → Prop} (R : Hp → V → B → Prop) (P : Nat → List B → Prop)
    (hD : H1 D = Option.none) (hn : n ≤ 1000) (hG : ∀ H, Fr E H1 H → G H) (hY : ∀ i H x H', Y i H x H' → Fr E H H')
    (St : Sta E R) (hE : ∀ H ys bs, Paired (R H) ys bs → ¬ E D (.lst ys)) (h0 : P 0 [])
    (hs : ∀ i x H H' bs (Ky : VK) (Kn : Hp → Prop), i < n → P i bs → Fr E H1 H → Y i H x H' → (∀ y H4 b, Fr E H' H4 → R H4 y b → P (i + 1) (bs ++ [b]) → Ky y H4) → (∀ H3, Fr E H' H3 → P (i + 1) bs → Kn H3) →
      g x (wipe σ vs) H' fun σ2 H2 => wipe σ2 vs = wipe σ vs ∧ tt σ2 H2 fun b H3 => if b = true then te σ2 H3 Ky else Kn H3)
    (hd : ∀ H ys bs, Fr E H1 H → H D = some (.lst ys) → Paired (R H) ys bs → P n bs → Qd H) :
    ∃ W : Nat → Nat → Hp → Prop, (∃ m, W 0 m (upd H1 D (.lst []))) ∧ ∀ i m H, W i m H →
      (J.stop i H ∧ Qd H) ∨ (J.go i H ∧ ∃ Nx : Hp → Prop, (∀ H', Nx H' → ∃ m', m' < m ∧ W (i + 1) m' H') ∧ ∀ x H', J.yld i H x H' → g x (wipe σ vs) H' fun σ2 H2 => wipe σ2 vs = wipe σ vs ∧ tt σ2 H2 fun b H3 =>
        if b = true then te σ2 H3 fun y H4 => ∃ acc, H4 D = some (.lst acc) ∧ acc.length < sizeLine ∧ Nx (upd H4 D (.lst (acc ++ [y]))) else Nx H3) := by
  refine lc_it w (fun i H => ∃ ys bs, Fr E H1 H ∧ H D = some (.lst ys) ∧ Paired (R H) ys bs ∧ P i bs ∧ ys.length ≤ i) ⟨[], [], Fr.new hD, upd_same, .nil, h0, Nat.le_refl _⟩ (fun i H _ ⟨_, _, f, _⟩ => hG H f) ?_ (fun H ⟨ys, bs, f, d, r, p, _⟩ => hd H ys bs f d r p)
  rintro i x H H' hi ⟨ys, bs, f, d, r, p, hl⟩ y
  have fy := hY i H x H' y
  refine hs i x H H' bs _ _ hi p f y (fun y H4 b f4 ry p4 => ?_) (fun H3 f3 p3 => ?_)
  · have F := fy.trans f4
    have d4 : H4 D = some (.lst ys) := F.get d (hE H ys bs r)
    exact ⟨ys, d4, small1000 (by omega), ys ++ [y], bs ++ [b], (f.trans F).put hD, upd_same, Paired.snoc (Paired.mono (fun a b z => St.li H4 D ys _ a b d4 (St.fr _ _ _ _ F z)) r) (St.li H4 D ys _ _ _ d4 ry), p4, by simp; omega⟩
  · have F := fy.trans f3
    exact ⟨ys, bs, f.trans F, F.get d (hE H ys bs r), Paired.mono (fun a b => St.fr _ _ _ _ F) r, p3, by omega⟩
/-- as data: a turn's test and value are told by the i-th of as -/
theorem lc_map (w : Walk J n G Y) {A B : Type} (as : List A) (p : A → Bool) (f : A → B) {g : TG} {tt : TT} {te : TE} {vs : List Nat} {σ : L2.St} {H1 : Hp} {D : Addr} {Qd : Hp → Prop} (R : Hp → V → B → Prop)
    (hl : as.length = n) (hD : H1 D = Option.none) (hn : n ≤ 1000) (hG : ∀ H, Fr E H1 H → G H) (hY : ∀ i H x H', Y i H x H' → Fr E H H')
    (St : Sta E R) (hE : ∀ H ys bs, Paired (R H) ys bs → ¬ E D (.lst ys))
    (hs : ∀ i x H H' a (Ky : VK) (Kn : Hp → Prop), as[i]? = some a → Fr E H1 H → Y i H x H' → (∀ y H4, p a = true → Fr E H' H4 → R H4 y (f a) → Ky y H4) → (∀ H3, p a = false → Fr E H' H3 → Kn H3) →
      g x (wipe σ vs) H' fun σ2 H2 => wipe σ2 vs = wipe σ vs ∧ tt σ2 H2 fun b H3 => if b = true then te σ2 H3 Ky else Kn H3)
    (hd : ∀ H ys, Fr E H1 H → H D = some (.lst ys) → Paired (R H) ys ((as.filter p).map f) → Qd H) :
    ∃ W : Nat → Nat → Hp → Prop, (∃ m, W 0 m (upd H1 D (.lst []))) ∧ ∀ i m H, W i m H →
      (J.stop i H ∧ Qd H) ∨ (J.go i H ∧ ∃ Nx : Hp → Prop, (∀ H', Nx H' → ∃ m', m' < m ∧ W (i + 1) m' H') ∧ ∀ x H', J.yld i H x H' → g x (wipe σ vs) H' fun σ2 H2 => wipe σ2 vs = wipe σ vs ∧ tt σ2 H2 fun b H3 =>
        if b = true then te σ2 H3 fun y H4 => ∃ acc, H4 D = some (.lst acc) ∧ acc.length < sizeLine ∧ Nx (upd H4 D (.lst (acc ++ [y]))) else Nx H3) := by
  refine lc_gen w R (fun i bs => bs = ((as.take i).filter p).map f) hD hn hG hY St hE (by simp) ?_ (fun H ys bs fr d r e => hd H ys fr d (by subst e; rw [← hl, List.take_length] at r; exact r))
  rintro i x H H' bs Ky Kn hi rfl fr y hy hk
  have hi' : i < as.length := by omega
  have ht : as.take (i + 1) = as.take i ++ [as[i]] := by rw [List.take_succ_eq_append_getElem hi']
  refine hs i x H H' as[i] Ky Kn (by simp [hi']) fr y (fun y H4 hp f4 r => hy y H4 (f as[i]) f4 r ?_) (fun H3 hp f3 => hk H3 f3 ?_)
  · rw [ht, List.filter_append, List.map_append]; simp [hp]
  · rw [ht, List.filter_append, List.map_append]; simp [hp]
end

/-! ### things told of values that are kept -/
section
variable {E : Ex}
theorem Sta.eq {B : Type} (f : B → V) : Sta E (fun _ v b => v = f b) := ⟨fun _ _ _ _ _ h => h, fun _ _ _ _ _ _ _ h => h⟩
theorem Sta.isP (h : ∀ q xs, ¬ E q (.tup xs)) : Sta E IsP := ⟨fun H H' v b f ⟨a, e, z⟩ => ⟨a, e, f.get z (h a _)⟩, fun H D ys ys' v b d ⟨a, e, z⟩ => ⟨a, e, by rw [upd_ne (ne_of z d (by intro q; cases q))]; exact z⟩⟩
theorem Sta.and {B : Type} {R S : Hp → V → B → Prop} (a : Sta E R) (b : Sta E S) : Sta E (fun H v x => R H v x ∧ S H v x) := ⟨fun H H' v x f z => ⟨a.fr H H' v x f z.1, b.fr H H' v x f z.2⟩, fun H D ys ys' v x d z => ⟨a.li H D ys ys' v x d z.1, b.li H D ys ys' v x d z.2⟩⟩
theorem Sta.const {B : Type} (S : V → B → Prop) : Sta E (fun _ v x => S v x) := ⟨fun _ _ _ _ _ z => z, fun _ _ _ _ _ _ _ z => z⟩
end
end Pn
/-! #### Fnd5 -/
namespace Pn
open PySem PySem.Spec PyProof.Rows L2
open AutoSeq1 (wpAny_loadPart')
/-! ### enumerate of a tuple -/
theorem new_enumT (l : Addr) (items : Array Value) (n : Nat) (dct : Option Addr) (sl : Array (Option Value)) :
    Meets (Builtin.«enumerate.__new__» ⟨[.type "enumerate", .ref l], []⟩) (fun _ R s => s.heap.get? l = some { cls := .type "tuple", dict := dct, data := .seq items n, slots := sl } ∧
      R (.ok (.ret (.ref (s.heap.push { cls := .type "tuple_iterator", data := .fields #[.ref l, .int 0 0] }).objs.size)))
        { s with heap := (s.heap.push { cls := .type "tuple_iterator", data := .fields #[.ref l, .int 0 0] }).push { cls := .type "enumerate", data := .fields #[.none, .bool false, .ref s.heap.objs.size, rawInt 0, .none, .none] } }) :=
  .of_wp fun prog w A R s h => by
    obtain ⟨hp, g, d, tk, os⟩ := s; obtain ⟨hl, h⟩ := h
    have hsub := sub_enumerate
    have hL : Heap.IsTuple (Shared.heap ⟨hp, g, d, tk, os⟩) l items := ⟨_, hl, rfl, n, rfl⟩
    wp_walk using wpAny_loadPart' hl
    refine wpAny_stack_any fun st => wpAny_pure ?_
    split
    · rename_i c _ _ _ _ _
      cases (c == Value.type "enumerate")
      · wp_walk using wpAny_loadPart' hl, wpAny_pyIter_tuple hL
        exact ⟨_, rfl, h⟩
      · wp_walk using wpAny_loadPart' hl, wpAny_pyIter_tuple hL
        exact ⟨_, rfl, h⟩
    · wp_walk using wpAny_loadPart' hl, wpAny_pyIter_tuple hL
      exact ⟨_, rfl, h⟩
theorem call_enumT {prog : Program} {w : World} {A : Around} {E : Value → Shared → Prop} {s : Shared} {l : Addr} {items : Array Value} {Q : Value → Shared → Prop} (hL : s.heap.IsTuple l items)
    (h : ∀ h', IsEnum h' (s.heap.objs.size + 1) s.heap.objs.size 0 .none → h'.IsTupleIter s.heap.objs.size l 0 → h'.objs.size = s.heap.objs.size + 2 →
      (∀ b o, s.heap.get? b = some o → h'.get? b = some o) → Q (.ref (s.heap.objs.size + 1)) { s with heap := h' }) :
    wpAny (model prog w) A (call (.type "enumerate") [.ref l]) Q E s := by
  obtain ⟨⟨c, dct, dt, sl⟩, hl, hc, n, hd⟩ := hL
  replace hc : c = .type "tuple" := hc
  replace hd : dt = .seq items n := hd
  subst hc hd
  refine callType_new F.called_enumerate (by decide) (F.typeCall_enumerate_1 _) (F.newCall_enumerate_1 _) (fun obj => F.args_object_init_2 obj _) F.entry_enumerate_new
    (new_enumT l items n dct sl) ⟨hl, ?_⟩
  have hz : (s.heap.push { cls := .type "tuple_iterator", data := .fields #[.ref l, .int 0 0] }).objs.size = s.heap.objs.size + 1 := Heap.size_push ..
  show _ ∧ _
  rw [hz]
  have he : IsEnum ((s.heap.push { cls := .type "tuple_iterator", data := .fields #[.ref l, .int 0 0] }).push
      { cls := .type "enumerate", data := .fields #[.none, .bool false, .ref s.heap.objs.size, rawInt 0, .none, .none] }) (s.heap.objs.size + 1) s.heap.objs.size 0 .none := by
    have := Heap.get?_push_size (s.heap.push { cls := .type "tuple_iterator", data := .fields #[.ref l, .int 0 0] })
      (o := { cls := .type "enumerate", data := .fields #[.none, .bool false, .ref s.heap.objs.size, rawInt 0, .none, .none] }) rfl
    rw [hz] at this; exact this
  refine ⟨⟨_, he, rfl⟩, h _ he ⟨_, Heap.get?_push_of_some _ (Heap.get?_push_size _ rfl), rfl, rfl⟩ (by rw [Heap.size_push, hz]) fun b o x => Heap.get?_push_of_some _ (Heap.get?_push_of_some _ x)⟩
/-- the tuple at a, each item in a new pair -/
def IteT (K : PySem.W.Frag) (a : Addr) : It :=
  ⟨fun i H => ∃ (xs : List V) (x : V), SqT K H a xs ∧ xs[i]? = some x, fun i H v H' => ∃ T x, v = .ref T ∧ H T = none ∧ H' = upd H T (.tup [.int (i : Nat), x]) ∧ ∀ xs, SqT K H a xs → xs[i]? = some x, fun i H => ∃ xs : List V, SqT K H a xs ∧ xs.length ≤ i⟩
theorem turn_enumT {P : Program} {w : World} {K : PySem.W.Frag} {elts : List Expr} {kk : Nat} {tpos : Pos} (a e it : Addr) :
    Turn P w K (.Tuple elts kk tpos) (IteT K a) [e, it] e (fun i h => (∃ old, IsEnum h e it ((i : Nat) : Int) old) ∧ h.IsTupleIter it a i ∧ e ≠ it) where
  mem := by simp
  obj := fun i h st b hb => by
    obtain ⟨⟨old, he⟩, ⟨o, ho, hc, hd⟩, _⟩ := st
    have e' : b = e ∨ b = it := by simpa using hb
    rcases e' with z | z
    · rw [z]; exact ⟨_, he, fun v q => nomatch q⟩
    · rw [z]; exact ⟨o, ho, fun v q => by rw [hd] at q; cases q⟩
  keep := fun i h h' st k => let ⟨⟨old, he⟩, hi, hne⟩ := st; ⟨⟨old, k e (by simp) _ he⟩, hi.at fun o q => k it (by simp) o q, hne⟩
  item := by
    intro X hP hw hK hc i pins s σ H E I hf st hg
    subst hP hw hK
    obtain ⟨⟨old, he⟩, hit, hne⟩ := st
    obtain ⟨xs, x, hq, hx⟩ := hg
    obtain ⟨its, rv, p, hz⟩ := I.tuple hq
    obtain ⟨u, hu, ru⟩ := rv.get hx
    have hel : e < s.heap.objs.size := Heap.lt_size he
    have hil : it < s.heap.objs.size := by obtain ⟨_, q, _⟩ := hit; exact Heap.lt_size q
    have pt : s.heap.IsTuple a its.toArray := p
    have hai : a ≠ it := fun z => by
      obtain ⟨o1, h1, c1, _⟩ := pt
      obtain ⟨o2, h2, c2, _⟩ := hit
      rw [z, h2] at h1; cases h1
      rw [c1] at c2
      have c3 : ("tuple" : String) = "tuple_iterator" := Value.type.inj c2
      exact absurd c3 (by decide)
    have hea : e ≠ a := fun z => by
      obtain ⟨o1, h1, c1, _⟩ := pt
      have he' : s.heap.get? e = _ := he
      rw [z, h1] at he'; cases he'
      have c3 : ("enumerate" : String) = "tuple" := Value.type.inj c1
      exact absurd c3 (by decide)
    have hlt : i < its.toArray.size := by
      have := (List.getElem?_eq_some_iff.mp hu).1
      simpa using this
    refine wpAny_pyNext_enum_itemD (Draws.tuple (prog := X.prog) (w := X.w) (A := X.A.in1) (I.ok.hd hc) it a hai its.toArray) he ⟨hit, pt⟩ hlt hne (by simp [hne, hea]) fun y h' tk hy ho st' hT hsz hk => ?_
    obtain rfl : y = u := by
      have hy' : its.toArray[i]? = some y := hy
      have hu' : its.toArray[i]? = some u := by simpa using hu
      rw [hu'] at hy'; cases hy'; rfl
    refine ⟨_, rfl, wpAny_letOwnedTupleGo_enum (s := { s with heap := h', toks := tk + 1 }) ho fun h'' he' sb => ?_⟩
    have hT2 : h''.get? s.heap.objs.size = some { cls := .type "tuple", data := .seq #[.int i tk, y] } := (sb.2 _ (Nat.ne_of_gt hel)).trans hT
    have new : ObjOk X.prog X.w (upd H s.heap.objs.size (.tup [.int (i : Nat), x])) h'' s.heap.objs.size (.tup [.int (i : Nat), x]) :=
      ⟨by show 2 ≤ sizeLine; decide, [.int i tk, y], .cons ⟨_, rfl⟩ (.cons ru .nil), ⟨_, hT2, rfl, _, rfl⟩⟩
    have I1 : Inv X pins σ (upd H s.heap.objs.size (.tup [.int (i : Nat), x])) { s with heap := h'', toks := tk + 1 } :=
      I.turnedNew (ch := [e, it]) (fun b ob hb q => (sb.2 b (fun z => hb (by simp [z]))).trans (hk b ob (fun z => hb (by simp [z])) (fun z => hb (by simp [z])) q)) hf (Nat.le_refl _) new
    refine ⟨.ref s.heap.objs.size, _, I1, rfl, ⟨_, x, rfl, I.hok.fresh (Nat.le_refl _), rfl, fun ys hy => by rw [I.tuple_inj hy hq]; exact hx⟩, ⟨⟨y, ?_⟩, st'.1.at fun o q => (sb.2 it (Ne.symm hne)).trans q, hne⟩, fun b hb => ?_⟩
    · have e1 : ((i + 1 : Nat) : Int) = (i : Int) + 1 := by omega
      rw [e1]; exact he'
    · have hb' : b < s.heap.objs.size := by
        have e' : b = e ∨ b = it := by simpa using hb
        rcases e' with z | z
        · rw [z]; exact hel
        · rw [z]; exact hil
      rw [upd_ne (Nat.ne_of_lt hb')]
      exact (hf b hb).1
  done := by
    intro X hP hw hK hc i pins s σ H E I hf st hg
    subst hP hw hK
    obtain ⟨⟨old, he⟩, hit, hne⟩ := st
    obtain ⟨xs, hq, hx⟩ := hg
    obtain ⟨its, rv, p, hz⟩ := I.tuple hq
    obtain ⟨f0, f1, f2, f3, f4, f5⟩ := hf it (by simp)
    have hl := rv.length
    have pt : s.heap.IsTuple a its.toArray := p
    have hT : s.TypeIs (.ref e) "enumerate" := ⟨_, he, rfl⟩
    unfold pyNext
    refine wpAny_bind (wpAny_attempt (wpAny_callSpecial?_slot (name := Str.ofString "__next__") hT F.slot_enumerate_next
      (wpAny_call_entry F.slot_enumerate_next hT F.entry_enumerate_next ?_ (F.args_enumerate_next_1 _))))
    show wpAny _ _ (field (.ref e) 2 >>= _) _ _ _
    refine wpAny_bind (wpAny_field he rfl (x := .ref it) rfl ?_)
    refine wpAny_bind (wpAny_nextOf_tuple_end (I.ok.hd hc) hit pt (by simp; omega) fun h' x he' hx' => ?_)
    obtain ⟨o, ho, hcl⟩ := hx'
    refine wpAny_bind (wpAny_isInstance (T := "StopIteration") (b := true) ⟨o, ho, hcl⟩ isSubtype_stop ?_)
    exact wpAny_pure ⟨rfl, I.turned (t' := s.toks) (fun b o hb e => he' b o hb e) f0 f1 f3 f4 f5⟩
  self := fun A i s Q E st h => let ⟨⟨_, he⟩, _⟩ := st; wpAny_pyIter_enum he h
/-- enumerate(xs), xs a list or a tuple -/
def iEnumA (K : PySem.W.Frag) (ta : TA) : TI := fun σ H R => ta σ H fun vs H1 => ∃ a xs, vs = [.ref a] ∧ ((SqL K H1 a xs ∧ R (Ite K a) H1) ∨ (SqT K H1 a xs ∧ R (IteT K a) H1))
theorem pi_enumA {X : Cx} {e : Expr} {ta : TA} {p pos tpos : Pos} {elts : List Expr} {kk : Nat} (hg : Gl X "enumerate") (hm : X.mg "enumerate" = none) (ha : PA X [e] ta) (hs : starEach [e] X.env = [(false, eval e X.env)] := by rfl) :
    PI X (.Tuple elts kk tpos) (.Call (.Name "enumerate" p) [e] [] pos) (iEnumA X.K ta) := by
  refine ⟨fun pins s σ H R I h => ?_⟩
  refine Call_ (ld_blt I hg hm boot_enumerate (PyProof.Rows.callWith_type1 (thn (ha.run pos pins s σ H _ I h) fun us s1 ⟨vs, H1, I1, r1, q1⟩ => ?_) hs rfl))
  obtain ⟨a, xs, ex, q⟩ := q1
  subst ex
  cases r1 with
  | cons r rr =>
    cases rr
    cases r
    have fpk : ∀ b, b ∈ [s1.heap.objs.size + 1, s1.heap.objs.size] → s1.heap.objs.size ≤ b := fun b hb => by
      have e' : b = s1.heap.objs.size + 1 ∨ b = s1.heap.objs.size := by simpa using hb
      rcases e' with z | z
      · rw [z]; exact Nat.le_add_right _ _
      · rw [z]; exact Nat.le_refl _
    rcases q with ⟨hq, q⟩ | ⟨hq, q⟩
    · obtain ⟨its, rv, p', hz⟩ := I1.list hq
      refine call_enumerate_list p'.isList fun h' he hit hsz hk => wpAny_pyIter_enum he ?_
      have I2 : Inv X pins σ H1 { s1 with heap := h' } := I1.kept (t' := s1.toks) hk
      exact ⟨s1.heap.objs.size + 1, [s1.heap.objs.size + 1, s1.heap.objs.size], _, _, H1, rfl, I2, turn_enum a (s1.heap.objs.size + 1) s1.heap.objs.size, ⟨⟨.none, he⟩, hit, Nat.succ_ne_self _⟩, fun b hb => I1.fpOk (fpk b hb) (I1.hok.fresh (fpk b hb)), q⟩
    · obtain ⟨its, rv, p', hz⟩ := I1.tuple hq
      refine call_enumT (show s1.heap.IsTuple a its.toArray from p') fun h' he hit hsz hk => wpAny_pyIter_enum he ?_
      have I2 : Inv X pins σ H1 { s1 with heap := h' } := I1.kept (t' := s1.toks) hk
      exact ⟨s1.heap.objs.size + 1, [s1.heap.objs.size + 1, s1.heap.objs.size], _, _, H1, rfl, I2, turn_enumT a (s1.heap.objs.size + 1) s1.heap.objs.size, ⟨⟨.none, he⟩, hit, Nat.succ_ne_self _⟩, fun b hb => I1.fpOk (fpk b hb) (I1.hok.fresh (fpk b hb)), q⟩
theorem walk_enumT {K : PySem.W.Frag} {a : Addr} {xs : List V} : Walk (IteT K a) xs.length (fun H => SqT K H a xs) (YPair (fun i => some (.int (i : Nat))) (fun i => xs[i]?)) := by
  refine ⟨fun i _ hi q => ⟨xs, xs[i], q, by simp [hi]⟩, fun _ q => ⟨xs, q, Nat.le_refl _⟩, fun i H v H' _ q y => ?_⟩
  obtain ⟨T, x, h1, h2, h3, h4⟩ := y
  exact ⟨T, .int (i : Nat), x, h1, h2, h3, rfl, h4 xs q⟩
end Pn
/-! #### Sc -/
namespace Pn
open PySem PySem.Spec PyProof.Rows L2
def top (i : Nat) : Stmt := PySem.Challenge.pw_pastnotes_k58_whole_fewest_notes.main.body.getD i (.Pass ⟨0, 0, 0, 0⟩)
abbrev s_is_integer : Stmt := top 18
abbrev p_is_integer : List Str := ["thing"]
abbrev n_is_integer : List Str := ["thing"]
theorem sc_is_integer : FnScope n_is_integer p_is_integer (defScope s_is_integer) := ⟨rfl, rfl, rfl, by decide +kernel, rfl, by decide +kernel, by decide +kernel⟩
abbrev s_is_name : Stmt := top 19
abbrev p_is_name : List Str := ["thing"]
abbrev n_is_name : List Str := ["thing", "letter"]
theorem sc_is_name : FnScope n_is_name p_is_name (defScope s_is_name) := ⟨rfl, rfl, rfl, by decide +kernel, rfl, by decide +kernel, by decide +kernel⟩
abbrev s_is_between : Stmt := top 20
abbrev p_is_between : List Str := ["thing", "low", "high"]
abbrev n_is_between : List Str := ["thing", "low", "high"]
theorem sc_is_between : FnScope n_is_between p_is_between (defScope s_is_between) := ⟨rfl, rfl, rfl, by decide +kernel, rfl, by decide +kernel, by decide +kernel⟩
abbrev s_check_name : Stmt := top 21
abbrev p_check_name : List Str := ["thing"]
abbrev n_check_name : List Str := ["thing"]
theorem sc_check_name : FnScope n_check_name p_check_name (defScope s_check_name) := ⟨rfl, rfl, rfl, by decide +kernel, rfl, by decide +kernel, by decide +kernel⟩
abbrev s_check_once : Stmt := top 22
abbrev p_check_once : List Str := ["names"]
abbrev n_check_once : List Str := ["names", "index", "name"]
theorem sc_check_once : FnScope n_check_once p_check_once (defScope s_check_once) := ⟨rfl, rfl, rfl, by decide +kernel, rfl, by decide +kernel, by decide +kernel⟩
abbrev s_check_names : Stmt := top 23
abbrev p_check_names : List Str := ["things", "most"]
abbrev n_check_names : List Str := ["things", "most", "thing"]
theorem sc_check_names : FnScope n_check_names p_check_names (defScope s_check_names) := ⟨rfl, rfl, rfl, by decide +kernel, rfl, by decide +kernel, by decide +kernel⟩
abbrev s_Note_init : Stmt := inClass (top 26) 0
abbrev p_Note_init : List Str := ["self", "old", "new", "named", "changed"]
abbrev n_Note_init : List Str := ["self", "old", "new", "named", "changed"]
theorem sc_Note_init : FnScope n_Note_init p_Note_init (defScope s_Note_init) := ⟨rfl, rfl, rfl, by decide +kernel, rfl, by decide +kernel, by decide +kernel⟩
abbrev s_check_note : Stmt := top 31
abbrev p_check_note : List Str := ["note"]
abbrev n_check_note : List Str := ["note"]
theorem sc_check_note : FnScope n_check_note p_check_note (defScope s_check_note) := ⟨rfl, rfl, rfl, by decide +kernel, rfl, by decide +kernel, by decide +kernel⟩
abbrev s_Deed_init : Stmt := inClass (top 32) 1
abbrev p_Deed_init : List Str := ["self", "name", "moves", "columns", "note"]
abbrev n_Deed_init : List Str := ["self", "name", "moves", "columns", "note"]
theorem sc_Deed_init : FnScope n_Deed_init p_Deed_init (defScope s_Deed_init) := ⟨rfl, rfl, rfl, by decide +kernel, rfl, by decide +kernel, by decide +kernel⟩
abbrev s_Deed_allowed : Stmt := inClass (top 32) 4
abbrev p_Deed_allowed : List Str := ["self", "state"]
abbrev n_Deed_allowed : List Str := ["self", "state", "move"]
theorem sc_Deed_allowed : FnScope n_Deed_allowed p_Deed_allowed (defScope s_Deed_allowed) := ⟨rfl, rfl, rfl, by decide +kernel, rfl, by decide +kernel, by decide +kernel⟩
abbrev s_Deed_after : Stmt := inClass (top 32) 5
abbrev p_Deed_after : List Str := ["self", "state"]
abbrev n_Deed_after : List Str := ["self", "state", "one", "two"]
theorem sc_Deed_after : FnScope n_Deed_after p_Deed_after (defScope s_Deed_after) := ⟨rfl, rfl, rfl, by decide +kernel, rfl, by decide +kernel, by decide +kernel⟩
abbrev s_Make_init : Stmt := inClass (top 33) 1
abbrev p_Make_init : List Str := ["self", "name", "state", "note"]
abbrev n_Make_init : List Str := ["self", "name", "state", "note"]
theorem sc_Make_init : FnScopeX n_Make_init p_Make_init (defScope s_Make_init) := ⟨rfl, rfl, rfl, by decide +kernel, rfl, by decide +kernel, by decide +kernel, by decide +kernel⟩
abbrev s_Change_init : Stmt := inClass (top 34) 1
abbrev p_Change_init : List Str := ["self", "name", "columns", "note", "moves"]
abbrev n_Change_init : List Str := ["self", "name", "columns", "note", "moves", "move"]
theorem sc_Change_init : FnScopeX n_Change_init p_Change_init (defScope s_Change_init) := ⟨rfl, rfl, rfl, by decide +kernel, rfl, by decide +kernel, by decide +kernel, by decide +kernel⟩
abbrev s_Change_of : Stmt := inClass (top 34) 2
abbrev p_Change_of : List Str := ["cls", "name", "moves", "columns", "note"]
abbrev n_Change_of : List Str := ["cls", "name", "moves", "columns", "note"]
theorem sc_Change_of : FnScope n_Change_of p_Change_of (defScope s_Change_of) := ⟨rfl, rfl, rfl, by decide +kernel, rfl, by decide +kernel, by decide +kernel⟩
abbrev s_End_init : Stmt := inClass (top 35) 1
abbrev p_End_init : List Str := ["self", "name", "note", "states"]
abbrev n_End_init : List Str := ["self", "name", "note", "states", "state"]
theorem sc_End_init : FnScopeX n_End_init p_End_init (defScope s_End_init) := ⟨rfl, rfl, rfl, by decide +kernel, rfl, by decide +kernel, by decide +kernel, by decide +kernel⟩
abbrev s_End_of : Stmt := inClass (top 35) 2
abbrev p_End_of : List Str := ["cls", "name", "states", "note"]
abbrev n_End_of : List Str := ["cls", "name", "states", "note"]
theorem sc_End_of : FnScope n_End_of p_End_of (defScope s_End_of) := ⟨rfl, rfl, rfl, by decide +kernel, rfl, by decide +kernel, by decide +kernel⟩
abbrev s_check_column : Stmt := top 37
abbrev p_check_column : List Str := ["book", "thing"]
abbrev n_check_column : List Str := ["book", "thing"]
theorem sc_check_column : FnScope n_check_column p_check_column (defScope s_check_column) := ⟨rfl, rfl, rfl, by decide +kernel, rfl, by decide +kernel, by decide +kernel⟩
abbrev s_reached : Stmt := top 39
abbrev p_reached : List Str := ["states", "deeds"]
abbrev n_reached : List Str := ["states", "deeds", "found", "at", "deed", "state"]
theorem sc_reached : FnScope n_reached p_reached (defScope s_reached) := ⟨rfl, rfl, rfl, by decide +kernel, rfl, by decide +kernel, by decide +kernel⟩
abbrev s_is_closing : Stmt := top 40
abbrev p_is_closing : List Str := ["book", "deed", "column"]
abbrev n_is_closing : List Str := ["book", "deed", "column"]
theorem sc_is_closing : FnScope n_is_closing p_is_closing (defScope s_is_closing) := ⟨rfl, rfl, rfl, by decide +kernel, rfl, by decide +kernel, by decide +kernel⟩
abbrev s_closing_after : Stmt := top 41
abbrev p_closing_after : List Str := ["book", "column", "states"]
abbrev n_closing_after : List Str := ["book", "column", "states", "passing", "deed", "open_states", "found", "state"]
theorem sc_closing_after : FnScope n_closing_after p_closing_after (defScope s_closing_after) := ⟨rfl, rfl, rfl, by decide +kernel, rfl, by decide +kernel, by decide +kernel⟩
abbrev s_all_successions : Stmt := top 42
abbrev p_all_successions : List Str := ["book", "column"]
abbrev n_all_successions : List Str := ["book", "column", "deeds", "states", "found", "deed", "behind", "state", "name"]
theorem sc_all_successions : FnScope n_all_successions p_all_successions (defScope s_all_successions) := ⟨rfl, rfl, rfl, by decide +kernel, rfl, by decide +kernel, by decide +kernel⟩
abbrev s_check_price : Stmt := top 45
abbrev p_check_price : List Str := ["thing"]
abbrev n_check_price : List Str := ["thing"]
theorem sc_check_price : FnScope n_check_price p_check_price (defScope s_check_price) := ⟨rfl, rfl, rfl, by decide +kernel, rfl, by decide +kernel, by decide +kernel⟩
abbrev s_check_side : Stmt := top 46
abbrev p_check_side : List Str := ["side", "deed"]
abbrev n_check_side : List Str := ["side", "deed"]
theorem sc_check_side : FnScope n_check_side p_check_side (defScope s_check_side) := ⟨rfl, rfl, rfl, by decide +kernel, rfl, by decide +kernel, by decide +kernel⟩
abbrev s_Prices_init : Stmt := inClass (top 47) 0
abbrev p_Prices_init : List Str := ["self", "default"]
abbrev n_Prices_init : List Str := ["self", "default"]
theorem sc_Prices_init : FnScope n_Prices_init p_Prices_init (defScope s_Prices_init) := ⟨rfl, rfl, rfl, by decide +kernel, rfl, by decide +kernel, by decide +kernel⟩
abbrev s_Prices_getitem : Stmt := inClass (top 47) 1
abbrev p_Prices_getitem : List Str := ["self", "at"]
abbrev n_Prices_getitem : List Str := ["self", "at", "side", "deed"]
theorem sc_Prices_getitem : FnScope n_Prices_getitem p_Prices_getitem (defScope s_Prices_getitem) := ⟨rfl, rfl, rfl, by decide +kernel, rfl, by decide +kernel, by decide +kernel⟩
abbrev s_Prices_setitem : Stmt := inClass (top 47) 2
abbrev p_Prices_setitem : List Str := ["self", "at", "price"]
abbrev n_Prices_setitem : List Str := ["self", "at", "price", "side", "deed"]
theorem sc_Prices_setitem : FnScope n_Prices_setitem p_Prices_setitem (defScope s_Prices_setitem) := ⟨rfl, rfl, rfl, by decide +kernel, rfl, by decide +kernel, by decide +kernel⟩
abbrev s_Prices_total : Stmt := inClass (top 47) 4
abbrev p_Prices_total : List Str := ["self", "sides"]
abbrev n_Prices_total : List Str := ["self", "sides", "side", "deed"]
theorem sc_Prices_total : FnScope n_Prices_total p_Prices_total (defScope s_Prices_total) := ⟨rfl, rfl, rfl, by decide +kernel, rfl, by decide +kernel, by decide +kernel⟩
abbrev s_sides_of : Stmt := top 48
abbrev p_sides_of : List Str := ["book", "column"]
abbrev n_sides_of : List Str := ["book", "column", "found", "deed"]
theorem sc_sides_of : FnScope n_sides_of p_sides_of (defScope s_sides_of) := ⟨rfl, rfl, rfl, by decide +kernel, rfl, by decide +kernel, by decide +kernel⟩
abbrev s_ends_of : Stmt := top 49
abbrev p_ends_of : List Str := ["pair"]
abbrev n_ends_of : List Str := ["pair"]
theorem sc_ends_of : FnScope n_ends_of p_ends_of (defScope s_ends_of) := ⟨rfl, rfl, rfl, by decide +kernel, rfl, by decide +kernel, by decide +kernel⟩
abbrev s_Cover_init : Stmt := inClass (top 50) 0
abbrev p_Cover_init : List Str := ["self", "column", "price", "sides", "packing"]
abbrev n_Cover_init : List Str := ["self", "column", "price", "sides", "packing"]
theorem sc_Cover_init : FnScope n_Cover_init p_Cover_init (defScope s_Cover_init) := ⟨rfl, rfl, rfl, by decide +kernel, rfl, by decide +kernel, by decide +kernel⟩
abbrev s_Flow_init : Stmt := inClass (top 51) 0
abbrev p_Flow_init : List Str := ["self", "pairs", "prices"]
abbrev n_Flow_init : List Str := ["self", "pairs", "prices", "pair", "end"]
theorem sc_Flow_init : FnScope n_Flow_init p_Flow_init (defScope s_Flow_init) := ⟨rfl, rfl, rfl, by decide +kernel, rfl, by decide +kernel, by decide +kernel⟩
abbrev s_Flow_trails : Stmt := inClass (top 51) 1
abbrev p_Flow_trails : List Str := ["self"]
abbrev n_Flow_trails : List Str := ["self", "found", "waiting", "end", "at", "pair", "new", "old", "there", "is_way"]
theorem sc_Flow_trails : FnScope n_Flow_trails p_Flow_trails (defScope s_Flow_trails) := ⟨rfl, rfl, rfl, by decide +kernel, rfl, by decide +kernel, by decide +kernel⟩
abbrev s_Flow_grow : Stmt := inClass (top 51) 2
abbrev p_Flow_grow : List Str := ["self", "found", "last"]
abbrev n_Flow_grow : List Str := ["self", "found", "last", "way", "end", "pair", "new", "old", "more", "sign"]
theorem sc_Flow_grow : FnScope n_Flow_grow p_Flow_grow (defScope s_Flow_grow) := ⟨rfl, rfl, rfl, by decide +kernel, rfl, by decide +kernel, by decide +kernel⟩
abbrev s_Flow_finish : Stmt := inClass (top 51) 3
abbrev p_Flow_finish : List Str := ["self"]
abbrev n_Flow_finish : List Str := ["self", "found", "free", "end"]
theorem sc_Flow_finish : FnScope n_Flow_finish p_Flow_finish (defScope s_Flow_finish) := ⟨rfl, rfl, rfl, by decide +kernel, rfl, by decide +kernel, by decide +kernel⟩
abbrev s_fewest : Stmt := top 52
abbrev p_fewest : List Str := ["book", "column", "prices"]
abbrev n_fewest : List Str := ["book", "column", "prices", "worths", "flow", "sides", "packing", "pair"]
theorem sc_fewest : FnScope n_fewest p_fewest (defScope s_fewest) := ⟨rfl, rfl, rfl, by decide +kernel, rfl, by decide +kernel, by decide +kernel⟩
abbrev s_is_cover : Stmt := top 53
abbrev p_is_cover : List Str := ["book", "column", "sides"]
abbrev n_is_cover : List Str := ["book", "column", "sides", "known", "rows", "at", "side", "end", "pair"]
theorem sc_is_cover : FnScope n_is_cover p_is_cover (defScope s_is_cover) := ⟨rfl, rfl, rfl, by decide +kernel, rfl, by decide +kernel, by decide +kernel⟩
abbrev s_is_packing : Stmt := top 54
abbrev p_is_packing : List Str := ["book", "column", "packing", "prices"]
abbrev n_is_packing : List Str := ["book", "column", "packing", "prices", "worths", "pairs", "loads", "side", "seen", "part", "end"]
theorem sc_is_packing : FnScope n_is_packing p_is_packing (defScope s_is_packing) := ⟨rfl, rfl, rfl, by decide +kernel, rfl, by decide +kernel, by decide +kernel⟩
abbrev s_check_columns : Stmt := top 59
abbrev p_check_columns : List Str := ["columns"]
abbrev n_check_columns : List Str := ["columns", "column"]
theorem sc_check_columns : FnScope n_check_columns p_check_columns (defScope s_check_columns) := ⟨rfl, rfl, rfl, by decide +kernel, rfl, by decide +kernel, by decide +kernel⟩
abbrev s_check_words : Stmt := top 60
abbrev p_check_words : List Str := ["deed", "columns"]
abbrev n_check_words : List Str := ["deed", "columns", "column", "words", "word"]
theorem sc_check_words : FnScope n_check_words p_check_words (defScope s_check_words) := ⟨rfl, rfl, rfl, by decide +kernel, rfl, by decide +kernel, by decide +kernel⟩
abbrev s_Book_init : Stmt := inClass (top 61) 0
abbrev p_Book_init : List Str := ["self", "columns", "keep", "deeds"]
abbrev n_Book_init : List Str := ["self", "columns", "keep", "deeds", "deed", "found", "move", "state"]
theorem sc_Book_init : FnScope n_Book_init p_Book_init (defScope s_Book_init) := ⟨rfl, rfl, rfl, by decide +kernel, rfl, by decide +kernel, by decide +kernel⟩
abbrev s_Book_of : Stmt := inClass (top 61) 1
abbrev p_Book_of : List Str := ["cls", "columns", "deeds", "keep"]
abbrev n_Book_of : List Str := ["cls", "columns", "deeds", "keep"]
theorem sc_Book_of : FnScope n_Book_of p_Book_of (defScope s_Book_of) := ⟨rfl, rfl, rfl, by decide +kernel, rfl, by decide +kernel, by decide +kernel⟩
abbrev s_Book_len : Stmt := inClass (top 61) 3
abbrev p_Book_len : List Str := ["self"]
abbrev n_Book_len : List Str := ["self"]
theorem sc_Book_len : FnScope n_Book_len p_Book_len (defScope s_Book_len) := ⟨rfl, rfl, rfl, by decide +kernel, rfl, by decide +kernel, by decide +kernel⟩
abbrev s_Book_iter : Stmt := inClass (top 61) 4
abbrev p_Book_iter : List Str := ["self"]
abbrev n_Book_iter : List Str := ["self"]
theorem sc_Book_iter : FnScope n_Book_iter p_Book_iter (defScope s_Book_iter) := ⟨rfl, rfl, rfl, by decide +kernel, rfl, by decide +kernel, by decide +kernel⟩
abbrev s_Book_getitem : Stmt := inClass (top 61) 6
abbrev p_Book_getitem : List Str := ["self", "thing"]
abbrev n_Book_getitem : List Str := ["self", "thing", "deed"]
theorem sc_Book_getitem : FnScope n_Book_getitem p_Book_getitem (defScope s_Book_getitem) := ⟨rfl, rfl, rfl, by decide +kernel, rfl, by decide +kernel, by decide +kernel⟩
abbrev s_Book_writes : Stmt := inClass (top 61) 7
abbrev p_Book_writes : List Str := ["self", "name"]
abbrev n_Book_writes : List Str := ["self", "name", "deed"]
theorem sc_Book_writes : FnScope n_Book_writes p_Book_writes (defScope s_Book_writes) := ⟨rfl, rfl, rfl, by decide +kernel, rfl, by decide +kernel, by decide +kernel⟩
abbrev s_law_bag : Stmt := top 63
abbrev p_law_bag : List Str := ["_law_script", "_law_at"]
abbrev n_law_bag : List Str := ["_law_script", "_law_at", "_law_cell", "_law_blend", "_law_k", "_law_each"]
theorem sc_law_bag : FnScope n_law_bag p_law_bag (defScope s_law_bag) := ⟨rfl, rfl, rfl, by decide +kernel, rfl, by decide +kernel, by decide +kernel⟩
abbrev s_law_take : Stmt := top 64
abbrev p_law_take : List Str := ["_law_bag_here", "_law_many"]
abbrev n_law_take : List Str := ["_law_bag_here", "_law_many", "_law_digit"]
theorem sc_law_take : FnScope n_law_take p_law_take (defScope s_law_take) := ⟨rfl, rfl, rfl, by decide +kernel, rfl, by decide +kernel, by decide +kernel⟩
abbrev s_law_of : Stmt := top 65
abbrev p_law_of : List Str := ["_law_bag_here", "_law_some"]
abbrev n_law_of : List Str := ["_law_bag_here", "_law_some"]
theorem sc_law_of : FnScope n_law_of p_law_of (defScope s_law_of) := ⟨rfl, rfl, rfl, by decide +kernel, rfl, by decide +kernel, by decide +kernel⟩
abbrev s_law_few : Stmt := top 66
abbrev p_law_few : List Str := ["_law_script", "_law_many"]
abbrev n_law_few : List Str := ["_law_script", "_law_many"]
theorem sc_law_few : FnScope n_law_few p_law_few (defScope s_law_few) := ⟨rfl, rfl, rfl, by decide +kernel, rfl, by decide +kernel, by decide +kernel⟩
abbrev s_law_names : Stmt := top 67
abbrev p_law_names : List Str := ["_law_bag_here", "_law_many", "_law_banned"]
abbrev n_law_names : List Str := ["_law_bag_here", "_law_many", "_law_banned", "_law_letters", "_law_found", "_law_turn", "_law_name", "_law_k", "_law_letter"]
theorem sc_law_names : FnScope n_law_names p_law_names (defScope s_law_names) := ⟨rfl, rfl, rfl, by decide +kernel, rfl, by decide +kernel, by decide +kernel⟩
abbrev s_law_note : Stmt := top 69
abbrev p_law_note : List Str := ["_law_bag_here", "_law_words"]
abbrev n_law_note : List Str := ["_law_bag_here", "_law_words", "_law_olds", "_law_word", "_law_news"]
theorem sc_law_note : FnScope n_law_note p_law_note (defScope s_law_note) := ⟨rfl, rfl, rfl, by decide +kernel, rfl, by decide +kernel, by decide +kernel⟩
abbrev s_law_deed : Stmt := top 70
abbrev p_law_deed : List Str := ["_law_bag_here", "_law_kind", "_law_name", "_law_all_words", "_law_states"]
abbrev n_law_deed : List Str := ["_law_bag_here", "_law_kind", "_law_name", "_law_all_words", "_law_states", "_law_moves", "_law_own", "_law_state_here", "_law_column", "_law_words"]
theorem sc_law_deed : FnScope n_law_deed p_law_deed (defScope s_law_deed) := ⟨rfl, rfl, rfl, by decide +kernel, rfl, by decide +kernel, by decide +kernel⟩
abbrev s_law_data : Stmt := top 71
abbrev p_law_data : List Str := ["_law_bag_here", "_law_many", "_law_states", "_law_deeds"]
abbrev n_law_data : List Str := ["_law_bag_here", "_law_many", "_law_states", "_law_deeds", "_law_words", "_law_marks", "_law_found", "_law_k", "_law_name", "_law_kind"]
theorem sc_law_data : FnScope n_law_data p_law_data (defScope s_law_data) := ⟨rfl, rfl, rfl, by decide +kernel, rfl, by decide +kernel, by decide +kernel⟩
abbrev s_law_note_of : Stmt := top 72
abbrev p_law_note_of : List Str := ["_law_row_here"]
abbrev n_law_note_of : List Str := ["_law_row_here"]
theorem sc_law_note_of : FnScope n_law_note_of p_law_note_of (defScope s_law_note_of) := ⟨rfl, rfl, rfl, by decide +kernel, rfl, by decide +kernel, by decide +kernel⟩
abbrev s_law_deed_of : Stmt := top 73
abbrev p_law_deed_of : List Str := ["_law_row_here"]
abbrev n_law_deed_of : List Str := ["_law_row_here", "_law_kind", "_law_name", "_law_moves", "_law_own", "_law_told", "_law_move"]
theorem sc_law_deed_of : FnScope n_law_deed_of p_law_deed_of (defScope s_law_deed_of) := ⟨rfl, rfl, rfl, by decide +kernel, rfl, by decide +kernel, by decide +kernel⟩
abbrev s_law_book : Stmt := top 74
abbrev p_law_book : List Str := ["_law_data_here"]
abbrev n_law_book : List Str := ["_law_data_here", "_law_row_here"]
theorem sc_law_book : FnScope n_law_book p_law_book (defScope s_law_book) := ⟨rfl, rfl, rfl, by decide +kernel, rfl, by decide +kernel, by decide +kernel⟩
abbrev s_law_columns : Stmt := top 77
abbrev p_law_columns : List Str := ["_law_data_here", "_law_deed_here"]
abbrev n_law_columns : List Str := ["_law_data_here", "_law_deed_here"]
theorem sc_law_columns : FnScope n_law_columns p_law_columns (defScope s_law_columns) := ⟨rfl, rfl, rfl, by decide +kernel, rfl, by decide +kernel, by decide +kernel⟩
abbrev s_law_reached : Stmt := top 81
abbrev p_law_reached : List Str := ["_law_data_here", "_law_starts", "_law_is_any", "_law_column"]
abbrev n_law_reached : List Str := ["_law_data_here", "_law_starts", "_law_is_any", "_law_column", "_law_found", "_law_turn", "_law_deed_here", "_law_one", "_law_two"]
theorem sc_law_reached : FnScope n_law_reached p_law_reached (defScope s_law_reached) := ⟨rfl, rfl, rfl, by decide +kernel, rfl, by decide +kernel, by decide +kernel⟩
abbrev s_law_successions : Stmt := top 82
abbrev p_law_successions : List Str := ["_law_data_here", "_law_column"]
abbrev n_law_successions : List Str := ["_law_data_here", "_law_column", "_law_states", "_law_found", "_law_deed_here", "_law_behind", "_law_one", "_law_two", "_law_around", "_law_other", "_law_is_next", "_law_move"]
theorem sc_law_successions : FnScope n_law_successions p_law_successions (defScope s_law_successions) := ⟨rfl, rfl, rfl, by decide +kernel, rfl, by decide +kernel, by decide +kernel⟩
abbrev s_law_sides : Stmt := top 83
abbrev p_law_sides : List Str := ["_law_data_here", "_law_column"]
abbrev n_law_sides : List Str := ["_law_data_here", "_law_column", "_law_found", "_law_deed_here"]
theorem sc_law_sides : FnScope n_law_sides p_law_sides (defScope s_law_sides) := ⟨rfl, rfl, rfl, by decide +kernel, rfl, by decide +kernel, by decide +kernel⟩
abbrev s_law_both : Stmt := top 84
abbrev p_law_both : List Str := ["_law_pair"]
abbrev n_law_both : List Str := ["_law_pair"]
theorem sc_law_both : FnScope n_law_both p_law_both (defScope s_law_both) := ⟨rfl, rfl, rfl, by decide +kernel, rfl, by decide +kernel, by decide +kernel⟩
abbrev s_law_tells : Stmt := top 85
abbrev p_law_tells : List Str := ["_law_pairs_here", "_law_sides_here"]
abbrev n_law_tells : List Str := ["_law_pairs_here", "_law_sides_here", "_law_side", "_law_pair"]
theorem sc_law_tells : FnScope n_law_tells p_law_tells (defScope s_law_tells) := ⟨rfl, rfl, rfl, by decide +kernel, rfl, by decide +kernel, by decide +kernel⟩
abbrev s_law_price : Stmt := top 86
abbrev p_law_price : List Str := ["_law_bag_here"]
abbrev n_law_price : List Str := ["_law_bag_here"]
theorem sc_law_price : FnScope n_law_price p_law_price (defScope s_law_price) := ⟨rfl, rfl, rfl, by decide +kernel, rfl, by decide +kernel, by decide +kernel⟩
abbrev s_law_priced : Stmt := top 87
abbrev p_law_priced : List Str := ["_law_bag_here", "_law_data_here", "_law_column"]
abbrev n_law_priced : List Str := ["_law_bag_here", "_law_data_here", "_law_column", "_law_usual", "_law_due", "_law_costs", "_law_side", "_law_name"]
theorem sc_law_priced : FnScope n_law_priced p_law_priced (defScope s_law_priced) := ⟨rfl, rfl, rfl, by decide +kernel, rfl, by decide +kernel, by decide +kernel⟩
abbrev s_law_loads : Stmt := top 88
abbrev p_law_loads : List Str := ["_law_packing"]
abbrev n_law_loads : List Str := ["_law_packing", "_law_loads_here", "_law_pair", "_law_number", "_law_side"]
theorem sc_law_loads : FnScope n_law_loads p_law_loads (defScope s_law_loads) := ⟨rfl, rfl, rfl, by decide +kernel, rfl, by decide +kernel, by decide +kernel⟩
abbrev s_law_is_cover : Stmt := top 89
abbrev p_law_is_cover : List Str := ["_law_told", "_law_data_here", "_law_column", "_law_pairs_here", "_law_due"]
abbrev n_law_is_cover : List Str := ["_law_told", "_law_data_here", "_law_column", "_law_pairs_here", "_law_due", "_law_sides_here", "_law_known", "_law_side"]
theorem sc_law_is_cover : FnScope n_law_is_cover p_law_is_cover (defScope s_law_is_cover) := ⟨rfl, rfl, rfl, by decide +kernel, rfl, by decide +kernel, by decide +kernel⟩
abbrev s_law_is_packing : Stmt := top 90
abbrev p_law_is_packing : List Str := ["_law_told", "_law_pairs_here", "_law_due"]
abbrev n_law_is_packing : List Str := ["_law_told", "_law_pairs_here", "_law_due", "_law_part", "_law_rows", "_law_loads_here", "_law_side"]
theorem sc_law_is_packing : FnScope n_law_is_packing p_law_is_packing (defScope s_law_is_packing) := ⟨rfl, rfl, rfl, by decide +kernel, rfl, by decide +kernel, by decide +kernel⟩
abbrev s_law_is_right : Stmt := top 91
abbrev p_law_is_right : List Str := ["_law_told", "_law_data_here", "_law_book_here", "_law_column", "_law_prices", "_law_due"]
abbrev n_law_is_right : List Str := ["_law_told", "_law_data_here", "_law_book_here", "_law_column", "_law_prices", "_law_due", "_law_pairs_here"]
theorem sc_law_is_right : FnScope n_law_is_right p_law_is_right (defScope s_law_is_right) := ⟨rfl, rfl, rfl, by decide +kernel, rfl, by decide +kernel, by decide +kernel⟩
abbrev s_law : Stmt := top 92
abbrev p_law : List Str := ["_law_script"]
abbrev n_law : List Str := ["_law_script", "_law_at", "_law_bag_here", "_law_bare", "_law_data_here", "_law_book_here", "_law_column", "_law_prices", "_law_due", "_law_ones", "_law_side"]
theorem sc_law : FnScope n_law p_law (defScope s_law) := ⟨rfl, rfl, rfl, by decide +kernel, rfl, by decide +kernel, by decide +kernel⟩
/-! ### defs by their names -/
section
variable (P : Program) (w : World) (K : PySem.W.Frag) (mg : Str → Option Value) (base : Heap)
/-- the global x is a def with this promise -/
structure Kf (k : Nat) (x : Str) (ps : List Str) (sp : Sp) : Prop where
  ex : ∃ f fd, FnOk P w K mg base CX0 k f fd ps sp ∧ Binds K fd ps [] ∧ mg x = some (.ref f) ∧ PySem.W.keepIn K (.ref f) = true
/-- the method m of C is a def with this promise -/
structure Mf (k : Nat) (C : Addr) (m : Str) (ps : List Str) (sp : Sp) : Prop where
  ex : ∃ f fd, FnOk P w K mg base CX0 k f fd ps sp ∧ Binds K fd ps [] ∧ Meth K C m f
  cl : Cls K C
end
section
variable {X : Cx} {k j : Nat} {x m : Str} {ps : List Str} {sp : Sp} {p pos apos : Pos} {e o : Expr} {es : List Expr} {t : TA} {ta : TE} {C : Addr}
theorem pe_k (c : Kf X.prog X.w X.K X.mg X.base k x ps sp) (hr : Room j X.A) (hk : k ≤ j) (hg : Gl X x) (ha : PA X (e :: es) t)
    (hdb : (x == ("__debug__" : Str)) = false := by decide) (he : starEach (e :: es) X.env = (false, eval e X.env) :: starEach es X.env := by rfl) (hpl : (backTo pos (starEach es X.env)).any (·.1) = false := by rfl) : PE X (.Call (.Name x p) (e :: es) [] pos) (tCall sp [] E0 t) := by
  obtain ⟨f, fd, F, b, g, kp⟩ := c.ex
  exact pe_call (F.mono hk) (hr.mono (Nat.le_refl _)) hg g kp b .nil pass0 ha hdb he hpl
theorem pe_m {pl : Sem Bool} (c : Mf X.prog X.w X.K X.mg X.base k C m ps sp) (hr : Room j X.A) (hk : k ≤ j) (he : PE X o ta) (ha : PA X (e :: es) t)
    (hst : starEach (e :: es) X.env = (false, eval e X.env) :: starEach es X.env := by rfl) (hpl : (backTo pos (starEach es X.env)).any (·.1) = false := by rfl)
    (ht : eval (.Call (.Attribute o m apos) (e :: es) [] pos) X.env = (do
      let ov ← eval o X.env
      standAt apos.atName
      let (f, first) ← holding [ov] (getMethod ov m pl)
      callWith pos f first (backTo pos (starEach (e :: es) X.env)) (backToKw pos (keywordEach [] X.env))) := by rfl) :
    PE X (.Call (.Attribute o m apos) (e :: es) [] pos) (tMeth C m sp [] E0 ta t) := by
  obtain ⟨f, fd, F, b, g⟩ := c.ex
  exact pe_meth (pl := pl) he c.cl g (F.mono hk) hr b .nil pass0 ha hst hpl ht
theorem pe_m0 {pl : Sem Bool} (c : Mf X.prog X.w X.K X.mg X.base k C m ps sp) (hr : Room j X.A) (hk : k ≤ j) (he : PE X o ta)
    (ht : eval (.Call (.Attribute o m apos) [] [] pos) X.env = (do
      let ov ← eval o X.env
      standAt apos.atName
      let (f, first) ← holding [ov] (getMethod ov m pl)
      callWith pos f first (backTo pos (starEach [] X.env)) (backToKw pos (keywordEach [] X.env))) := by rfl) : PE X (.Call (.Attribute o m apos) [] [] pos) (tMeth C m sp [] E0 ta tNil) := by
  obtain ⟨f, fd, F, b, g⟩ := c.ex
  exact pe_meth0 (pl := pl) he c.cl g (F.mono hk) hr b .nil pass0 ht
end
end Pn
/-! #### W0 -/
namespace Pn
open PySem PySem.Spec PyProof.Rows L2

/-- the built-in names that the text uses are no names of its own -/
structure Bt (mg : Str → Option Value) : Prop where
  isinstance : mg "isinstance" = none
  int : mg "int" = none
  bool : mg "bool" = none
  str : mg "str" = none
  list : mg "list" = none
  tuple : mg "tuple" = none
  len : mg "len" = none
  all : mg "all" = none
  any : mg "any" = none
  enumerate : mg "enumerate" = none
  sorted : mg "sorted" = none
  range : mg "range" = none
  min : mg "min" = none
  max : mg "max" = none
  sum : mg "sum" = none
  abs : mg "abs" = none
  set : mg "set" = none
  repr : mg "repr" = none
  iter : mg "iter" = none
  super : mg "super" = none
theorem bb_isinstance : bootBuiltins "isinstance" = some (.builtin "isinstance") := by decide +kernel
theorem bb_int : bootBuiltins "int" = some (.type "int") := by decide +kernel
theorem bb_bool : bootBuiltins "bool" = some (.type "bool") := by decide +kernel
theorem bb_str : bootBuiltins "str" = some (.type "str") := by decide +kernel
theorem bb_list : bootBuiltins "list" = some (.type "list") := by decide +kernel
theorem bb_tuple : bootBuiltins "tuple" = some (.type "tuple") := by decide +kernel
theorem bb_len : bootBuiltins "len" = some (.builtin "len") := by decide +kernel
theorem bb_all : bootBuiltins "all" = some (.builtin "all") := by decide +kernel
theorem bb_any : bootBuiltins "any" = some (.builtin "any") := by decide +kernel
theorem bb_sorted : bootBuiltins "sorted" = some (.builtin "sorted") := by decide +kernel
theorem bb_min : bootBuiltins "min" = some (.builtin "min") := by decide +kernel
theorem bb_max : bootBuiltins "max" = some (.builtin "max") := by decide +kernel
theorem bb_sum : bootBuiltins "sum" = some (.builtin "sum") := by decide +kernel
theorem bb_abs : bootBuiltins "abs" = some (.builtin "abs") := by decide +kernel
theorem bb_set : bootBuiltins "set" = some (.type "set") := by decide +kernel
theorem bb_repr : bootBuiltins "repr" = some (.builtin "repr") := by decide +kernel

/-! ### rules with what they ask filled in -/
section
variable {X : Cx} {x : Str} {e : Expr} {te : TE} {pos pos' : Pos}
theorem sset (i : Nat) (hN : X.N.Nodup) (he : PE X e te) (hi : X.N[i]? = some x := by rfl) (hx : Loc X.env.scope x := by first | exact Or.inl rfl | exact Or.inr rfl) (hs : swapsWith e (some (.Name x pos')) pos.line X.env = pure false := by rfl)
    (hf : X.fn x = true ∨ X.env.scope.names.lookup x = some .local := by first | exact .inl rfl | exact .inr rfl | assumption) : PS X (.Assign [.Name x pos'] e pos) (tAsg te (gName i)) := ps_set hN hi hx he hs hf
theorem gnm (i : Nat) (hN : X.N.Nodup) (hi : X.N[i]? = some x := by rfl) (hx : Loc X.env.scope x := by first | exact Or.inl rfl | exact Or.inr rfl)
    (hf : X.fn x = true ∨ X.env.scope.names.lookup x = some .local := by first | exact .inl rfl | exact .inr rfl | assumption) : PG X (.Name x pos) (gName i) := pg_name hN hi hx hf
theorem saug (i : Nat) {op : Operator} {ti : TIp} (hN : X.N.Nodup) (he : PE X e te) (ho : PIp X op ti) (hi : X.N[i]? = some x := by rfl) (hx : Loc X.env.scope x := by first | exact Or.inl rfl | exact Or.inr rfl)
    (hf : X.fn x = true ∨ X.env.scope.names.lookup x = some .local := by first | exact .inl rfl | exact .inr rfl | assumption) : PS X (.AugAssign (.Name x pos') op e pos) (tAug i te ti) := ps_aug hN hi hx he ho hf
/-- a built-in type as a value -/
theorem pe_tyv (n : String) (hm : X.mg x = none) (hv : bootBuiltins x = some (.type n)) (hg : Gl X x := by rfl) (hn : x ≠ "__name__" := by decide) (hd : (x == ("__debug__" : Str)) = false := by decide) : PE X (.Name x pos) (tC (.ty n)) :=
  pe_bltn hg hm hv rfl hn hd
/-- a global of the text's own, by its value -/
theorem pe_own {v : V} (h : ∃ u, X.mg x = some u ∧ RelV v u) (hg : Gl X x := by rfl) (hd : (x == ("__debug__" : Str)) = false := by decide) : PE X (.Name x pos) (tC v) := by
  obtain ⟨u, hm, r⟩ := h
  exact pe_glob hg hm r hd
theorem pss_if_never {c : Expr} {a : List Stmt} {tc : TT} (hc : PT X c tc) : PS X (.If c a [] pos) (tIfS tc tNever tNext) := ps_if hc pss_never pss_nil
end
section
variable {X : Cx} {id : String} {x : Str} {p pos : Pos} {e : Expr} {es : List Expr} {r : List V → Hp → VK → Prop} {t : TA}
theorem cB (hc : CallR X (.builtin id) r) (hm : X.mg x = none) (hv : bootBuiltins x = some (.builtin id)) (ha : PA X (e :: es) t) (hg : Gl X x := by rfl) (hn : x ≠ "__name__" := by decide) (hdb : (x == ("__debug__" : Str)) = false := by decide)
    (he : starEach (e :: es) X.env = (false, eval e X.env) :: starEach es X.env := by rfl) (hpl : (backTo pos (starEach es X.env)).any (·.1) = false := by rfl) : PE X (.Call (.Name x p) (e :: es) [] pos) (tCB r t) := pe_callB hc hg hm hv ha hn hdb he hpl
theorem cT (hc : CallR X (.type id) r) (hm : X.mg x = none) (hv : bootBuiltins x = some (.type id)) (ha : PA X (e :: es) t) (hg : Gl X x := by rfl) (hn : x ≠ "__name__" := by decide) (hdb : (x == ("__debug__" : Str)) = false := by decide)
    (he : starEach (e :: es) X.env = (false, eval e X.env) :: starEach es X.env := by rfl) (hpl : (backTo pos (starEach es X.env)).any (·.1) = false := by rfl) : PE X (.Call (.Name x p) (e :: es) [] pos) (tCB r t) := pe_callTy hc hg hm hv ha hn hdb he hpl
end
/-- x is a whole number of the text's top -/
def GInt (mg : Str → Option Value) (x : Str) (i : Int) : Prop := ∃ u, mg x = some u ∧ RelV (.int i) u
def GStr (mg : Str → Option Value) (x : Str) (z : Str) : Prop := ∃ u, mg x = some u ∧ RelV (.str z) u
/-- the top's def x -/
def DefAt (K : PySem.W.Frag) (mg : Str → Option Value) (x : Str) (st : Stmt) : Prop := ∃ f fd, FunD K x x (defArgs st) (defBody st) (defScope st) [] [] f fd ∧ mg x = some (.ref f)
/-- the method m of C -/
structure MetAt (K : PySem.W.Frag) (C : Addr) (m qual : Str) (st : Stmt) : Prop where
  ex : ∃ f fd, FunD K m qual (defArgs st) (defBody st) (defScope st) [] [] f fd ∧ Meth K C m f
section
variable {P : Program} {w : World} {K : PySem.W.Frag} {mg : Str → Option Value} {base : Heap} {x : Str} {st : Stmt} {N ps : List Str} {k : Nat} {sp : Sp}
theorem Kf.of (D : DefAt K mg x st) (S : FnScope N ps (defScope st)) (hb : ∀ (kV doc pm : Value) (an : Option Addr) (cdv ct : Value) (us : List Value), us.length = ps.length → bindArgs (PySem.W.fnOf x x (defArgs st) (defBody st) (defScope st) .none kV doc pm an cdv ct) ⟨us, []⟩ = pure (ps.zip us))
    (len : ∀ vs H Q E, sp vs H Q E → vs.length = ps.length)
    (hbody : ∀ (f : Addr) (cdv : Value) (A : Around) (outer : List Env) (s : Shared) (H : Hp) (vs : List V) (Q : VK) (E : XK), Room k (A.deeper (envOfC x (defScope st) s.heap.objs.size f cdv)) → sp vs H Q E →
      ∃ t, PSs (cxOf CX0 P w K mg base N x (defScope st) f cdv A outer s H E).nox (defBody st) t ∧ t { nx := fun _ H' => Q .non H', rt := Q } (start N vs) H) : Kf P w K mg base (k + 1) x ps sp := by
  obtain ⟨f, fd, F, g⟩ := D
  exact ⟨f, fd, F.ok S len fun cdv A outer s H vs Q E hr h => (by
    obtain ⟨t, h1, h2⟩ := hbody f cdv A outer s H vs Q E hr h
    exact ⟨t, PSs.nox h1, h2⟩), F.bindsN hb, g, F.kp⟩
theorem Mf.of {C : Addr} {m qual : Str} (D : MetAt K C m qual st) (cl : Cls K C) (S : FnScope N ps (defScope st)) (hb : ∀ (kV doc pm : Value) (an : Option Addr) (cdv ct : Value) (us : List Value), us.length = ps.length → bindArgs (PySem.W.fnOf m qual (defArgs st) (defBody st) (defScope st) .none kV doc pm an cdv ct) ⟨us, []⟩ = pure (ps.zip us))
    (len : ∀ vs H Q E, sp vs H Q E → vs.length = ps.length)
    (hbody : ∀ (f : Addr) (cdv : Value) (A : Around) (outer : List Env) (s : Shared) (H : Hp) (vs : List V) (Q : VK) (E : XK), Room k (A.deeper (envOfC qual (defScope st) s.heap.objs.size f cdv)) → sp vs H Q E →
      ∃ t, PSs (cxOf CX0 P w K mg base N qual (defScope st) f cdv A outer s H E).nox (defBody st) t ∧ t { nx := fun _ H' => Q .non H', rt := Q } (start N vs) H) : Mf P w K mg base (k + 1) C m ps sp := by
  obtain ⟨f, fd, F, g⟩ := D
  exact ⟨⟨f, fd, F.ok S len fun cdv A outer s H vs Q E hr h => (by
    obtain ⟨t, h1, h2⟩ := hbody f cdv A outer s H vs Q E hr h
    exact ⟨t, PSs.nox h1, h2⟩), F.bindsN hb, g⟩, cl⟩
end
theorem yes_of {te : TE} {σ : L2.St} {H : Hp} {Ky : VK} {Kn : Hp → Prop} (h : te σ H Ky) : tYes σ H fun b H3 => if b = true then te σ H3 Ky else Kn H3 := by
  show if true = true then te σ H Ky else Kn H
  rw [if_pos rfl]
  exact h
theorem yes_ofL {σ : L2.St} {H : Hp} {A : Prop} {B : Hp → Prop} (h : A) : tYes σ H fun b H3 => if b = true then A else B H3 := by
  show if true = true then A else B H
  rw [if_pos rfl]
  exact h
theorem hu65 {A : Around} {k : Nat} (hr : Room k A) : A.units + 65 < cLine := by have := hr.un; omega
theorem hu64 {A : Around} {k : Nat} (hr : Room k A) : A.units + 64 < cLine := hr.units
/-- the data of a list of texts -/
def TxL (H : Hp) (a : Addr) (xs : List Str) : Prop := H a = some (.lst (xs.map V.str))
def TxT (H : Hp) (a : Addr) (xs : List Str) : Prop := H a = some (.tup (xs.map V.str))
theorem TxL.l {K : PySem.W.Frag} {H : Hp} {a : Addr} {xs : List Str} (h : TxL H a xs) : SqL K H a (xs.map V.str) := .inl (.inl h)
theorem TxT.t {K : PySem.W.Frag} {H : Hp} {a : Addr} {xs : List Str} (h : TxT H a xs) : SqT K H a (xs.map V.str) := .inl (.inl h)
theorem map_at {xs : List Str} {i : Nat} {v : V} (h : (xs.map V.str)[i]? = some v) : ∃ x, xs[i]? = some x ∧ v = .str x := by
  rw [List.getElem?_map] at h
  obtain ⟨x, hx, e⟩ := Option.map_eq_some_iff.mp h
  exact ⟨x, hx, e.symm⟩
theorem flat_strs (xs : List Str) : (xs.map V.str).all flatV = true := by
  induction xs with
  | nil => rfl
  | cons x xs ih => rw [List.map_cons, List.all_cons, ih]; rfl
theorem inV_strs (x : Str) (xs : List Str) : inV (.str x) (xs.map V.str) = decide (x ∈ xs) := by
  unfold inV
  induction xs with
  | nil => rfl
  | cons y ys ih =>
    rw [List.map_cons, List.any_cons, ih]
    have e : eqV (.str y) (.str x) = decide (y = x) := by
      by_cases h : y = x
      · subst h; simp [eqV]
      · simp [eqV, h]
    rw [e]
    by_cases h : y = x
    · subst h; simp
    · have h2 : ¬ x = y := fun z => h z.symm
      simp [h, h2]

/-! ### the layer's rules with the written part named (within a comprehension the block's own is another term) -/
section
variable {X : Cx} {K : PySem.W.Frag}
theorem ix_tupK (K : PySem.W.Frag) (h : X.K = K := by rfl) : IxR X (rIxT K) := by subst h; exact ix_tup
theorem ix_listK (K : PySem.W.Frag) (h : X.K = K := by rfl) : IxR X (rIxL K) := by subst h; exact ix_list
theorem op_in_seqK (K : PySem.W.Frag) (h : X.K = K := by rfl) : OpR X (compareOp .In) (rIn K false) := by subst h; exact op_in_seq
theorem op_notIn_seqK (K : PySem.W.Frag) (h : X.K = K := by rfl) : OpR X (compareOp .NotIn) (rIn K true) := by subst h; exact op_notIn_seq
theorem op_inDK (K : PySem.W.Frag) (hu : X.A.units + 65 < cLine) (h : X.K = K := by rfl) : OpR X (compareOp .In) (rInD K) := by subst h; exact op_inD hu
theorem op_notInDK (K : PySem.W.Frag) (hu : X.A.units + 65 < cLine) (h : X.K = K := by rfl) : OpR X (compareOp .NotIn) (rNotInD K) := by subst h; exact op_notInD hu
theorem op_eqDK (K : PySem.W.Frag) (hu : X.A.units + 64 < cLine) (h : X.K = K := by rfl) : OpR X (compareOp .Eq) (rEqD K) := by subst h; exact op_eqD hu
theorem op_neDK (K : PySem.W.Frag) (hu : X.A.units + 64 < cLine) (h : X.K = K := by rfl) : OpR X (compareOp .NotEq) (rNeD K) := by subst h; exact op_neD hu
theorem isiK (K : PySem.W.Frag) (h : X.K = K := by rfl) : CallR X (.builtin "isinstance") (rIsi K) := by subst h; exact call_isi
theorem isiTK (K : PySem.W.Frag) (h : X.K = K := by rfl) : CallR X (.builtin "isinstance") (rIsiT K) := by subst h; exact call_isiT
def rLenSq (K : PySem.W.Frag) : List V → Hp → VK → Prop := fun xs H Q => ∃ p ys, xs = [.ref p] ∧ (SqL K H p ys ∨ SqT K H p ys) ∧ Q (.int (ys.length : Nat)) H
theorem len_seqK (K : PySem.W.Frag) (h : X.K = K := by rfl) : CallR X (.builtin "len") (rLenSq K) := by subst h; exact call_len_seq
theorem allK (K : PySem.W.Frag) (hc : X.calm = true) (h : X.K = K := by rfl) : CallR X (.builtin "all") (rAll K) := by subst h; exact cr_all hc
theorem anyK (K : PySem.W.Frag) (hc : X.calm = true) (h : X.K = K := by rfl) : CallR X (.builtin "any") (rAny K) := by subst h; exact cr_any hc
theorem fldK (K : PySem.W.Frag) {e : Expr} {f : Str} {pos : Pos} {ta : TE} (he : PE X e ta) (hb : attributeBase e f X.env (eval e X.env) = eval e X.env) (h : X.K = K := by rfl) : PE X (.Attribute e f pos) (tFld K ta f) := by subst h; exact pe_fld he hb
theorem pi_listK (K : PySem.W.Frag) {tg l : Expr} {tl : TE} (he : PE X l tl) (h : X.K = K := by rfl) : PI X tg l (iList K tl) := by subst h; exact pi_list he
theorem pi_tupK (K : PySem.W.Frag) {tg l : Expr} {tl : TE} (he : PE X l tl) (h : X.K = K := by rfl) : PI X tg l (iTup K tl) := by subst h; exact pi_tup he
theorem pi_ownK (K : PySem.W.Frag) {C g : Addr} {fld : Str} {tg e : Expr} {te : TE} (c : IterC K C g fld) (hm : X.mg "iter" = none) (hr : Room 1 X.A) (he : PE X e te) (h : X.K = K := by rfl) : PI X tg e (iOwn K C fld te) := by subst h; exact pi_own c hm hr he
theorem pg_tupK (K : PySem.W.Frag) {es : List Expr} {k : Nat} {pos : Pos} {t : TGs} {n : Nat} (hc : X.calm = true) (he : PGs X es t) (h : X.K = K := by rfl)
    (hn : (assignEach es X.env).length = n := by rfl) (hst : (assignEach es X.env).findIdx? (·.1) = none := by rfl) : PG X (.Tuple es k pos) (gTup K n t) := by subst h; exact pg_tup hc he hn hst
end
end Pn
/-! #### W1 -/
namespace Pn
open PySem PySem.Spec PyProof.Rows L2
/-! ### words -/
def letters : Str := "abcdefghijklmnopqrstuvwxyz"
/-- a name: 1 to 8 letters -/
structure Nm (x : Str) : Prop where
  lo : 1 ≤ x.length
  hi : x.length ≤ 8
  ls : ∀ c ∈ x.cps.toList, c ∈ letters.cps.toList
theorem Nm.sk {x : Str} (h : Nm x) : Sk x := by
  show (x.cps.all fun c => decide (c < 1114112)) = true
  rw [← Array.all_toList, List.all_eq_true]
  intro c hc
  have h2 : ∀ d ∈ letters.cps.toList, decide (d < 1114112) = true := by decide +kernel
  exact h2 c (h.ls c hc)
theorem Nm.ne_empty {x : Str} (h : Nm x) : x ≠ "" := by
  intro e
  have := h.lo
  rw [e] at this
  exact absurd this (by decide)
structure Tw (K : PySem.W.Frag) (mg : Str → Option Value) : Prop where
  bt : Bt mg
  g_LETTERS : GStr mg "LETTERS" letters
  g_MOST_LETTERS : GInt mg "MOST_LETTERS" 8
  g_MOST_WORDS : GInt mg "MOST_WORDS" 4
  g_MOST_COLUMNS : GInt mg "MOST_COLUMNS" 3
  is_integer : DefAt K mg "is_integer" s_is_integer
  is_name : DefAt K mg "is_name" s_is_name
  is_between : DefAt K mg "is_between" s_is_between
  check_name : DefAt K mg "check_name" s_check_name
  check_once : DefAt K mg "check_once" s_check_once
  check_names : DefAt K mg "check_names" s_check_names
  check_columns : DefAt K mg "check_columns" s_check_columns
section
variable {P : Program} {w : World} {K : PySem.W.Frag} {mg : Str → Option Value} {base : Heap}
def sp_is_integer : Sp := fun vs H Q _ => ∃ i, vs = [.int i] ∧ Q (.bl true) H
theorem ok_is_integer (T : Tw K mg) : Kf P w K mg base 1 "is_integer" p_is_integer sp_is_integer := by
  refine Kf.of T.is_integer sc_is_integer ((fun _ _ _ _ _ _ us hl => match us, hl with | [_], _ => rfl)) (fun vs H Q E ⟨_, e, _⟩ => by rw [e]; rfl) fun f cdv A outer s H vs Q E hr ⟨i, e, k⟩ => ?_
  subst e
  have B := T.bt
  refine ⟨_, (pss_one (ps_ret (pe_and (cB (isiK K) B.isinstance bb_isinstance (pa_cons (pv 0) (pa_cons (pe_tyv "int" B.int bb_int) pa_nil))) (pe_one (pe_not (cB (isiK K) B.isinstance bb_isinstance (pa_cons (pv 0) (pa_cons (pe_tyv "bool" B.bool bb_bool) pa_nil)))))))), ?_⟩
  refine ⟨_, rfl, .int i, .ty "int", _, _, true, rfl, .ty _, .base (.int i), kit_ty (by decide +kernel), true, rfl, iteT ?_⟩
  exact ⟨_, rfl, .int i, .ty "bool", _, _, false, rfl, .ty _, .base (.int i), kit_ty (by decide +kernel), false, rfl, k⟩
def sp_is_name : Sp := fun vs H Q _ => ∃ x, vs = [.str x] ∧ Nm x ∧ ∀ H', Same H H' → Q (.bl true) H'
theorem ok_is_name (T : Tw K mg) : Kf P w K mg base 1 "is_name" p_is_name sp_is_name := by
  refine Kf.of T.is_name sc_is_name ((fun _ _ _ _ _ _ us hl => match us, hl with | [_], _ => rfl)) (fun vs H Q E ⟨_, e, _⟩ => by rw [e]; rfl) fun f cdv A outer s H vs Q E hr ⟨x, e, hx, k⟩ => ?_
  subst e
  have B := T.bt
  refine ⟨_, (pss_cons (ps_if (PW.pt (pw_or (pt_not (pt_val (cB (isiK K) B.isinstance bb_isinstance (pa_cons (pv 0) (pa_cons (pe_tyv "str" B.str bb_str) pa_nil))))) (pw_or1 (pt_not (pt_chain op_le op_le pe_int (cB call_len_str B.len bb_len (pa_cons (pv 0) pa_nil)) (pe_own T.g_MOST_LETTERS)))))) (pss_one (ps_ret pe_bl)) pss_nil) (pss_one (ps_ret (cB (allK K rfl) B.all bb_all (pa_cons (pe_lc (own := [("letter", 1)]) rfl sc_is_name.nd (pi_str (pv 0)) (blkOk_by (N := n_is_name) (sc := defScope s_is_name) (by decide +kernel)) (fun _ _ _ _ _ => (gnm 1 sc_is_name.nd)) (fun _ _ _ _ _ => pts_nil) (fun _ _ _ _ _ => (pe_cmpR op_in_sign (pv 1) (pe_own T.g_LETTERS) (by with_unfolding_all rfl)))) pa_nil))))), ?_⟩
  refine ⟨_, rfl, .str x, .ty "str", _, _, true, rfl, .ty _, .base (.str x), kit_ty (by decide +kernel), true, rfl, iteF ?_⟩
  have h1 : decide ((1 : Int) ≤ x.length) = true := decide_eq_true (by have := hx.lo; omega)
  have h2 : decide ((x.length : Int) ≤ 8) = true := decide_eq_true (by have := hx.hi; omega)
  refine ⟨_, rfl, x, rfl, Nat.le_trans hx.hi (by decide), _, _, rfl, rfl, _, rfl, ?_⟩
  rw [h1]
  refine iteT ⟨_, _, rfl, rfl, _, rfl, ?_⟩
  rw [h2]
  refine iteF ?_
  refine ⟨_, rfl, x, rfl, fun D hD => lc_map (E := Ex0) walk_str (B := Bool) x.cps.toList (fun _ => true) (fun _ => true) (fun _ v b => v = .bl b) (by simp) hD (by have := hx.hi; show x.cps.size ≤ 1000; have e : x.cps.size = x.length := rfl; omega) (fun _ _ => trivial) (fun i H x H' y => by rw [y.1]; exact Fr.refl _ _) (Sta.eq V.bl) (fun _ _ _ _ z => z) ?_ ?_⟩
  · rintro i v H1 H' a Ky Kn ha fr ⟨rfl, c, hc, rfl⟩ hy hk
    have hac : a = c := by
      rw [Array.getElem?_toList, hc] at ha; cases ha; rfl
    subst hac
    refine ⟨rfl, yes_of ?_⟩
    refine ⟨_, rfl, a, letters, rfl, rfl, ?_⟩
    have hm : a ∈ letters.cps.toList := hx.ls a (List.mem_of_getElem? ha)
    rw [decide_eq_true hm]
    exact hy _ _ rfl (Fr.refl _ _) rfl
  · intro H1 ys fr hd r
    have hy := Paired.mapEq (f := V.bl) r
    refine ⟨D, _, rfl, .inl (.inl (hy ▸ hd)), ?_⟩
    have e : ((x.cps.toList.filter fun _ => true).map fun _ => true).all id = true := by simp
    rw [e]
    exact k _ fr.same
def sp_is_between : Sp := fun vs H Q _ => ∃ i lo hi : Int, vs = [.int i, .int lo, .int hi] ∧ lo ≤ i ∧ i ≤ hi ∧ Q (.bl true) H
theorem ok_is_between (T : Tw K mg) : Kf P w K mg base 2 "is_between" p_is_between sp_is_between := by
  refine Kf.of T.is_between sc_is_between ((fun _ _ _ _ _ _ us hl => match us, hl with | [_, _, _], _ => rfl)) (fun vs H Q E ⟨_, _, _, e, _⟩ => by rw [e]; rfl) fun f cdv A outer s H vs Q E hr ⟨i, lo, hi, e, h1, h2, k⟩ => ?_
  subst e
  have c_is_integer := ok_is_integer (P := P) (w := w) (base := base) T
  refine ⟨_, (pss_one (ps_ret (pe_and (pe_k c_is_integer hr (by decide) rfl (pa_cons (pv 0) pa_nil)) (pe_one (pe_chain op_le op_le (pv 1) (pv 0) (pv 2)))))), ?_⟩
  refine ⟨_, rfl, i, rfl, true, rfl, iteT ?_⟩
  refine ⟨_, rfl, _, rfl, _, _, rfl, rfl, _, rfl, ?_⟩
  rw [decide_eq_true h1]
  refine iteT ⟨_, rfl, _, _, rfl, rfl, ?_⟩
  show Q (.bl (decide (i ≤ hi))) H
  rw [decide_eq_true h2]
  exact k
def sp_check_name : Sp := fun vs H Q _ => ∃ x, vs = [.str x] ∧ Nm x ∧ ∀ H', Same H H' → Q .non H'
theorem ok_check_name (T : Tw K mg) : Kf P w K mg base 2 "check_name" p_check_name sp_check_name := by
  refine Kf.of T.check_name sc_check_name ((fun _ _ _ _ _ _ us hl => match us, hl with | [_], _ => rfl)) (fun vs H Q E ⟨_, e, _⟩ => by rw [e]; rfl) fun f cdv A outer s H vs Q E hr ⟨x, e, hx, k⟩ => ?_
  subst e
  have c_is_name := ok_is_name (P := P) (w := w) (base := base) T
  refine ⟨_, (pss_one (ps_if (pt_not (pt_val (pe_k c_is_name hr (by decide) rfl (pa_cons (pv 0) pa_nil)))) (pss_one ps_never) pss_nil)), ?_⟩
  exact ⟨_, rfl, x, rfl, hx, fun H' s' => ⟨true, rfl, iteF (k H' s')⟩⟩
theorem cut_take (xs : List V) (i : Nat) (h : i ≤ xs.length) : cutV xs Option.none (some (i : Int)) = xs.take i := by
  unfold cutV
  rw [HT.sIx_none, HT.sIx_nat, List.drop_zero, Nat.sub_zero, Nat.min_eq_left h]
theorem not_in_take {xs : List Str} (nd : xs.Nodup) {i : Nat} {x : Str} (h : xs[i]? = some x) : decide (x ∈ xs.take i) = false := by
  refine decide_eq_false fun hm => ?_
  obtain ⟨j, hj⟩ := List.mem_iff_getElem?.mp hm
  rw [List.getElem?_take] at hj
  by_cases hji : j < i
  · rw [if_pos hji] at hj
    obtain ⟨hl, e⟩ := List.getElem?_eq_some_iff.mp hj
    obtain ⟨hl2, e2⟩ := List.getElem?_eq_some_iff.mp h
    exact absurd (e.trans e2.symm) (List.pairwise_iff_getElem.mp nd j i hl hl2 hji)
  · rw [if_neg hji] at hj; cases hj
theorem inV_take (x : Str) (xs : List Str) (i : Nat) : inV (.str x) ((xs.map V.str).take i) = decide (x ∈ xs.take i) := by
  rw [← List.map_take, inV_strs]
theorem flat_take (xs : List Str) (i : Nat) : ((xs.map V.str).take i).all flatV = true := by
  rw [← List.map_take]; exact flat_strs _
def sp_check_once : Sp := fun vs H Q _ => ∃ a xs, vs = [.ref a] ∧ (TxL H a xs ∨ TxT H a xs) ∧ xs.Nodup ∧ ∀ H', Same H H' → Q .non H'
theorem ok_check_once (T : Tw K mg) : Kf P w K mg base 1 "check_once" p_check_once sp_check_once := by
  refine Kf.of T.check_once sc_check_once ((fun _ _ _ _ _ _ us hl => match us, hl with | [_], _ => rfl)) (fun vs H Q E ⟨_, _, e, _⟩ => by rw [e]; rfl) fun f cdv A outer s H vs Q E hr ⟨a, xs, e, hx, nd, k⟩ => ?_
  subst e
  have B := T.bt
  refine ⟨_, (pss_one (ps_for PassesOwn.never rfl (pi_enumA rfl B.enumerate (pa_cons (pv 0) pa_nil)) (pg_tupK K rfl (pgs_cons (gnm 1 sc_check_once.nd) (pgs_cons (gnm 2 sc_check_once.nd) pgs_nil))) (pss_one (ps_if (pt_cmpR (op_in_seqK K) (pv 2) (pe_slice (sl_list.or sl_tupA) (pv 0) po_none (po_some (pv 1))) (by with_unfolding_all rfl)) (pss_one ps_never) pss_nil)))), ?_⟩
  have hT : ∀ H', Same H H' → (TxL H' a xs ∨ TxT H' a xs) := fun H' s' => hx.imp (s' _ _) (s' _ _)
  refine ⟨_, rfl, a, xs.map V.str, rfl, ?_⟩
  rcases id hx with q | q
  refine .inl ⟨q.l, for_it walk_enum (fun i σ H' => (∃ o1 o2, σ = [some (V.ref a), o1, o2]) ∧ Same H H') ⟨⟨_, _, rfl⟩, Same.refl _⟩ (fun i σ H' _ p => .inl (.inl (p.2 _ _ q))) ?_ (fun σ H' p => k H' p.2)⟩
  rotate_left
  refine .inr ⟨q.t, for_it walk_enumT (fun i σ H' => (∃ o1 o2, σ = [some (V.ref a), o1, o2]) ∧ Same H H') ⟨⟨_, _, rfl⟩, Same.refl _⟩ (fun i σ H' _ p => .inl (.inl (p.2 _ _ q))) ?_ (fun σ H' p => k H' p.2)⟩
  all_goals
    rintro i v σ H1 H2 hi ⟨⟨o1, o2, rfl⟩, s1⟩ ⟨T', x, y, rfl, hT', rfl, ex, ey⟩
    cases ex
    obtain ⟨z, hz, rfl⟩ := map_at ey
    have s2 : Same H (upd H1 T' (.tup [.int (i : Nat), .str z])) := (Fr.of (E := Ex0) s1 |>.new' hT').same
    refine ⟨T', _, rfl, .inl (.inl upd_same), rfl, _, _, rfl, _, _, rfl, rfl, ?_⟩
    have il : i ≤ (xs.map V.str).length := Nat.le_of_lt hi
    have fin : ∀ p H3, Same H H3 → (SqL K H3 p ((xs.map V.str).take i) ∨ SqT K H3 p ((xs.map V.str).take i)) → rIn K false (.str z) (.ref p) H3 fun c H4 => ∃ k, c = .bl k ∧ (if k = true then False else (∃ o1 o2, ([some (V.ref a), some (.int (i : Nat)), some (.str z)] : L2.St) = [some (V.ref a), o1, o2]) ∧ Same H H4) := fun p H3 s3 q => by
      refine ⟨p, _, rfl, q, rfl, flat_take xs i, false, ?_, ⟨_, _, rfl⟩, s3⟩
      show V.bl (inV (.str z) ((xs.map V.str).take i)) = _
      rw [inV_take, not_in_take nd hz]
    refine ⟨_, rfl, _, rfl, _, rfl, (i : Nat), rfl, ?_⟩
    rcases hT _ s2 with q | q
    · refine .inl ⟨a, _, rfl, q.l, fun p hp => ?_⟩
      rw [cut_take _ _ il]
      exact fin p _ (Fr.of (E := Ex0) s2 |>.new' hp).same (.inl (.inl (.inl upd_same)))
    · refine .inr ⟨a, _, rfl, q.t, fun hall => ?_, fun hno p hp => ?_⟩
      · rw [HT.sIx_none, HT.sIx_nat] at hall
        have ei : (xs.map V.str).take i = xs.map V.str := List.take_of_length_le (by omega)
        exact fin a _ s2 (.inr (by rw [ei]; exact q.t))
      · rw [cut_take _ _ il]
        exact fin p _ (Fr.of (E := Ex0) s2 |>.new' hp).same (.inr (.inl (.inl upd_same)))
/-- a sorted copy as a tuple -/
def Sorted (ys xs : List Str) : Prop := ys.Perm xs ∧ sortedS ys = true
def sp_check_names : Sp := fun vs H Q _ => ∃ (a : Addr) (xs : List Str) (most : Int), vs = [.ref a, .int most] ∧ TxL H a xs ∧ (∀ x ∈ xs, Nm x) ∧ xs.Nodup ∧ (xs.length : Int) ≤ most ∧ most ≤ 63 ∧ ∀ r ys H', Same H H' → Sorted ys xs → TxT H' r ys → Q (.ref r) H'
theorem ok_check_names (T : Tw K mg) : Kf P w K mg base 3 "check_names" p_check_names sp_check_names := by
  refine Kf.of T.check_names sc_check_names ((fun _ _ _ _ _ _ us hl => match us, hl with | [_, _], _ => rfl)) (fun vs H Q E ⟨_, _, _, e, _⟩ => by rw [e]; rfl) fun f cdv A outer s H vs Q E hr ⟨a, xs, most, e, hx, hn, nd, hm, h63, k⟩ => ?_
  subst e
  have B := T.bt
  have c_check_name := ok_check_name (P := P) (w := w) (base := base) T
  have c_check_once := ok_check_once (P := P) (w := w) (base := base) T
  refine ⟨_, (pss_cons (ps_for PassesOwn.never rfl (pi_listK K (pv 0)) (gnm 2 sc_check_names.nd) (pss_one (ps_expr (pe_k c_check_name hr (by decide) rfl (pa_cons (pv 2) pa_nil))))) (pss_cons (ps_expr (pe_k c_check_once hr (by decide) rfl (pa_cons (pv 0) pa_nil))) (pss_cons (ps_if (pt_cmpR op_gt (cB (len_seqK K) B.len bb_len (pa_cons (pv 0) pa_nil)) (pv 1) (nomark _)) (pss_one ps_never) pss_nil) (pss_one (ps_ret (cT call_tuple_of B.tuple bb_tuple (pa_cons (cB cr_sortedS B.sorted bb_sorted (pa_cons (pv 0) pa_nil)) pa_nil))))))), ?_⟩
  refine ⟨_, rfl, a, rfl, ⟨_, hx.l⟩, for_it (walk_list (xs := xs.map V.str)) (fun i σ H' => (∃ o, σ = [some (V.ref a), some (.int most), o]) ∧ Same H H') ⟨⟨_, rfl⟩, Same.refl _⟩ (fun i σ H' _ p => .inl (.inl (p.2 _ _ hx))) ?_ ?_⟩
  · rintro i v σ H1 H2 hi ⟨⟨o, rfl⟩, s1⟩ ⟨rfl, ev⟩
    obtain ⟨z, hz, rfl⟩ := map_at ev
    exact ⟨_, rfl, z, rfl, hn z (List.mem_of_getElem? hz), fun H' s' => ⟨⟨_, rfl⟩, s1.trans s'⟩⟩
  · rintro σ H1 ⟨⟨o, rfl⟩, s1⟩
    refine ⟨_, rfl, a, xs, rfl, .inl (s1 _ _ hx), nd, fun H2 s2 => ?_⟩
    have hx2 : TxL H2 a xs := s2 _ _ (s1 _ _ hx)
    refine ⟨_, rfl, a, _, rfl, .inl hx2.l, _, rfl, _, _, rfl, rfl, _, rfl, ?_⟩
    have hl : (xs.map V.str).length = xs.length := List.length_map ..
    rw [show decide (most < (((xs.map V.str).length : Nat) : Int)) = false from decide_eq_false (by rw [hl]; omega)]
    refine iteF ?_
    refine ⟨_, rfl, a, xs, rfl, hx2.l, by omega, fun ys p hp hs hf => ?_⟩
    refine ⟨p, _, rfl, .inl ⟨.inl (.inl upd_same), fun r hr' => ?_⟩⟩
    have s3 : Same H2 (upd (upd H2 p (.lst (ys.map V.str))) r (.tup (ys.map V.str))) := ((Fr.new (E := Ex0) hf).new' hr').same
    exact k r ys _ ((s1.trans s2).trans s3) ⟨hp, hs⟩ upd_same
def sp_check_columns : Sp := fun vs H Q _ => ∃ (a : Addr) (xs : List Str), vs = [.ref a] ∧ TxL H a xs ∧ (∀ x ∈ xs, Nm x ∧ x ∉ (["state", "row", "deed"] : List Str)) ∧ xs.Nodup ∧ xs.length ≤ 3 ∧ ∀ r ys H', Same H H' → Sorted ys xs → TxT H' r ys → Q (.ref r) H'
theorem ok_check_columns (T : Tw K mg) : Kf P w K mg base 3 "check_columns" p_check_columns sp_check_columns := by
  refine Kf.of T.check_columns sc_check_columns ((fun _ _ _ _ _ _ us hl => match us, hl with | [_], _ => rfl)) (fun vs H Q E ⟨_, _, e, _⟩ => by rw [e]; rfl) fun f cdv A outer s H vs Q E hr ⟨a, xs, e, hx, hn, nd, hm, k⟩ => ?_
  subst e
  have B := T.bt
  have c_is_name := ok_is_name (P := P) (w := w) (base := base) T
  have c_check_once := ok_check_once (P := P) (w := w) (base := base) T
  refine ⟨_, (pss_cons (ps_for PassesOwn.never rfl (pi_listK K (pv 0)) (gnm 1 sc_check_columns.nd) (pss_one (ps_if (PW.pt (pw_or (pt_not (pt_val (pe_k c_is_name hr (by decide) rfl (pa_cons (pv 1) pa_nil)))) (pw_or1 (pt_cmpR (op_in_seqK K) (pv 1) (pe_tup (pa_cons pe_str (pa_cons pe_str (pa_cons pe_str pa_nil)))) (by with_unfolding_all rfl))))) (pss_one ps_never) pss_nil))) (pss_cons (ps_expr (pe_k c_check_once hr (by decide) rfl (pa_cons (pv 0) pa_nil))) (pss_cons (ps_if (pt_cmpR op_gt (cB (len_seqK K) B.len bb_len (pa_cons (pv 0) pa_nil)) (pe_own T.g_MOST_COLUMNS) (nomark _)) (pss_one ps_never) pss_nil) (pss_one (ps_ret (cT call_tuple_of B.tuple bb_tuple (pa_cons (cB cr_sortedS B.sorted bb_sorted (pa_cons (pv 0) pa_nil)) pa_nil))))))), ?_⟩
  refine ⟨_, rfl, a, rfl, ⟨_, hx.l⟩, for_it (walk_list (xs := xs.map V.str)) (fun i σ H' => (∃ o, σ = [some (V.ref a), o]) ∧ Same H H') ⟨⟨_, rfl⟩, Same.refl _⟩ (fun i σ H' _ p => .inl (.inl (p.2 _ _ hx))) ?_ ?_⟩
  · rintro i v σ H1 H2 hi ⟨⟨o, rfl⟩, s1⟩ ⟨rfl, ev⟩
    obtain ⟨z, hz, rfl⟩ := map_at ev
    have hz2 := hn z (List.mem_of_getElem? hz)
    refine ⟨_, rfl, z, rfl, hz2.1, fun H2 s2 => ⟨true, rfl, iteF ?_⟩⟩
    refine ⟨_, rfl, (by show 3 ≤ sizeLine; decide), fun p hp => ?_⟩
    refine ⟨p, _, rfl, .inr (.inl (.inl upd_same)), rfl, (by decide +kernel), _, rfl, ?_⟩
    show if inV (.str z) ((["state", "row", "deed"] : List Str).map V.str) = true then _ else _
    rw [inV_strs, decide_eq_false hz2.2]
    exact iteF ⟨⟨_, rfl⟩, (Fr.of (E := Ex0) (s1.trans s2) |>.new' hp).same⟩
  · rintro σ H1 ⟨⟨o, rfl⟩, s1⟩
    refine ⟨_, rfl, a, xs, rfl, .inl (s1 _ _ hx), nd, fun H2 s2 => ?_⟩
    have hx2 : TxL H2 a xs := s2 _ _ (s1 _ _ hx)
    refine ⟨_, rfl, a, _, rfl, .inl hx2.l, _, _, rfl, rfl, _, rfl, ?_⟩
    have hl : (xs.map V.str).length = xs.length := List.length_map ..
    rw [show decide ((3 : Int) < (((xs.map V.str).length : Nat) : Int)) = false from decide_eq_false (by rw [hl]; omega)]
    refine iteF ?_
    refine ⟨_, rfl, a, xs, rfl, hx2.l, by omega, fun ys p hp hs hf => ?_⟩
    refine ⟨p, _, rfl, .inl ⟨.inl (.inl upd_same), fun r hr' => ?_⟩⟩
    have s3 : Same H2 (upd (upd H2 p (.lst (ys.map V.str))) r (.tup (ys.map V.str))) := ((Fr.new (E := Ex0) hf).new' hr').same
    exact k r ys _ ((s1.trans s2).trans s3) ⟨hp, hs⟩ upd_same
end
end Pn
/-! #### Fnd6 -/
namespace Pn
open PySem PySem.Spec PyProof.Rows L2
open PySem.W (EachIs SortsAt AllAlike Sortable dataLe dataLt dataKind sortVals sortingHeap sortingHeap_old list_sort_vals sortVals_data each_map bound_map sortVals_length)

/-! ### sorted of anything that can be collected -/
section
variable {P : Program} {w : World} {A : Around} {E : Value → Shared → Prop} {s : Shared}
theorem collect_seq {T : String} {l : Addr} {vs : List Value} {o : Obj} {n : Nat} {Q : List Value → Shared → Prop} (ho : s.heap.get? l = some o) (hc : o.cls = .type T) (hT : T = "list" ∨ T = "tuple") (hd : o.data = .seq vs.toArray n)
    (h : Q vs { s with heap := (s.heap.push (seqObj "list" #[] 0)).update s.heap.objs.size (Obj.mapSeq (· ++ vs.toArray)) }) (hsz : vs.length ≤ sizeLine) :
    wpAny (model P w) A (collect (.ref l)) Q E s := by
  unfold collect
  refine wpAny_bind (wpAny_runValue (codeAny_builtin entry_proto_collect' ?_))
  show wpAny _ _ (do again (.builtin "list.__iadd__" ⟨[← newList [], .ref l], []⟩)) _ _ s
  refine wpAny_bind (wpAny_newList (wpAny_pure ⟨Code.quiet_builtin _ (by decide +kernel), codeAny_builtin entry_list_iadd' ?_⟩))
  show wpAny _ _ (Builtin.List.listExtendWith (.ref s.heap.objs.size) (.ref l) (.ref s.heap.objs.size)) _ _ { s with heap := s.heap.push (seqObj "list" #[] 0) }
  unfold Builtin.List.listExtendWith
  have ho' : (s.heap.push (seqObj "list" #[] 0)).get? l = some o := Heap.get?_push_of_some _ ho
  refine wpAny_bind (wpAny_typeOf (T := T) ⟨o, ho', hc⟩ ?_)
  have ht : ((Builtin.List.listSameRef (.ref s.heap.objs.size) (.ref l) || (Value.type T == Value.type "list")) || (Value.type T == Value.type "tuple")) = true := by
    rcases hT with rfl | rfl
    · rw [show (Value.type "list" == Value.type "list") = true from rfl, Bool.or_true, Bool.true_or]
    · rw [show (Value.type "tuple" == Value.type "tuple") = true from rfl, Bool.or_true]
  rw [if_pos ht]
  refine wpAny_bind (listItems_at ho' hd ?_)
  refine wpAny_bind (listItems_at (xs := #[]) (n := 0) (Heap.get?_push_size _ rfl) rfl ?_)
  rw [if_neg (by simp)]
  refine wpAny_bind (listUpdate_at (xs := #[]) (n := 0) (Heap.get?_push_size _ rfl) rfl ?_ (Nat.zero_le _) (by show (#[] ++ vs.toArray).size ≤ sizeLine + 1; simp only [Array.size_append, List.size_toArray, List.length_nil]; omega))
  refine wpAny_pure ?_
  show wpAny (model P w) A (do
      let o ← load s.heap.objs.size
      match o.data with
      | .seq xs _ => pure xs.toList
      | _ => unsupported "internal:collect") Q E { s with heap := (s.heap.push (seqObj "list" #[] 0)).update s.heap.objs.size (Obj.mapSeq (· ++ vs.toArray)) }
  refine wpAny_bind (wpAny_load (get?_update_seq (Heap.get?_push_size _ rfl) _) ?_)
  show wpAny _ _ (pure ((#[] : Array Value) ++ vs.toArray).toList) Q E _
  rw [show ((#[] : Array Value) ++ vs.toArray).toList = vs by simp]
  exact wpAny_pure h
/-- sorted(x, ..) is list.sort(..) on a new list of what x gives -/
theorem sorted_by {x : Value} {kw : List (Str × Value)} {Q : Value → Shared → Prop} (ha1 : argsOk "sorted" ⟨[x], kw⟩) (ha2 : ∀ y, argsOk "list.sort" ⟨[.ref y], kw⟩)
    (hc : ∀ E', wpAny (model P w) A.in1 (collect x) (fun vs s1 => vs.length ≤ sizeLine ∧ ∀ E', wpAny (model P w) A.in1.in1 (Builtin.«list.sort» ⟨[.ref s1.heap.objs.size], kw⟩) (fun f s' => f = .done (.ret .none) ∧ Q (.ref s1.heap.objs.size) s') E' { s1 with heap := s1.heap.push (seqObj "list" vs.toArray 0) }) E' s) :
    wpAny (model P w) A (call (.builtin "sorted") [x] kw) Q E s := by
  refine PyProof.Rows.call_function_entry_kw kind_sorted plain_sorted entry_sorted ha1 ?_
  unfold Builtin.«sorted»
  refine wpAny_bind (m := checkCount "sorted" 1 1 _) (wpAny_pure ?_)
  refine wpAny_bind (wpAny_mono (hc _) (fun vs s1 ⟨hl, hb⟩ => ?_) fun _ _ e => e)
  refine wpAny_bind (wpAny_newList ?_ hl)
  refine wpAny_bind (wpAny_holding (wpAny_call_entry_kw slot_list_sort ⟨_, Heap.get?_push_size _ rfl, rfl⟩ entry_list_sort ?_ (ha2 _)))
  refine wpAny_mono (hb _) (fun f s' hf => ?_) fun _ _ e => e
  obtain ⟨rfl, hq⟩ := hf
  exact ⟨_, rfl, wpAny_pure ⟨_, rfl, hq⟩⟩
/-- list.sort of what was collected, read as data -/
theorem sort_data {β : Type} {vs : List Value} {bs : List β} {enc : β → PyData} {R : Value → β → Prop} {Q : Value → Shared → Prop} (e : EachIs R vs bs) (er : EachIs (fun v b => ∃ as, Reads s.heap v (enc b) as) vs bs) (hal : AllAlike (bs.map enc)) (hk : Sortable (bs.map enc)) (hL : bs.length ≤ sizeLine)
    (hu : ∀ b, b ∈ bs → A.units + (enc b).depth < cLine)
    (h : ∀ out c h', (∀ b o, s.heap.get? b = some o → h'.get? b = some o) → h'.get? s.heap.objs.size = some (seqObj "list" (List.toArray out) c) → out.length = bs.length → EachIs R out (bs.mergeSort (dataLe false enc)) → Q (.ref s.heap.objs.size) { s with heap := h' }) :
    wpAny (model P w) A (Builtin.«list.sort» ⟨[.ref s.heap.objs.size], []⟩) (fun f s' => f = .done (.ret .none) ∧ Q (.ref s.heap.objs.size) s') E { s with heap := s.heap.push (seqObj "list" vs.toArray 0) } := by
  have ho : (s.heap.push (seqObj "list" vs.toArray 0)).get? s.heap.objs.size = some (seqObj "list" vs.toArray 0) := Heap.get?_push_size _ rfl
  have old : ∀ b o, s.heap.get? b = some o → (sortingHeap (s.heap.push (seqObj "list" vs.toArray 0)) s.heap.objs.size vs).get? b = some o := fun b o q =>
    sortingHeap_old (Nat.ne_of_lt (Heap.lt_size q)) (Heap.get?_push_of_some _ q)
  have er' : EachIs (fun v b => ∃ as, Reads (sortingHeap (s.heap.push (seqObj "list" vs.toArray 0)) s.heap.objs.size vs) v (enc b) as) vs bs := er.mono fun _ _ ⟨as, r⟩ => ⟨as, PyProof.Rows.Reads.keeps old r⟩
  refine list_sort_vals (s := { s with heap := s.heap.push (seqObj "list" vs.toArray 0) }) ho (SortsAt.data (s := { s with heap := sortingHeap (s.heap.push (seqObj "list" vs.toArray 0)) s.heap.objs.size vs }) (each_map (R := fun v d => ∃ as, Reads (sortingHeap (s.heap.push (seqObj "list" vs.toArray 0)) s.heap.objs.size vs) v d as) enc er') hal hk (bound_map hu)) (by rw [e.length]; exact hL) ⟨rfl, ?_⟩
  obtain ⟨c, hc⟩ := sortedHeap_at (vs := vs) (out := (sortVals (dataKind (sortingHeap (s.heap.push (seqObj "list" vs.toArray 0)) s.heap.objs.size vs) (bs.map enc)) false vs vs).toArray) ho
  refine h _ c _ (fun b o q => ?_) hc (by rw [sortVals_length false rfl]; exact e.length) (sortVals_data false e er' hal)
  have hlt := Heap.lt_size q
  rw [sortedHeap_old (Nat.ne_of_lt hlt) (by rw [size_push']; exact Nat.lt_succ_of_lt hlt)]
  exact Heap.get?_push_of_some _ q
end

/-! ### the order of pairs -/
def prLe : Pr → Pr → Bool := dataLe false prD2
def stLt (x y : Str) : Bool := decide (x.cps.toList < y.cps.toList)
def prLt (p q : Pr) : Bool := if p.1 = q.1 then (if p.2 = q.2 then false else stLt p.2 q.2) else stLt p.1 q.1
theorem prLe_eq (p q : Pr) : prLe p q = !prLt q p := by
  show (!dataLt (prD2 q) (prD2 p)) = _
  have e : dataLt (prD2 q) (prD2 p) = prLt q p := by
    show dataLt (.tuple [.str q.1, .str q.2]) (.tuple [.str p.1, .str p.2]) = _
    rw [PySem.W.dataLt_pair (by simp [PySem.W.alike]) (by simp [PySem.W.alike]), PySem.W.dataLt_str, PySem.W.dataLt_str]
    simp only [PyData.eqv, beq_iff_eq]
    rfl
  rw [e]
theorem prLe_total (p q : Pr) : (prLe p q || prLe q p) = true := by
  rcases (PySem.W.sortLe_total (PyProof.Rows.listOrd PyProof.Rows.itemOrd) false fun b => PySem.W.keyToks (prD2 b)).total p q with h | h
  · rw [show prLe p q = true from h, Bool.true_or]
  · rw [show prLe q p = true from h, Bool.or_true]
theorem prLe_trans (p q r : Pr) : prLe p q = true → prLe q r = true → prLe p r = true := (PySem.W.sortLe_total (PyProof.Rows.listOrd PyProof.Rows.itemOrd) false fun b => PySem.W.keyToks (prD2 b)).trans p q r
section
variable {X : Cx}
theorem each_vals {H : Hp} : ∀ {xs : List V} {us : List Value} {ps : List Pr}, Vals xs us → IsPs H xs ps → EachIs (fun u p => ∃ x, RelV x u ∧ IsP H x p) us ps
  | _, _, _, .nil, .nil => .nil
  | _, _, _, .cons r t, .cons h u => .cons ⟨_, r, h⟩ (each_vals t u)
theorem vals_each {H : Hp} : ∀ {us : List Value} {ps : List Pr}, EachIs (fun u p => ∃ x, RelV x u ∧ IsP H x p) us ps → ∃ xs, Vals xs us ∧ IsPs H xs ps
  | _, _, .nil => ⟨[], .nil, .nil⟩
  | _, _, .cons ⟨x, r, h⟩ t => by
    obtain ⟨xs, r2, h2⟩ := vals_each t
    exact ⟨x :: xs, .cons r r2, .cons h h2⟩
/-- sorted(xs), xs a list or a tuple of pairs of texts -/
def rSortedPr (K : PySem.W.Frag) : List V → Hp → VK → Prop := fun vs H Q => ∃ (a : Addr) (xs : List V) (ps : List Pr), vs = [.ref a] ∧ (SqL K H a xs ∨ SqT K H a xs) ∧ IsPs H xs ps ∧ ps.length ≤ 1000 ∧
  ∀ ys p, IsPs H ys (ps.mergeSort prLe) → H p = none → Q (.ref p) (upd H p (.lst ys))
theorem cr_sortedPr {k : Nat} (hr : Room k X.A) : CallR X (.builtin "sorted") (rSortedPr X.K) := by
  intro pins s σ H vs us Q I r h
  obtain ⟨a, xs, ps, rfl, hs, hp, hl, q⟩ := h
  rw [Vals.ref1 r]
  have main : ∀ (its : List Value) (o : Obj) (n : Nat) (T : String), Vals xs its → s.heap.get? a = some o → o.cls = .type T → (T = "list" ∨ T = "tuple") → o.data = .seq its.toArray n → wpAny (model X.prog X.w) X.A (call (.builtin "sorted") [.ref a]) (EP X pins σ Q) X.xe s := fun its o n T rv ho hc hT hd => by
    have hlen : its.length = ps.length := by rw [← rv.length]; exact Paired.length hp
    have hsz : its.length ≤ sizeLine := by rw [hlen]; exact Nat.le_of_lt (small1000 hl)
    refine sorted_by (args_sorted1 _) (fun _ => args_list_sort _) fun E' => collect_seq ho hc hT hd ⟨hsz, fun E'' => ?_⟩ hsz
    have keep : ∀ b o, s.heap.get? b = some o → ((s.heap.push (seqObj "list" #[] 0)).update s.heap.objs.size (Obj.mapSeq (· ++ its.toArray))).get? b = some o := fun b o q => by
      rw [Heap.get?_update_ne _ _ _ _ (Nat.ne_of_lt (Heap.lt_size q))]
      exact Heap.get?_push_of_some _ q
    have er0 : ∀ {zs : List V} {us : List Value} {qs : List Pr}, Vals zs us → IsPs H zs qs → EachIs (fun v b => ∃ as, Reads s.heap v (prD2 b) as) us qs := by
      intro zs us qs r1 r2
      induction r1 generalizing qs with
      | nil => cases r2; exact .nil
      | cons h t ih =>
        cases r2 with
        | cons h2 t2 => exact .cons (Dp.reads I _ _ _ (IsP.dp h2) h) (ih t2)
    have er := er0 rv hp
    refine sort_data (s := { s with heap := (s.heap.push (seqObj "list" #[] 0)).update s.heap.objs.size (Obj.mapSeq (· ++ its.toArray)) }) (bs := ps) (enc := prD2) (each_vals rv hp) (er.mono fun _ _ ⟨as, r⟩ => ⟨as, PyProof.Rows.Reads.keeps keep r⟩)
      (AllAlike.of fun b b' => by simp [prD2, PySem.W.alike, PySem.W.alikeAll]) (Sortable.tuples fun b => ⟨_, _, rfl⟩) (Nat.le_of_lt (small1000 hl)) (fun b _ => by rw [prD2_depth]; have := hr.units; show X.A.units + 1 + 1 + 1 < cLine; omega) fun out c h' k1 hg hlo heach => ?_
    obtain ⟨ys, rv2, hp2⟩ := vals_each heach
    have hsz1 : ((s.heap.push (seqObj "list" #[] 0)).update s.heap.objs.size (Obj.mapSeq (· ++ its.toArray))).objs.size = s.heap.objs.size + 1 := by rw [Heap.size_update, size_push']
    have kk : ∀ b o, s.heap.get? b = some o → h'.get? b = some o := fun b o q => k1 b o (keep b o q)
    have hg' : h'.get? (s.heap.objs.size + 1) = some (seqObj "list" (List.toArray out) c) := by rw [← hsz1]; exact hg
    have hly : ys.length ≤ sizeLine := by rw [rv2.length, hlo]; exact Nat.le_of_lt (small1000 hl)
    have hf := I.hok.fresh (Nat.le_succ s.heap.objs.size)
    rw [hsz1]
    exact ⟨.ref _, upd H (s.heap.objs.size + 1) (.lst ys), I.laid (t' := s.toks) kk (Nat.le_succ _) ⟨hly, out, c, rv2, hg'⟩, rfl, q ys _ hp2 hf⟩
  rcases hs with hs | hs
  · obtain ⟨its, rv, ⟨o, n, ho, hc, hdn, hdt⟩, _⟩ := I.list hs
    exact main its o n "list" rv ho hc (.inl rfl) hdt
  · obtain ⟨its, rv, ⟨o, ho, hc, n, hdt⟩, _⟩ := I.tuple hs
    exact main its o n "tuple" rv ho hc (.inr rfl) hdt
end
end Pn
/-! #### W2 -/
namespace Pn
open PySem PySem.Spec PyProof.Rows L2
/-! ### classes, deeds as data -/
abbrev cA (K : PySem.W.Frag) (x : Str) : Addr := He.ga K x
inductive Kd | mk | ch | en
instance : DecidableEq Kd := fun a b => by cases a <;> cases b <;> first | exact isTrue rfl | exact isFalse (by intro h; cases h)
def Kd.nm : Kd → Str | .mk => "Make" | .ch => "Change" | .en => "End"
def Kd.cls (K : PySem.W.Frag) (k : Kd) : Addr := cA K k.nm
abbrev Ws := Option (List Str × List Str)
structure Dd where
  kd : Kd
  name : Str
  moves : List Pr
  cols : List Str
  words : Ws
def noteF (o n : Addr) (nm ch : Bool) : List (Str × V) := [("old", .ref o), ("new", .ref n), ("named", .bl nm), ("changed", .bl ch)]
def deedF (n : Str) (m c : Addr) (nv : V) : List (Str × V) := [("name", .str n), ("moves", .ref m), ("columns", .ref c), ("note", nv)]
def NoteAt (K : PySem.W.Frag) (H : Hp) (v : V) : Ws → Prop
  | none => v = .non
  | some (olds, news) => ∃ q dx o n nm ch, v = .ref q ∧ H q = some (.ins (cA K "Note") dx (noteF o n nm ch)) ∧ TxT H o olds ∧ TxT H n news
def DeedAt (K : PySem.W.Frag) (H : Hp) (v : V) (d : Dd) : Prop := ∃ p dx m c nv ms, v = .ref p ∧ H p = some (.ins (d.kd.cls K) dx (deedF d.name m c nv)) ∧ H m = some (.tup ms) ∧ IsPs H ms d.moves ∧ TxT H c d.cols ∧ NoteAt K H nv d.words
/-- frames that keep tuples and instances -/
structure Kps (E : Ex) : Prop where
  tup : ∀ q xs, ¬ E q (.tup xs)
  ins : ∀ q C dx fs, ¬ E q (.ins C dx fs)
theorem Kps.e0 : Kps Ex0 := ⟨fun _ _ z => z, fun _ _ _ _ z => z⟩
section
variable {K : PySem.W.Frag} {E : Ex} {H H' : Hp} {v : V}
theorem IsP.fr (k : Kps E) (f : Fr E H H') {p : Pr} (h : IsP H v p) : IsP H' v p := (Sta.isP k.tup).fr _ _ _ _ f h
theorem IsPs.fr (k : Kps E) (f : Fr E H H') {vs : List V} {ps : List Pr} (h : IsPs H vs ps) : IsPs H' vs ps := Paired.mono (fun _ _ => IsP.fr k f) h
theorem TxT.fr (k : Kps E) (f : Fr E H H') {a : Addr} {xs : List Str} (h : TxT H a xs) : TxT H' a xs := f.get h (k.tup _ _)
theorem NoteAt.fr (k : Kps E) (f : Fr E H H') {w : Ws} (h : NoteAt K H v w) : NoteAt K H' v w := by
  cases w with
  | none => exact h
  | some w =>
    obtain ⟨q, dx, o, n, nm, ch, e, h1, h2, h3⟩ := h
    exact ⟨q, dx, o, n, nm, ch, e, f.get h1 (k.ins _ _ _ _), h2.fr k f, h3.fr k f⟩
theorem DeedAt.fr (k : Kps E) (f : Fr E H H') {d : Dd} (h : DeedAt K H v d) : DeedAt K H' v d := by
  obtain ⟨p, dx, m, c, nv, ms, e, h1, h2, h3, h4, h5⟩ := h
  exact ⟨p, dx, m, c, nv, ms, e, f.get h1 (k.ins _ _ _ _), f.get h2 (k.tup _ _), h3.fr k f, h4.fr k f, h5.fr k f⟩
/-- one address is changed that is no data -/
def ExA (a : Addr) : Ex := fun q _ => q = a
theorem Fr.at {a : Addr} {o : HO} : Fr (ExA a) H (upd H a o) := fun q u h => by
  by_cases z : q = a
  · subst z
    exact ⟨fun _ => ⟨o, rfl, upd_same⟩, fun n => absurd rfl n⟩
  · exact ⟨fun e => absurd e z, fun _ => by rw [upd_ne z]; exact h⟩
theorem Sta.li_of {B : Type} {R : Hp → V → B → Prop} {E : Ex} (fr : ∀ H H' v b, Fr E H H' → R H v b → R H' v b) (at_ : ∀ H a o ys v b, H a = some (.lst ys) → R H v b → R (upd H a o) v b) : Sta E R := ⟨fr, fun H D ys ys' v b d r => at_ H D _ ys v b d r⟩
theorem IsP.at {a : Addr} {o u : HO} (ha : H a = some u) (hu : ∀ xs, u ≠ .tup xs) {p : Pr} (h : IsP H v p) : IsP (upd H a o) v p := by
  obtain ⟨b, e, z⟩ := h
  exact ⟨b, e, by rw [upd_ne (ne_of z ha (fun q => hu _ q.symm))]; exact z⟩
theorem IsPs.at {a : Addr} {o u : HO} (ha : H a = some u) (hu : ∀ xs, u ≠ .tup xs) {vs : List V} {ps : List Pr} (h : IsPs H vs ps) : IsPs (upd H a o) vs ps := Paired.mono (fun _ _ => IsP.at ha hu) h
theorem TxT.at {a b : Addr} {o u : HO} (ha : H a = some u) (hu : ∀ xs, u ≠ .tup xs) {xs : List Str} (h : TxT H b xs) : TxT (upd H a o) b xs := by
  show upd H a o b = _
  rw [upd_ne (ne_of h ha (fun q => hu _ q.symm))]
  exact h
theorem NoteAt.at {a : Addr} {o u : HO} (ha : H a = some u) (hu : ∀ xs, u ≠ .tup xs) (hn : ∀ C dx fs, u = .ins C dx fs → fs.lookup ("old" : Str) = none) {w : Ws} (h : NoteAt K H v w) : NoteAt K (upd H a o) v w := by
  cases w with
  | none => exact h
  | some w =>
    obtain ⟨q, dx, oo, n, nm, ch, e, h1, h2, h3⟩ := h
    refine ⟨q, dx, oo, n, nm, ch, e, ?_, h2.at ha hu, h3.at ha hu⟩
    rw [upd_ne (ne_of h1 ha fun z => ?_)]
    · exact h1
    · have := hn _ _ _ z.symm
      cases this
theorem DeedAt.at {a : Addr} {o u : HO} (ha : H a = some u) (hu : ∀ xs, u ≠ .tup xs) (hn : ∀ C dx fs, u ≠ .ins C dx fs) {d : Dd} (h : DeedAt K H v d) : DeedAt K (upd H a o) v d := by
  obtain ⟨p, dx, m, c, nv, ms, e, h1, h2, h3, h4, h5⟩ := h
  refine ⟨p, dx, m, c, nv, ms, e, ?_, ?_, h3.at ha hu, h4.at ha hu, h5.at ha hu (fun C dx fs z => absurd z (hn _ _ _))⟩
  · rw [upd_ne (ne_of h1 ha fun z => hn _ _ _ z.symm)]; exact h1
  · rw [upd_ne (ne_of h2 ha fun z => hu _ z.symm)]; exact h2
theorem Sta.isP' (k : Kps E) : Sta E IsP := Sta.isP k.tup
theorem Sta.deed (k : Kps E) : Sta E (DeedAt K) := Sta.li_of (fun _ _ _ _ f h => h.fr k f) fun _ _ _ _ _ _ d r => r.at d (by intro xs z; cases z) (by intro C dx fs z; cases z)
end
/-- the def's function object, whatever its defaults -/
def FnAt (K : PySem.W.Frag) (name qual : Str) (st : Stmt) (f : Addr) : Prop := ∃ (oc : Value) (od : Option Addr) (kV doc pm : Value) (an : Option Addr) (cdv ct : Value) (osl : Array (Option Value)),
  K.lookup f = some ⟨oc, od, .func (PySem.W.fnOf name qual (defArgs st) (defBody st) (defScope st) .none kV doc pm an cdv ct), osl⟩ ∧ PySem.W.codeIn K cdv qual = true
/-- where Deed.__init__ stands -/
def dI (K : PySem.W.Frag) : Addr := He.ma K (cA K "Deed") "__init__"
/-- what isinstance asks of a class -/
structure Own (K : PySem.W.Frag) (mg : Str → Option Value) (x : Str) : Prop where
  cl : Cls K (cA K x)
  g : mg x = some (.ref (cA K x))
  ha : PySem.W.findIn K (.ref (cA K x)) "__class__" = some (some (.builtin "object.__class__"))
  hm : PySem.W.mroIn K (cA K x) (.type "object") = some true
structure Tc (K : PySem.W.Frag) (mg : Str → Option Value) : Prop where
  tw : Tw K mg
  hn : PySem.W.specialIn K (.builtin "object.__class__") "__get__" = some (some (.builtin "getset_descriptor.__get__"))
  htk : PySem.W.takesIn K (.builtin "object.__class__") = some true
  note : Own K mg "Note"
  make : Own K mg "Make"
  change : Own K mg "Change"
  end_ : Own K mg "End"
  nN : ∀ f ∈ (["old", "new", "named", "changed"] : List Str), NoAttr K (cA K "Note") f
  nD : ∀ k : Kd, ∀ f ∈ (["name", "moves", "columns", "note"] : List Str), NoAttr K (k.cls K) f
  kNN : PySem.W.kitOne K (.ref (cA K "Note")) (.ref (cA K "Note")) = some true
  kXN : PySem.W.kitOne K (.type "NoneType") (.ref (cA K "Note")) = some false
  kD : ∀ k j : Kd, PySem.W.kitOne K (.ref (k.cls K)) (.ref (j.cls K)) = some (decide (k = j))
  g_MOST_MOVES : GInt mg "MOST_MOVES" 4
  check_note : DefAt K mg "check_note" s_check_note
  note_init : ∃ f, Mk K (cA K "Note") f ∧ FnAt K "__init__" "Note.__init__" s_Note_init f
  deed_init : FnAt K "__init__" "Deed.__init__" s_Deed_init (dI K)
  allowed : ∀ k : Kd, MetAt K (k.cls K) "allowed" "Deed.allowed" s_Deed_allowed
  after : ∀ k : Kd, MetAt K (k.cls K) "after" "Deed.after" s_Deed_after
section
variable {K : PySem.W.Frag} {mg : Str → Option Value} {H : Hp}
theorem Tc.own (T : Tc K mg) (k : Kd) : Own K mg k.nm := by
  cases k
  · exact T.make
  · exact T.change
  · exact T.end_
theorem Tc.cls (T : Tc K mg) (k : Kd) : Cls K (k.cls K) := (T.own k).cl
theorem Own.ty (T : Tc K mg) {x : Str} (o : Own K mg x) {a dx : Addr} {fs : List (Str × V)} (e : H a = some (.ins (cA K x) dx fs)) : TyX K H (.ref a) (.ref (cA K x)) := .base (.ins e o.cl o.ha T.hn T.htk o.hm)
end
section
variable {P : Program} {w : World} {K : PySem.W.Frag} {mg : Str → Option Value} {base : Heap}
/-- a class as a value -/
theorem Own.v {x : Str} (o : Own K mg x) : ∃ u, mg x = some u ∧ RelV (.ref (cA K x)) u := ⟨_, o.g, rfl⟩
def sp_check_note (K : PySem.W.Frag) : Sp := fun vs H Q _ => ∃ v ws, vs = [v] ∧ NoteAt K H v ws ∧ Q .non H
theorem ok_check_note (T : Tc K mg) : Kf P w K mg base 1 "check_note" p_check_note (sp_check_note K) := by
  refine Kf.of T.check_note sc_check_note ((fun _ _ _ _ _ _ us hl => match us, hl with | [_], _ => rfl)) (fun vs H Q E ⟨_, _, e, _⟩ => by rw [e]; rfl) fun f cdv A outer s H vs Q E hr ⟨v, ws, e, hn, k⟩ => ?_
  subst e
  have B := T.tw.bt
  refine ⟨_, (pss_one (ps_if (PW.pt (pw_and (pt_cmpR op_notN (pv 0) pe_non (nomark _)) (pw_and1 (pt_not (pt_val (cB (isiK K) B.isinstance bb_isinstance (pa_cons (pv 0) (pa_cons (pe_own T.note.v) pa_nil)))))))) (pss_one ps_never) pss_nil)), ?_⟩
  cases ws with
  | none =>
    obtain rfl : v = .non := hn
    exact ⟨_, rfl, rfl, _, rfl, iteF k⟩
  | some ws =>
    obtain ⟨q, dx, o, n, nm, ch, rfl, h1, h2, h3⟩ := hn
    refine ⟨_, rfl, rfl, _, rfl, iteT ?_⟩
    exact ⟨_, rfl, .ref q, .ref (cA K "Note"), _, _, true, rfl, .own _, T.note.ty T h1, T.kNN, true, rfl, iteF k⟩
def note_ks : List Str := ["old", "new", "named", "changed"]
def sp_note_init (K : PySem.W.Frag) : Sp := fun vs H Q _ => ∃ (H0 : Hp) (p dx o n : Addr) (nm ch : Bool) (olds news : List Str), vs = [.ref p, .ref o, .ref n, .bl nm, .bl ch] ∧ Same H0 H ∧ H0 p = none ∧ H p = some (.ins (cA K "Note") dx []) ∧
  TxL H o olds ∧ (∀ x ∈ olds, Nm x) ∧ olds.Nodup ∧ olds.length ≤ 4 ∧ TxL H n news ∧ (∀ x ∈ news, Nm x) ∧ news.Nodup ∧ news.length ≤ 4 ∧
  ∀ H' ys zs, Same H0 H' → Sorted ys olds → Sorted zs news → NoteAt K H' (.ref p) (some (ys, zs)) → Q .non H'
theorem ok_note_init (T : Tc K mg) : ∃ f fd, Mk K (cA K "Note") f ∧ FnOk P w K mg base CX0 4 f fd p_Note_init (sp_note_init K) ∧ KBn K fd p_Note_init 1 note_ks (fun us ws => us ++ ws) (fun vs zs => vs ++ zs) := by
  obtain ⟨f, M, oc, od, kV, doc, pm, an, cdv, ct, osl, lk, hcd⟩ := T.note_init
  refine ⟨f, _, M, fn_of lk hcd sc_Note_init (fun vs H Q E ⟨_, _, _, _, _, _, _, _, _, e, _⟩ => by rw [e]; rfl) (fun A outer s H vs Q E hr hsp => ?_), ⟨fun s us ws _ h1 h2 => .of_eq ?_, fun r1 r2 => r1.append r2⟩⟩
  · obtain ⟨H0, p, dx, o, n, nm, ch, olds, news, rfl, s0, p0, hp, ho, on_, ond, ol, hn, nn_, nnd, nl, k⟩ := hsp
    have B := T.tw.bt
    have c_check_names := ok_check_names (P := P) (w := w) (base := base) T.tw
    refine ⟨_, PSs.nox (pss_cons (ps_fld (pv 0) (pe_k c_check_names hr (by decide) rfl (pa_cons (pv 1) (pa_cons (pe_own T.tw.g_MOST_WORDS) pa_nil))) rfl) (pss_cons (ps_fld (pv 0) (pe_k c_check_names hr (by decide) rfl (pa_cons (pv 2) (pa_cons (pe_own T.tw.g_MOST_WORDS) pa_nil))) rfl) (pss_cons (ps_fld (pv 0) (pv 3) rfl) (pss_one (ps_fld (pv 0) (pv 4) rfl))))), ?_⟩
    have nL : ∀ {a : Addr} {xs : List Str} {H' : Hp} {fs : List (Str × V)}, TxL H' a xs → H' p = some (.ins (cA K "Note") dx fs) → a ≠ p := fun h1 h2 => ne_of h1 h2 (by intro z; cases z)
    refine ⟨_, rfl, o, olds, 4, rfl, ho, on_, ond, by omega, by decide, fun r ys H1 s1 hs1 h1 => ?_⟩
    have hp1 := s1 _ _ hp
    refine ⟨_, rfl, p, _, dx, [], rfl, hp1, T.note.cl, T.nN _ (by simp), (by show 0 < 1000; decide), ?_⟩
    have nr : r ≠ p := ne_of h1 hp1 (by intro z; cases z)
    have hn1 : TxL (upd H1 p (.ins (cA K "Note") dx (putF "old" (.ref r) []))) n news := by
      show upd H1 p _ n = _
      rw [upd_ne (nL (s1 _ _ hn) hp1)]; exact s1 _ _ hn
    refine ⟨_, rfl, n, news, 4, rfl, hn1, nn_, nnd, by omega, by decide, fun r2 zs H2 s2 hs2 h2 => ?_⟩
    have hp2 := s2 _ _ (upd_same (H := H1) (a := p) (o := .ins (cA K "Note") dx (putF "old" (.ref r) [])))
    have h12 : TxT H2 r ys := s2 _ _ (by rw [upd_ne nr]; exact h1)
    have nr2 : r2 ≠ p := ne_of h2 hp2 (by intro z; cases z)
    refine ⟨_, rfl, p, _, dx, _, rfl, hp2, T.note.cl, T.nN _ (by simp), (by show 1 < 1000; decide), ?_⟩
    refine ⟨_, rfl, _, rfl, p, _, dx, _, rfl, upd_same, T.note.cl, T.nN _ (by simp), (by show 2 < 1000; decide), ?_⟩
    refine ⟨_, rfl, _, rfl, p, _, dx, _, rfl, upd_same, T.note.cl, T.nN _ (by simp), (by show 3 < 1000; decide), ?_⟩
    refine k _ ys zs ?_ hs1 hs2 ⟨p, dx, r, r2, nm, ch, rfl, upd_same, ?_, ?_⟩
    · intro b u e
      have nb : b ≠ p := fun z => by rw [z, p0] at e; cases e
      rw [upd_ne nb, upd_ne nb, upd_ne nb]
      refine s2 _ _ ?_
      rw [upd_ne nb]
      exact s1 _ _ (s0 _ _ e)
    · show upd _ p _ r = _
      rw [upd_ne nr, upd_ne nr, upd_ne nr]; exact h12
    · show upd _ p _ r2 = _
      rw [upd_ne nr2, upd_ne nr2, upd_ne nr2]; exact h2
  · match us, h1, ws, h2 with
    | [_], _, [_, _, _, _], _ => rfl
/-- a deed's __init__: moves from a list or a tuple of pairs -/
def sp_deed_init (K : PySem.W.Frag) : Sp := fun vs H Q _ => ∃ (H0 : Hp) (kd : Kd) (p dx m c : Addr) (n : Str) (nv : V) (ms : List V) (ps : List Pr) (cols : List Str) (ws : Ws), vs = [.ref p, .str n, .ref m, .ref c, nv] ∧ Same H0 H ∧ H0 p = none ∧ H p = some (.ins (kd.cls K) dx []) ∧
  (H m = some (.lst ms) ∨ H m = some (.tup ms)) ∧ IsPs H ms ps ∧ ps.length ≤ 1000 ∧ TxT H c cols ∧ NoteAt K H nv ws ∧ ∀ H', Same H0 H' → DeedAt K H' (.ref p) ⟨kd, n, ps.mergeSort prLe, cols, ws⟩ → Q .non H'
theorem ok_deed_init (T : Tc K mg) : ∃ fd, FnOk P w K mg base CX0 2 (dI K) fd p_Deed_init (sp_deed_init K) ∧ Binds K fd p_Deed_init [] := by
  obtain ⟨oc, od, kV, doc, pm, an, cdv, ct, osl, lk, hcd⟩ := T.deed_init
  refine ⟨_, fn_of lk hcd sc_Deed_init (fun vs H Q E ⟨_, _, _, _, _, _, _, _, _, _, _, _, e, _⟩ => by rw [e]; rfl) (fun A outer s H vs Q E hr hsp => ?_), .all fun us hl => match us, hl with | [_, _, _, _, _], _ => rfl⟩
  obtain ⟨H0, kd, p, dx, m, c, n, nv, ms, ps, cols, ws, rfl, s0, p0, hp, hm, hps, hl, hc, hn, k⟩ := hsp
  have B := T.tw.bt
  have c_check_note := ok_check_note (P := P) (w := w) (base := base) T
  refine ⟨_, PSs.nox (pss_cons (ps_expr (pe_k c_check_note hr (by decide) rfl (pa_cons (pv 4) pa_nil))) (pss_cons (ps_fld (pv 0) (pv 1) rfl) (pss_cons (ps_fld (pv 0) (cT call_tuple_of B.tuple bb_tuple (pa_cons (cB (cr_sortedPr (k := 1) hr) B.sorted bb_sorted (pa_cons (pv 2) pa_nil)) pa_nil)) rfl) (pss_cons (ps_fld (pv 0) (pv 3) rfl) (pss_one (ps_fld (pv 0) (pv 4) rfl)))))), ?_⟩
  have cl := T.cls kd
  have nt : ∀ C fs, (∀ xs, (HO.ins C dx fs) ≠ .tup xs) := fun C fs xs z => by cases z
  refine ⟨_, rfl, nv, ws, rfl, hn, ?_⟩
  refine ⟨_, rfl, _, rfl, p, _, dx, [], rfl, hp, cl, T.nD kd _ (by simp), (by show 0 < 1000; decide), ?_⟩
  have q1 : ∀ (fs : List (Str × V)), fs.lookup ("old" : Str) = none → ∀ C dx' fs', HO.ins (kd.cls K) dx fs = .ins C dx' fs' → fs'.lookup ("old" : Str) = none := fun fs h C dx' fs' z => by cases z; exact h
  have hps1 := hps.at (o := .ins (kd.cls K) dx (putF "name" (.str n) [])) hp (nt _ _)
  have hc1 := hc.at (o := .ins (kd.cls K) dx (putF "name" (.str n) [])) hp (nt _ _)
  have hn1 := hn.at (o := .ins (kd.cls K) dx (putF "name" (.str n) [])) hp (nt _ _) (q1 [] rfl)
  have hm1 : upd H p (.ins (kd.cls K) dx (putF "name" (.str n) [])) m = some (.lst ms) ∨ upd H p (.ins (kd.cls K) dx (putF "name" (.str n) [])) m = some (.tup ms) := by
    rcases hm with h | h
    · exact .inl (by rw [upd_ne (ne_of h hp (by intro z; cases z))]; exact h)
    · exact .inr (by rw [upd_ne (ne_of h hp (by intro z; cases z))]; exact h)
  have hp1 := upd_same (H := H) (a := p) (o := .ins (kd.cls K) dx (putF "name" (.str n) []))
  have n1 : ∀ b o, H0 b = some o → upd H p (.ins (kd.cls K) dx (putF "name" (.str n) [])) b = some o := fun b o e => by
    have nb : b ≠ p := fun z => by rw [z, p0] at e; cases e
    rw [upd_ne nb]; exact s0 _ _ e
  revert hps1 hc1 hn1 hm1 hp1 n1
  generalize upd H p (.ins (kd.cls K) dx (putF "name" (.str n) [])) = H1
  intro hps1 hc1 hn1 hm1 hp1 n1
  refine ⟨_, rfl, m, ms, ps, rfl, hm1.imp (fun h => .inl (.inl h)) (fun h => .inl (.inl h)), hps1, hl, fun ys r hys hr0 => ?_⟩
  refine ⟨r, ys, rfl, .inl ⟨.inl (.inl upd_same), fun t ht => ?_⟩⟩
  have s2 : Same H1 (upd (upd H1 r (.lst ys)) t (.tup ys)) := ((Fr.new (E := Ex0) hr0).new' ht).same
  have ht1 := upd_same (H := upd H1 r (.lst ys)) (a := t) (o := .tup ys)
  revert s2 ht1
  generalize upd (upd H1 r (.lst ys)) t (.tup ys) = H2
  intro s2 ht1
  have hp2 := s2 _ _ hp1
  have hys2 := hys.mono s2
  have F2 : Fr Ex0 H1 H2 := Fr.of s2
  have hc2 := hc1.fr .e0 F2
  have hn2 := hn1.fr .e0 F2
  have ntp : t ≠ p := ne_of ht1 hp2 (by intro z; cases z)
  refine ⟨_, rfl, p, _, dx, _, rfl, hp2, cl, T.nD kd _ (by simp), (by show 1 < 1000; decide), ?_⟩
  refine ⟨_, rfl, _, rfl, p, _, dx, _, rfl, upd_same, cl, T.nD kd _ (by simp), (by show 2 < 1000; decide), ?_⟩
  refine ⟨_, rfl, _, rfl, p, _, dx, _, rfl, upd_same, cl, T.nD kd _ (by simp), (by show 3 < 1000; decide), ?_⟩
  refine k _ ?_ ⟨p, dx, t, c, nv, ys, rfl, upd_same, ?_, ?_, ?_, ?_⟩
  · intro b u e
    have nb : b ≠ p := fun z => by rw [z, p0] at e; cases e
    rw [upd_ne nb, upd_ne nb, upd_ne nb]
    exact s2 _ _ (n1 _ _ e)
  · rw [upd_ne ntp, upd_ne ntp, upd_ne ntp]; exact ht1
  · exact ((hys2.at hp2 (nt _ _)).at upd_same (nt _ _)).at upd_same (nt _ _)
  · exact ((hc2.at hp2 (nt _ _)).at upd_same (nt _ _)).at upd_same (nt _ _)
  · exact ((hn2.at hp2 (nt _ _) (q1 _ rfl)).at upd_same (nt _ _) (q1 _ rfl)).at upd_same (nt _ _) (q1 _ rfl)
theorem at0 (p : Pr) : atI (vP p) 0 = some (.str p.1) := rfl
theorem at1 (p : Pr) : atI (vP p) 1 = some (.str p.2) := rfl
/-- the moves' first states -/
def sp_allowed (K : PySem.W.Frag) (kd : Kd) : Sp := fun vs H Q _ => ∃ v st d, vs = [v, .str st] ∧ DeedAt K H v d ∧ d.kd = kd ∧ d.moves.length ≤ 1000 ∧ ∀ H', Same H H' → Q (.bl (decide (st ∈ d.moves.map Prod.fst))) H'
theorem deed_moves (d : Dd) (m c : Addr) (nv : V) : (deedF d.name m c nv).lookup ("moves" : Str) = some (.ref m) := rfl
theorem ok_allowed (T : Tc K mg) (kd : Kd) : Mf P w K mg base 1 (kd.cls K) "allowed" p_Deed_allowed (sp_allowed K kd) := by
  refine Mf.of (T.allowed kd) (T.cls kd) sc_Deed_allowed ((fun _ _ _ _ _ _ us hl => match us, hl with | [_, _], _ => rfl)) (fun vs H Q E ⟨_, _, _, e, _⟩ => by rw [e]; rfl) fun f cdv A outer s H vs Q E hr ⟨v, st, d, e, hd, hk, hl, k⟩ => ?_
  subst e hk
  have B := T.tw.bt
  refine ⟨_, (pss_one (ps_ret (pe_and (cB (isiK K) B.isinstance bb_isinstance (pa_cons (pv 1) (pa_cons (pe_tyv "str" B.str bb_str) pa_nil))) (pe_one (pe_cmpR (op_in_seqK K) (pv 1) (pe_lc (own := [("move", 2)]) rfl sc_Deed_allowed.nd (pi_tupK K (fldK K (pv 0) rfl)) (blkOk_by (N := n_Deed_allowed) (sc := defScope s_Deed_allowed) (by decide +kernel)) (fun _ _ _ _ _ => (gnm 2 sc_Deed_allowed.nd)) (fun _ _ _ _ _ => pts_nil) (fun _ _ _ _ _ => (pe_ix (ix_tupK K) (pv 2) pe_int (fun _ _ => rfl)))) (by with_unfolding_all rfl)))))), ?_⟩
  obtain ⟨p, dx, m, c, nv, ms, rfl, h1, h2, h3, h4, h5⟩ := hd
  refine ⟨_, rfl, .str st, .ty "str", _, _, true, rfl, .ty _, .base (.str st), kit_ty (by decide +kernel), true, rfl, iteT ?_⟩
  refine ⟨_, rfl, _, rfl, p, _, dx, _, _, rfl, h1, T.cls d.kd, T.nD d.kd _ (by simp), deed_moves _ _ _ _, m, rfl, ⟨ms, .inl (.inl h2)⟩, fun D hD => ?_⟩
  have hlen : ms.length = d.moves.length := Paired.length h3
  refine lc_map (E := Ex0) (walk_tup (xs := ms)) (B := Str) d.moves (fun _ => true) Prod.fst (fun _ v b => v = .str b) hlen.symm hD (by omega) (fun H' f => .inl (.inl (f.same _ _ h2))) (fun i H x H' y => by rw [y.1]; exact Fr.refl _ _) (Sta.eq V.str) (fun _ _ _ _ z => z) ?_ ?_
  · rintro i x H1 H2 a Ky Kn ha fr ⟨rfl, hx⟩ hy hk
    obtain ⟨q, rfl, hq⟩ := Paired.at h3 hx ha
    refine ⟨rfl, yes_of ?_⟩
    exact ⟨_, rfl, q, _, 0, _, rfl, rfl, .inl (.inl (fr.same _ _ hq)), at0 a, hy _ _ rfl (Fr.refl _ _) rfl⟩
  · intro H1 ys fr hd r
    have hy := Paired.mapEq (f := V.str) r
    rw [List.filter_eq_self.mpr (fun _ _ => rfl)] at hy
    refine ⟨D, ys, rfl, .inl (.inl (.inl hd)), rfl, by rw [hy]; exact flat_strs _, ?_⟩
    show Q (.bl (inV (.str st) ys)) H1
    rw [hy, inV_strs]
    exact k _ fr.same
/-- the move that starts at st leads to -/
def aft (ms : List Pr) (st : Str) : Str := ((ms.find? fun p => decide (p.1 = st)).map Prod.snd).getD ""
def sp_after (K : PySem.W.Frag) (kd : Kd) : Sp := fun vs H Q _ => ∃ v st d, vs = [v, .str st] ∧ DeedAt K H v d ∧ d.kd = kd ∧ st ∈ d.moves.map Prod.fst ∧ Q (.str (aft d.moves st)) H
theorem aft_at {ms : List Pr} {i : Nat} {p : Pr} {st : Str} (hi : ms[i]? = some p) (hp : p.1 = st) (hno : ∀ j q, j < i → ms[j]? = some q → q.1 ≠ st) : aft ms st = p.2 := by
  have e : ms.find? (fun p => decide (p.1 = st)) = some p := by
    induction ms generalizing i with
    | nil => simp at hi
    | cons q ms ih =>
      cases i with
      | zero =>
        simp at hi
        subst hi
        simp [hp]
      | succ i =>
        have h0 := hno 0 q (Nat.succ_pos _) rfl
        rw [List.find?_cons_of_neg (by simpa using h0)]
        exact ih (by simpa using hi) fun j r hj hr => hno (j + 1) r (by omega) (by simpa using hr)
  unfold aft
  rw [e]
  rfl
theorem ok_after (T : Tc K mg) (kd : Kd) : Mf P w K mg base 1 (kd.cls K) "after" p_Deed_after (sp_after K kd) := by
  refine Mf.of (T.after kd) (T.cls kd) sc_Deed_after ((fun _ _ _ _ _ _ us hl => match us, hl with | [_, _], _ => rfl)) (fun vs H Q E ⟨_, _, _, e, _⟩ => by rw [e]; rfl) fun f cdv A outer s H vs Q E hr ⟨v, st, d, e, hd, hk, hm, k⟩ => ?_
  subst e hk
  have B := T.tw.bt
  refine ⟨_, (pss_cons (ps_for PassesOwn.never rfl (pi_tupK K (fldK K (pv 0) rfl)) (pg_tupK K rfl (pgs_cons (gnm 2 sc_Deed_after.nd) (pgs_cons (gnm 3 sc_Deed_after.nd) pgs_nil))) (pss_one (ps_if (PW.pt (pw_and (pt_val (cB (isiK K) B.isinstance bb_isinstance (pa_cons (pv 1) (pa_cons (pe_tyv "str" B.str bb_str) pa_nil)))) (pw_and1 (pt_cmpR op_eq (pv 2) (pv 1) (nomark _))))) (pss_one (ps_ret (pv 3))) pss_nil))) (pss_one ps_never)), ?_⟩
  obtain ⟨p, dx, m, c, nv, ms, rfl, h1, h2, h3, h4, h5⟩ := hd
  have hlen : ms.length = d.moves.length := Paired.length h3
  refine ⟨_, rfl, p, _, dx, _, _, rfl, h1, T.cls d.kd, T.nD d.kd _ (by simp), deed_moves _ _ _ _, m, rfl, ⟨ms, .inl (.inl h2)⟩, ?_⟩
  refine for_it (walk_tup (xs := ms)) (fun i σ H' => (∃ o1 o2, σ = [some (.ref p), some (.str st), o1, o2]) ∧ H' = H ∧ ∀ j q, j < i → d.moves[j]? = some q → q.1 ≠ st) ⟨⟨_, _, rfl⟩, rfl, fun j q hj => absurd hj (Nat.not_lt_zero _)⟩ (fun i σ H' _ p => by rw [p.2.1]; exact .inl (.inl h2)) ?_ ?_
  · rintro i x σ H1 H2 hi ⟨⟨o1, o2, rfl⟩, rfl, hno⟩ ⟨rfl, hx⟩
    obtain ⟨q, hq, t, rfl, ht⟩ := Paired.get h3 hx
    refine ⟨t, _, rfl, .inl (.inl ht), rfl, _, _, rfl, _, _, rfl, rfl, ?_⟩
    refine ⟨_, rfl, .str st, .ty "str", _, _, true, rfl, .ty _, .base (.str st), kit_ty (by decide +kernel), true, rfl, iteT ?_⟩
    refine ⟨_, rfl, _, rfl, rfl, _, rfl, ite2 (fun e => ?_) (fun e => ?_)⟩
    · have e2 : q.1 = st := by
        have := of_decide_eq_true e
        cases this; rfl
      refine ⟨_, rfl, ?_⟩
      have := aft_at hq e2 hno
      rw [this] at k
      exact k
    · have e2 : q.1 ≠ st := fun z => e (decide_eq_true (by rw [z]))
      refine ⟨⟨_, _, rfl⟩, rfl, fun j r hj hr => ?_⟩
      by_cases hji : j = i
      · subst hji
        rw [hq] at hr; cases hr
        exact e2
      · exact hno j r (by omega) hr
  · rintro σ H1 ⟨⟨o1, o2, rfl⟩, rfl, hno⟩
    obtain ⟨q, hq, e⟩ := List.mem_map.mp hm
    obtain ⟨j, hj⟩ := List.mem_iff_getElem?.mp hq
    have hjl : j < d.moves.length := (List.getElem?_eq_some_iff.mp hj).1
    exact absurd e (hno j q (by omega) hj)
end
end Pn
/-! #### W3 -/
namespace Pn
open PySem PySem.Spec PyProof.Rows L2
/-! ### Make, Change, End -/
/-- an __init__ that says super().__init__ -/
def XInit (P : Program) (K : PySem.W.Frag) (k : Kd) (qual : Str) (st : Stmt) : Prop := ∃ (f cc cda : Addr) (oc : Value) (od : Option Addr) (kV doc pm : Value) (an : Option Addr) (ct : Value) (osl : Array (Option Value)) (ccl : Value) (ccd : Option Addr) (ccs : Array (Option Value)),
  Mk K (k.cls K) f ∧ K.lookup f = some ⟨oc, od, .func (PySem.W.ksFn "__init__" qual (defArgs st) (defBody st) (defScope st) .none kV doc pm an (.ref cda) ct cc), osl⟩ ∧ PySem.W.codeIn K (.ref cda) qual = true ∧
  K.lookup cc = some ⟨ccl, ccd, .cell (some (.ref (k.cls K))), ccs⟩ ∧ SupC K (k.cls K) (k.cls K) "__init__" (dI K) ∧
  (∃ cl cd vs cs file tf, K.lookup cda = some ⟨cl, cd, .fields vs, cs⟩ ∧ vs[2]? = some (.str file tf) ∧ ((P.main.file : Str) == file) = true) ∧ ∃ cdD, PySem.W.clsIn K (k.cls K) = some cdD
structure Td (P : Program) (K : PySem.W.Frag) (mg : Str → Option Value) : Prop where
  tc : Tc K mg
  top : (P.main.scope.names.lookup ("super" : Str)).isSome = false
  op : PySem.W.nsIn K cStatics "thirdparty.any" = some none
  make : XInit P K .mk "Make.__init__" s_Make_init
  change : XInit P K .ch "Change.__init__" s_Change_init
  end_ : XInit P K .en "End.__init__" s_End_init
section
variable {P : Program} {w : World} {K : PySem.W.Frag} {mg : Str → Option Value} {base : Heap}
theorem deed_FnR (T : Tc K mg) : FnR P w K mg base CX0 2 (dI K) (sp_deed_init K) := by
  obtain ⟨fd, F, b⟩ := ok_deed_init (P := P) (w := w) (base := base) T
  exact (F.raw b .nil).imp fun vs H Q E h => by rw [List.append_nil]; exact h
theorem psa_nox {X : Cx} {c : Code} {st : List Stmt} {t : TS} (h : PSA X.nox c st t) : PSA X c st t := ⟨fun pins s σ H D I hw =>
  ks_wpAt_mono (h.run pins s σ H D (I.wish _) hw) (fun _ _ q => q.unwish) fun _ _ z => False.elim z⟩
def sp_make_init (K : PySem.W.Frag) : List V → List V → Hp → VK → Prop := fun vs zs H Q => ∃ (H0 : Hp) (p dx : Addr) (n st : Str) (nv : V) (ws : Ws), vs = [.ref p, .str n, .str st] ∧ zs = [nv] ∧ Same H0 H ∧ H0 p = none ∧ H p = some (.ins (Kd.mk.cls K) dx []) ∧ Nm n ∧ Nm st ∧ NoteAt K H nv ws ∧
  ∀ H', Same H0 H' → DeedAt K H' (.ref p) ⟨.mk, n, [("", st)], [], ws⟩ → Q .non H'
theorem ok_make_init (T : Td P K mg) : ∃ f, Mk K (Kd.mk.cls K) f ∧ FnG P w K mg base 4 f ["note"] (sp_make_init K) := by
  obtain ⟨f, cc, cda, oc, od, kV, doc, pm, an, ct, osl, ccl, ccd, ccs, M, lk, hcd, hc, SC, ⟨cl, cd, vs0, cs, file, tf, l1, l2, l3⟩, hcls⟩ := T.make
  refine ⟨f, M, (fnG_X (ps := ["self", "name", "state"]) (ks := ["note"]) (N := n_Make_init) (sp := sp_make_init K) lk hcd hc sc_Make_init (fun us ws h1 h2 A' Ex Q s _ hQ => ?_) fun A outer s H as zs Q hr h1 h2 hsp => ?_).imp fun vs zs H Q h => ⟨by obtain ⟨_, _, _, _, _, _, _, e, _⟩ := h; rw [e]; rfl, h⟩⟩
  · match us, h1, ws, h2 with
    | [_, _, _], _, [_], _ => exact wpAny_of_eq rfl hQ
  · obtain ⟨H0, p, dx, n, st, nv, ws, rfl, rfl, s0, p0, hp, hn, hst, hnv, k⟩ := hsp
    have B := T.tc.tw.bt
    have c_check_name := ok_check_name (P := P) (w := w) (base := base) T.tc.tw
    have FR := deed_FnR (P := P) (w := w) (base := base) T.tc
    have SF : SupF (cxX P w K mg base n_Make_init "Make.__init__" (defScope s_Make_init) f (.ref cda) cc A outer s H).nox (Kd.mk.cls K) f cc cda := ⟨rfl, ⟨_, _, _, _, _, lk, rfl, rfl⟩, rfl, ⟨_, _, _, hc⟩, rfl, ⟨_, _, _, _, _, _, l1, l2, l3⟩, T.top, B.super, T.op, hcls⟩
    refine ⟨_, psa_nox (psa_cons (ps_expr (pe_k c_check_name hr (by decide) rfl (pa_cons (pv 1) pa_nil))) (psa_cons (ps_expr (pe_k c_check_name hr (by decide) rfl (pa_cons (pv 2) pa_nil))) (psa_super FR (hr.mono (by decide)) SF SC rfl rfl rfl rfl (pa_cons (pv 1) (pa_cons (pe_tup (pa_cons (pe_tup (pa_cons pe_str (pa_cons (pv 2) pa_nil))) pa_nil)) (pa_cons (pe_tup pa_nil) (pa_cons (pv 3) pa_nil))))))), ?_⟩
    refine ⟨_, rfl, n, rfl, hn, fun H1 s1 => ?_⟩
    refine ⟨_, rfl, st, rfl, hst, fun H2 s2 => ?_⟩
    have s12 := s1.trans s2
    have hp2 := s12 _ _ hp
    refine ⟨p, rfl, ⟨_, _, hp2⟩, _, rfl, _, rfl, (by show 2 ≤ sizeLine; decide), fun a ha => ⟨(by show 1 ≤ sizeLine; decide), fun b hb => ⟨Nat.zero_le _, fun c hc0 => ⟨_, rfl, ?_⟩⟩⟩⟩
    have s3 : Same H2 (upd (upd (upd H2 a (.tup [.str "", .str st])) b (.tup [.ref a])) c (.tup [])) := (((Fr.new (E := Ex0) ha).new' hb).new' hc0).same
    have hnb : b ≠ c := ne_of_none upd_same hc0
    have hna : a ≠ b := ne_of_none upd_same hb
    have hac : a ≠ c := ne_of_none (by rw [upd_ne hna]; exact upd_same) hc0
    refine ⟨H0, .mk, p, dx, b, c, n, nv, [.ref a], [("", st)], [], ws, rfl, s0.trans (s12.trans s3), p0, s3 _ _ hp2, .inr (by rw [upd_ne hnb]; exact upd_same), .cons ⟨a, rfl, by rw [upd_ne hac, upd_ne hna]; exact upd_same⟩ .nil, (by show 1 ≤ 1000; decide), upd_same, (hnv.fr .e0 (Fr.of (s12.trans s3))), fun H' sH hd => ?_⟩
    rw [List.mergeSort_singleton] at hd
    exact k H' sH hd
def mvOk (ps : List Pr) : Prop := (∀ p ∈ ps, Nm p.1 ∧ Nm p.2) ∧ (ps.map Prod.fst).Nodup ∧ ps.length ≤ 4
def sp_change_init (K : PySem.W.Frag) : List V → List V → Hp → VK → Prop := fun vs zs H Q => ∃ (H0 : Hp) (p dx c : Addr) (n : Str) (ms : List V) (ps : List Pr) (cols : List Str) (nv : V) (ws : Ws), vs = .ref p :: .str n :: ms ∧ zs = [.ref c, nv] ∧ Same H0 H ∧ H0 p = none ∧ H p = some (.ins (Kd.ch.cls K) dx []) ∧ Nm n ∧
  IsPs H ms ps ∧ mvOk ps ∧ TxL H c cols ∧ (∀ x ∈ cols, Nm x) ∧ cols.Nodup ∧ cols.length ≤ 3 ∧ NoteAt K H nv ws ∧
  ∀ H' cs, Same H0 H' → Sorted cs cols → DeedAt K H' (.ref p) ⟨.ch, n, ps.mergeSort prLe, cs, ws⟩ → Q .non H'
theorem TxL.same {H H' : Hp} {a : Addr} {xs : List Str} (s : Same H H') (h : TxL H a xs) : TxL H' a xs := s _ _ h
theorem TxT.same {H H' : Hp} {a : Addr} {xs : List Str} (s : Same H H') (h : TxT H a xs) : TxT H' a xs := s _ _ h
theorem ok_change_init (T : Td P K mg) : ∃ f, Mk K (Kd.ch.cls K) f ∧ FnG P w K mg base 4 f ["columns", "note"] (sp_change_init K) := by
  obtain ⟨f, cc, cda, oc, od, kV, doc, pm, an, ct, osl, ccl, ccd, ccs, M, lk, hcd, hc, SC, ⟨cl, cd, vs0, cs, file, tf, l1, l2, l3⟩, hcls⟩ := T.change
  refine ⟨f, M, (fnG_starX (ps := ["self", "name"]) (ks := ["columns", "note"]) (pv := "moves") (N := n_Change_init) (sp := sp_change_init K) lk hcd hc sc_Change_init (fun us rest ws h1 h2 A' Ex Q s _ hQ => ?_) fun A outer s H as rest zs mt Q hr h1 h2 hmt hsp => ?_).imp fun vs zs H Q h => ?_⟩
  · match us, h1, ws, h2 with
    | [_, _], _, [_, _], _ =>
      cases rest with
      | nil => exact hQ
      | cons r rs => exact hQ
  · obtain ⟨H0, p, dx, c, n, ms, ps, cols, nv, ws, e1, rfl, s0, p0, hp, hn, hps, hok, hcl, hcn, hcd', hcl3, hnv, k⟩ := hsp
    obtain ⟨rfl, rfl⟩ : as = [.ref p, .str n] ∧ ms = rest := by
      match as, h1, e1 with
      | [_, _], _, e1 => cases e1; exact ⟨rfl, rfl⟩
    have B := T.tc.tw.bt
    have c_check_name := ok_check_name (P := P) (w := w) (base := base) T.tc.tw
    have c_check_once := ok_check_once (P := P) (w := w) (base := base) T.tc.tw
    have c_check_names := ok_check_names (P := P) (w := w) (base := base) T.tc.tw
    have c_is_name := ok_is_name (P := P) (w := w) (base := base) T.tc.tw
    have FR := deed_FnR (P := P) (w := w) (base := base) T.tc
    have SF : SupF (cxX P w K mg base n_Change_init "Change.__init__" (defScope s_Change_init) f (.ref cda) cc A outer s H).nox (Kd.ch.cls K) f cc cda := ⟨rfl, ⟨_, _, _, _, _, lk, rfl, rfl⟩, rfl, ⟨_, _, _, hc⟩, rfl, ⟨_, _, _, _, _, _, l1, l2, l3⟩, T.top, B.super, T.op, hcls⟩
    refine ⟨_, psa_nox (psa_cons (ps_expr (pe_k c_check_name hr (by decide) rfl (pa_cons (pv 1) pa_nil))) (psa_cons (ps_for PassesOwn.never rfl (pi_tupK K (pv 4)) (gnm 5 sc_Change_init.nd) (pss_one (ps_if (PW.pt (pw_or (pt_not (pt_val (cB (isiK K) B.isinstance bb_isinstance (pa_cons (pv 5) (pa_cons (pe_tyv "tuple" B.tuple bb_tuple) pa_nil))))) (pw_or (pt_cmpR op_ne (cB (len_seqK K) B.len bb_len (pa_cons (pv 5) pa_nil)) pe_int (nomark _)) (pw_or (pt_not (pt_val (pe_k c_is_name hr (by decide) rfl (pa_cons (pe_ix (ix_tupK K) (pv 5) pe_int (fun _ _ => rfl)) pa_nil)))) (pw_or1 (pt_not (pt_val (pe_k c_is_name hr (by decide) rfl (pa_cons (pe_ix (ix_tupK K) (pv 5) pe_int (fun _ _ => rfl)) pa_nil))))))))) (pss_one ps_never) pss_nil))) (psa_cons (ps_expr (pe_k c_check_once hr (by decide) rfl (pa_cons (pe_lc (own := [("move", 5)]) rfl sc_Change_init.nd (pi_tupK K (pv 4)) (blkOk_by (N := n_Change_init) (sc := defScope s_Change_init) (by decide +kernel)) (fun _ _ _ _ _ => (gnm 5 sc_Change_init.nd)) (fun _ _ _ _ _ => pts_nil) (fun _ _ _ _ _ => (pe_ix (ix_tupK K) (pv 5) pe_int (fun _ _ => rfl)))) pa_nil))) (psa_cons (ps_if (pt_cmpR op_gt (cB (len_seqK K) B.len bb_len (pa_cons (pv 4) pa_nil)) (pe_own T.tc.g_MOST_MOVES) (nomark _)) (pss_one ps_never) pss_nil) (psa_super FR (hr.mono (by decide)) SF SC rfl rfl rfl rfl (pa_cons (pv 1) (pa_cons (pv 4) (pa_cons (pe_k c_check_names hr (by decide) rfl (pa_cons (pv 2) (pa_cons (pe_own T.tc.tw.g_MOST_COLUMNS) pa_nil))) (pa_cons (pv 3) pa_nil))))))))), ?_⟩
    have hlen : ms.length = ps.length := Paired.length hps
    refine ⟨_, rfl, n, rfl, hn, fun H1 s1 => ?_⟩
    have hmt1 := s1 _ _ hmt
    refine ⟨_, rfl, mt, rfl, ⟨ms, .inl (.inl hmt1)⟩, for_it (walk_tup (xs := ms)) (fun i σ H' => (∃ o, σ = [some (.ref p), some (.str n), some (.ref c), some nv, some (.ref mt), o]) ∧ Same H H') ⟨⟨_, rfl⟩, s1⟩ (fun i σ H' _ p => .inl (.inl (p.2 _ _ hmt))) ?_ ?_⟩
    · rintro i x σ H2 H3 hi ⟨⟨o, rfl⟩, s2⟩ ⟨rfl, hx⟩
      obtain ⟨q, hq, t, rfl, ht⟩ := Paired.get hps hx
      have hq2 := hok.1 q (List.mem_of_getElem? hq)
      have ht2 := s2 _ _ ht
      refine ⟨_, rfl, .ref t, .ty "tuple", _, _, true, rfl, .ty _, .base (.tup ht2), kit_ty (by decide +kernel), true, rfl, iteF ?_⟩
      refine ⟨_, rfl, t, _, rfl, .inr (.inl (.inl ht2)), rfl, _, rfl, iteNS rfl ?_⟩
      refine ⟨_, rfl, t, _, 0, _, rfl, rfl, .inl (.inl ht2), at0 q, q.1, rfl, hq2.1, fun H4 s4 => ⟨true, rfl, iteF ?_⟩⟩
      refine ⟨_, rfl, t, _, 1, _, rfl, rfl, .inl (.inl (s4 _ _ ht2)), at1 q, q.2, rfl, hq2.2, fun H5 s5 => ⟨true, rfl, iteF ?_⟩⟩
      exact ⟨⟨_, rfl⟩, s2.trans (s4.trans s5)⟩
    · rintro σ H2 ⟨⟨o, rfl⟩, s2⟩
      refine ⟨_, rfl, mt, rfl, ⟨ms, .inl (.inl (s2 _ _ hmt))⟩, fun D hD => ?_⟩
      refine lc_map (E := Ex0) (walk_tup (xs := ms)) (B := Str) ps (fun _ => true) Prod.fst (fun _ v b => v = .str b) hlen.symm hD (by have := hok.2.2; omega) (fun H' f => .inl (.inl (f.same _ _ (s2 _ _ hmt)))) (fun i H x H' y => by rw [y.1]; exact Fr.refl _ _) (Sta.eq V.str) (fun _ _ _ _ z => z) ?_ ?_
      · rintro i x H3 H4 a Ky Kn ha fr ⟨rfl, hx⟩ hy hk
        obtain ⟨q, rfl, hq⟩ := Paired.at hps hx ha
        refine ⟨rfl, yes_of ?_⟩
        exact ⟨_, rfl, q, _, 0, _, rfl, rfl, .inl (.inl (fr.same _ _ (s2 _ _ hq))), at0 a, hy _ _ rfl (Fr.refl _ _) rfl⟩
      · intro H3 ys fr hd r
        have hy := Paired.mapEq (f := V.str) r
        rw [List.filter_eq_self.mpr (fun _ _ => rfl)] at hy
        refine ⟨D, ps.map Prod.fst, rfl, .inl (by rw [hy] at hd; exact hd), hok.2.1, fun H4 s4 => ?_⟩
        have s24 : Same H H4 := s2.trans (fr.same.trans s4)
        refine ⟨_, rfl, mt, _, rfl, .inr (.inl (.inl (s24 _ _ hmt))), _, _, rfl, rfl, _, rfl, ?_⟩
        rw [show decide ((4 : Int) < ((ms.length : Nat) : Int)) = false from decide_eq_false (by have := hok.2.2; omega)]
        refine iteF ?_
        refine ⟨p, rfl, ⟨_, _, s24 _ _ hp⟩, _, rfl, _, rfl, _, rfl, c, cols, 3, rfl, hcl.same s24, hcn, hcd', by omega, by decide, fun r1 cs H5 s5 hcs h5 => ⟨_, rfl, ?_⟩⟩
        have s6 := s24.trans s5
        exact ⟨H0, .ch, p, dx, mt, r1, n, nv, ms, ps, cs, ws, rfl, s0.trans s6, p0, s6 _ _ hp, .inr (s6 _ _ hmt), hps.mono s6, by have := hok.2.2; omega, h5, hnv.fr .e0 (Fr.of s6), fun H' sH hd => k H' cs sH hcs hd⟩
  · obtain ⟨H0, p, dx, c, n, ms, ps, cols, nv, ws, e1, e2, s0, p0, hp, hn, hps, hok, hcl, hcn, hcd', hcl3, hnv, k⟩ := h
    have hlen : ms.length = ps.length := Paired.length hps
    refine ⟨[.ref p, .str n], ms, e1, rfl, by have := hok.2.2; exact Nat.le_of_lt (small1000 (by omega)), fun t ht => ?_⟩
    have sN : Same H (upd H t (.tup ms)) := (Fr.new (E := Ex0) ht).same
    exact ⟨H0, p, dx, c, n, ms, ps, cols, nv, ws, e1, e2, s0.trans sN, p0, sN _ _ hp, hn, hps.mono sN, hok, hcl.same sN, hcn, hcd', hcl3, hnv.fr .e0 (Fr.of sN), k⟩
def sp_end_init (K : PySem.W.Frag) : List V → List V → Hp → VK → Prop := fun vs zs H Q => ∃ (H0 : Hp) (p dx : Addr) (n : Str) (sts : List Str) (nv : V) (ws : Ws), vs = .ref p :: .str n :: sts.map V.str ∧ zs = [nv] ∧ Same H0 H ∧ H0 p = none ∧ H p = some (.ins (Kd.en.cls K) dx []) ∧ Nm n ∧
  (∀ x ∈ sts, Nm x) ∧ sts.Nodup ∧ sts.length ≤ 4 ∧ NoteAt K H nv ws ∧ ∀ H', Same H0 H' → DeedAt K H' (.ref p) ⟨.en, n, (sts.map fun x => ((x, "") : Pr)).mergeSort prLe, [], ws⟩ → Q .non H'
theorem ok_end_init (T : Td P K mg) : ∃ f, Mk K (Kd.en.cls K) f ∧ FnG P w K mg base 4 f ["note"] (sp_end_init K) := by
  obtain ⟨f, cc, cda, oc, od, kV, doc, pm, an, ct, osl, ccl, ccd, ccs, M, lk, hcd, hc, SC, ⟨cl, cd, vs0, cs, file, tf, l1, l2, l3⟩, hcls⟩ := T.end_
  refine ⟨f, M, (fnG_starX (ps := ["self", "name"]) (ks := ["note"]) (pv := "states") (N := n_End_init) (sp := sp_end_init K) lk hcd hc sc_End_init (fun us rest ws h1 h2 A' Ex Q s _ hQ => ?_) fun A outer s H as rest zs mt Q hr h1 h2 hmt hsp => ?_).imp fun vs zs H Q h => ?_⟩
  · match us, h1, ws, h2 with
    | [_, _], _, [_], _ =>
      cases rest with
      | nil => exact hQ
      | cons r rs => exact hQ
  · obtain ⟨H0, p, dx, n, sts, nv, ws, e1, rfl, s0, p0, hp, hn, hsn, hsd, hsl, hnv, k⟩ := hsp
    obtain ⟨rfl, rfl⟩ : as = [.ref p, .str n] ∧ rest = sts.map V.str := by
      match as, h1, e1 with
      | [_, _], _, e1 => cases e1; exact ⟨rfl, rfl⟩
    have B := T.tc.tw.bt
    have c_check_name := ok_check_name (P := P) (w := w) (base := base) T.tc.tw
    have c_check_once := ok_check_once (P := P) (w := w) (base := base) T.tc.tw
    have c_is_name := ok_is_name (P := P) (w := w) (base := base) T.tc.tw
    have FR := deed_FnR (P := P) (w := w) (base := base) T.tc
    have SF : SupF (cxX P w K mg base n_End_init "End.__init__" (defScope s_End_init) f (.ref cda) cc A outer s H).nox (Kd.en.cls K) f cc cda := ⟨rfl, ⟨_, _, _, _, _, lk, rfl, rfl⟩, rfl, ⟨_, _, _, hc⟩, rfl, ⟨_, _, _, _, _, _, l1, l2, l3⟩, T.top, B.super, T.op, hcls⟩
    refine ⟨_, psa_nox (psa_cons (ps_expr (pe_k c_check_name hr (by decide) rfl (pa_cons (pv 1) pa_nil))) (psa_cons (ps_for PassesOwn.never rfl (pi_tupK K (pv 3)) (gnm 4 sc_End_init.nd) (pss_one (ps_if (pt_not (pt_val (pe_k c_is_name hr (by decide) rfl (pa_cons (pv 4) pa_nil)))) (pss_one ps_never) pss_nil))) (psa_cons (ps_expr (pe_k c_check_once hr (by decide) rfl (pa_cons (pv 3) pa_nil))) (psa_cons (ps_if (pt_cmpR op_gt (cB (len_seqK K) B.len bb_len (pa_cons (pv 3) pa_nil)) (pe_own T.tc.g_MOST_MOVES) (nomark _)) (pss_one ps_never) pss_nil) (psa_super FR (hr.mono (by decide)) SF SC rfl rfl rfl rfl (pa_cons (pv 1) (pa_cons (pe_lc (own := [("state", 4)]) rfl sc_End_init.nd (pi_tupK K (pv 3)) (blkOk_by (N := n_End_init) (sc := defScope s_End_init) (by decide +kernel)) (fun _ _ _ _ _ => (gnm 4 sc_End_init.nd)) (fun _ _ _ _ _ => pts_nil) (fun _ _ _ _ _ => (pe_tup (pa_cons (pv 4) (pa_cons pe_str pa_nil))))) (pa_cons (pe_tup pa_nil) (pa_cons (pv 2) pa_nil))))))))), ?_⟩
    have hmt' : TxT H mt sts := hmt
    refine ⟨_, rfl, n, rfl, hn, fun H1 s1 => ?_⟩
    refine ⟨_, rfl, mt, rfl, ⟨_, .inl (.inl (s1 _ _ hmt))⟩, for_it (walk_tup (xs := sts.map V.str)) (fun i σ H' => (∃ o, σ = [some (.ref p), some (.str n), some nv, some (.ref mt), o]) ∧ Same H H') ⟨⟨_, rfl⟩, s1⟩ (fun i σ H' _ p => .inl (.inl (p.2 _ _ hmt))) ?_ ?_⟩
    · rintro i x σ H2 H3 hi ⟨⟨o, rfl⟩, s2⟩ ⟨rfl, hx⟩
      obtain ⟨z, hz, rfl⟩ := map_at hx
      exact ⟨_, rfl, z, rfl, hsn z (List.mem_of_getElem? hz), fun H4 s4 => ⟨true, rfl, iteF ⟨⟨_, rfl⟩, s2.trans s4⟩⟩⟩
    · rintro σ H2 ⟨⟨o, rfl⟩, s2⟩
      refine ⟨_, rfl, mt, sts, rfl, .inr (hmt'.same s2), hsd, fun H3 s3 => ?_⟩
      have s23 := s2.trans s3
      refine ⟨_, rfl, mt, _, rfl, .inr (.inl (.inl (s23 _ _ hmt))), _, _, rfl, rfl, _, rfl, ?_⟩
      rw [show decide ((4 : Int) < (((sts.map V.str).length : Nat) : Int)) = false from decide_eq_false (by rw [List.length_map]; omega)]
      refine iteF ?_
      refine ⟨p, rfl, ⟨_, _, s23 _ _ hp⟩, _, rfl, _, rfl, mt, rfl, ⟨_, .inl (.inl (s23 _ _ hmt))⟩, fun D hD => ?_⟩
      refine lc_map (E := Ex0) (walk_tup (xs := sts.map V.str)) (B := Pr) sts (fun _ => true) (fun x => ((x, "") : Pr)) IsP (List.length_map ..).symm hD (by rw [List.length_map]; omega) (fun H' f => .inl (.inl (f.same _ _ (s23 _ _ hmt)))) (fun i H x H' y => by rw [y.1]; exact Fr.refl _ _) (Sta.isP' .e0) (fun _ _ _ _ z => z) ?_ ?_
      · rintro i x H4 H5 a Ky Kn ha fr ⟨rfl, hx⟩ hy hk
        obtain ⟨z, hz, rfl⟩ := map_at hx
        rw [hz] at ha; cases ha
        refine ⟨rfl, yes_of ?_⟩
        exact ⟨_, rfl, (by show 2 ≤ sizeLine; decide), fun q hq => hy _ _ rfl (Fr.new hq) ⟨q, rfl, upd_same⟩⟩
      · intro H4 ys fr hd r
        rw [List.filter_eq_self.mpr (fun _ _ => rfl)] at r
        refine ⟨Nat.zero_le _, fun e he => ⟨_, rfl, ?_⟩⟩
        have s4 : Same H4 (upd H4 e (.tup [])) := (Fr.new (E := Ex0) he).same
        have s6 := s23.trans (fr.same.trans s4)
        exact ⟨H0, .en, p, dx, D, e, n, nv, ys, _, [], ws, rfl, s0.trans s6, p0, s6 _ _ hp, .inl (s4 _ _ hd), IsPs.mono s4 r, by rw [List.length_map]; omega, upd_same, hnv.fr .e0 (Fr.of s6), k⟩
  · obtain ⟨H0, p, dx, n, sts, nv, ws, e1, e2, s0, p0, hp, hn, hsn, hsd, hsl, hnv, k⟩ := h
    refine ⟨[.ref p, .str n], sts.map V.str, e1, rfl, by rw [List.length_map]; exact Nat.le_of_lt (small1000 (by omega)), fun t ht => ?_⟩
    have sN : Same H (upd H t (.tup (sts.map V.str))) := (Fr.new (E := Ex0) ht).same
    exact ⟨H0, p, dx, n, sts, nv, ws, e1, e2, s0.trans sN, p0, sN _ _ hp, hn, hsn, hsd, hsl, hnv.fr .e0 (Fr.of sN), k⟩
end
end Pn
/-! #### W4 -/
namespace Pn
open PySem PySem.Spec PyProof.Rows L2
/-! ### Change.of, End.of, the book -/
/-- the classmethod m of C -/
def CmAt (K : PySem.W.Frag) (C : Addr) (m qual : Str) (st : Stmt) : Prop := ∃ mc p g, ClX.CRead K C mc ∧ ClX.CMet K C mc m p g ∧ FnAt K m qual st g
/-- a classmethod called with keywords -/
def Cm (P : Program) (w : World) (K : PySem.W.Frag) (mg : Str → Option Value) (base : Heap) (k : Nat) (C : Addr) (m : Str) (ks : List Str) (sp : List V → List V → Hp → VK → Prop) : Prop :=
  ∃ mc p g, ClX.CRead K C mc ∧ ClX.CMet K C mc m p g ∧ FnG P w K mg base k g ks sp
section
variable {X : Cx} {k j : Nat} {C : Addr} {ks : List Str} {sp : List V → List V → Hp → VK → Prop} {o e : Expr} {es : List Expr} {kws : List Keyword} {m : Str} {pos apos : Pos} {ta : TE} {t tk : TA}
theorem pe_cm {pl : Sem Bool} (c : Cm X.prog X.w X.K X.mg X.base k C m ks sp) (hr : Room j X.A) (hk : k ≤ j) (he : PE X o ta) (ha : PA X (e :: es) t) (hkw : PK X kws tk) (hall : (backToKw pos (keywordEach kws X.env)).all (·.1.isSome) = true := by rfl) (hks : (backToKw pos (keywordEach kws X.env)).filterMap (·.1) = ks := by rfl)
    (hst : starEach (e :: es) X.env = (false, eval e X.env) :: starEach es X.env := by rfl) (hpl : ((backTo pos (starEach (e :: es) X.env)).any (·.1) || (backToKw pos (keywordEach kws X.env)).any (·.1.isNone)) = false := by rfl)
    (ht : eval (.Call (.Attribute o m apos) (e :: es) kws pos) X.env = (do
      let ov ← eval o X.env
      standAt apos.atName
      let (f, first) ← holding [ov] (getMethod ov m pl)
      callWith pos f first (backTo pos (starEach (e :: es) X.env)) (backToKw pos (keywordEach kws X.env))) := by rfl) :
    PE X (.Call (.Attribute o m apos) (e :: es) kws pos) (tCMethK C sp ks.length ta t tk) := by
  obtain ⟨mc, p, g, r, c, F⟩ := c
  exact pe_cmethK (pl := pl) he r c (F.mono hk) hr ha hkw hall hks hst hpl ht
end
def FnG1 (P : Program) (w : World) (K : PySem.W.Frag) (mg : Str → Option Value) (base : Heap) (k : Nat) (f : Addr) (ks : List Str) (sp : List V → List V → Hp → VK → Prop) : Prop := FnG P w K mg base k f ks sp
structure Te (P : Program) (K : PySem.W.Frag) (mg : Str → Option Value) : Prop where
  td : Td P K mg
  change_of : CmAt K (Kd.ch.cls K) "of" "Change.of" s_Change_of
  end_of : CmAt K (Kd.en.cls K) "of" "End.of" s_End_of
section
variable {P : Program} {w : World} {K : PySem.W.Frag} {mg : Str → Option Value} {base : Heap}
def sp_change_of (K : PySem.W.Frag) : List V → List V → Hp → VK → Prop := fun vs zs H Q => ∃ (m c : Addr) (n : Str) (ms : List V) (ps : List Pr) (cols : List Str) (nv : V) (ws : Ws), vs = [.ref (Kd.ch.cls K), .str n, .ref m] ∧ zs = [.ref c, nv] ∧ Nm n ∧ H m = some (.lst ms) ∧
  IsPs H ms ps ∧ mvOk ps ∧ TxL H c cols ∧ (∀ x ∈ cols, Nm x) ∧ cols.Nodup ∧ cols.length ≤ 3 ∧ NoteAt K H nv ws ∧ ∀ v H' cs, Same H H' → Sorted cs cols → DeedAt K H' v ⟨.ch, n, ps.mergeSort prLe, cs, ws⟩ → Q v H'
theorem ok_change_of (T : Te P K mg) : Cm P w K mg base 6 (Kd.ch.cls K) "of" ["columns", "note"] (sp_change_of K) := by
  obtain ⟨mc, p, g, r, c, oc, od, kV, doc, pm, an, cdv, ct, osl, lk, hcd⟩ := T.change_of
  refine ⟨mc, p, g, r, c, (FnG.of (ps := p_Change_of) (n := 3) (g := fun us ws => us ++ ws) (gV := fun vs zs => vs ++ zs) (sp := fun vs H Q _ => ∃ as zs, vs = as ++ zs ∧ as.length = 3 ∧ zs.length = 2 ∧ sp_change_of K as zs H Q) (fn_of lk hcd sc_Change_of (fun vs H Q E h => ?_) fun A outer s H vs Q E hr hsp => ?_) ⟨fun s us ws _ h1 h2 => .of_eq ?_, fun r1 r2 => r1.append r2⟩).imp fun vs zs H Q h => ?_⟩
  · obtain ⟨as, zs, rfl, h1, h2, _⟩ := h
    rw [List.length_append, h1, h2]; rfl
  · obtain ⟨as, zs, e0, h1, h2, m, cc, n, ms, ps, cols, nv, ws, rfl, rfl, hn, hm, hps, hok, hcl, hcn, hcd', hcl3, hnv, k⟩ := hsp
    subst e0
    obtain ⟨fI, M, F⟩ := ok_change_init (P := P) (w := w) (base := base) T.td
    refine ⟨_, PSs.nox (pss_one (ps_ret (pe_makeG M F hr (pv 0) (pa_cons (pv 1) (StX.pa_star (pv 2) pa_nil)) (pk_cons (pv 3) (pk_cons (pv 4) pk_nil))))), ?_⟩
    refine ⟨_, rfl, rfl, _, rfl, _, rfl, m, ms, rfl, .inr (.inl (.inl hm)), _, rfl, _, rfl, rfl, fun x dx nx ndx nex => ?_⟩
    have s1 : Same H (upd (upd H dx (.own x)) x (.ins (Kd.ch.cls K) dx [])) := ((Fr.new (E := Ex0) ndx).put nx).same
    refine ⟨H, x, dx, cc, n, ms, ps, cols, nv, ws, by rw [List.append_nil], rfl, s1, nx, upd_same, hn, hps.mono s1, hok, hcl.same s1, hcn, hcd', hcl3, hnv.fr .e0 (Fr.of s1), fun H' cs sH hcs hd => ⟨rfl, k _ _ cs sH hcs hd⟩⟩
  · match us, h1, ws, h2 with
    | [_, _, _], _, [_, _], _ => rfl
  · obtain ⟨m, cc, n, ms, ps, cols, nv, ws, rfl, rfl, h2⟩ := h
    exact ⟨rfl, [_, _, _], [_, _], rfl, rfl, rfl, m, cc, n, ms, ps, cols, nv, ws, rfl, rfl, h2⟩
def sp_end_of (K : PySem.W.Frag) : List V → List V → Hp → VK → Prop := fun vs zs H Q => ∃ (m : Addr) (n : Str) (sts : List Str) (nv : V) (ws : Ws), vs = [.ref (Kd.en.cls K), .str n, .ref m] ∧ zs = [nv] ∧ Nm n ∧ TxL H m sts ∧
  (∀ x ∈ sts, Nm x) ∧ sts.Nodup ∧ sts.length ≤ 4 ∧ NoteAt K H nv ws ∧ ∀ v H', Same H H' → DeedAt K H' v ⟨.en, n, (sts.map fun x => ((x, "") : Pr)).mergeSort prLe, [], ws⟩ → Q v H'
theorem ok_end_of (T : Te P K mg) : Cm P w K mg base 6 (Kd.en.cls K) "of" ["note"] (sp_end_of K) := by
  obtain ⟨mc, p, g, r, c, oc, od, kV, doc, pm, an, cdv, ct, osl, lk, hcd⟩ := T.end_of
  refine ⟨mc, p, g, r, c, (FnG.of (ps := p_End_of) (n := 3) (g := fun us ws => us ++ ws) (gV := fun vs zs => vs ++ zs) (sp := fun vs H Q _ => ∃ as zs, vs = as ++ zs ∧ as.length = 3 ∧ zs.length = 1 ∧ sp_end_of K as zs H Q) (fn_of lk hcd sc_End_of (fun vs H Q E h => ?_) fun A outer s H vs Q E hr hsp => ?_) ⟨fun s us ws _ h1 h2 => .of_eq ?_, fun r1 r2 => r1.append r2⟩).imp fun vs zs H Q h => ?_⟩
  · obtain ⟨as, zs, rfl, h1, h2, _⟩ := h
    rw [List.length_append, h1, h2]; rfl
  · obtain ⟨as, zs, e0, h1, h2, m, n, sts, nv, ws, rfl, rfl, hn, hm, hsn, hsd, hsl, hnv, k⟩ := hsp
    subst e0
    obtain ⟨fI, M, F⟩ := ok_end_init (P := P) (w := w) (base := base) T.td
    refine ⟨_, PSs.nox (pss_one (ps_ret (pe_makeG M F hr (pv 0) (pa_cons (pv 1) (StX.pa_star (pv 2) pa_nil)) (pk_cons (pv 3) pk_nil)))), ?_⟩
    refine ⟨_, rfl, rfl, _, rfl, _, rfl, m, _, rfl, .inr hm.l, _, rfl, rfl, fun x dx nx ndx nex => ?_⟩
    have s1 : Same H (upd (upd H dx (.own x)) x (.ins (Kd.en.cls K) dx [])) := ((Fr.new (E := Ex0) ndx).put nx).same
    refine ⟨H, x, dx, n, sts, nv, ws, by rw [List.append_nil], rfl, s1, nx, upd_same, hn, hsn, hsd, hsl, hnv.fr .e0 (Fr.of s1), fun H' sH hd => ⟨rfl, k _ _ sH hd⟩⟩
  · match us, h1, ws, h2 with
    | [_, _, _], _, [_], _ => rfl
  · obtain ⟨m, n, sts, nv, ws, rfl, rfl, h2⟩ := h
    exact ⟨rfl, [_, _, _], [_], rfl, rfl, rfl, m, n, sts, nv, ws, rfl, rfl, h2⟩
end
end Pn
/-! #### Hk -/
namespace Pn
open PySem PySem.Spec PyProof.Rows L2
/-! ### defs that the head tells, whatever their closure -/
abbrev FnC : Type := Option (Str × Str × Arguments × FuncBody × Scope × Addr × Addr)
def fnC (K : PySem.W.Frag) (a : Addr) : FnC := match K.lookup a with
  | some ⟨_, _, .func fd, _⟩ => some (fd.name, fd.qualname, fd.params, fd.body, fd.scope, fd.globals, fd.builtins)
  | _ => none
structure DefY where
  at_ : PySem.W.Frag → Addr
  name : Str
  qual : Str
  st : Stmt
def DefY.val (d : DefY) : FnC := some (d.name, d.qual, defArgs d.st, .stmts (defBody d.st), defScope d.st, mainGlobals, builtinsNs)
theorem fnC_ok {K : PySem.W.Frag} {d : DefY} (e : fnC K (d.at_ K) = d.val) : ∃ oc od osl cl dV kV doc pm an cdv ct, K.lookup (d.at_ K) = some ⟨oc, od, .func (PySem.W.fnX d.name d.qual (defArgs d.st) (defBody d.st) (defScope d.st) cl dV kV doc pm an cdv ct), osl⟩ := by
  unfold fnC at e
  cases q : K.lookup (d.at_ K) with
  | none =>
    rw [q] at e
    cases e
  | some o =>
    obtain ⟨oc, od, dt, osl⟩ := o
    rw [q] at e
    cases dt with
    | func fd =>
      obtain ⟨n1, n2, n3, n4, n5, n6, n7, n8, n9, n10, n11, n12, n13, n14, n15⟩ := fd
      have e2 : (some (n1, n2, n3, n4, n5, n6, n15) : FnC) = some (d.name, d.qual, defArgs d.st, .stmts (defBody d.st), defScope d.st, mainGlobals, builtinsNs) := e
      simp only [Option.some.injEq, Prod.mk.injEq] at e2
      obtain ⟨h1, h2, h3, h4, h5, h6, h7⟩ := e2
      subst h1 h2 h3 h4 h5 h6 h7
      exact ⟨oc, od, osl, n7, n8, n9, n10, n11, n12, n13, n14, rfl⟩
    | _ => cases e
def isNo : Value → Bool
  | .none => true
  | _ => false
theorem isNo_ok {v : Value} (h : isNo v = true) : v = .none := by cases v <;> first | rfl | cases h
/-- no closure, no defaults, its code object's name -/
def plainB (K : PySem.W.Frag) (a : Addr) (q : Str) : Bool := match K.lookup a with
  | some ⟨_, _, .func fd, _⟩ => fd.closure.isEmpty && (isNo fd.defaults && PySem.W.codeIn K fd.code q)
  | _ => false
theorem plainB_ok {K : PySem.W.Frag} {d : DefY} (e : fnC K (d.at_ K) = d.val) (h : plainB K (d.at_ K) d.qual = true) : FnAt K d.name d.qual d.st (d.at_ K) := by
  obtain ⟨oc, od, osl, cl, dV, kV, doc, pm, an, cdv, ct, lk⟩ := fnC_ok e
  unfold plainB at h
  rw [lk] at h
  obtain ⟨h1, h2⟩ := He.ba (show (cl.isEmpty && (isNo dV && PySem.W.codeIn K cdv d.qual)) = true from h)
  obtain ⟨h3, h4⟩ := He.ba h2
  have e1 : cl = [] := List.isEmpty_iff.mp h1
  have e2 := isNo_ok h3
  subst e1 e2
  exact ⟨oc, od, kV, doc, pm, an, cdv, ct, osl, lk, h4⟩
theorem fnAt_of {K : PySem.W.Frag} {x qual : Str} {st : Stmt} {kws : List (Str × V)} {f : Addr} {fd : FuncData} (F : FunD K x qual (defArgs st) (defBody st) (defScope st) [] kws f fd) : FnAt K x qual st f := by
  obtain ⟨oc, od, dV, kV, doc, pm, an, cdv, ct, osl, rfl, lk, hcd, hd, _⟩ := F.ex
  rcases hd with ⟨_, rfl⟩ | ⟨h, _⟩
  · exact ⟨oc, od, kV, doc, pm, an, cdv, ct, osl, lk, hcd⟩
  · exact absurd rfl h
theorem fnIn_of {K : PySem.W.Frag} {x qual : Str} {pa : Arguments} {bd : List Stmt} {sc : Scope} {dvs : List V} {kws : List (Str × V)} {f : Addr} {fd : FuncData} (F : FunD K x qual pa bd sc dvs kws f fd) : PySem.W.fnIn K f = true := by
  obtain ⟨oc, od, dV, kV, doc, pm, an, cdv, ct, osl, rfl, lk, _⟩ := F.ex
  unfold PySem.W.fnIn
  rw [lk]
/-! ### classmethods -/
def cmP (K : PySem.W.Frag) (C : Addr) (m : Str) : Addr := match PySem.W.findCls K (.ref C) (.type "type") m with
  | some (.get _ (.ref p) _ _) => p
  | _ => 0
def cmG (K : PySem.W.Frag) (C : Addr) (m : Str) : Addr := match PySem.W.recIn K (cmP K C m) "classmethod" with
  | some (.ref g :: _) => g
  | _ => 0
def cmB1 (K : PySem.W.Frag) (C : Addr) (m : Str) : Bool := match PySem.W.findCls K (.ref C) (.type "type") m with
  | some (.get (.builtin b) (.ref _) .none (.ref D)) => decide (b = "classmethod.__get__") && decide (D = C)
  | _ => false
def cmB2 (K : PySem.W.Frag) (C : Addr) (m : Str) : Bool := match PySem.W.recIn K (cmP K C m) "classmethod" with
  | some (.ref _ :: _) => true
  | _ => false
def cmB (K : PySem.W.Frag) (C : Addr) (m : Str) : Bool := cmB1 K C m && (cmB2 K C m && (PySem.W.fnIn K (cmG K C m) && (PySem.W.readsIn K C (.type "type") && He.eqO (PySem.W.specialIn K (.ref C) "__getattribute__") (some (some (.builtin "type.__getattribute__"))))))
theorem cmB_ok {K : PySem.W.Frag} {C : Addr} {m : Str} (h : cmB K C m = true) : ClX.CRead K C (.type "type") ∧ ClX.CMet K C (.type "type") m (cmP K C m) (cmG K C m) := by
  obtain ⟨h1, h⟩ := He.ba h
  obtain ⟨h2, h⟩ := He.ba h
  obtain ⟨h3, h⟩ := He.ba h
  obtain ⟨h4, h5⟩ := He.ba h
  refine ⟨⟨h4, He.eqO_ok h5⟩, ?_, ?_, h3⟩
  · unfold cmB1 at h1
    unfold cmP
    split at h1
    · rename_i b p D e
      obtain ⟨a1, a2⟩ := He.ba h1
      rw [e, of_decide_eq_true a1, of_decide_eq_true a2]
    · cases h1
  · unfold cmB2 at h2
    unfold cmG
    split at h2
    · rename_i g rest e
      exact ⟨rest, by rw [e]⟩
    · cases h2
/-! ### an __init__ that says super().__init__ -/
def supB (pf : Str) (K : PySem.W.Frag) (k : Kd) (qual : Str) : Bool := match K.lookup (He.ma K (k.cls K) "__init__") with
  | some ⟨_, _, .func fd, _⟩ => (match fd.closure with
    | [(n, cc)] => decide (n = "__class__") && (match K.lookup cc with
      | some ⟨_, _, .cell (some (.ref a)), _⟩ => decide (a = k.cls K)
      | _ => false)
    | _ => false) && ((match fd.code with
    | .ref cda => PySem.W.codeIn K (.ref cda) qual && (match K.lookup cda with
      | some ⟨_, _, .fields vs, _⟩ => (match (vs[2]? : Option Value) with
        | some (.str file _) => pf == file
        | _ => false)
      | _ => false)
    | _ => false) && isNo fd.defaults)
  | _ => false
def supC (K : PySem.W.Frag) (k : Kd) : Bool := decide (PySem.W.mroIn K (k.cls K) (.ref (k.cls K)) = some true) && (He.eqO (PySem.W.ks_superIn K (k.cls K) (k.cls K) "__init__") (some (some (.ref (dI K)))) && (decide (PySem.W.typeIn K (.ref (dI K)) = some (.type "function")) && (PySem.W.fnIn K (dI K) && (PySem.W.clsIn K (k.cls K)).isSome)))
def supY (k : Kd) (qual : Str) (st : Stmt) : DefY := ⟨fun K => He.ma K (k.cls K) "__init__", "__init__", qual, st⟩
theorem sup_ok {P : Program} {K : PySem.W.Frag} {k : Kd} {qual : Str} {st : Stmt} (e : fnC K ((supY k qual st).at_ K) = (supY k qual st).val) (h : supB P.main.file K k qual = true) (h2 : supC K k = true) (M : Mk K (k.cls K) (He.ma K (k.cls K) "__init__")) : XInit P K k qual st := by
  obtain ⟨oc, od, osl, cl, dV, kV, doc, pm, an, cdv, ct, lk⟩ := fnC_ok e
  obtain ⟨g1, g⟩ := He.ba h2
  obtain ⟨g2, g⟩ := He.ba g
  obtain ⟨g3, g⟩ := He.ba g
  obtain ⟨g4, g5⟩ := He.ba g
  have lk : K.lookup (He.ma K (k.cls K) "__init__") = some ⟨oc, od, .func (PySem.W.fnX "__init__" qual (defArgs st) (defBody st) (defScope st) cl dV kV doc pm an cdv ct), osl⟩ := lk
  unfold supB at h
  rw [lk] at h
  obtain ⟨h1, h⟩ := He.ba h
  obtain ⟨h3, h4⟩ := He.ba h
  have e2 := isNo_ok h4
  subst e2
  match cl, h1 with
  | [(n, cc)], h1 =>
    obtain ⟨a1, a2⟩ := He.ba h1
    have en : n = "__class__" := of_decide_eq_true a1
    subst en
    cases cdv with
    | ref cda =>
      obtain ⟨b1, b2⟩ := He.ba h3
      cases qc : K.lookup cc with
      | none => rw [qc] at a2; cases a2
      | some o =>
        obtain ⟨ccl, ccd, dt, ccs⟩ := o
        rw [qc] at a2
        cases dt with
        | cell v =>
          cases v with
          | none => cases a2
          | some v =>
            cases v with
            | ref a =>
              have ea : a = k.cls K := of_decide_eq_true a2
              cases qd : K.lookup cda with
              | none => rw [qd] at b2; cases b2
              | some o =>
                obtain ⟨cl2, cd2, dt2, cs2⟩ := o
                rw [qd] at b2
                cases dt2 with
                | fields vs =>
                  have b2 : (match (vs[2]? : Option Value) with | some (.str file _) => P.main.file == file | _ => false) = true := b2
                  cases qv : vs[2]? with
                  | none => rw [qv] at b2; cases b2
                  | some u =>
                    rw [qv] at b2
                    cases u with
                    | str file tf =>
                      obtain ⟨cdD, hD⟩ := Option.isSome_iff_exists.mp g5
                      exact ⟨_, cc, cda, oc, od, kV, doc, pm, an, ct, osl, ccl, ccd, ccs, M, lk, b1, by rw [qc, ea], ⟨of_decide_eq_true g1, He.eqO_ok g2, of_decide_eq_true g3, g4⟩, ⟨cl2, cd2, vs, cs2, file, tf, qd, qv, b2⟩, cdD, hD⟩
                    | _ => cases b2
                | _ => cases b2
            | _ => cases a2
        | _ => cases a2
    | _ => cases h3
/-! ### the Hook -/
def y1 (o : Obj) : List Addr := match o.data with
  | .func fd => He.refV fd.code ++ He.refV fd.defaults
  | .cls cd => [cd.ns]
  | _ => []
def y2 (o : Obj) : List Addr := match o.data with
  | .dict es _ => es.toList.flatMap fun e => He.refV e.val
  | _ => []
def y3 (o : Obj) : List Addr := match o.data with
  | .func fd => He.refV fd.code ++ He.refV fd.defaults ++ fd.closure.map (·.2)
  | .fields vs => vs.toList.flatMap He.refV
  | _ => []
def y4 (o : Obj) : List Addr := match o.data with
  | .func fd => He.refV fd.code
  | _ => []
def yG (g : Addr → Option Obj) (r : Obj → List Addr) (as : List Addr) : List Addr := as.flatMap fun a => match g a with
  | some o => r o
  | none => []
def asY1 (g : Addr → Option Obj) : List Addr := yG g y2 [mainGlobals]
def asY2 (g : Addr → Option Obj) : List Addr := yG g y1 (asY1 g)
def asY3 (g : Addr → Option Obj) : List Addr := yG g y2 (asY2 g)
def asY4 (g : Addr → Option Obj) : List Addr := yG g y3 (asY3 g)
def asY5 (g : Addr → Option Obj) : List Addr := yG g y4 (asY4 g)
def asY (g : Addr → Option Obj) (_ : Nat) : List Addr := [mainGlobals, cStatics] ++ (asY1 g ++ (asY2 g ++ (asY3 g ++ (asY4 g ++ asY5 g))))
abbrev AlY : Type := He.AlD × List FnC × Bool
def obsK (fa : List He.Fa) (fn : List He.DefD) (fy : List DefY) (tf : List He.Defn) (ex : PySem.W.Frag → Bool) (g : Addr → Option Obj) (K : PySem.W.Frag) : AlY := (He.obsD fa fn K, fy.map (fun d => fnC K (d.at_ K)), ex K && He.tabsB g tf K)
def obsY (n : Nat) (fa : List He.Fa) (fn : List He.DefD) (fy : List DefY) (tf : List He.Defn) (ex : PySem.W.Frag → Bool) (g : Addr → Option Obj) : AlY := obsK fa fn fy tf ex g (He.frT g (asY g n))
def valY (fn : List He.DefD) (fy : List DefY) : AlY := (He.valD fn, fy.map DefY.val, true)
structure SaysY (fa : List He.Fa) (fn : List He.DefD) (fy : List DefY) (tf : List He.Defn) (ex : PySem.W.Frag → Bool) (h : Heap) (K : PySem.W.Frag) : Prop where
  d : He.SaysD fa fn K
  y : ∀ d ∈ fy, fnC K (d.at_ K) = d.val
  more : ex K = true
  hd : ∀ p ∈ tf, PySem.W.codeHdIn K (He.cT K p).1 (He.cT K p).2 = true
  out : ∀ p ∈ tf, K.lookup (He.cT K p).2 = none
  empty : ∀ p ∈ tf, h.get? (He.cT K p).2 = some { cls := .none, data := .fields #[] }
theorem saysY_of {n : Nat} {fa : List He.Fa} {fn : List He.DefD} {fy : List DefY} {tf : List He.Defn} {ex : PySem.W.Frag → Bool} {h : Heap} (e : obsY n fa fn fy tf ex h.get? = valY fn fy) : SaysY fa fn fy tf ex h (He.frT h.get? (asY h.get? n)) := by
  have e1 : He.obsD fa fn (He.frT h.get? (asY h.get? n)) = He.valD fn := congrArg (fun z : AlY => z.1) e
  have e3 : fy.map (fun d => fnC (He.frT h.get? (asY h.get? n)) (d.at_ (He.frT h.get? (asY h.get? n)))) = fy.map DefY.val := congrArg (fun z : AlY => z.2.1) e
  have e2 : (ex (He.frT h.get? (asY h.get? n)) && He.tabsB h.get? tf (He.frT h.get? (asY h.get? n))) = true := congrArg (fun z : AlY => z.2.2) e
  obtain ⟨h1, h2⟩ := He.ba e2
  have key : ∀ p ∈ tf, PySem.W.codeHdIn (He.frT h.get? (asY h.get? n)) (He.cT (He.frT h.get? (asY h.get? n)) p).1 (He.cT (He.frT h.get? (asY h.get? n)) p).2 = true ∧ ∃ o, h.get? (He.cT (He.frT h.get? (asY h.get? n)) p).2 = some o ∧ He.emptyTab o = true := fun p hp => by
    obtain ⟨h3, h4⟩ := He.ba (List.all_eq_true.mp h2 p hp)
    refine ⟨h3, ?_⟩
    cases q : h.get? (He.cT (He.frT h.get? (asY h.get? n)) p).2 with
    | none =>
      rw [q] at h4
      cases h4
    | some o =>
      rw [q] at h4
      exact ⟨o, rfl, h4⟩
  exact ⟨e1, fun d hd => List.map_inj_left.mp e3 d hd, h1, fun p hp => (key p hp).1, fun p hp => by
    obtain ⟨_, o, q, z⟩ := key p hp
    exact He.frT_none q z, fun p hp => by
    obtain ⟨_, o, q, z⟩ := key p hp
    rw [q, He.emptyTab_eq z]⟩
def hookY (n : Nat) (fa : List He.Fa) (fn : List He.DefD) (fy : List DefY) (tf : List He.Defn) (ex : PySem.W.Frag → Bool) : PySem.W.Hook where
  α := AlY
  obs := fun s => obsY n fa fn fy tf ex s.heap.get?
  val := fun _ => valY fn fy
  says := fun _ h => ∃ K : PySem.W.Frag, K.In h ∧ SaysY fa fn fy tf ex h K
  of := fun _ _ e => ⟨_, He.frT_in, saysY_of e⟩
  keeps := fun _ _ _ ⟨K, hK, c⟩ k => ⟨K, PySem.W.Frag.In.keeps hK k, ⟨c.d, c.y, c.more, c.hd, c.out, fun p hp => k _ _ (c.empty p hp)⟩⟩
theorem obsY_eq {n : Nat} {fa : List He.Fa} {fn : List He.DefD} {fy : List DefY} {tf : List He.Defn} {ex : PySem.W.Frag → Bool} {g : Addr → Option Obj} {s : Shared} (h : ∀ a, g a = s.heap.get? a) : obsY n fa fn fy tf ex g = (hookY n fa fn fy tf ex).obs s := by
  have e : g = s.heap.get? := funext h
  rw [e] <;> rfl
end Pn
/-! #### Hd -/
namespace Pn
open PySem PySem.Spec PyProof.Rows L2
/-! ### the head: facts by names -/
abbrev Rp : Program := PySem.Challenge.pw_pastnotes_k58_whole_fewest_notes
def cmY (C : Str) (qual : Str) (st : Stmt) : DefY := ⟨fun K => cmG K (cA K C) "of", "of", qual, st⟩
def d0 : He.DefD := ⟨("is_integer", none), "is_integer", "is_integer", defArgs s_is_integer, defBody s_is_integer, defScope s_is_integer, [], []⟩
def d1 : He.DefD := ⟨("is_name", none), "is_name", "is_name", defArgs s_is_name, defBody s_is_name, defScope s_is_name, [], []⟩
def d2 : He.DefD := ⟨("is_between", none), "is_between", "is_between", defArgs s_is_between, defBody s_is_between, defScope s_is_between, [], []⟩
def d3 : He.DefD := ⟨("check_name", none), "check_name", "check_name", defArgs s_check_name, defBody s_check_name, defScope s_check_name, [], []⟩
def d4 : He.DefD := ⟨("check_once", none), "check_once", "check_once", defArgs s_check_once, defBody s_check_once, defScope s_check_once, [], []⟩
def d5 : He.DefD := ⟨("check_names", none), "check_names", "check_names", defArgs s_check_names, defBody s_check_names, defScope s_check_names, [], []⟩
def d6 : He.DefD := ⟨("check_columns", none), "check_columns", "check_columns", defArgs s_check_columns, defBody s_check_columns, defScope s_check_columns, [], []⟩
def d7 : He.DefD := ⟨("check_note", none), "check_note", "check_note", defArgs s_check_note, defBody s_check_note, defScope s_check_note, [], []⟩
def d8 : He.DefD := ⟨("check_column", none), "check_column", "check_column", defArgs s_check_column, defBody s_check_column, defScope s_check_column, [], []⟩
def d9 : He.DefD := ⟨("reached", none), "reached", "reached", defArgs s_reached, defBody s_reached, defScope s_reached, [], []⟩
def d10 : He.DefD := ⟨("is_closing", none), "is_closing", "is_closing", defArgs s_is_closing, defBody s_is_closing, defScope s_is_closing, [], []⟩
def d11 : He.DefD := ⟨("closing_after", none), "closing_after", "closing_after", defArgs s_closing_after, defBody s_closing_after, defScope s_closing_after, [], []⟩
def d12 : He.DefD := ⟨("all_successions", none), "all_successions", "all_successions", defArgs s_all_successions, defBody s_all_successions, defScope s_all_successions, [], []⟩
def d13 : He.DefD := ⟨("sides_of", none), "sides_of", "sides_of", defArgs s_sides_of, defBody s_sides_of, defScope s_sides_of, [], []⟩
def d14 : He.DefD := ⟨("ends_of", none), "ends_of", "ends_of", defArgs s_ends_of, defBody s_ends_of, defScope s_ends_of, [], []⟩
def d15 : He.DefD := ⟨("check_price", none), "check_price", "check_price", defArgs s_check_price, defBody s_check_price, defScope s_check_price, [], []⟩
def d16 : He.DefD := ⟨("check_side", none), "check_side", "check_side", defArgs s_check_side, defBody s_check_side, defScope s_check_side, [], []⟩
def d17 : He.DefD := ⟨("is_cover", none), "is_cover", "is_cover", defArgs s_is_cover, defBody s_is_cover, defScope s_is_cover, [], []⟩
def d18 : He.DefD := ⟨("check_words", none), "check_words", "check_words", defArgs s_check_words, defBody s_check_words, defScope s_check_words, [], []⟩
def d19 : He.DefD := ⟨("fewest", none), "fewest", "fewest", defArgs s_fewest, defBody s_fewest, defScope s_fewest, [.non], []⟩
def d20 : He.DefD := ⟨("is_packing", none), "is_packing", "is_packing", defArgs s_is_packing, defBody s_is_packing, defScope s_is_packing, [.non], []⟩
def d21 : He.DefD := ⟨("_law_take", none), "_law_take", "_law_take", defArgs s_law_take, defBody s_law_take, defScope s_law_take, [], []⟩
def d22 : He.DefD := ⟨("_law_of", none), "_law_of", "_law_of", defArgs s_law_of, defBody s_law_of, defScope s_law_of, [], []⟩
def d23 : He.DefD := ⟨("_law_price", none), "_law_price", "_law_price", defArgs s_law_price, defBody s_law_price, defScope s_law_price, [], []⟩
def d24 : He.DefD := ⟨("_law_bag", none), "_law_bag", "_law_bag", defArgs s_law_bag, defBody s_law_bag, defScope s_law_bag, [], []⟩
def d25 : He.DefD := ⟨("_law_names", none), "_law_names", "_law_names", defArgs s_law_names, defBody s_law_names, defScope s_law_names, [], []⟩
def d26 : He.DefD := ⟨("_law_note", none), "_law_note", "_law_note", defArgs s_law_note, defBody s_law_note, defScope s_law_note, [], []⟩
def d27 : He.DefD := ⟨("_law_deed", none), "_law_deed", "_law_deed", defArgs s_law_deed, defBody s_law_deed, defScope s_law_deed, [], []⟩
def d28 : He.DefD := ⟨("_law_data", none), "_law_data", "_law_data", defArgs s_law_data, defBody s_law_data, defScope s_law_data, [], []⟩
def d29 : He.DefD := ⟨("_law_note_of", none), "_law_note_of", "_law_note_of", defArgs s_law_note_of, defBody s_law_note_of, defScope s_law_note_of, [], []⟩
def d30 : He.DefD := ⟨("_law_deed_of", none), "_law_deed_of", "_law_deed_of", defArgs s_law_deed_of, defBody s_law_deed_of, defScope s_law_deed_of, [], []⟩
def d31 : He.DefD := ⟨("_law_book", none), "_law_book", "_law_book", defArgs s_law_book, defBody s_law_book, defScope s_law_book, [], []⟩
def d32 : He.DefD := ⟨("_law_columns", none), "_law_columns", "_law_columns", defArgs s_law_columns, defBody s_law_columns, defScope s_law_columns, [], []⟩
def d33 : He.DefD := ⟨("_law_reached", none), "_law_reached", "_law_reached", defArgs s_law_reached, defBody s_law_reached, defScope s_law_reached, [], []⟩
def d34 : He.DefD := ⟨("_law_successions", none), "_law_successions", "_law_successions", defArgs s_law_successions, defBody s_law_successions, defScope s_law_successions, [], []⟩
def d35 : He.DefD := ⟨("_law_sides", none), "_law_sides", "_law_sides", defArgs s_law_sides, defBody s_law_sides, defScope s_law_sides, [], []⟩
def d36 : He.DefD := ⟨("_law_both", none), "_law_both", "_law_both", defArgs s_law_both, defBody s_law_both, defScope s_law_both, [], []⟩
def d37 : He.DefD := ⟨("_law_tells", none), "_law_tells", "_law_tells", defArgs s_law_tells, defBody s_law_tells, defScope s_law_tells, [], []⟩
def d38 : He.DefD := ⟨("_law_priced", none), "_law_priced", "_law_priced", defArgs s_law_priced, defBody s_law_priced, defScope s_law_priced, [], []⟩
def d39 : He.DefD := ⟨("_law_loads", none), "_law_loads", "_law_loads", defArgs s_law_loads, defBody s_law_loads, defScope s_law_loads, [], []⟩
def d40 : He.DefD := ⟨("_law_is_cover", none), "_law_is_cover", "_law_is_cover", defArgs s_law_is_cover, defBody s_law_is_cover, defScope s_law_is_cover, [], []⟩
def d41 : He.DefD := ⟨("_law_is_packing", none), "_law_is_packing", "_law_is_packing", defArgs s_law_is_packing, defBody s_law_is_packing, defScope s_law_is_packing, [], []⟩
def d42 : He.DefD := ⟨("_law_is_right", none), "_law_is_right", "_law_is_right", defArgs s_law_is_right, defBody s_law_is_right, defScope s_law_is_right, [], []⟩
def d43 : He.DefD := ⟨("law", none), "law", "law", defArgs s_law, defBody s_law, defScope s_law, [], []⟩
def d44 : He.DefD := ⟨("Note", some "__init__"), "__init__", "Note.__init__", defArgs s_Note_init, defBody s_Note_init, defScope s_Note_init, [], []⟩
def d45 : He.DefD := ⟨("Deed", some "__init__"), "__init__", "Deed.__init__", defArgs s_Deed_init, defBody s_Deed_init, defScope s_Deed_init, [], []⟩
def d46 : He.DefD := ⟨("Make", some "allowed"), "allowed", "Deed.allowed", defArgs s_Deed_allowed, defBody s_Deed_allowed, defScope s_Deed_allowed, [], []⟩
def d47 : He.DefD := ⟨("Make", some "after"), "after", "Deed.after", defArgs s_Deed_after, defBody s_Deed_after, defScope s_Deed_after, [], []⟩
def d48 : He.DefD := ⟨("Change", some "allowed"), "allowed", "Deed.allowed", defArgs s_Deed_allowed, defBody s_Deed_allowed, defScope s_Deed_allowed, [], []⟩
def d49 : He.DefD := ⟨("Change", some "after"), "after", "Deed.after", defArgs s_Deed_after, defBody s_Deed_after, defScope s_Deed_after, [], []⟩
def d50 : He.DefD := ⟨("End", some "allowed"), "allowed", "Deed.allowed", defArgs s_Deed_allowed, defBody s_Deed_allowed, defScope s_Deed_allowed, [], []⟩
def d51 : He.DefD := ⟨("End", some "after"), "after", "Deed.after", defArgs s_Deed_after, defBody s_Deed_after, defScope s_Deed_after, [], []⟩
def d52 : He.DefD := ⟨("Book", some "__len__"), "__len__", "Book.__len__", defArgs s_Book_len, defBody s_Book_len, defScope s_Book_len, [], []⟩
def d53 : He.DefD := ⟨("Book", some "__iter__"), "__iter__", "Book.__iter__", defArgs s_Book_iter, defBody s_Book_iter, defScope s_Book_iter, [], []⟩
def d54 : He.DefD := ⟨("Book", some "__getitem__"), "__getitem__", "Book.__getitem__", defArgs s_Book_getitem, defBody s_Book_getitem, defScope s_Book_getitem, [], []⟩
def d55 : He.DefD := ⟨("Book", some "writes"), "writes", "Book.writes", defArgs s_Book_writes, defBody s_Book_writes, defScope s_Book_writes, [], []⟩
def d56 : He.DefD := ⟨("Book", some "__init__"), "__init__", "Book.__init__", defArgs s_Book_init, defBody s_Book_init, defScope s_Book_init, [], []⟩
def d57 : He.DefD := ⟨("Prices", some "__init__"), "__init__", "Prices.__init__", defArgs s_Prices_init, defBody s_Prices_init, defScope s_Prices_init, [.int 1], []⟩
def d58 : He.DefD := ⟨("Prices", some "__getitem__"), "__getitem__", "Prices.__getitem__", defArgs s_Prices_getitem, defBody s_Prices_getitem, defScope s_Prices_getitem, [], []⟩
def d59 : He.DefD := ⟨("Prices", some "__setitem__"), "__setitem__", "Prices.__setitem__", defArgs s_Prices_setitem, defBody s_Prices_setitem, defScope s_Prices_setitem, [], []⟩
def d60 : He.DefD := ⟨("Prices", some "total"), "total", "Prices.total", defArgs s_Prices_total, defBody s_Prices_total, defScope s_Prices_total, [], []⟩
def d61 : He.DefD := ⟨("Cover", some "__init__"), "__init__", "Cover.__init__", defArgs s_Cover_init, defBody s_Cover_init, defScope s_Cover_init, [], []⟩
def d62 : He.DefD := ⟨("Flow", some "__init__"), "__init__", "Flow.__init__", defArgs s_Flow_init, defBody s_Flow_init, defScope s_Flow_init, [], []⟩
def d63 : He.DefD := ⟨("Flow", some "trails"), "trails", "Flow.trails", defArgs s_Flow_trails, defBody s_Flow_trails, defScope s_Flow_trails, [], []⟩
def d64 : He.DefD := ⟨("Flow", some "grow"), "grow", "Flow.grow", defArgs s_Flow_grow, defBody s_Flow_grow, defScope s_Flow_grow, [], []⟩
def d65 : He.DefD := ⟨("Flow", some "finish"), "finish", "Flow.finish", defArgs s_Flow_finish, defBody s_Flow_finish, defScope s_Flow_finish, [], []⟩
def hfa0 : List He.Fa := [.free "isinstance", .free "int", .free "bool", .free "str", .free "list", .free "tuple", .free "len", .free "all", .free "any", .free "enumerate", .free "sorted", .free "range", .free "min", .free "max", .free "sum", .free "abs", .free "set", .free "repr", .free "iter", .free "super", .int "MOST_LETTERS" 8, .int "MOST_WORDS" 4, .int "MOST_COLUMNS" 3, .int "MOST_MOVES" 4, .int "MOST_PRICE" 1000000000, .int "MOST_DEEDS" 8, .int "MOST_STATES" 4, .int "MOST_KEPT" 3, .str "LETTERS" letters, .cls "Note"]
def hfa1 : List He.Fa := [.glo "Note", .mkr "Note", .noat "Note" "old", .noat "Note" "new", .noat "Note" "named", .noat "Note" "changed", .cls "Make", .glo "Make", .mkr "Make", .noat "Make" "name", .noat "Make" "moves", .noat "Make" "columns", .noat "Make" "note", .meth "Make" "allowed", .meth "Make" "after", .cls "Change", .glo "Change", .mkr "Change", .noat "Change" "name", .noat "Change" "moves", .noat "Change" "columns", .noat "Change" "note", .meth "Change" "allowed", .meth "Change" "after", .cls "End", .glo "End", .mkr "End", .noat "End" "name", .noat "End" "moves", .noat "End" "columns"]
def hfa2 : List He.Fa := [.noat "End" "note", .meth "End" "allowed", .meth "End" "after", .cls "Book", .glo "Book", .mkr "Book", .noat "Book" "columns", .noat "Book" "states", .noat "Book" "deeds", .noat "Book" "names", .noat "Book" "keep", .meth "Book" "__len__", .meth "Book" "__iter__", .meth "Book" "__getitem__", .meth "Book" "writes", .cls "Prices", .glo "Prices", .mkr "Prices", .noat "Prices" "default", .noat "Prices" "set_prices", .meth "Prices" "__getitem__", .meth "Prices" "__setitem__", .meth "Prices" "total", .cls "Flow", .glo "Flow", .mkr "Flow", .noat "Flow" "pairs", .noat "Flow" "sent", .noat "Flow" "room", .meth "Flow" "trails"]
def hfa3 : List He.Fa := [.meth "Flow" "grow", .meth "Flow" "finish", .cls "Cover", .glo "Cover", .mkr "Cover", .noat "Cover" "column", .noat "Cover" "price", .noat "Cover" "sides", .noat "Cover" "packing", .glo "is_integer", .glo "is_name", .glo "is_between", .glo "check_name", .glo "check_once", .glo "check_names", .glo "check_columns", .glo "check_note", .glo "check_column", .glo "reached", .glo "is_closing", .glo "closing_after", .glo "all_successions", .glo "sides_of", .glo "ends_of", .glo "check_price", .glo "check_side", .glo "is_cover", .glo "check_words", .glo "fewest", .glo "is_packing"]
def hfa4 : List He.Fa := [.glo "_law_take", .glo "_law_of", .glo "_law_price", .glo "_law_bag", .glo "_law_names", .glo "_law_note", .glo "_law_deed", .glo "_law_data", .glo "_law_note_of", .glo "_law_deed_of", .glo "_law_book", .glo "_law_columns", .glo "_law_reached", .glo "_law_successions", .glo "_law_sides", .glo "_law_both", .glo "_law_tells", .glo "_law_priced", .glo "_law_loads", .glo "_law_is_cover", .glo "_law_is_packing", .glo "_law_is_right", .glo "law"]
def hfa : List He.Fa := hfa0 ++ hfa1 ++ hfa2 ++ hfa3 ++ hfa4
def hfn0 : List He.DefD := [d0, d1, d2, d3, d4, d5, d6, d7, d8, d9, d10, d11, d12, d13, d14, d15, d16, d17, d18, d19, d20, d21, d22, d23, d24, d25, d26, d27, d28, d29]
def hfn1 : List He.DefD := [d30, d31, d32, d33, d34, d35, d36, d37, d38, d39, d40, d41, d42, d43, d44, d45, d46, d47, d48, d49, d50, d51, d52, d53, d54, d55, d56, d57, d58, d59]
def hfn2 : List He.DefD := [d60, d61, d62, d63, d64, d65]
def hfn : List He.DefD := hfn0 ++ hfn1 ++ hfn2
def hfy0 : List DefY := [supY .mk "Make.__init__" s_Make_init, supY .ch "Change.__init__" s_Change_init, supY .en "End.__init__" s_End_init, cmY "Change" "Change.of" s_Change_of, cmY "End" "End.of" s_End_of, cmY "Book" "Book.of" s_Book_of]
def hfy : List DefY := hfy0
def hex0 (K : PySem.W.Frag) : List Bool := [He.eqO (PySem.W.findIn K (.ref (cA K "Note")) "__class__") (some (some (.builtin "object.__class__"))),
  decide (PySem.W.mroIn K (cA K "Note") (.type "object") = some true),
  He.eqO (PySem.W.findIn K (.ref (cA K "Make")) "__class__") (some (some (.builtin "object.__class__"))),
  decide (PySem.W.mroIn K (cA K "Make") (.type "object") = some true),
  He.eqO (PySem.W.findIn K (.ref (cA K "Change")) "__class__") (some (some (.builtin "object.__class__"))),
  decide (PySem.W.mroIn K (cA K "Change") (.type "object") = some true),
  He.eqO (PySem.W.findIn K (.ref (cA K "End")) "__class__") (some (some (.builtin "object.__class__"))),
  decide (PySem.W.mroIn K (cA K "End") (.type "object") = some true),
  He.eqO (PySem.W.findIn K (.ref (cA K "Book")) "__class__") (some (some (.builtin "object.__class__"))),
  decide (PySem.W.mroIn K (cA K "Book") (.type "object") = some true),
  He.eqO (PySem.W.findIn K (.ref (cA K "Prices")) "__class__") (some (some (.builtin "object.__class__"))),
  decide (PySem.W.mroIn K (cA K "Prices") (.type "object") = some true),
  He.eqO (PySem.W.findIn K (.ref (cA K "Flow")) "__class__") (some (some (.builtin "object.__class__"))),
  decide (PySem.W.mroIn K (cA K "Flow") (.type "object") = some true),
  He.eqO (PySem.W.findIn K (.ref (cA K "Cover")) "__class__") (some (some (.builtin "object.__class__"))),
  decide (PySem.W.mroIn K (cA K "Cover") (.type "object") = some true),
  He.eqO (PySem.W.specialIn K (.builtin "object.__class__") "__get__") (some (some (.builtin "getset_descriptor.__get__"))),
  decide (PySem.W.takesIn K (.builtin "object.__class__") = some true),
  decide (PySem.W.kitOne K (.ref (cA K "Note")) (.ref (cA K "Note")) = some true),
  decide (PySem.W.kitOne K (.type "NoneType") (.ref (cA K "Note")) = some false),
  decide (PySem.W.kitOne K (.ref (cA K "Make")) (.ref (cA K "Make")) = some true),
  decide (PySem.W.kitOne K (.ref (cA K "Make")) (.ref (cA K "Change")) = some false),
  decide (PySem.W.kitOne K (.ref (cA K "Make")) (.ref (cA K "End")) = some false),
  decide (PySem.W.kitOne K (.ref (cA K "Change")) (.ref (cA K "Make")) = some false),
  decide (PySem.W.kitOne K (.ref (cA K "Change")) (.ref (cA K "Change")) = some true),
  decide (PySem.W.kitOne K (.ref (cA K "Change")) (.ref (cA K "End")) = some false),
  decide (PySem.W.kitOne K (.ref (cA K "End")) (.ref (cA K "Make")) = some false),
  decide (PySem.W.kitOne K (.ref (cA K "End")) (.ref (cA K "Change")) = some false),
  decide (PySem.W.kitOne K (.ref (cA K "End")) (.ref (cA K "End")) = some true),
  He.eqO (PySem.W.nsIn K cStatics "thirdparty.any") (some none)]
def hex1 (K : PySem.W.Frag) : List Bool := [PySem.W.noSeq K (cA K "Prices"),
  supB Rp.main.file K .mk "Make.__init__",
  supC K .mk,
  supB Rp.main.file K .ch "Change.__init__",
  supC K .ch,
  supB Rp.main.file K .en "End.__init__",
  supC K .en,
  cmB K (cA K "Change") "of",
  plainB K (cmG K (cA K "Change") "of") "Change.of",
  cmB K (cA K "End") "of",
  plainB K (cmG K (cA K "End") "of") "End.of",
  cmB K (cA K "Book") "of",
  plainB K (cmG K (cA K "Book") "of") "Book.of"]
def hexL (K : PySem.W.Frag) : List Bool := hex0 K ++ hex1 K
def hex (K : PySem.W.Frag) : Bool := (hexL K).all id
def htf : List He.Defn := [("Book", some "__init__")]
def hloose0 : List Str := ["_wall", "BadName", "BadNote", "BadMove", "BadDeed", "BadKeep", "BadSide", "BadPrice", "Twice", "NotWritten", "NoDeed", "NoColumn", "NotAllowed", "TooMany", "LETTERS", "MOST_LETTERS", "is_integer", "is_name", "is_between", "check_name", "check_once", "check_names", "MOST_WORDS", "Note", "pairs_of", "MOST_MOVES", "MOST_COLUMNS", "check_note", "Deed", "Make"]
def hloose1 : List Str := ["Change", "End", "check_column", "reached", "is_closing", "closing_after", "all_successions", "MOST_PRICE", "check_price", "check_side", "Prices", "sides_of", "ends_of", "Cover", "Flow", "fewest", "is_cover", "is_packing", "MOST_DEEDS", "MOST_STATES", "MOST_KEPT", "check_columns", "check_words", "Book", "_law_bag", "_law_take", "_law_of", "_law_few", "_law_names", "_law_value"]
def hloose2 : List Str := ["_law_note", "_law_deed", "_law_data", "_law_note_of", "_law_deed_of", "_law_book", "_law_state", "_law_fits", "_law_columns", "_law_row", "_law_pairs", "_law_entry", "_law_reached", "_law_successions", "_law_sides", "_law_both", "_law_tells", "_law_price", "_law_priced", "_law_loads", "_law_is_cover", "_law_is_packing", "_law_is_right"]
def hloose : List Str := hloose0 ++ hloose1 ++ hloose2
abbrev HR : PySem.W.OpenRow := PySem.W.OpenLaw.row PySem.Challenge.rw_pastnotes_k58_whole_fewest_notes
abbrev hk : PySem.W.Hook := hookY 6 hfa hfn hfy htf hex
def hob (s : PySem.W.SharedT) : AlY := obsY 6 hfa hfn hfy htf hex (HandSHeadRun.getT s)
theorem hob_eq (s : PySem.W.SharedT) : hob s = hk.obs s.abs := obsY_eq (HandSHeadRun.getT_eq s)
end Pn
/-! #### Hr -/
namespace Pn
open PySem PySem.Spec PyProof.Rows L2
/-! ### the head's run: twice, a part of the facts each time -/
/-- a Hook that only looks -/
def hkP (α : Type) (v : α) : PySem.W.Hook := ⟨α, fun _ => v, fun _ => v, fun _ _ => True, fun _ _ _ => trivial, fun _ _ _ _ _ => trivial⟩
def hK (s : PySem.W.SharedT) : PySem.W.Frag := He.frT (HandSHeadRun.getT s) (asY (HandSHeadRun.getT s) 6)
def obA (s : PySem.W.SharedT) : Bool := hfa.all fun f => f.ok (hK s)
def obB (s : PySem.W.SharedT) : Bool × List He.FnW := (hfn.all fun d => d.ok (hK s), hfn.map fun d => He.fnW (hK s) d.at_)
def obC (s : PySem.W.SharedT) : Bool × List FnC × Bool := (obA s, hfy.map fun d => fnC (hK s) (d.at_ (hK s)), hex (hK s) && He.tabsB (HandSHeadRun.getT s) htf (hK s))
theorem hrunB (w : World) : HandSHeadRun.RunEq HR (PySem.W.view HR.prog [92]) (hkP (Bool × List He.FnW) (true, hfn.map He.DefD.val)) obB 20000 hloose w := by
  intro os
  kernel_rfl
theorem hrunC (w : World) : HandSHeadRun.RunEq HR (PySem.W.view HR.prog [92]) (hkP (Bool × List FnC × Bool) (true, hfy.map DefY.val, true)) obC 20000 hloose w := by
  intro os
  kernel_rfl
theorem hob_parts (s : PySem.W.SharedT) (b : obB s = (true, hfn.map He.DefD.val)) (c : obC s = (true, hfy.map DefY.val, true)) : hob s = valY hfn hfy := by
  have b1 : (hfn.all fun d => d.ok (hK s)) = true := congrArg Prod.fst b
  have b2 : (hfn.map fun d => He.fnW (hK s) d.at_) = hfn.map He.DefD.val := congrArg Prod.snd b
  have c1 : (hfy.map fun d => fnC (hK s) (d.at_ (hK s))) = hfy.map DefY.val := congrArg (fun z => z.2.1) c
  have c2 : (hex (hK s) && He.tabsB (HandSHeadRun.getT s) htf (hK s)) = true := congrArg (fun z => z.2.2) c
  have a1 : (hfa.all fun f => f.ok (hK s)) = true := congrArg Prod.fst c
  show (((hfa.all fun f => f.ok (hK s)) && (hfn.all fun d => d.ok (hK s)), hfn.map fun d => He.fnW (hK s) d.at_), hfy.map (fun d => fnC (hK s) (d.at_ (hK s))), hex (hK s) && He.tabsB (HandSHeadRun.getT s) htf (hK s)) = ((true, hfn.map He.DefD.val), hfy.map DefY.val, true)
  rw [a1, b1, b2, c1, c2]; rfl
theorem hrun (w : World) : HandSHeadRun.RunEq HR (PySem.W.view HR.prog [92]) hk hob 20000 hloose w := by
  intro os
  obtain ⟨s, e, h1⟩ := Option.map_eq_some_iff.mp (hrunB w os)
  obtain ⟨s3, e3, h3⟩ := Option.map_eq_some_iff.mp (hrunC w os)
  obtain rfl : s = s3 := Option.some.inj (e.symm.trans e3)
  refine Option.map_eq_some_iff.mpr ⟨s, e, ?_⟩
  obtain ⟨l1, l2⟩ := Prod.mk.inj h1
  obtain ⟨l3, l4⟩ := Prod.mk.inj l2
  obtain ⟨_, n2⟩ := Prod.mk.inj h3
  obtain ⟨_, n4⟩ := Prod.mk.inj n2
  exact Prod.ext l1 (Prod.ext l3 (hob_parts s l4 n4))
end Pn
/-! #### W5 -/
namespace Pn
open PySem PySem.Spec PyProof.Rows L2
/-! ### the book -/
def bookF (c s l n : Addr) (kv : V) : List (Str × V) := [("columns", .ref c), ("states", .ref s), ("deeds", .ref l), ("names", .ref n), ("keep", kv)]
def BookAt (K : PySem.W.Frag) (H : Hp) (v : V) (cols : List Str) (ds : List Dd) : Prop := ∃ p dx c s l n kv vs, v = .ref p ∧ H p = some (.ins (cA K "Book") dx (bookF c s l n kv)) ∧ TxT H c cols ∧ H l = some (.lst vs) ∧ Paired (DeedAt K H) vs ds
/-- a list of deeds -/
def DeedsAt (K : PySem.W.Frag) (H : Hp) (a : Addr) (ds : List Dd) : Prop := ∃ vs, H a = some (.lst vs) ∧ Paired (DeedAt K H) vs ds
theorem DeedAt.same {K : PySem.W.Frag} {H H' : Hp} {v : V} {d : Dd} (s : Same H H') (h : DeedAt K H v d) : DeedAt K H' v d := h.fr .e0 (Fr.of s)
theorem DeedsAt.same {K : PySem.W.Frag} {H H' : Hp} {a : Addr} {ds : List Dd} (s : Same H H') (h : DeedsAt K H a ds) : DeedsAt K H' a ds := by
  obtain ⟨vs, h1, h2⟩ := h
  exact ⟨vs, s _ _ h1, Paired.mono (fun _ _ => DeedAt.same s) h2⟩
theorem BookAt.same {K : PySem.W.Frag} {H H' : Hp} {v : V} {cols : List Str} {ds : List Dd} (t : Same H H') (h : BookAt K H v cols ds) : BookAt K H' v cols ds := by
  obtain ⟨p, dx, c, s, l, n, kv, vs, e, h1, h2, h3, h4⟩ := h
  exact ⟨p, dx, c, s, l, n, kv, vs, e, t _ _ h1, h2.same t, t _ _ h3, Paired.mono (fun _ _ => DeedAt.same t) h4⟩
/-- what is known of a book's deeds -/
structure BkOk (cols : List Str) (ds : List Dd) : Prop where
  few : ds.length ≤ 8
  mv : ∀ d ∈ ds, d.moves.length ≤ 4
  nd : (ds.map Dd.name).Nodup
  cols3 : cols.length ≤ 3
  dcols : ∀ d ∈ ds, d.cols.length ≤ 3
  nm : ∀ d ∈ ds, Nm d.name
/-- the columns that a deed writes -/
def wr (cols : List Str) (d : Dd) : List Str := if d.kd = .mk then cols else d.cols
def isCl (cols : List Str) (col : Str) (d : Dd) : Bool := decide (d.kd = .en) || decide (col ∈ wr cols d)
structure Tb (P : Program) (K : PySem.W.Frag) (mg : Str → Option Value) : Prop where
  te : Te P K mg
  book : Own K mg "Book"
  nB : ∀ f ∈ (["columns", "states", "deeds", "names", "keep"] : List Str), NoAttr K (cA K "Book") f
  it : ∃ g, IterC K (cA K "Book") g "deeds"
  ln : ∃ g, LenC K (cA K "Book") g ∧ MetAt K (cA K "Book") "__len__" "Book.__len__" s_Book_len ∧ ∃ fd, FunD K "__len__" "Book.__len__" (defArgs s_Book_len) (defBody s_Book_len) (defScope s_Book_len) [] [] g fd
  getitem : ∃ g fd, GetC K (cA K "Book") g ∧ FunD K "__getitem__" "Book.__getitem__" (defArgs s_Book_getitem) (defBody s_Book_getitem) (defScope s_Book_getitem) [] [] g fd
  writes : MetAt K (cA K "Book") "writes" "Book.writes" s_Book_writes
  check_column : DefAt K mg "check_column" s_check_column
  reached : DefAt K mg "reached" s_reached
  is_closing : DefAt K mg "is_closing" s_is_closing
  closing_after : DefAt K mg "closing_after" s_closing_after
  all_successions : DefAt K mg "all_successions" s_all_successions
section
variable {P : Program} {w : World} {K : PySem.W.Frag} {mg : Str → Option Value} {base : Heap}
theorem nD_f {T : Tc K mg} (k : Kd) (f : Str) (h : f ∈ (["name", "moves", "columns", "note"] : List Str)) : NoAttr K (k.cls K) f := T.nD k f h
def sp_getitem (K : PySem.W.Frag) : Sp := fun vs H Q _ => ∃ v n cols ds d, vs = [v, .str n] ∧ BookAt K H v cols ds ∧ d ∈ ds ∧ d.name = n ∧ (ds.map Dd.name).Nodup ∧ ∀ u, DeedAt K H u d → Q u H
theorem names_inj {ds : List Dd} (nd : (ds.map Dd.name).Nodup) {i j : Nat} {d e : Dd} (h1 : ds[i]? = some d) (h2 : ds[j]? = some e) (h : d.name = e.name) : i = j := by
  have a1 : (ds.map Dd.name)[i]? = some d.name := by rw [List.getElem?_map, h1]; rfl
  have a2 : (ds.map Dd.name)[j]? = some e.name := by rw [List.getElem?_map, h2]; rfl
  obtain ⟨l1, q1⟩ := List.getElem?_eq_some_iff.mp a1
  obtain ⟨l2, q2⟩ := List.getElem?_eq_some_iff.mp a2
  rcases Nat.lt_trichotomy i j with c | c | c
  · exact absurd (q1.trans (h.trans q2.symm)) (List.pairwise_iff_getElem.mp nd i j l1 l2 c)
  · exact c
  · exact absurd (q2.trans (h.symm.trans q1.symm)) (List.pairwise_iff_getElem.mp nd j i l2 l1 c)
theorem ok_getitem (T : Tb P K mg) : ∃ g fd, GetC K (cA K "Book") g ∧ FnOk P w K mg base CX0 1 g fd p_Book_getitem (sp_getitem K) ∧ Binds K fd p_Book_getitem [] := by
  obtain ⟨g, fd, G, F⟩ := T.getitem
  refine ⟨g, fd, G, F.ok sc_Book_getitem (fun vs H Q E ⟨_, _, _, _, _, e, _⟩ => by rw [e]; rfl) (fun cdv A outer s H vs Q E hr hsp => ?_), F.bindsN (fun _ _ _ _ _ _ us hl => match us, hl with | [_, _], _ => rfl)⟩
  obtain ⟨v, n, cols, ds, d, rfl, hb, hd, hn, nd, k⟩ := hsp
  have B := T.te.td.tc.tw.bt
  refine ⟨_, PSs.nox (pss_cons (ps_for PassesOwn.never rfl (pi_listK K (fldK K (pv 0) rfl)) (gnm 2 sc_Book_getitem.nd) (pss_one (ps_if (PW.pt (pw_and (pt_val (cB (isiK K) B.isinstance bb_isinstance (pa_cons (pv 1) (pa_cons (pe_tyv "str" B.str bb_str) pa_nil)))) (pw_and1 (pt_cmpR op_eq (fldK K (pv 2) rfl) (pv 1) (nomark _))))) (pss_one (ps_ret (pv 2))) pss_nil))) (pss_one ps_never)), ?_⟩
  obtain ⟨p, dx, c, st, l, nm, kv, vs, rfl, h1, h2, h3, h4⟩ := hb
  refine ⟨_, rfl, p, _, dx, _, _, rfl, h1, T.book.cl, T.nB _ (by simp), (show (bookF c st l nm kv).lookup ("deeds" : Str) = some (.ref l) from rfl), l, rfl, ⟨vs, .inl (.inl h3)⟩, ?_⟩
  obtain ⟨i0, hi0⟩ := List.mem_iff_getElem?.mp hd
  refine for_it (walk_list (xs := vs)) (fun i σ H' => (∃ o, σ = [some (.ref p), some (.str n), o]) ∧ H' = H ∧ i ≤ i0) ⟨⟨_, rfl⟩, rfl, Nat.zero_le _⟩ (fun i σ H' _ p => by rw [p.2.1]; exact .inl (.inl h3)) ?_ ?_
  · rintro i x σ H1 H2 hi ⟨⟨o, rfl⟩, rfl, hle⟩ ⟨rfl, hx⟩
    obtain ⟨e, he, hde⟩ := Paired.get h4 hx
    obtain ⟨q, dq, m, cc, nv, ms, rfl, g1, g2, g3, g4, g5⟩ := id hde
    refine ⟨_, rfl, .str n, .ty "str", _, _, true, rfl, .ty _, .base (.str n), kit_ty (by decide +kernel), true, rfl, iteT ?_⟩
    refine ⟨_, rfl, q, _, dq, _, _, rfl, g1, T.te.td.tc.cls e.kd, T.te.td.tc.nD e.kd _ (by simp), (show (deedF e.name m cc nv).lookup ("name" : Str) = some (.str e.name) from rfl), _, rfl, rfl, _, rfl, ite2 (fun z => ?_) (fun z => ?_)⟩
    · have e2 : e.name = n := by
        have := of_decide_eq_true z
        cases this; rfl
      have : i = i0 := names_inj nd he hi0 (by rw [e2, hn])
      subst this
      rw [hi0] at he; cases he
      exact ⟨_, rfl, k _ hde⟩
    · refine ⟨⟨_, rfl⟩, rfl, ?_⟩
      rcases Nat.lt_or_ge i i0 with c | c
      · exact c
      · have : i = i0 := by omega
        subst this
        rw [hi0] at he; cases he
        exact absurd (decide_eq_true (by rw [hn])) z
  · rintro σ H1 ⟨⟨o, rfl⟩, rfl, hle⟩
    have := (List.getElem?_eq_some_iff.mp hi0).1
    have hl : vs.length = ds.length := Paired.length h4
    omega
def sp_writes (K : PySem.W.Frag) : Sp := fun vs H Q _ => ∃ v n cols ds d, vs = [v, .str n] ∧ BookAt K H v cols ds ∧ d ∈ ds ∧ d.name = n ∧ (ds.map Dd.name).Nodup ∧ ∀ a, TxT H a (wr cols d) → Q (.ref a) H
theorem ok_writes (T : Tb P K mg) : Mf P w K mg base 3 (cA K "Book") "writes" p_Book_writes (sp_writes K) := by
  refine Mf.of T.writes T.book.cl sc_Book_writes ((fun _ _ _ _ _ _ us hl => match us, hl with | [_, _], _ => rfl)) (fun vs H Q E ⟨_, _, _, _, _, e, _⟩ => by rw [e]; rfl) fun f cdv A outer s H vs Q E hr ⟨v, n, cols, ds, d, e, hb, hd, hn, nd, k⟩ => ?_
  subst e
  have B := T.te.td.tc.tw.bt
  obtain ⟨g, fd, G, F, bF⟩ := ok_getitem (P := P) (w := w) (base := base) T
  refine ⟨_, (pss_cons (sset 2 sc_Book_writes.nd (pe_ownix G F bF hr (pv 0) (pv 1))) (pss_one (ps_ret (pe_ifExp (pt_val (cB (isiK K) B.isinstance bb_isinstance (pa_cons (pv 2) (pa_cons (pe_own T.te.td.tc.make.v) pa_nil)))) (fldK K (pv 0) rfl) (fldK K (pv 2) rfl))))), ?_⟩
  obtain ⟨p, dx, c, st, l, nm, kv, vs, rfl, h1, h2, h3, h4⟩ := id hb
  refine ⟨_, rfl, _, rfl, p, dx, _, rfl, h1, _, n, cols, ds, d, rfl, hb, hd, hn, nd, fun u hu => ?_⟩
  obtain ⟨q, dq, m, cc, nv, ms, rfl, g1, g2, g3, g4, g5⟩ := id hu
  refine ⟨_, rfl, .ref q, .ref (cA K "Make"), _, _, _, rfl, .own _, (T.te.td.tc.own d.kd).ty T.te.td.tc g1, T.te.td.tc.kD d.kd .mk, _, rfl, ite2 (fun z => ?_) (fun z => ?_)⟩
  · have e := of_decide_eq_true z
    refine ⟨_, rfl, p, _, dx, _, _, rfl, h1, T.book.cl, T.nB _ (by simp), (show (bookF c st l nm kv).lookup ("columns" : Str) = some (.ref c) from rfl), k c ?_⟩
    unfold wr
    rw [if_pos e]
    exact h2
  · have e : ¬ d.kd = .mk := fun y => z (decide_eq_true y)
    refine ⟨_, rfl, q, _, dq, _, _, rfl, g1, T.te.td.tc.cls d.kd, T.te.td.tc.nD d.kd _ (by simp), (show (deedF d.name m cc nv).lookup ("columns" : Str) = some (.ref cc) from rfl), k cc ?_⟩
    unfold wr
    rw [if_neg e]
    exact g4
end
end Pn
/-! #### W6 -/
namespace Pn
open PySem PySem.Spec PyProof.Rows L2
/-- one of several readings -/
def tExK {ι : Type} (t : ι → TE) : TE := fun σ H Q => ∃ i, t i σ H Q
theorem pe_exK {X : Cx} {e : Expr} {ι : Type} {t : ι → TE} (h : ∀ i, PE X e (t i)) : PE X e (tExK t) := ⟨fun pins s σ H Q I ⟨i, hi⟩ => (h i).run pins s σ H Q I hi⟩
theorem map_snoc (xs : List Str) (x : Str) : (xs ++ [x]).map V.str = xs.map V.str ++ [V.str x] := List.map_append ..
/-! ### reaching -/
def Step (ds : List Dd) (s t : Str) : Prop := ∃ d ∈ ds, s ∈ d.moves.map Prod.fst ∧ t = aft d.moves s
inductive Reach (ds : List Dd) (S : Str → Prop) : Str → Prop
  | base {s : Str} : S s → Reach ds S s
  | step {s t : Str} : Reach ds S s → Step ds s t → Reach ds S t
def seconds (ds : List Dd) : List Str := ds.flatMap fun d => d.moves.map Prod.snd
theorem aft_mem {ms : List Pr} {s : Str} (h : s ∈ ms.map Prod.fst) : aft ms s ∈ ms.map Prod.snd := by
  obtain ⟨p, hp, e⟩ := List.mem_map.mp h
  cases q : ms.find? (fun p => decide (p.1 = s)) with
  | none => exact absurd (decide_eq_true e) (by simpa using List.find?_eq_none.mp q p hp)
  | some r =>
    have e2 : aft ms s = r.2 := by unfold aft; rw [q]; rfl
    rw [e2]
    exact List.mem_map.mpr ⟨r, List.mem_of_find?_eq_some q, rfl⟩
theorem nodup_len {α : Type} [DecidableEq α] : ∀ {l m : List α}, l.Nodup → (∀ x ∈ l, x ∈ m) → l.length ≤ m.length
  | [], _, _, _ => Nat.zero_le _
  | x :: l, m, nd, h => by
    have hx := h x List.mem_cons_self
    have h2 : ∀ y ∈ l, y ∈ m.erase x := fun y hy => (List.mem_erase_of_ne (fun (e : y = x) => (List.nodup_cons.mp nd).1 (e ▸ hy))).mpr (h y (List.mem_cons_of_mem _ hy))
    have := nodup_len (List.nodup_cons.mp nd).2 h2
    rw [List.length_erase_of_mem hx] at this
    have : 0 < m.length := List.length_pos_of_mem hx
    rw [List.length_cons]
    omega
theorem flatMap_len {α β : Type} (f : α → List β) (c : Nat) : ∀ l : List α, (∀ x ∈ l, (f x).length ≤ c) → (l.flatMap f).length ≤ c * l.length
  | [], _ => by simp
  | x :: l, h => by
    rw [List.flatMap_cons, List.length_append, List.length_cons]
    have h1 := h x List.mem_cons_self
    have h2 := flatMap_len f c l fun y hy => h y (List.mem_cons_of_mem _ hy)
    rw [Nat.mul_add]
    omega
theorem seconds_len {ds : List Dd} (h : ∀ d ∈ ds, d.moves.length ≤ 4) (h8 : ds.length ≤ 8) : (seconds ds).length ≤ 32 := by
  have := flatMap_len (fun d : Dd => d.moves.map Prod.snd) 4 ds fun d hd => by rw [List.length_map]; exact h d hd
  unfold seconds
  omega
section
variable {P : Program} {w : World} {K : PySem.W.Frag} {mg : Str → Option Value} {base : Heap}
def sp_check_column (K : PySem.W.Frag) : Sp := fun vs H Q _ => ∃ v col cols ds, vs = [v, .str col] ∧ BookAt K H v cols ds ∧ col ∈ cols ∧ Q .non H
theorem ok_check_column (T : Tb P K mg) : Kf P w K mg base 1 "check_column" p_check_column (sp_check_column K) := by
  refine Kf.of T.check_column sc_check_column ((fun _ _ _ _ _ _ us hl => match us, hl with | [_, _], _ => rfl)) (fun vs H Q E ⟨_, _, _, _, e, _⟩ => by rw [e]; rfl) fun f cdv A outer s H vs Q E hr ⟨v, col, cols, ds, e, hb, hc, k⟩ => ?_
  subst e
  have B := T.te.td.tc.tw.bt
  refine ⟨_, (pss_one (ps_if (PW.pt (pw_or (pt_not (pt_val (cB (isiK K) B.isinstance bb_isinstance (pa_cons (pv 1) (pa_cons (pe_tyv "str" B.str bb_str) pa_nil))))) (pw_or1 (pt_cmpR (op_notIn_seqK K) (pv 1) (fldK K (pv 0) rfl) (by with_unfolding_all rfl))))) (pss_one ps_never) pss_nil)), ?_⟩
  obtain ⟨p, dx, c, st, l, nm, kv, vs, rfl, h1, h2, h3, h4⟩ := hb
  refine ⟨_, rfl, .str col, .ty "str", _, _, true, rfl, .ty _, .base (.str col), kit_ty (by decide +kernel), true, rfl, iteF ?_⟩
  refine ⟨_, rfl, _, rfl, p, _, dx, _, _, rfl, h1, T.book.cl, T.nB _ (by simp), (show (bookF c st l nm kv).lookup ("columns" : Str) = some (.ref c) from rfl), c, _, rfl, .inr h2.t, rfl, flat_strs _, _, rfl, ?_⟩
  show if (!inV (.str col) (cols.map V.str)) = true then _ else _
  rw [inV_strs, decide_eq_true hc]
  exact iteF k
theorem ok_len (T : Tb P K mg) : ∃ g fd, LenC K (cA K "Book") g ∧ FnOk P w K mg base CX0 1 g fd p_Book_len (spLenI K (cA K "Book") "deeds") ∧ Binds K fd p_Book_len [] ∧ Mf P w K mg base 1 (cA K "Book") "__len__" p_Book_len (spLenI K (cA K "Book") "deeds") := by
  obtain ⟨g, G, M, fd, F⟩ := T.ln
  have B := T.te.td.tc.tw.bt
  refine ⟨g, fd, G, F.ok sc_Book_len (fun vs H Q E ⟨_, _, _, _, _, e, _⟩ => by rw [e]; rfl) (fun cdv A outer s H vs Q E hr hsp => ?_), F.bindsN (fun _ _ _ _ _ _ us hl => match us, hl with | [_], _ => rfl), Mf.of M T.book.cl sc_Book_len (fun _ _ _ _ _ _ us hl => match us, hl with | [_], _ => rfl) (fun vs H Q E ⟨_, _, _, _, _, e, _⟩ => by rw [e]; rfl) fun f cdv A outer s H vs Q E hr hsp => ?_⟩
  · obtain ⟨a, dx, fs, l, ys, rfl, ha, hl, hy, k⟩ := hsp
    exact ⟨_, PSs.nox (pss_one (ps_ret (cB (len_seqK K) B.len bb_len (pa_cons (fldK K (pv 0) rfl) pa_nil)))), _, rfl, a, _, dx, _, _, rfl, ha, T.book.cl, T.nB _ (by simp), hl, l, _, rfl, .inl hy, k⟩
  · obtain ⟨a, dx, fs, l, ys, rfl, ha, hl, hy, k⟩ := hsp
    exact ⟨_, (pss_one (ps_ret (cB (len_seqK K) B.len bb_len (pa_cons (fldK K (pv 0) rfl) pa_nil)))), _, rfl, a, _, dx, _, _, rfl, ha, T.book.cl, T.nB _ (by simp), hl, l, _, rfl, .inl hy, k⟩
/-- what reached gives -/
def sp_reached (K : PySem.W.Frag) : Sp := fun vs H Q _ => ∃ a b sts ds, vs = [.ref a, .ref b] ∧ TxL H a sts ∧ DeedsAt K H b ds ∧ (∀ d ∈ ds, d.moves.length ≤ 4) ∧ ds.length ≤ 8 ∧ sts.length ≤ 100 ∧
  ∀ r out H', Same H H' → H r = none → TxL H' r out → (∀ s, s ∈ out ↔ Reach ds (· ∈ sts) s) → out.length ≤ sts.length + 32 → Q (.ref r) H'
theorem ok_reached (T : Tb P K mg) : Kf P w K mg base 2 "reached" p_reached (sp_reached K) := by
  refine Kf.of T.reached sc_reached ((fun _ _ _ _ _ _ us hl => match us, hl with | [_, _], _ => rfl)) (fun vs H Q E ⟨_, _, _, _, e, _⟩ => by rw [e]; rfl) fun f cdv A outer s H vs Q E hr ⟨a, b, sts, ds, e, ha, hb, hm, h8, hl, k⟩ => ?_
  subst e
  have B := T.te.td.tc.tw.bt
  have TC := T.te.td.tc
  have c_allowed := ok_allowed (P := P) (w := w) (base := base) TC
  have c_after := ok_after (P := P) (w := w) (base := base) TC
  refine ⟨_, (pss_cons (sset 2 sc_reached.nd (cT call_list_of B.list bb_list (pa_cons (pv 0) pa_nil))) (pss_cons (sset 3 sc_reached.nd pe_int) (pss_cons (ps_while PassesOwn.never (pt_cmpR op_lt (pv 3) (cB (len_seqK K) B.len bb_len (pa_cons (pv 2) pa_nil)) (nomark _)) (pss_cons (ps_for PassesOwn.never rfl (pi_listK K (pv 1)) (gnm 4 sc_reached.nd) (pss_one (ps_if (pt_val (pe_exK fun kd => pe_m (c_allowed kd) hr (by decide) (pv 4) (pa_cons (pe_ix (ix_listK K) (pv 2) (pv 3) (fun _ _ => rfl)) pa_nil))) (pss_cons (sset 5 sc_reached.nd (pe_exK fun kd => pe_m (c_after kd) hr (by decide) (pv 4) (pa_cons (pe_ix (ix_listK K) (pv 2) (pv 3) (fun _ _ => rfl)) pa_nil))) (pss_one (ps_if (pt_cmpR (op_notIn_seqK K) (pv 5) (pv 2) (by with_unfolding_all rfl)) (pss_one (ps_expr (pe_bm PySem.F.plainAttrs_list PySem.F.slot_list_append PySem.F.type_list_append mt_append (pv 2) (pa_cons (pv 5) pa_nil)))) pss_nil))) pss_nil))) (pss_one (saug 3 sc_reached.nd pe_int ip_add)))) (pss_one (ps_ret (pv 2)))))), ?_⟩
  refine ⟨_, rfl, a, _, rfl, .inl ha.l, fun r hr0 => ?_⟩
  obtain ⟨vs, hb1, hb2⟩ := hb
  have hvl : vs.length = ds.length := Paired.length hb2
  -- the list so far: what was given, then new ones
  have sec := seconds_len hm h8
  let Good : List Str → Prop := fun new => new.Nodup ∧ (∀ x ∈ new, x ∈ seconds ds) ∧ ∀ x ∈ new, Reach ds (· ∈ sts) x
  have glen : ∀ new, Good new → new.length ≤ 32 := fun new g => Nat.le_trans (nodup_len g.1 g.2.1) sec
  let Cls : List Str → Nat → Prop := fun fs k => ∀ j s, j < k → fs[j]? = some s → ∀ t, Step ds s t → t ∈ fs
  refine ⟨fun m σ H' => ∃ (k : Nat) (new : List Str) (o1 o2 : Option V), m = sts.length + 32 - k ∧ σ = [some (.ref a), some (.ref b), some (.ref r), some (.int (k : Nat)), o1, o2] ∧ Same H H' ∧ TxL H' r (sts ++ new) ∧ Good new ∧ Cls (sts ++ new) k ∧ k ≤ (sts ++ new).length, ⟨_, 0, [], none, none, rfl, rfl, (Fr.new (E := Ex0) hr0).same, by rw [List.append_nil]; exact upd_same, ⟨List.nodup_nil, by simp, by simp⟩, fun j s hj => absurd hj (Nat.not_lt_zero _), Nat.zero_le _⟩, ?_⟩
  rintro m σ H1 ⟨k0, new, o1, o2, rfl, rfl, s1, hf, hg, hc, hk⟩
  refine ⟨_, rfl, _, rfl, r, _, rfl, .inl hf.l, _, _, rfl, rfl, _, rfl, ite2 (fun z => ?_) (fun z => ?_)⟩
  · have hk2 : k0 < (sts ++ new).length := by
      have := of_decide_eq_true z
      rw [List.length_map] at this
      omega
    obtain ⟨cur, hcur⟩ : ∃ cur, (sts ++ new)[k0]? = some cur := ⟨_, List.getElem?_eq_getElem hk2⟩
    have hreach : Reach ds (· ∈ sts) cur := by
      have := List.mem_of_getElem? hcur
      rcases List.mem_append.mp this with q | q
      · exact .base q
      · exact hg.2.2 _ q
    refine ⟨fun σ' H' => ∃ (new' : List Str) (o1 o2 : Option V), σ' = [some (.ref a), some (.ref b), some (.ref r), some (.int ((k0 + 1 : Nat) : Int)), o1, o2] ∧ Same H H' ∧ TxL H' r (sts ++ new') ∧ Good new' ∧ Cls (sts ++ new') (k0 + 1) ∧ k0 + 1 ≤ (sts ++ new').length, ?_, ?_⟩
    · rintro σ' H' ⟨new', o1, o2, rfl, s', hf', hg', hc', hk'⟩
      refine ⟨sts.length + 32 - (k0 + 1), ?_, k0 + 1, new', o1, o2, rfl, rfl, s', hf', hg', hc', hk'⟩
      have := glen _ hg'
      rw [List.length_append] at hk'
      omega
    refine ⟨_, rfl, b, rfl, ⟨vs, .inl (.inl (s1 _ _ hb1))⟩, for_it (walk_list (xs := vs)) (fun i σ' H' => ∃ (new' : List Str) (o1 o2 : Option V), σ' = [some (.ref a), some (.ref b), some (.ref r), some (.int (k0 : Nat)), o1, o2] ∧ Same H H' ∧ TxL H' r (sts ++ new') ∧ Good new' ∧ Cls (sts ++ new') k0 ∧ (∃ more, new' = new ++ more) ∧
      ∀ j d, j < i → ds[j]? = some d → cur ∈ d.moves.map Prod.fst → aft d.moves cur ∈ sts ++ new') ⟨new, o1, o2, rfl, s1, hf, hg, hc, ⟨[], by rw [List.append_nil]⟩, fun j d hj => absurd hj (Nat.not_lt_zero _)⟩ (fun i σ' H' _ ⟨_, _, _, _, s', _⟩ => .inl (.inl (s' _ _ hb1))) ?_ ?_⟩
    · rintro i x σ' H2 H3 hi ⟨new', o1, o2, rfl, s2, hf2, hg2, hc2, ⟨more, em⟩, hdone⟩ ⟨rfl, hx⟩
      obtain ⟨d, hd, hda⟩ := Paired.get hb2 hx
      have hdm := List.mem_of_getElem? hd
      have hda2 := hda.same s2
      have hcur2 : (sts ++ new')[k0]? = some cur := by
        rw [em, ← List.append_assoc, List.getElem?_append_left hk2]; exact hcur
      have hat : atI ((sts ++ new').map V.str) (k0 : Nat) = some (.str cur) := atI_nat (by rw [List.getElem?_map, hcur2]; rfl)
      obtain ⟨p, dx, mm, cc, nv, ms, rfl, g1, g2, g3, g4, g5⟩ := id hda2
      refine ⟨d.kd, _, rfl, p, dx, _, rfl, g1, rfl, _, rfl, _, rfl, r, _, _, _, rfl, rfl, hf2.l, hat, _, cur, d, rfl, hda2, rfl, Nat.le_trans (hm d hdm) (by decide), fun H4 s4 => ⟨_, rfl, ite2 (fun z => ?_) (fun z => ?_)⟩⟩
      · have hin := of_decide_eq_true z
        have hda4 := hda2.same s4
        have hf4 := hf2.same s4
        refine ⟨d.kd, _, rfl, p, dx, _, rfl, s4 _ _ g1, rfl, _, rfl, _, rfl, r, _, _, _, rfl, rfl, hf4.l, hat, _, cur, d, rfl, hda4, rfl, hin, ?_⟩
        refine ⟨_, rfl, _, rfl, r, _, rfl, .inl hf4.l, rfl, flat_strs _, _, rfl, ?_⟩
        show if (!inV (.str (aft d.moves cur)) ((sts ++ new').map V.str)) = true then _ else _
        rw [inV_strs]
        by_cases hmem : aft d.moves cur ∈ sts ++ new'
        · rw [decide_eq_true hmem]
          refine iteF ⟨new', _, _, rfl, s2.trans s4, hf4, hg2, hc2, ⟨more, em⟩, fun j e hj he hce => ?_⟩
          by_cases hji : j = i
          · subst hji
            rw [hd] at he; cases he
            exact hmem
          · exact hdone j e (by omega) he hce
        · rw [decide_eq_false hmem]
          refine iteT ?_
          have hlen : (sts ++ new').length ≤ 132 := by rw [List.length_append]; have := glen _ hg2; omega
          refine ⟨_, rfl, .inl ⟨rfl, _, hf4.l⟩, _, rfl, r, _, _, rfl, rfl, hf4, small1000 (by rw [List.length_map]; omega), ?_⟩
          have hstep : Step ds cur (aft d.moves cur) := ⟨d, hdm, hin, rfl⟩
          have happ : sts ++ (new' ++ [aft d.moves cur]) = (sts ++ new') ++ [aft d.moves cur] := (List.append_assoc ..).symm
          refine ⟨new' ++ [aft d.moves cur], _, _, rfl, ((Fr.of (E := Ex0) (s2.trans s4)).put hr0).same, ?_, ⟨?_, ?_, ?_⟩, ?_, ⟨more ++ [aft d.moves cur], by rw [em, List.append_assoc]⟩, fun j e hj he hce => ?_⟩
          · show upd H4 r _ r = _
            rw [upd_same, happ]
            exact congrArg (fun z => some (HO.lst z)) (map_snoc _ _).symm
          · refine List.nodup_append.mpr ⟨hg2.1, by simp, fun x hx y hy => ?_⟩
            have : y = aft d.moves cur := by simpa using hy
            rw [this]
            exact fun e => hmem (List.mem_append_right _ (e ▸ hx))
          · intro x hx
            rcases List.mem_append.mp hx with q | q
            · exact hg2.2.1 x q
            · have : x = aft d.moves cur := by simpa using q
              rw [this]
              exact List.mem_flatMap.mpr ⟨d, hdm, aft_mem hin⟩
          · intro x hx
            rcases List.mem_append.mp hx with q | q
            · exact hg2.2.2 x q
            · have : x = aft d.moves cur := by simpa using q
              rw [this]
              exact .step hreach hstep
          · intro j u hj hu t ht
            rw [happ] at hu ⊢
            rw [List.getElem?_append_left (by rw [List.length_append] at hk2 ⊢; rw [em, List.length_append]; omega)] at hu
            exact List.mem_append_left _ (hc2 j u hj hu t ht)
          · rw [happ]
            by_cases hji : j = i
            · subst hji
              rw [hd] at he; cases he
              exact List.mem_append_right _ (by simp)
            · exact List.mem_append_left _ (hdone j e (by omega) he hce)
      · have hnin : cur ∉ d.moves.map Prod.fst := fun y => z (decide_eq_true y)
        refine ⟨new', _, _, rfl, s2.trans s4, hf2.same s4, hg2, hc2, ⟨more, em⟩, fun j e hj he hce => ?_⟩
        by_cases hji : j = i
        · subst hji
          rw [hd] at he; cases he
          exact absurd hce hnin
        · exact hdone j e (by omega) he hce
    · rintro σ' H2 ⟨new', o1, o2, rfl, s2, hf2, hg2, hc2, ⟨more, em⟩, hdone⟩
      refine ⟨_, rfl, _, _, rfl, rfl, new', o1, o2, ?_, s2, hf2, hg2, ?_, ?_⟩
      · exact congrArg (fun z => ([some (V.ref a), some (V.ref b), some (V.ref r), some (V.int z), o1, o2] : L2.St)) (by show ((k0 : Nat) : Int) + 1 = ((k0 + 1 : Nat) : Int); omega)
      · intro j u hj hu t ht
        by_cases hjk : j = k0
        · subst hjk
          have hcur2 : (sts ++ new')[j]? = some cur := by
            rw [em, ← List.append_assoc, List.getElem?_append_left hk2]; exact hcur
          rw [hcur2] at hu; cases hu
          obtain ⟨d, hd, hin, rfl⟩ := ht
          obtain ⟨i, hi⟩ := List.mem_iff_getElem?.mp hd
          exact hdone i d (by rw [hvl]; exact (List.getElem?_eq_some_iff.mp hi).1) hi hin
        · exact hc2 j u (by omega) hu t ht
      · rw [em, ← List.append_assoc, List.length_append]; omega
  · have hk2 : k0 = (sts ++ new).length := by
      have : ¬ ((k0 : Int) < (((sts ++ new).map V.str).length : Nat)) := fun y => z (decide_eq_true y)
      rw [List.length_map] at this
      omega
    refine ⟨_, rfl, k r _ H1 s1 hr0 hf (fun x => ⟨fun hx => ?_, fun hx => ?_⟩) (by rw [List.length_append]; have := glen _ hg; omega)⟩
    · rcases List.mem_append.mp hx with q | q
      · exact .base q
      · exact hg.2.2 _ q
    · induction hx with
      | base h => exact List.mem_append_left _ h
      | step _ hst ih =>
        obtain ⟨j, hj⟩ := List.mem_iff_getElem?.mp ih
        exact hc j _ (by rw [hk2]; exact (List.getElem?_eq_some_iff.mp hj).1) hj _ hst
end
end Pn
/-! #### W7 -/
namespace Pn
open PySem PySem.Spec PyProof.Rows L2
/-! ### successions -/
def passing (cols : List Str) (ds : List Dd) (col : Str) : List Dd := ds.filter fun d => !isCl cols col d
def NextP (cols : List Str) (ds : List Dd) (col : Str) (S : Str → Prop) (e : Dd) : Prop := isCl cols col e = true ∧ ∃ s, Reach (passing cols ds col) S s ∧ s ∈ e.moves.map Prod.fst
def Behind (ds : List Dd) (d : Dd) (t : Str) : Prop := ∃ s, Reach ds (fun x => x = "") s ∧ s ∈ d.moves.map Prod.fst ∧ t = aft d.moves s
noncomputable def nxB (cols : List Str) (ds : List Dd) (col : Str) (S : Str → Prop) (e : Dd) : Bool := @decide (NextP cols ds col S e) (Classical.propDecidable _)
noncomputable def succOf (cols : List Str) (ds : List Dd) (col : Str) (d : Dd) : List Pr := if col ∈ wr cols d then (ds.filter (nxB cols ds col (Behind ds d))).map fun e => (d.name, e.name) else []
noncomputable def succ (cols : List Str) (ds : List Dd) (col : Str) : List Pr := ds.flatMap (succOf cols ds col)
theorem nxB_iff {cols : List Str} {ds : List Dd} {col : Str} {S : Str → Prop} {e : Dd} : nxB cols ds col S e = true ↔ NextP cols ds col S e := by
  unfold nxB
  exact @decide_eq_true_iff _ (Classical.propDecidable _)
theorem succ_mem {cols : List Str} {ds : List Dd} {col : Str} {x y : Str} : (x, y) ∈ succ cols ds col ↔ ∃ d ∈ ds, ∃ e ∈ ds, d.name = x ∧ e.name = y ∧ col ∈ wr cols d ∧ NextP cols ds col (Behind ds d) e := by
  unfold succ succOf
  rw [List.mem_flatMap]
  constructor
  · rintro ⟨d, hd, h⟩
    by_cases hc : col ∈ wr cols d
    · rw [if_pos hc] at h
      obtain ⟨e, he, q⟩ := List.mem_map.mp h
      obtain ⟨h1, h2⟩ := List.mem_filter.mp he
      cases q
      exact ⟨d, hd, e, h1, rfl, rfl, hc, nxB_iff.mp h2⟩
    · rw [if_neg hc] at h; cases h
  · rintro ⟨d, hd, e, he, rfl, rfl, hc, hn⟩
    refine ⟨d, hd, ?_⟩
    rw [if_pos hc]
    exact List.mem_map.mpr ⟨e, List.mem_filter.mpr ⟨he, nxB_iff.mpr hn⟩, rfl⟩
theorem succ_len {cols : List Str} {ds : List Dd} {col : Str} (h : ds.length ≤ 8) : (succ cols ds col).length ≤ 64 := by
  have := flatMap_len (succOf cols ds col) 8 ds fun d hd => by
    unfold succOf
    split
    · rw [List.length_map]; exact Nat.le_trans (List.length_filter_le _ _) h
    · exact Nat.zero_le _
  unfold succ
  omega
section
variable {P : Program} {w : World} {K : PySem.W.Frag} {mg : Str → Option Value} {base : Heap}
theorem deed_name (d : Dd) (m c : Addr) (nv : V) : (deedF d.name m c nv).lookup ("name" : Str) = some (.str d.name) := rfl
theorem book_deeds (c st l nm : Addr) (kv : V) : (bookF c st l nm kv).lookup ("deeds" : Str) = some (.ref l) := rfl
def sp_is_closing (K : PySem.W.Frag) : Sp := fun vs H Q _ => ∃ v u col cols ds d, vs = [v, u, .str col] ∧ BookAt K H v cols ds ∧ DeedAt K H u d ∧ d ∈ ds ∧ (ds.map Dd.name).Nodup ∧ Q (.bl (isCl cols col d)) H
theorem ok_is_closing (T : Tb P K mg) : Kf P w K mg base 4 "is_closing" p_is_closing (sp_is_closing K) := by
  refine Kf.of T.is_closing sc_is_closing ((fun _ _ _ _ _ _ us hl => match us, hl with | [_, _, _], _ => rfl)) (fun vs H Q E ⟨_, _, _, _, _, _, e, _⟩ => by rw [e]; rfl) fun f cdv A outer s H vs Q E hr ⟨v, u, col, cols, ds, d, e, hb, hu, hd, nd, k⟩ => ?_
  subst e
  have B := T.te.td.tc.tw.bt
  have c_writes := ok_writes (P := P) (w := w) (base := base) T
  refine ⟨_, (pss_one (ps_ret (pe_or (cB (isiK K) B.isinstance bb_isinstance (pa_cons (pv 1) (pa_cons (pe_own T.te.td.tc.end_.v) pa_nil))) (pe_one (pe_cmpR (op_in_seqK K) (pv 2) (pe_m c_writes hr (by decide) (pv 0) (pa_cons (fldK K (pv 1) rfl) pa_nil)) (by with_unfolding_all rfl)))))), ?_⟩
  obtain ⟨q, dq, m, cc, nv, ms, rfl, g1, g2, g3, g4, g5⟩ := id hu
  obtain ⟨p, dx, c, st, l, nm, kv, vs, rfl, h1, h2, h3, h4⟩ := id hb
  refine ⟨_, rfl, .ref q, .ref (cA K "End"), _, _, _, rfl, .own _, (T.te.td.tc.own d.kd).ty T.te.td.tc g1, T.te.td.tc.kD d.kd .en, _, rfl, ite2 (fun z => ?_) (fun z => ?_)⟩
  · have e : isCl cols col d = true := by unfold isCl; rw [z, Bool.true_or]
    rw [e] at k; exact k
  · refine ⟨_, rfl, _, rfl, p, dx, _, rfl, h1, rfl, _, rfl, q, _, dq, _, _, rfl, g1, T.te.td.tc.cls d.kd, T.te.td.tc.nD d.kd _ (by simp), deed_name _ _ _ _, _, _, cols, ds, d, rfl, hb, hd, rfl, nd, fun a ha => ?_⟩
    refine ⟨a, _, rfl, .inr ha.t, rfl, flat_strs _, ?_⟩
    show Q (.bl (inV (.str col) ((wr cols d).map V.str))) H
    rw [inV_strs]
    have z2 : decide (d.kd = .en) = false := by cases q : decide (d.kd = .en) with | true => exact absurd q z | false => rfl
    have e : isCl cols col d = decide (col ∈ wr cols d) := by unfold isCl; rw [z2, Bool.false_or]
    rw [e] at k; exact k
def sp_closing_after (K : PySem.W.Frag) : Sp := fun vs H Q _ => ∃ v col a cols ds sts, vs = [v, .str col, .ref a] ∧ BookAt K H v cols ds ∧ BkOk cols ds ∧ TxL H a sts ∧ sts.length ≤ 60 ∧
  ∀ r H', Same H H' → H r = none → TxL H' r ((ds.filter (nxB cols ds col (· ∈ sts))).map Dd.name) → Q (.ref r) H'
theorem ok_closing_after (T : Tb P K mg) : Kf P w K mg base 5 "closing_after" p_closing_after (sp_closing_after K) := by
  refine Kf.of T.closing_after sc_closing_after ((fun _ _ _ _ _ _ us hl => match us, hl with | [_, _, _], _ => rfl)) (fun vs H Q E ⟨_, _, _, _, _, _, e, _⟩ => by rw [e]; rfl) fun f cdv A outer s H vs Q E hr ⟨v, col, a, cols, ds, sts, e, hb, hok, ha, hl, k⟩ => ?_
  subst e
  have B := T.te.td.tc.tw.bt
  have TC := T.te.td.tc
  have c_is_closing := ok_is_closing (P := P) (w := w) (base := base) T
  have c_reached := ok_reached (P := P) (w := w) (base := base) T
  have c_allowed := ok_allowed (P := P) (w := w) (base := base) TC
  obtain ⟨gi, IT⟩ := T.it
  refine ⟨_, (pss_cons (ps_setLc (i := 3) (own := [("deed", 4)]) rfl sc_closing_after.nd rfl rfl (sw_true rfl rfl rfl (by decide +kernel)) (pi_ownK K IT B.iter (hr.mono (by decide)) (pv 0)) (blkOk_by (N := n_closing_after) (sc := defScope s_closing_after) (by decide +kernel)) (fun _ _ _ _ _ => (gnm 4 sc_closing_after.nd)) (fun _ _ _ _ _ => pts_one (pt_not (pt_val (pe_k c_is_closing hr (by decide) rfl (pa_cons (pv 0) (pa_cons (pv 4) (pa_cons (pv 1) pa_nil))))))) (fun _ _ _ _ _ => (pv 4))) (pss_cons (sset 5 sc_closing_after.nd (pe_k c_reached hr (by decide) rfl (pa_cons (pv 2) (pa_cons (pv 3) pa_nil)))) (pss_cons (sset 6 sc_closing_after.nd (pe_lst pa_nil)) (pss_cons (ps_for PassesOwn.never rfl (pi_ownK K IT B.iter (hr.mono (by decide)) (pv 0)) (gnm 4 sc_closing_after.nd) (pss_one (ps_if (PW.pt (pw_and (pt_val (pe_k c_is_closing hr (by decide) rfl (pa_cons (pv 0) (pa_cons (pv 4) (pa_cons (pv 1) pa_nil))))) (pw_and1 (pt_val (cB (anyK K rfl) B.any bb_any (pa_cons (pe_lc (own := [("state", 7)]) rfl sc_closing_after.nd (pi_listK K (pv 5)) (blkOk_by (N := n_closing_after) (sc := defScope s_closing_after) (by decide +kernel)) (fun _ _ _ _ _ => (gnm 7 sc_closing_after.nd)) (fun _ _ _ _ _ => pts_nil) (fun _ _ _ _ _ => (pe_exK fun kd => pe_m (c_allowed kd) hr (by decide) (pv 4) (pa_cons (pv 7) pa_nil)))) pa_nil)))))) (pss_one (ps_expr (pe_bm PySem.F.plainAttrs_list PySem.F.slot_list_append PySem.F.type_list_append mt_append (pv 6) (pa_cons (fldK K (pv 4) rfl) pa_nil)))) pss_nil))) (pss_one (ps_ret (pv 6))))))), ?_⟩
  obtain ⟨p, dx, c, st, l, nm, kv, vs, rfl, h1, h2, h3, h4⟩ := id hb
  have hvl : vs.length = ds.length := Paired.length h4
  refine ⟨_, rfl, p, dx, _, l, rfl, h1, book_deeds _ _ _ _ _, ⟨vs, .inl (.inl h3)⟩, fun D hD => ?_⟩
  refine lc_map (E := Ex0) (walk_list (xs := vs)) (B := Dd) ds (fun d => !isCl cols col d) id (DeedAt K) hvl.symm hD (by have := hok.few; omega) (fun H' f => .inl (.inl (f.same _ _ h3))) (fun i H x H' y => by rw [y.1]; exact Fr.refl _ _) (Sta.deed .e0) (fun _ _ _ _ z => z) ?_ ?_
  · rintro i x H1 H2 d Ky Kn hd fr ⟨rfl, hx⟩ hy hk
    have hda := (Paired.at h4 hx hd).same fr.same
    have hdm := List.mem_of_getElem? hd
    refine ⟨rfl, _, rfl, _, rfl, _, rfl, _, _, col, cols, ds, d, rfl, hb.same fr.same, hda, hdm, hok.nd, _, rfl, ite2 (fun z => ?_) (fun z => ?_)⟩
    · exact ⟨_, rfl, hy _ _ z (Fr.refl _ _) hda⟩
    · exact hk _ (by cases q : (!isCl cols col d) with | true => exact absurd q z | false => rfl) (Fr.refl _ _)
  · intro H1 ys fr hd hys
    rw [List.map_id] at hys
    refine ⟨_, rfl, _, rfl, a, D, sts, passing cols ds col, rfl, ha.same fr.same, ⟨ys, hd, hys⟩, fun d hd => hok.mv d (List.mem_filter.mp hd).1, Nat.le_trans (List.length_filter_le _ _) hok.few, by omega, fun r op H2 s2 hr0 hop hopm hopl => ?_⟩
    have s02 := fr.same.trans s2
    refine ⟨Nat.zero_le _, fun fo hfo => ?_⟩
    have s03 : Same H (upd H2 fo (.lst [])) := (Fr.of (E := Ex0) s02 |>.new' hfo).same
    have hfoH : H fo = none := (Fr.of (E := Ex0) s02).free hfo
    have hfr : fo ≠ r := (ne_of_none hop hfo).symm
    have hop3 : TxL (upd H2 fo (.lst [])) r op := by
      show upd H2 fo _ r = _
      rw [upd_ne (Ne.symm hfr)]; exact hop
    let q : Dd → Bool := fun d => isCl cols col d && op.any fun s => decide (s ∈ d.moves.map Prod.fst)
    have hq : ds.filter (nxB cols ds col (· ∈ sts)) = ds.filter q := List.filter_congr fun d hd => by
      rw [Bool.eq_iff_iff, nxB_iff]
      show _ ↔ (isCl cols col d && op.any fun s => decide (s ∈ d.moves.map Prod.fst)) = true
      rw [Bool.and_eq_true, List.any_eq_true]
      refine and_congr_right fun _ => ⟨fun ⟨s, h1, h2⟩ => ⟨s, (hopm s).mpr h1, decide_eq_true h2⟩, fun ⟨s, h1, h2⟩ => ⟨s, (hopm s).mp h1, of_decide_eq_true h2⟩⟩
    rw [hq] at k
    refine ⟨_, rfl, p, dx, _, l, rfl, s03 _ _ h1, book_deeds _ _ _ _ _, ⟨vs, .inl (.inl (s03 _ _ h3))⟩, for_it (walk_list (xs := vs)) (fun i σ H' => (∃ o, σ = [some (.ref p), some (.str col), some (.ref a), some (.ref D), o, some (.ref r), some (.ref fo), none]) ∧ Same H H' ∧ TxL H' r op ∧ TxL H' fo (((ds.take i).filter q).map Dd.name)) ⟨⟨_, rfl⟩, s03, hop3, upd_same⟩ (fun i σ H' _ p => .inl (.inl (p.2.1 _ _ h3))) ?_ ?_⟩
    · rintro i x σ H3 H4 hi ⟨⟨o, rfl⟩, s3, hr3, hf3⟩ ⟨rfl, hx⟩
      obtain ⟨d, hd, hda⟩ := Paired.get h4 hx
      have hdm := List.mem_of_getElem? hd
      have hdi : i < ds.length := (List.getElem?_eq_some_iff.mp hd).1
      have htk : ds.take (i + 1) = ds.take i ++ [d] := by
        rw [List.take_succ_eq_append_getElem hdi, (List.getElem?_eq_some_iff.mp hd).2]
      have hda3 := hda.same s3
      obtain ⟨u, du, m, cc, nv, ms, rfl, g1, g2, g3, g4, g5⟩ := id hda3
      have hno : q d = false → ∀ H', Same H H' → TxL H' r op → TxL H' fo (((ds.take i).filter q).map Dd.name) → (∃ o, ([some (.ref p), some (.str col), some (.ref a), some (.ref D), some (.ref u), some (.ref r), some (.ref fo), none] : L2.St) = [some (.ref p), some (.str col), some (.ref a), some (.ref D), o, some (.ref r), some (.ref fo), none]) ∧ Same H H' ∧ TxL H' r op ∧ TxL H' fo (((ds.take (i + 1)).filter q).map Dd.name) := fun hqd H' s' h1' h2' => by
        refine ⟨⟨_, rfl⟩, s', h1', ?_⟩
        rw [htk, List.filter_append, List.filter_cons_of_neg (by rw [hqd]; exact Bool.false_ne_true), List.filter_nil, List.append_nil]
        exact h2'
      refine ⟨_, rfl, _, rfl, _, rfl, _, _, col, cols, ds, d, rfl, hb.same s3, hda3, hdm, hok.nd, _, rfl, ite2 (fun z => ?_) (fun z => ?_)⟩
      · refine ⟨_, rfl, r, rfl, ⟨_, .inl (.inl hr3)⟩, fun E hE => ?_⟩
        refine lc_map (E := Ex0) (walk_list (xs := op.map V.str)) (B := Bool) op (fun _ => true) (fun s => decide (s ∈ d.moves.map Prod.fst)) (fun _ v b => v = .bl b) (List.length_map ..).symm hE (by rw [List.length_map]; omega) (fun H' f => .inl (.inl (f.same _ _ hr3))) (fun i H x H' y => by rw [y.1]; exact Fr.refl _ _) (Sta.eq V.bl) (fun _ _ _ _ z => z) ?_ ?_
        · rintro j y H5 H6 s0 Ky Kn hs0 fr5 ⟨rfl, hy0⟩ hy hk
          obtain ⟨s1, hs1, rfl⟩ := map_at hy0
          rw [hs0] at hs1; cases hs1
          have hda5 := hda3.same fr5.same
          refine ⟨rfl, yes_of ?_⟩
          exact ⟨d.kd, _, rfl, u, du, _, rfl, fr5.same _ _ g1, rfl, _, rfl, _, s0, d, rfl, hda5, rfl, Nat.le_trans (hok.mv d hdm) (by decide), fun H7 s7 => hy _ _ rfl (Fr.of s7) rfl⟩
        · intro H5 ys5 fr5 hE5 r5
          have hy5 := Paired.mapEq (f := V.bl) r5
          rw [List.filter_eq_self.mpr (fun _ _ => rfl)] at hy5
          refine ⟨E, _, rfl, .inl (.inl (hy5 ▸ hE5)), _, rfl, ?_⟩
          have e5 : (op.map fun s => decide (s ∈ d.moves.map Prod.fst)).any id = op.any fun s => decide (s ∈ d.moves.map Prod.fst) := by rw [List.any_map]; rfl
          rw [e5]
          have s5 := s3.trans fr5.same
          have hf5 := hf3.same fr5.same
          refine ite2 (fun z2 => ?_) (fun z2 => ?_)
          · have hqd : q d = true := by show (_ && _) = true; rw [z, z2]; rfl
            have hda5 := hda3.same fr5.same
            refine ⟨_, rfl, .inl ⟨rfl, _, hf5.l⟩, _, rfl, u, _, du, _, _, rfl, fr5.same _ _ g1, TC.cls d.kd, TC.nD d.kd _ (by simp), deed_name _ _ _ _, fo, _, _, rfl, rfl, hf5, small1000 ?_, ⟨_, rfl⟩, ((Fr.of (E := Ex0) s5).put hfoH).same, ?_, ?_⟩
            · rw [List.length_map, List.length_map]
              have h1 := List.length_filter_le q (ds.take i)
              have h2 : (ds.take i).length ≤ ds.length := by rw [List.length_take]; omega
              have := hok.few
              omega
            · show upd H5 fo _ r = _
              rw [upd_ne (Ne.symm hfr)]; exact hr3.same fr5.same
            · show upd H5 fo _ fo = _
              rw [upd_same, htk, List.filter_append, List.filter_cons_of_pos hqd, List.filter_nil, List.map_append]
              exact congrArg (fun z => some (HO.lst z)) (map_snoc _ _).symm
          · have hqd : q d = false := by
              show (_ && _) = false
              cases q5 : (op.any fun s => decide (s ∈ d.moves.map Prod.fst)) with
              | true => exact absurd q5 z2
              | false => rw [Bool.and_false]
            exact hno hqd _ s5 (hr3.same fr5.same) hf5
      · have hqd : q d = false := by
          show (_ && _) = false
          cases q5 : isCl cols col d with
          | true => exact absurd q5 z
          | false => rw [Bool.false_and]
        exact hno hqd _ s3 hr3 hf3
    · rintro σ H3 ⟨⟨o, rfl⟩, s3, hr3, hf3⟩
      refine ⟨_, rfl, k fo H3 s3 hfoH ?_⟩
      rw [hvl, List.take_length] at hf3
      exact hf3
end
end Pn
/-! #### W8 -/
namespace Pn
open PySem PySem.Spec PyProof.Rows L2
/-- a block cut behind its first statement: a middle condition of one's own -/
def tCutP (t u : TS) : TS := fun D σ H => ∃ Mid : L2.St → Hp → Prop, t { D with nx := Mid } σ H ∧ ∀ σ' H', Mid σ' H' → u D σ' H'
theorem SP.imp {X : Cx} {pins : List (Addr × Obj)} {D D' : Ends} {f : Flow} {s : Shared} (h : SP X pins D f s) (hn : ∀ σ H, D.nx σ H → D'.nx σ H) (hr : D.rt = D'.rt) (hb : D.bk = D'.bk) (hc : D.ct = D'.ct) : SP X pins D' f s := by
  cases f with
  | next => obtain ⟨σ', H', I, q⟩ := h; exact ⟨σ', H', I, hn _ _ q⟩
  | brk => obtain ⟨σ', H', I, q⟩ := h; exact ⟨σ', H', I, hb ▸ q⟩
  | cont => obtain ⟨σ', H', I, q⟩ := h; exact ⟨σ', H', I, hc ▸ q⟩
  | ret u => obtain ⟨v, σ', H', I, r, q⟩ := h; exact ⟨v, σ', H', I, r, hr ▸ q⟩
theorem pss_cutP {X : Cx} {st : Stmt} {rest : List Stmt} {t u : TS} (h1 : PS X st t) (h2 : PSs X rest u) : PSs X (st :: rest) (tCutP t u) := by
  have h1' : PS X st (fun D σ H => ∃ Mid : L2.St → Hp → Prop, t { D with nx := Mid } σ H ∧ ∀ σ' H', Mid σ' H' → D.nx σ' H') :=
    ⟨fun pins s σ H D I ⟨Mid, h, hm⟩ => thn (h1.run pins s σ H _ I h) fun f s' q => SP.imp (D' := D) q hm rfl rfl rfl⟩
  have := pss_cons h1' h2
  exact ⟨fun pins s σ H D I ⟨Mid, h, hm⟩ => this.run pins s σ H D I ⟨Mid, h, hm⟩⟩
/-! ### all successions, sides -/
def sidesIn (cols : List Str) (col : Str) (d : Dd) : List Pr := (if col ∈ wr cols d then [(("new" : Str), d.name)] else []) ++ (if d.kd = .en ∨ (d.kd = .ch ∧ col ∈ d.cols) then [(("old" : Str), d.name)] else [])
def sides (cols : List Str) (ds : List Dd) (col : Str) : List Pr := ds.flatMap (sidesIn cols col)
theorem sidesIn_len (cols : List Str) (col : Str) (d : Dd) : (sidesIn cols col d).length ≤ 2 := by
  unfold sidesIn
  split <;> split <;> simp
theorem sides_len {cols : List Str} {ds : List Dd} {col : Str} (h : ds.length ≤ 8) : (sides cols ds col).length ≤ 16 := by
  have := flatMap_len (sidesIn cols col) 2 ds fun d _ => sidesIn_len cols col d
  unfold sides
  omega
/-- a new list of pairs -/
def PrsNew (H H' : Hp) (r : Addr) (ps : List Pr) : Prop := H r = none ∧ ∃ vs, H' r = some (.lst vs) ∧ IsPs H' vs ps
structure Tf (P : Program) (K : PySem.W.Frag) (mg : Str → Option Value) : Prop where
  tb : Tb P K mg
  sides_of : DefAt K mg "sides_of" s_sides_of
  ends_of : DefAt K mg "ends_of" s_ends_of
section
variable {P : Program} {w : World} {K : PySem.W.Frag} {mg : Str → Option Value} {base : Heap}
def sp_all_successions (K : PySem.W.Frag) : Sp := fun vs H Q _ => ∃ v col cols ds, vs = [v, .str col] ∧ BookAt K H v cols ds ∧ BkOk cols ds ∧ ∀ r H', Same H H' → PrsNew H H' r (succ cols ds col) → Q (.ref r) H'
theorem ok_all_successions (T : Tb P K mg) : Kf P w K mg base 6 "all_successions" p_all_successions (sp_all_successions K) := by
  refine Kf.of T.all_successions sc_all_successions ((fun _ _ _ _ _ _ us hl => match us, hl with | [_, _], _ => rfl)) (fun vs H Q E ⟨_, _, _, _, e, _⟩ => by rw [e]; rfl) fun f cdv A outer s H vs Q E hr ⟨v, col, cols, ds, e, hb, hok, k⟩ => ?_
  subst e
  have B := T.te.td.tc.tw.bt
  have TC := T.te.td.tc
  have c_closing_after := ok_closing_after (P := P) (w := w) (base := base) T
  have c_reached := ok_reached (P := P) (w := w) (base := base) T
  have c_allowed := ok_allowed (P := P) (w := w) (base := base) TC
  have c_after := ok_after (P := P) (w := w) (base := base) TC
  have c_writes := ok_writes (P := P) (w := w) (base := base) T
  obtain ⟨gi, IT⟩ := T.it
  obtain ⟨gl, fdl, LN, FL, bL, _⟩ := ok_len (P := P) (w := w) (base := base) T
  refine ⟨_, (pss_cons (sset 2 sc_all_successions.nd (cT (call_listI IT LN FL bL B.iter hr) B.list bb_list (pa_cons (pv 0) pa_nil))) (pss_cons (sset 3 sc_all_successions.nd (pe_k c_reached hr (by decide) rfl (pa_cons (pe_lst (pa_cons pe_str pa_nil)) (pa_cons (pv 2) pa_nil)))) (pss_cons (sset 4 sc_all_successions.nd (pe_lst pa_nil)) (pss_cons (ps_for PassesOwn.never rfl (pi_listK K (pv 2)) (gnm 5 sc_all_successions.nd) (pss_one (ps_if (pt_cmpR (op_in_seqK K) (pv 1) (pe_m c_writes hr (by decide) (pv 0) (pa_cons (fldK K (pv 5) rfl) pa_nil)) (by with_unfolding_all rfl)) (pss_cons (ps_setLc (i := 6) (own := [("state", 7)]) rfl sc_all_successions.nd rfl rfl (sw_true rfl rfl rfl (by decide +kernel)) (pi_listK K (pv 3)) (blkOk_by (N := n_all_successions) (sc := defScope s_all_successions) (by decide +kernel)) (fun _ _ _ _ _ => (gnm 7 sc_all_successions.nd)) (fun _ _ _ _ _ => pts_one (pt_val (pe_exK fun kd => pe_m (c_allowed kd) hr (by decide) (pv 5) (pa_cons (pv 7) pa_nil)))) (fun _ _ _ _ _ => (pe_exK fun kd => pe_m (c_after kd) hr (by decide) (pv 5) (pa_cons (pv 7) pa_nil)))) (pss_one (ps_expr (pe_bm PySem.F.plainAttrs_list PySem.F.slot_list_extend PySem.F.type_list_extend mt_extend (pv 4) (pa_cons (pe_lc (own := [("name", 8)]) rfl sc_all_successions.nd (pi_listK K (pe_k c_closing_after hr (by decide) rfl (pa_cons (pv 0) (pa_cons (pv 1) (pa_cons (pv 6) pa_nil))))) (blkOk_by (N := n_all_successions) (sc := defScope s_all_successions) (by decide +kernel)) (fun _ _ _ _ _ => (gnm 8 sc_all_successions.nd)) (fun _ _ _ _ _ => pts_nil) (fun _ _ _ _ _ => (pe_tup (pa_cons (fldK K (pv 5) rfl) (pa_cons (pv 8) pa_nil))))) pa_nil))))) pss_nil))) (pss_one (ps_ret (pv 4))))))), ?_⟩
  obtain ⟨p, dx, c, st, l, nm, kv, vs, rfl, h1, h2, h3, h4⟩ := id hb
  have hvl : vs.length = ds.length := Paired.length h4
  refine ⟨_, rfl, p, dx, _, l, vs, rfl, h1, book_deeds _ _ _ _ _, .inl (.inl h3), fun dl hdl => ?_⟩
  refine ⟨by show 1 ≤ sizeLine; decide, fun e1 he1 => ⟨_, rfl, ?_⟩⟩
  have s1 : Same H (upd (upd H dl (.lst vs)) e1 (.lst [.str ""])) := ((Fr.new (E := Ex0) hdl).new' he1).same
  have hdl1 : upd (upd H dl (.lst vs)) e1 (.lst [.str ""]) dl = some (.lst vs) := by rw [upd_ne (ne_of_none upd_same he1)]; exact upd_same
  have hdlH : H dl = none := hdl
  refine ⟨e1, dl, [""], ds, rfl, upd_same, ⟨vs, hdl1, Paired.mono (fun _ _ => DeedAt.same s1) h4⟩, hok.mv, hok.few, by simp, fun r op H2 s2 hr0 hop hopm hopl => ?_⟩
  have s02 := s1.trans s2
  refine ⟨Nat.zero_le _, fun fo hfo => ?_⟩
  have hfoH : H fo = none := (Fr.of (E := Ex0) s02).free hfo
  have hfr : r ≠ fo := ne_of_none hop hfo
  have s03 : Same H (upd H2 fo (.lst [])) := (Fr.of (E := Ex0) s02 |>.new' hfo).same
  have hfd : dl ≠ fo := ne_of_none (s2 _ _ hdl1) hfo
  have hdl3 : upd H2 fo (.lst []) dl = some (.lst vs) := by rw [upd_ne hfd]; exact s2 _ _ hdl1
  have hop3 : TxL (upd H2 fo (.lst [])) r op := by
    show upd H2 fo _ r = _
    rw [upd_ne hfr]; exact hop
  have hfew := hok.few
  have oplen : op.length ≤ 33 := by simpa using hopl
  refine ⟨_, rfl, dl, rfl, ⟨vs, .inl (.inl hdl3)⟩, for_it (walk_list (xs := vs)) (fun i σ H' => (∃ o1 o2, σ = [some (.ref p), some (.str col), some (.ref dl), some (.ref r), some (.ref fo), o1, o2, none, none]) ∧ Same H H' ∧ H' dl = some (.lst vs) ∧ TxL H' r op ∧ ∃ ys, H' fo = some (.lst ys) ∧ IsPs H' ys ((ds.take i).flatMap (succOf cols ds col))) ⟨⟨_, _, rfl⟩, s03, hdl3, hop3, [], upd_same, .nil⟩ (fun i σ H' _ p => .inl (.inl p.2.2.1)) ?_ ?_⟩
  · rintro i x σ H3 H4 hi ⟨⟨o1, o2, rfl⟩, s3, hdl3, hr3, ys, hf3, hys3⟩ ⟨rfl, hx⟩
    obtain ⟨d, hd, hda⟩ := Paired.get h4 hx
    have hdm := List.mem_of_getElem? hd
    have hdi : i < ds.length := (List.getElem?_eq_some_iff.mp hd).1
    have htk : ds.take (i + 1) = ds.take i ++ [d] := by
      rw [List.take_succ_eq_append_getElem hdi, (List.getElem?_eq_some_iff.mp hd).2]
    have hda3 := hda.same s3
    obtain ⟨u, du, m, cc, nv, ms, rfl, g1, g2, g3, g4, g5⟩ := id hda3
    refine ⟨_, rfl, _, rfl, p, dx, _, rfl, s3 _ _ h1, rfl, _, rfl, u, _, du, _, _, rfl, g1, TC.cls d.kd, TC.nD d.kd _ (by simp), deed_name _ _ _ _, _, _, cols, ds, d, rfl, hb.same s3, hdm, rfl, hok.nd, fun wa hwa => ?_⟩
    refine ⟨wa, _, rfl, .inr hwa.t, rfl, flat_strs _, _, rfl, ?_⟩
    show if inV (.str col) ((wr cols d).map V.str) = true then _ else _
    rw [inV_strs]
    refine ite2 (fun z => ?_) (fun z => ?_)
    · have hcw := of_decide_eq_true z
      -- behind
      refine ⟨_, rfl, r, rfl, ⟨_, .inl (.inl hr3)⟩, fun D hD => ?_⟩
      refine lc_map (E := Ex0) (walk_list (xs := op.map V.str)) (B := Str) op (fun s => decide (s ∈ d.moves.map Prod.fst)) (fun s => aft d.moves s) (fun _ v b => v = .str b) (List.length_map ..).symm hD (by rw [List.length_map]; omega) (fun H' f => .inl (.inl (f.same _ _ hr3))) (fun i H x H' y => by rw [y.1]; exact Fr.refl _ _) (Sta.eq V.str) (fun _ _ _ _ z => z) ?_ ?_
      · rintro j y H5 H6 s0 Ky Kn hs0 fr5 ⟨rfl, hy0⟩ hy hk
        obtain ⟨s1', hs1, rfl⟩ := map_at hy0
        rw [hs0] at hs1; cases hs1
        have hda5 := hda3.same fr5.same
        refine ⟨rfl, d.kd, _, rfl, u, du, _, rfl, fr5.same _ _ g1, rfl, _, rfl, _, s0, d, rfl, hda5, rfl, Nat.le_trans (hok.mv d hdm) (by decide), fun H7 s7 => ⟨_, rfl, ite2 (fun z => ?_) (fun z => ?_)⟩⟩
        · exact ⟨d.kd, _, rfl, u, du, _, rfl, s7 _ _ (fr5.same _ _ g1), rfl, _, rfl, _, s0, d, rfl, hda5.same s7, rfl, of_decide_eq_true z, hy _ _ z (Fr.of s7) rfl⟩
        · exact hk _ (by cases q : decide (s0 ∈ d.moves.map Prod.fst) with | true => exact absurd q z | false => rfl) (Fr.of s7)
      · intro H5 ys5 fr5 hD5 r5
        have hy5 := Paired.mapEq (f := V.str) r5
        let bh : List Str := (op.filter fun s => decide (s ∈ d.moves.map Prod.fst)).map fun s => aft d.moves s
        have hbh : TxL H5 D bh := by rw [hy5] at hD5; exact hD5
        have bhl : bh.length ≤ 33 := by
          show List.length (List.map _ _) ≤ 33
          rw [List.length_map]
          exact Nat.le_trans (List.length_filter_le _ _) oplen
        have hbm : (fun t => t ∈ bh) = Behind ds d := by
          funext t
          refine propext ⟨fun h => ?_, fun ⟨s0, h1, h2, h3⟩ => ?_⟩
          · obtain ⟨s0, hs0, rfl⟩ := List.mem_map.mp h
            obtain ⟨h1, h2⟩ := List.mem_filter.mp hs0
            have := (hopm s0).mp h1
            refine ⟨s0, ?_, of_decide_eq_true h2, rfl⟩
            have e : (fun x : Str => x ∈ ([""] : List Str)) = fun (x : Str) => x = "" := by funext x; simp
            rw [e] at this
            exact this
          · have e : (fun x : Str => x ∈ ([""] : List Str)) = fun (x : Str) => x = "" := by funext x; simp
            rw [← e] at h1
            exact List.mem_map.mpr ⟨s0, List.mem_filter.mpr ⟨(hopm s0).mpr h1, decide_eq_true h2⟩, h3.symm⟩
        have s5 := s3.trans fr5.same
        refine ⟨_, rfl, .inl ⟨rfl, _, .inl (.inl (fr5.same _ _ hf3))⟩, _, rfl, _, rfl, _, rfl, _, col, D, cols, ds, bh, rfl, hb.same s5, hok, hbh, by omega, fun cr H6 s6 hcr0 hcr => ?_⟩
        rw [show (nxB cols ds col fun x => x ∈ bh) = nxB cols ds col (Behind ds d) from by rw [hbm]] at hcr
        have s56 := s5.trans s6
        have hqs : succOf cols ds col d = ((ds.filter (nxB cols ds col (Behind ds d))).map Dd.name).map fun e => (d.name, e) := by
          unfold succOf
          rw [if_pos hcw, List.map_map]
          rfl
        have nl : ((ds.filter (nxB cols ds col (Behind ds d))).map Dd.name).length ≤ 8 := by
          rw [List.length_map]; exact Nat.le_trans (List.length_filter_le _ _) hfew
        refine ⟨cr, rfl, ⟨_, .inl (.inl hcr)⟩, fun D2 hD2 => ?_⟩
        refine lc_map (E := Ex0) (walk_list (xs := ((ds.filter (nxB cols ds col (Behind ds d))).map Dd.name).map V.str)) (B := Pr) ((ds.filter (nxB cols ds col (Behind ds d))).map Dd.name) (fun _ => true) (fun e => (d.name, e)) IsP (List.length_map ..).symm hD2 (by rw [List.length_map]; omega) (fun H' f => .inl (.inl (f.same _ _ hcr))) (fun i H x H' y => by rw [y.1]; exact Fr.refl _ _) (Sta.isP' .e0) (fun _ _ _ _ z => z) ?_ ?_
        · rintro j y H7 H8 e0 Ky Kn he0 fr7 ⟨rfl, hy0⟩ hy hk
          obtain ⟨e1', he1', rfl⟩ := map_at hy0
          rw [he0] at he1'; cases he1'
          refine ⟨rfl, yes_of ?_⟩
          exact ⟨_, rfl, u, _, du, _, _, rfl, fr7.same _ _ (s6 _ _ (fr5.same _ _ g1)), TC.cls d.kd, TC.nD d.kd _ (by simp), deed_name _ _ _ _, _, rfl, (by show 2 ≤ sizeLine; decide), fun q hq => hy _ _ rfl (Fr.new hq) ⟨q, rfl, upd_same⟩⟩
        · intro H7 ys7 fr7 hD7 r7
          rw [List.filter_eq_self.mpr (fun _ _ => rfl), ← hqs] at r7
          have s7 := s56.trans fr7.same
          have s37 : Same H4 H7 := fr5.same.trans (s6.trans fr7.same)
          have hys7 := IsPs.mono s37 hys3
          have e7 : (ds.take (i + 1)).flatMap (succOf cols ds col) = (ds.take i).flatMap (succOf cols ds col) ++ succOf cols ds col d := by
            rw [htk, List.flatMap_append, List.flatMap_cons, List.flatMap_nil, List.append_nil]
          have l1 : ys.length ≤ 64 := by
            rw [Paired.length hys3]
            have := flatMap_len (succOf cols ds col) 8 (ds.take i) fun d hd => by
              unfold succOf
              split
              · rw [List.length_map]; exact Nat.le_trans (List.length_filter_le _ _) hfew
              · exact Nat.zero_le _
            have h2 : (ds.take i).length ≤ ds.length := by rw [List.length_take]; omega
            omega
          have l2 : ys7.length ≤ 8 := by
            rw [Paired.length r7, hqs, List.length_map]; exact nl
          refine ⟨fo, D2, ys, ys7, rfl, rfl, s37 _ _ hf3, hD7, Nat.le_of_lt (small1000 (by omega)), ⟨_, _, rfl⟩, ((Fr.of (E := Ex0) s7).put hfoH).same, ?_, ?_, _, upd_same, ?_⟩
          · rw [upd_ne (ne_of_none hdl1 ?_)]
            · exact s37 _ _ hdl3
            · exact (Fr.of (E := Ex0) s2).free hfo
          · show upd H7 fo _ r = _
            rw [upd_ne hfr]; exact hr3.same s37
          · rw [e7]
            exact IsPs.at (s37 _ _ hf3) (by intro xs z; cases z) (Paired.app hys7 r7)
    · have e7 : (ds.take (i + 1)).flatMap (succOf cols ds col) = (ds.take i).flatMap (succOf cols ds col) := by
        have : succOf cols ds col d = [] := by unfold succOf; rw [if_neg (fun y => z (decide_eq_true y))]
        rw [htk, List.flatMap_append, List.flatMap_cons, List.flatMap_nil, List.append_nil, this, List.append_nil]
      exact ⟨⟨_, _, rfl⟩, s3, hdl3, hr3, ys, hf3, by rw [e7]; exact hys3⟩
  · rintro σ H3 ⟨⟨o1, o2, rfl⟩, s3, hdl3, hr3, ys, hf3, hys3⟩
    rw [hvl, List.take_length] at hys3
    exact ⟨_, rfl, k fo H3 s3 ⟨hfoH, ys, hf3, hys3⟩⟩
def sp_sides_of (K : PySem.W.Frag) : Sp := fun vs H Q _ => ∃ v col cols ds, vs = [v, .str col] ∧ BookAt K H v cols ds ∧ BkOk cols ds ∧ ∀ r H', Same H H' → PrsNew H H' r (sides cols ds col) → Q (.ref r) H'
theorem deed_cols (d : Dd) (m c : Addr) (nv : V) : (deedF d.name m c nv).lookup ("columns" : Str) = some (.ref c) := rfl
theorem ok_sides_of (T : Tf P K mg) : Kf P w K mg base 4 "sides_of" p_sides_of (sp_sides_of K) := by
  refine Kf.of T.sides_of sc_sides_of ((fun _ _ _ _ _ _ us hl => match us, hl with | [_, _], _ => rfl)) (fun vs H Q E ⟨_, _, _, _, e, _⟩ => by rw [e]; rfl) fun f cdv A outer s H vs Q E hr ⟨v, col, cols, ds, e, hb, hok, k⟩ => ?_
  subst e
  have B := T.tb.te.td.tc.tw.bt
  have TC := T.tb.te.td.tc
  have c_writes := ok_writes (P := P) (w := w) (base := base) T.tb
  obtain ⟨gi, IT⟩ := T.tb.it
  refine ⟨_, (pss_cons (sset 2 sc_sides_of.nd (pe_lst pa_nil)) (pss_cons (ps_for PassesOwn.never rfl (pi_ownK K IT B.iter (hr.mono (by decide)) (pv 0)) (gnm 3 sc_sides_of.nd) (pss_cutP (ps_if (pt_cmpR (op_in_seqK K) (pv 1) (pe_m c_writes hr (by decide) (pv 0) (pa_cons (fldK K (pv 3) rfl) pa_nil)) (by with_unfolding_all rfl)) (pss_one (ps_expr (pe_bm PySem.F.plainAttrs_list PySem.F.slot_list_append PySem.F.type_list_append mt_append (pv 2) (pa_cons (pe_tup (pa_cons pe_str (pa_cons (fldK K (pv 3) rfl) pa_nil))) pa_nil)))) pss_nil) (pss_one (ps_if (PW.pt (pw_or (pt_val (cB (isiK K) B.isinstance bb_isinstance (pa_cons (pv 3) (pa_cons (pe_own TC.end_.v) pa_nil)))) (pw_or1 (PW.pt (pw_and (pt_val (cB (isiK K) B.isinstance bb_isinstance (pa_cons (pv 3) (pa_cons (pe_own TC.change.v) pa_nil)))) (pw_and1 (pt_cmpR (op_in_seqK K) (pv 1) (fldK K (pv 3) rfl) (by with_unfolding_all rfl)))))))) (pss_one (ps_expr (pe_bm PySem.F.plainAttrs_list PySem.F.slot_list_append PySem.F.type_list_append mt_append (pv 2) (pa_cons (pe_tup (pa_cons pe_str (pa_cons (fldK K (pv 3) rfl) pa_nil))) pa_nil)))) pss_nil)))) (pss_one (ps_ret (pv 2))))), ?_⟩
  obtain ⟨p, dx, c, st, l, nm, kv, vs, rfl, h1, h2, h3, h4⟩ := id hb
  have hvl : vs.length = ds.length := Paired.length h4
  have hfew := hok.few
  refine ⟨Nat.zero_le _, fun fo hfo => ?_⟩
  have s0 : Same H (upd H fo (.lst [])) := (Fr.new (E := Ex0) hfo).same
  let Pv : Nat → L2.St → Hp → Prop := fun i σ H' => (∃ o, σ = [some (.ref p), some (.str col), some (.ref fo), o]) ∧ Same H H' ∧ ∃ ys, H' fo = some (.lst ys) ∧ IsPs H' ys ((ds.take i).flatMap (sidesIn cols col))
  refine ⟨_, rfl, p, dx, _, l, rfl, s0 _ _ h1, book_deeds _ _ _ _ _, ⟨vs, .inl (.inl (s0 _ _ h3))⟩, for_it (walk_list (xs := vs)) Pv ⟨⟨_, rfl⟩, s0, [], upd_same, .nil⟩ (fun i σ H' _ p => .inl (.inl (p.2.1 _ _ h3))) ?_ ?_⟩
  · rintro i x σ H3 H4 hi ⟨⟨o, rfl⟩, s3, ys, hf3, hys3⟩ ⟨rfl, hx⟩
    obtain ⟨d, hd, hda⟩ := Paired.get h4 hx
    have hdm := List.mem_of_getElem? hd
    have hdi : i < ds.length := (List.getElem?_eq_some_iff.mp hd).1
    have htk : ds.take (i + 1) = ds.take i ++ [d] := by
      rw [List.take_succ_eq_append_getElem hdi, (List.getElem?_eq_some_iff.mp hd).2]
    have e7 : (ds.take (i + 1)).flatMap (sidesIn cols col) = (ds.take i).flatMap (sidesIn cols col) ++ sidesIn cols col d := by
      rw [htk, List.flatMap_append, List.flatMap_cons, List.flatMap_nil, List.append_nil]
    have hda3 := hda.same s3
    obtain ⟨u, du, m, cc, nv, ms, rfl, g1, g2, g3, g4, g5⟩ := id hda3
    have l1 : ys.length ≤ 16 := by
      rw [Paired.length hys3]
      have := flatMap_len (sidesIn cols col) 2 (ds.take i) fun d _ => sidesIn_len cols col d
      have h2 : (ds.take i).length ≤ ds.length := by rw [List.length_take]; omega
      omega
    let first : List Pr := if col ∈ wr cols d then [(("new" : Str), d.name)] else []
    refine ⟨fun σ H' => σ = [some (.ref p), some (.str col), some (.ref fo), some (.ref u)] ∧ Same H H' ∧ ∃ zs, H' fo = some (.lst zs) ∧ IsPs H' zs ((ds.take i).flatMap (sidesIn cols col) ++ first), ?_, ?_⟩
    · refine ⟨_, rfl, _, rfl, p, dx, _, rfl, s3 _ _ h1, rfl, _, rfl, u, _, du, _, _, rfl, g1, TC.cls d.kd, TC.nD d.kd _ (by simp), deed_name _ _ _ _, _, _, cols, ds, d, rfl, hb.same s3, hdm, rfl, hok.nd, fun wa hwa => ?_⟩
      refine ⟨wa, _, rfl, .inr hwa.t, rfl, flat_strs _, _, rfl, ?_⟩
      show if inV (.str col) ((wr cols d).map V.str) = true then _ else _
      rw [inV_strs]
      refine ite2 (fun z => ?_) (fun z => ?_)
      · have hcw := of_decide_eq_true z
        refine ⟨_, rfl, .inl ⟨rfl, _, .inl (.inl hf3)⟩, _, rfl, u, _, du, _, _, rfl, g1, TC.cls d.kd, TC.nD d.kd _ (by simp), deed_name _ _ _ _, (by show 2 ≤ sizeLine; decide), fun q hq => ?_⟩
        have sq : Same _ (upd _ q (.tup [.str "new", .str d.name])) := (Fr.new (E := Ex0) hq).same
        have n1 : fo ≠ q := ne_of_none hf3 hq
        refine ⟨fo, _, _, rfl, rfl, sq _ _ hf3, small1000 (by omega), rfl, ((Fr.of (E := Ex0) s3 |>.new' hq).put hfo).same, _, upd_same, ?_⟩
        show IsPs _ _ (_ ++ (if col ∈ wr cols d then _ else _))
        rw [if_pos hcw]
        exact Paired.app (IsPs.at (sq _ _ hf3) (by intro xs z; cases z) (hys3.mono sq)) (.cons ⟨q, rfl, by rw [upd_ne n1.symm]; exact upd_same⟩ .nil)
      · refine ⟨rfl, s3, ys, hf3, ?_⟩
        show IsPs _ _ (_ ++ (if col ∈ wr cols d then _ else _))
        rw [if_neg (fun y => z (decide_eq_true y)), List.append_nil]
        exact hys3
    · rintro σ H5 ⟨rfl, s5, zs, hf5, hz5⟩
      have hfl : first.length ≤ 1 := by
        show (if col ∈ wr cols d then [(("new" : Str), d.name)] else []).length ≤ 1
        split <;> simp
      have l5 : zs.length ≤ 17 := by
        rw [Paired.length hz5, List.length_append, ← Paired.length hys3]; omega
      have hda5 := hda.same s5
      have g15 : H5 u = some (.ins (d.kd.cls K) du (deedF d.name m cc nv)) := by
        obtain ⟨u', du', m', cc', nv', ms', e, k1, k2, k3, k4, k5⟩ := hda
        cases e
        have := s3 _ _ k1
        rw [g1] at this; cases this
        exact s5 _ _ k1
      have g45 : TxT H5 cc d.cols := by
        obtain ⟨u', du', m', cc', nv', ms', e, k1, k2, k3, k4, k5⟩ := hda5
        cases e
        rw [g15] at k1; cases k1
        exact k4
      have yes : (d.kd = .en ∨ (d.kd = .ch ∧ col ∈ d.cols)) → ∀ q, H5 q = none → Pv (i + 1) [some (.ref p), some (.str col), some (.ref fo), some (.ref u)] (upd (upd H5 q (.tup [.str "old", .str d.name])) fo (.lst (zs ++ [.ref q]))) := fun hc q hq => by
        have n1 : fo ≠ q := ne_of_none hf5 hq
        have sq : Same H5 (upd H5 q (.tup [.str "old", .str d.name])) := (Fr.new (E := Ex0) hq).same
        refine ⟨⟨_, rfl⟩, ((Fr.of (E := Ex0) s5 |>.new' hq).put hfo).same, _, upd_same, ?_⟩
        have e9 : sidesIn cols col d = first ++ [(("old" : Str), d.name)] := by
          show (if col ∈ wr cols d then _ else _) ++ (if _ then _ else _) = _
          rw [if_pos hc]
        rw [e7, e9, ← List.append_assoc]
        exact Paired.app (IsPs.at (sq _ _ hf5) (by intro xs z; cases z) (hz5.mono sq)) (.cons ⟨q, rfl, by rw [upd_ne n1.symm]; exact upd_same⟩ .nil)
      have no : ¬ (d.kd = .en ∨ (d.kd = .ch ∧ col ∈ d.cols)) → Pv (i + 1) [some (.ref p), some (.str col), some (.ref fo), some (.ref u)] H5 := fun hc => by
        refine ⟨⟨_, rfl⟩, s5, zs, hf5, ?_⟩
        have e9 : sidesIn cols col d = first := by
          show (if col ∈ wr cols d then _ else _) ++ (if _ then _ else _) = _
          rw [if_neg hc, List.append_nil]
        rw [e7, e9]
        exact hz5
      have app : (d.kd = .en ∨ (d.kd = .ch ∧ col ∈ d.cols)) → tBM K "list" rAppend (tVar 2) (tCons (tTup (tCons (tC (.str "old")) (tCons (tFld K (tVar 3) "name") tNil))) tNil) [some (.ref p), some (.str col), some (.ref fo), some (.ref u)] H5 fun _ H' => Pv (i + 1) [some (.ref p), some (.str col), some (.ref fo), some (.ref u)] H' := fun hc =>
        ⟨_, rfl, .inl ⟨rfl, _, .inl (.inl hf5)⟩, _, rfl, u, _, du, _, _, rfl, g15, TC.cls d.kd, TC.nD d.kd _ (by simp), deed_name _ _ _ _, (by show 2 ≤ sizeLine; decide), fun q hq =>
          ⟨fo, _, _, rfl, rfl, (Fr.new (E := Ex0) hq).same _ _ hf5, small1000 (by omega), yes hc q hq⟩⟩
      refine ⟨_, rfl, .ref u, .ref (cA K "End"), _, _, _, rfl, .own _, (TC.own d.kd).ty TC g15, TC.kD d.kd .en, _, rfl, ite2 (fun z => ?_) (fun z => ?_)⟩
      · refine iteT ?_
        exact app (.inl (of_decide_eq_true z))
      · refine ⟨_, rfl, .ref u, .ref (cA K "Change"), _, _, _, rfl, .own _, (TC.own d.kd).ty TC g15, TC.kD d.kd .ch, _, rfl, ite2 (fun z2 => ?_) (fun z2 => ?_)⟩
        · refine ⟨_, rfl, _, rfl, u, _, du, _, _, rfl, g15, TC.cls d.kd, TC.nD d.kd _ (by simp), deed_cols _ _ _ _, cc, _, rfl, .inr g45.t, rfl, flat_strs _, _, rfl, ?_⟩
          show if inV (.str col) (d.cols.map V.str) = true then _ else _
          rw [inV_strs]
          refine ite2 (fun z3 => ?_) (fun z3 => ?_)
          · exact app (.inr ⟨of_decide_eq_true z2, of_decide_eq_true z3⟩)
          · exact no fun h => h.elim (fun h => z (decide_eq_true h)) fun h => z3 (decide_eq_true h.2)
        · exact iteF (no fun h => h.elim (fun h => z (decide_eq_true h)) fun h => z2 (decide_eq_true h.1))
  · rintro σ H3 ⟨⟨o, rfl⟩, s3, ys, hf3, hys3⟩
    rw [hvl, List.take_length] at hys3
    exact ⟨_, rfl, k fo H3 s3 ⟨hfo, ys, hf3, hys3⟩⟩
def sp_ends_of : Sp := fun vs H Q _ => ∃ v x y, vs = [v] ∧ IsP H v (x, y) ∧ ∀ r H', Same H H' → (∃ us, H' r = some (.tup us) ∧ IsPs H' us [("new", x), ("old", y)]) → Q (.ref r) H'
theorem ok_ends_of (T : Tf P K mg) : Kf P w K mg base 1 "ends_of" p_ends_of sp_ends_of := by
  refine Kf.of T.ends_of sc_ends_of ((fun _ _ _ _ _ _ us hl => match us, hl with | [_], _ => rfl)) (fun vs H Q E ⟨_, _, _, e, _⟩ => by rw [e]; rfl) fun f cdv A outer s H vs Q E hr ⟨v, x, y, e, hp, k⟩ => ?_
  subst e
  refine ⟨_, (pss_one (ps_ret (pe_tup (pa_cons (pe_tup (pa_cons pe_str (pa_cons (pe_ix (ix_tupK K) (pv 0) pe_int (fun _ _ => rfl)) pa_nil))) (pa_cons (pe_tup (pa_cons pe_str (pa_cons (pe_ix (ix_tupK K) (pv 0) pe_int (fun _ _ => rfl)) pa_nil))) pa_nil))))), ?_⟩
  obtain ⟨a, rfl, ha⟩ := hp
  refine ⟨_, rfl, a, _, 0, _, rfl, rfl, .inl (.inl ha), at0 (x, y), (by show 2 ≤ sizeLine; decide), fun q hq => ?_⟩
  have s1 : Same H (upd H q (.tup [.str "new", .str x])) := (Fr.new (E := Ex0) hq).same
  refine ⟨_, rfl, a, _, 1, _, rfl, rfl, .inl (.inl (s1 _ _ ha)), at1 (x, y), (by show 2 ≤ sizeLine; decide), fun q2 hq2 => ⟨(by show 2 ≤ sizeLine; decide), fun t ht => ?_⟩⟩
  have s2 : Same H (upd (upd (upd H q (.tup [.str "new", .str x])) q2 (.tup [.str "old", .str y])) t (.tup [.ref q, .ref q2])) := (((Fr.of (E := Ex0) s1).new' hq2).new' ht).same
  have n1 : q ≠ q2 := ne_of_none upd_same hq2
  have n2 : q ≠ t := ne_of_none (by rw [upd_ne n1]; exact upd_same) ht
  have n3 : q2 ≠ t := ne_of_none upd_same ht
  exact k t _ s2 ⟨[.ref q, .ref q2], upd_same, .cons ⟨q, rfl, by rw [upd_ne n2, upd_ne n1]; exact upd_same⟩ (.cons ⟨q2, rfl, by rw [upd_ne n3]; exact upd_same⟩ .nil)⟩
end
end Pn
/-! #### W9 -/
namespace Pn
open PySem PySem.Spec PyProof.Rows L2
/-! ### dicts whose keys are pairs of texts -/
section
variable {α : Type}
def look (m : List (Pr × α)) (p : Pr) : Option α := (m.find? fun e => decide (e.1 = p)).map (·.2)
def put (m : List (Pr × α)) (p : Pr) (v : α) : List (Pr × α) := if (m.any fun e => decide (e.1 = p)) = true then m.map (fun e => if e.1 = p then (e.1, v) else e) else m ++ [(p, v)]
def kvG (f : α → V) (m : List (Pr × α)) : List (List L2.Key × V) := m.map fun e => (kP e.1, f e.2)
theorem kP_iff {p q : Pr} : kP p = kP q ↔ p = q := ⟨kP_inj, fun e => e ▸ rfl⟩
theorem valV_kvG (f : α → V) (p : Pr) : ∀ m : List (Pr × α), valV (kvG f m) (kP p) = (look m p).map f
  | [] => rfl
  | e :: m => by
    by_cases h : e.1 = p
    · have h2 : kP e.1 = kP p := by rw [h]
      show valV ((kP e.1, f e.2) :: kvG f m) (kP p) = _
      rw [valV_pos h2]
      unfold look
      simp [List.find?_cons, h]
    · have h2 : ¬ kP e.1 = kP p := fun z => h (kP_inj z)
      show valV ((kP e.1, f e.2) :: kvG f m) (kP p) = _
      rw [valV_neg h2, valV_kvG f p m]
      unfold look
      rw [List.find?_cons_of_neg (by simpa using h)]
theorem putK_kvG (f : α → V) (m : List (Pr × α)) (p : Pr) (v : α) : putK (kvG f m) (kP p) (f v) = kvG f (put m p v) := by
  have e1 : ((kvG f m).any fun kv => decide (kv.1 = kP p)) = m.any fun e => decide (e.1 = p) := by
    unfold kvG
    rw [List.any_map]
    congr 1
    funext e
    simp only [Function.comp]
    rw [Bool.eq_iff_iff, decide_eq_true_iff, decide_eq_true_iff]
    exact kP_iff
  unfold putK put
  rw [e1]
  by_cases h : (m.any fun e => decide (e.1 = p)) = true
  · rw [if_pos h, if_pos h]
    unfold kvG
    rw [List.map_map, List.map_map]
    refine List.map_congr_left fun e _ => ?_
    simp only [Function.comp]
    by_cases z : e.1 = p
    · rw [if_pos z, if_pos (by rw [z])]
    · rw [if_neg z, if_neg fun y => z (kP_inj y)]
  · rw [if_neg h, if_neg h]
    unfold kvG
    rw [List.map_append]
    rfl
theorem look_put (m : List (Pr × α)) (p q : Pr) (v : α) : look (put m p v) q = if q = p then some v else look m q := by
  unfold put
  by_cases h : (m.any fun e => decide (e.1 = p)) = true
  · rw [if_pos h]
    have gen : ∀ m : List (Pr × α), look (m.map fun e => if e.1 = p then (e.1, v) else e) q = (look m q).map fun x => if q = p then v else x := by
      intro m
      induction m with
      | nil => rfl
      | cons e m ih =>
        unfold look at *
        rw [List.map_cons]
        by_cases z : e.1 = q
        · rw [List.find?_cons_of_pos (l := m) (decide_eq_true z)]
          by_cases y : e.1 = p
          · rw [if_pos y, List.find?_cons_of_pos (by simpa using z)]
            simp [← z, y]
          · rw [if_neg y, List.find?_cons_of_pos (by simpa using z)]
            have : ¬ q = p := fun x => y (z.trans x)
            simp [this]
        · rw [List.find?_cons_of_neg (l := m) (by simpa using z)]
          by_cases y : e.1 = p
          · rw [if_pos y, List.find?_cons_of_neg (by simpa using z)]; exact ih
          · rw [if_neg y, List.find?_cons_of_neg (by simpa using z)]; exact ih
    rw [gen]
    by_cases z : q = p
    · subst z
      rw [if_pos rfl]
      obtain ⟨e, he, h2⟩ := List.any_eq_true.mp h
      have : ∃ r, m.find? (fun e => decide (e.1 = q)) = some r := by
        cases y : m.find? (fun e => decide (e.1 = q)) with
        | some r => exact ⟨r, rfl⟩
        | none => exact absurd h2 (by simpa using List.find?_eq_none.mp y e he)
      obtain ⟨r, hr⟩ := this
      unfold look
      rw [hr]; simp
    · rw [if_neg z]
      cases look m q with
      | none => rfl
      | some x => simp [z]
  · rw [if_neg h]
    have no : ∀ e ∈ m, ¬ e.1 = p := fun e he z => h (List.any_eq_true.mpr ⟨e, he, decide_eq_true z⟩)
    have app : ∀ m : List (Pr × α), (∀ e ∈ m, ¬ e.1 = p) → look (m ++ [(p, v)]) q = if q = p then some v else look m q := by
      intro m
      induction m with
      | nil =>
        intro _
        by_cases z : q = p
        · subst z
          rw [if_pos rfl]
          unfold look
          rw [List.nil_append, List.find?_cons_of_pos (by simp)]; rfl
        · rw [if_neg z]
          unfold look
          rw [List.nil_append, List.find?_cons_of_neg (by simpa using fun y => z y.symm)]
      | cons e m ih =>
        intro hno
        unfold look at *
        rw [List.cons_append]
        by_cases y : e.1 = q
        · have z : ¬ q = p := fun x => hno e List.mem_cons_self (y.trans x)
          rw [if_neg z, List.find?_cons_of_pos (by simpa using y), List.find?_cons_of_pos (by simpa using y)]
        · rw [List.find?_cons_of_neg (by simpa using y), List.find?_cons_of_neg (by simpa using y)]
          exact ih fun x hx => hno x (List.mem_cons_of_mem _ hx)
    exact app m no
theorem put_len (m : List (Pr × α)) (p : Pr) (v : α) : (put m p v).length ≤ m.length + 1 := by
  unfold put
  split
  · rw [List.length_map]; omega
  · rw [List.length_append]; simp
theorem put_keys (m : List (Pr × α)) (p : Pr) (v : α) : (put m p v).map Prod.fst = if p ∈ m.map Prod.fst then m.map Prod.fst else m.map Prod.fst ++ [p] := by
  have e : (m.any fun e => decide (e.1 = p)) = true ↔ p ∈ m.map Prod.fst := by
    rw [List.any_eq_true, List.mem_map]
    constructor
    · rintro ⟨e, he, h⟩; exact ⟨e, he, of_decide_eq_true h⟩
    · rintro ⟨e, he, h⟩; exact ⟨e, he, decide_eq_true h⟩
  unfold put
  by_cases h : p ∈ m.map Prod.fst
  · rw [if_pos (e.mpr h), if_pos h, List.map_map]
    refine List.map_congr_left fun x _ => ?_
    simp only [Function.comp]
    split <;> rfl
  · rw [if_neg (fun z => h (e.mp z)), if_neg h, List.map_append]
    rfl
theorem look_some {m : List (Pr × α)} {p : Pr} : (look m p).isSome = true ↔ p ∈ m.map Prod.fst := by
  unfold look
  rw [Option.isSome_map, List.find?_isSome, List.mem_map]
  constructor
  · rintro ⟨e, he, h⟩; exact ⟨e, he, of_decide_eq_true h⟩
  · rintro ⟨e, he, h⟩; exact ⟨e, he, decide_eq_true h⟩
theorem look_none {m : List (Pr × α)} {p : Pr} : look m p = none ↔ p ∉ m.map Prod.fst := by
  rw [← look_some]
  cases look m p <;> simp
end
/-- a dict of whole numbers at a -/
def DInt (H : Hp) (a : Addr) (m : List (Pr × Int)) : Prop := H a = some (.dT (kvG V.int m))
theorem DInt.get {H : Hp} {a b : Addr} {m : List (Pr × Int)} {p : Pr} (h : DInt H a m) (hb : H b = some (.tup (vP p))) : DGet H a (.ref b) ((look m p).map V.int) := by
  rw [← valV_kvG]
  exact DGet.t h hb
theorem DInt.put {H : Hp} {a b : Addr} {m : List (Pr × Int)} {p : Pr} {v : Int} (h : DInt H a m) (hb : H b = some (.tup (vP p))) (hl : m.length ≤ 1000) : DPut H a (.ref b) (.int v) (upd H a (.dT (kvG V.int (put m p v)))) := by
  rw [← putK_kvG]
  exact DPut.t h hb (by unfold kvG; rw [List.length_map]; exact small1000 hl)
/-! ### prices -/
def priceF (d : Int) (sd : Addr) : List (Str × V) := [("default", .int d), ("set_prices", .ref sd)]
def PriceAt (K : PySem.W.Frag) (H : Hp) (v : V) (d : Int) (m : List (Pr × Int)) : Prop := ∃ p dx sd, v = .ref p ∧ H p = some (.ins (cA K "Prices") dx (priceF d sd)) ∧ DInt H sd m
def prc (d : Int) (m : List (Pr × Int)) (s : Pr) : Int := (look m s).getD d
theorem PriceAt.same {K : PySem.W.Frag} {H H' : Hp} {v : V} {d : Int} {m : List (Pr × Int)} (s : Same H H') (h : PriceAt K H v d m) : PriceAt K H' v d m := by
  obtain ⟨p, dx, sd, e, h1, h2⟩ := h
  exact ⟨p, dx, sd, e, s _ _ h1, s _ _ h2⟩
/-- a side: old or new, a name -/
def SdOk (s : Pr) : Prop := (s.1 = "old" ∨ s.1 = "new") ∧ Nm s.2
structure Tg (P : Program) (K : PySem.W.Frag) (mg : Str → Option Value) : Prop where
  tf : Tf P K mg
  prices : Own K mg "Prices"
  nP : ∀ f ∈ (["default", "set_prices"] : List Str), NoAttr K (cA K "Prices") f
  g_MOST_PRICE : GInt mg "MOST_PRICE" 1000000000
  check_price : DefAt K mg "check_price" s_check_price
  check_side : DefAt K mg "check_side" s_check_side
  prices_init : ∃ f fd, Mk K (cA K "Prices") f ∧ FunD K "__init__" "Prices.__init__" (defArgs s_Prices_init) (defBody s_Prices_init) (defScope s_Prices_init) [.int 1] [] f fd
  prices_get : ∃ g fd, GetC K (cA K "Prices") g ∧ FunD K "__getitem__" "Prices.__getitem__" (defArgs s_Prices_getitem) (defBody s_Prices_getitem) (defScope s_Prices_getitem) [] [] g fd
  prices_set : ∃ g fd, SetC K (cA K "Prices") g ∧ FunD K "__setitem__" "Prices.__setitem__" (defArgs s_Prices_setitem) (defBody s_Prices_setitem) (defScope s_Prices_setitem) [] [] g fd
  total : MetAt K (cA K "Prices") "total" "Prices.total" s_Prices_total
section
variable {P : Program} {w : World} {K : PySem.W.Frag} {mg : Str → Option Value} {base : Heap}
def sp_check_price : Sp := fun vs H Q _ => ∃ i : Int, vs = [.int i] ∧ 1 ≤ i ∧ i ≤ 1000000000 ∧ Q .non H
theorem ok_check_price (T : Tg P K mg) : Kf P w K mg base 3 "check_price" p_check_price sp_check_price := by
  refine Kf.of T.check_price sc_check_price ((fun _ _ _ _ _ _ us hl => match us, hl with | [_], _ => rfl)) (fun vs H Q E ⟨_, e, _⟩ => by rw [e]; rfl) fun f cdv A outer s H vs Q E hr ⟨i, e, h1, h2, k⟩ => ?_
  subst e
  have c_is_between := ok_is_between (P := P) (w := w) (base := base) T.tf.tb.te.td.tc.tw
  refine ⟨_, (pss_one (ps_if (pt_not (pt_val (pe_k c_is_between hr (by decide) rfl (pa_cons (pv 0) (pa_cons pe_int (pa_cons (pe_own T.g_MOST_PRICE) pa_nil)))))) (pss_one ps_never) pss_nil)), ?_⟩
  exact ⟨_, rfl, i, 1, 1000000000, rfl, h1, h2, true, rfl, iteF k⟩
def sp_check_side : Sp := fun vs H Q _ => ∃ s : Pr, vs = [.str s.1, .str s.2] ∧ SdOk s ∧ ∀ H', Same H H' → Q .non H'
theorem ok_check_side (T : Tg P K mg) : Kf P w K mg base 3 "check_side" p_check_side sp_check_side := by
  refine Kf.of T.check_side sc_check_side ((fun _ _ _ _ _ _ us hl => match us, hl with | [_, _], _ => rfl)) (fun vs H Q E ⟨_, e, _⟩ => by rw [e]; rfl) fun f cdv A outer s H vs Q E hr ⟨sd, e, hs, k⟩ => ?_
  subst e
  have B := T.tf.tb.te.td.tc.tw.bt
  have c_check_name := ok_check_name (P := P) (w := w) (base := base) T.tf.tb.te.td.tc.tw
  refine ⟨_, (pss_cons (ps_if (PW.pt (pw_or (pt_not (pt_val (cB (isiK K) B.isinstance bb_isinstance (pa_cons (pv 0) (pa_cons (pe_tyv "str" B.str bb_str) pa_nil))))) (pw_or1 (pt_cmpR (op_notIn_seqK K) (pv 0) (pe_tup (pa_cons pe_str (pa_cons pe_str pa_nil))) (by with_unfolding_all rfl))))) (pss_one ps_never) pss_nil) (pss_one (ps_expr (pe_k c_check_name hr (by decide) rfl (pa_cons (pv 1) pa_nil))))), ?_⟩
  refine ⟨_, rfl, .str sd.1, .ty "str", _, _, true, rfl, .ty _, .base (.str sd.1), kit_ty (by decide +kernel), true, rfl, iteF ?_⟩
  refine ⟨_, rfl, (by show 2 ≤ sizeLine; decide), fun p hp => ?_⟩
  refine ⟨p, _, rfl, .inr (.inl (.inl upd_same)), rfl, (by decide +kernel), _, rfl, ?_⟩
  show if (!inV (.str sd.1) ((["old", "new"] : List Str).map V.str)) = true then _ else _
  rw [inV_strs, decide_eq_true (by rcases hs.1 with h | h <;> rw [h] <;> simp)]
  refine iteF ⟨_, rfl, sd.2, rfl, hs.2, fun H' s' => k H' ?_⟩
  exact (Fr.new (E := Ex0) hp).same.trans s'
def sp_prices_init (K : PySem.W.Frag) : Sp := fun vs H Q _ => ∃ (H0 : Hp) (p dx : Addr) (d : Int), vs = [.ref p, .int d] ∧ 1 ≤ d ∧ d ≤ 1000000000 ∧ Same H0 H ∧ H0 p = none ∧ H p = some (.ins (cA K "Prices") dx []) ∧ ∀ H' sd, Same H0 H' → H0 sd = none → H' p = some (.ins (cA K "Prices") dx (priceF d sd)) → DInt H' sd [] → Q .non H'
theorem ok_prices_init (T : Tg P K mg) : ∃ f fd ds, Mk K (cA K "Prices") f ∧ FnOk P w K mg base CX0 4 f fd p_Prices_init (sp_prices_init K) ∧ Binds K fd p_Prices_init [] ∧ Vals [.int 1] ds ∧ Binds K fd p_Prices_init ds := by
  obtain ⟨f, fd, M, F⟩ := T.prices_init
  have c_check_price := ok_check_price (P := P) (w := w) (base := base) T
  obtain ⟨d0, r0, b0⟩ := FunD.binds1 F (ps := p_Prices_init) 2 1 (by simp) rfl fun T kV doc pm an cdv ct us its h1 h2 => by
    match us, h1, its, h2 with
    | [_, _], _, [_], _ => exact ⟨_, rfl, rfl⟩
  obtain ⟨d1, r1, b1⟩ := FunD.binds1 F (ps := p_Prices_init) 1 0 (by simp) rfl fun T kV doc pm an cdv ct us its h1 h2 => by
    match us, h1, its, h2 with
    | [_], _, [_], _ => exact ⟨_, rfl, rfl⟩
  cases r0
  refine ⟨f, fd, d1, M, F.ok sc_Prices_init (fun vs H Q E ⟨_, _, _, _, e, _⟩ => by rw [e]; rfl) (fun cdv A outer s H vs Q E hr hsp => ?_), b0, r1, b1⟩
  obtain ⟨H0, p, dx, d, rfl, h1, h2, s0, p0, hp, k⟩ := hsp
  refine ⟨_, PSs.nox (pss_cons (ps_expr (pe_k c_check_price hr (by decide) rfl (pa_cons (pv 1) pa_nil))) (pss_cons (ps_fld (pv 0) (pv 1) rfl) (pss_one (ps_fld (pv 0) pe_dnewT rfl)))), ?_⟩
  refine ⟨_, rfl, d, rfl, h1, h2, ?_⟩
  refine ⟨_, rfl, _, rfl, p, _, dx, [], rfl, hp, T.prices.cl, T.nP _ (by simp), (by show 0 < 1000; decide), ?_⟩
  intro sd hsd
  have np : p ≠ sd := ne_of_none upd_same hsd
  refine ⟨_, rfl, p, _, dx, _, rfl, Eq.trans (upd_ne np) upd_same, T.prices.cl, T.nP _ (by simp), (by show 1 < 1000; decide), ?_⟩
  have hsd0 : H sd = none := by rw [upd_ne np.symm] at hsd; exact hsd
  refine k _ sd ?_ ((Fr.of (E := Ex0) s0).free hsd0) upd_same ?_
  · intro b u e
    have nb : b ≠ p := fun z => by rw [z, p0] at e; cases e
    have nb2 : b ≠ sd := ne_of_none (s0 _ _ e) hsd0
    rw [upd_ne nb, upd_ne nb2, upd_ne nb]
    exact s0 _ _ e
  · show upd _ p _ sd = _
    rw [upd_ne np.symm, upd_same]
    rfl
def sp_prices_get (K : PySem.W.Frag) : Sp := fun vs H Q _ => ∃ v u d m s, vs = [v, u] ∧ PriceAt K H v d m ∧ IsP H u s ∧ SdOk s ∧ ∀ H', Same H H' → Q (.int (prc d m s)) H'
theorem ok_prices_get (T : Tg P K mg) : ∃ g fd, GetC K (cA K "Prices") g ∧ FnOk P w K mg base CX0 4 g fd p_Prices_getitem (sp_prices_get K) ∧ Binds K fd p_Prices_getitem [] := by
  obtain ⟨g, fd, G, F⟩ := T.prices_get
  refine ⟨g, fd, G, F.ok sc_Prices_getitem (fun vs H Q E ⟨_, _, _, _, _, e, _⟩ => by rw [e]; rfl) (fun cdv A outer s H vs Q E hr hsp => ?_), F.bindsN (fun _ _ _ _ _ _ us hl => match us, hl with | [_, _], _ => rfl)⟩
  obtain ⟨v, u, d, m, sd, rfl, hv, hu, hs, k⟩ := hsp
  have B := T.tf.tb.te.td.tc.tw.bt
  have c_check_side := ok_check_side (P := P) (w := w) (base := base) T
  refine ⟨_, PSs.nox (pss_cons (ps_asg (pv 1) (pg_tupK K (n := 2) rfl (pgs_cons (gnm 2 sc_Prices_getitem.nd) (pgs_cons (gnm 3 sc_Prices_getitem.nd) pgs_nil)))) (pss_cons (ps_expr (pe_k c_check_side hr (by decide) rfl (pa_cons (pv 2) (pa_cons (pv 3) pa_nil)))) (pss_one (ps_ret (pe_dget2 (hu_of hr) (fldK K (pv 0) rfl) (pe_tup (pa_cons (pv 2) (pa_cons (pv 3) pa_nil))) (fldK K (pv 0) rfl) ⟨rfl, rfl, rfl, rfl⟩))))), ?_⟩
  obtain ⟨p, dx, sa, rfl, hp, hd⟩ := hv
  obtain ⟨a, rfl, ha⟩ := hu
  refine ⟨_, rfl, a, _, rfl, .inl (.inl ha), rfl, _, _, rfl, _, _, rfl, rfl, ?_⟩
  refine ⟨_, rfl, _, rfl, sd, rfl, hs, fun H1 s1 => ?_⟩
  refine ⟨_, rfl, p, _, dx, _, _, rfl, s1 _ _ hp, T.prices.cl, T.nP _ (by simp), (show (priceF d sa).lookup ("set_prices" : Str) = some (.ref sa) from rfl), sa, rfl, .inr ⟨_, .inl (s1 _ _ hd)⟩, ?_⟩
  refine ⟨_, rfl, _, rfl, (by show 2 ≤ sizeLine; decide), fun q hq => ?_⟩
  have s2 : Same H1 (upd H1 q (.tup [.str sd.1, .str sd.2])) := (Fr.new (E := Ex0) hq).same
  refine ⟨_, rfl, p, _, dx, _, _, rfl, s2 _ _ (s1 _ _ hp), T.prices.cl, T.nP _ (by simp), (show (priceF d sa).lookup ("default" : Str) = some (.int d) from rfl), _, DInt.get (p := sd) (s2 _ _ (s1 _ _ hd)) upd_same, ?_⟩
  have e : ((look m sd).map V.int).getD (.int d) = .int (prc d m sd) := by
    unfold prc
    cases look m sd <;> rfl
  rw [e]
  exact k _ (s1.trans s2)
/-- prices[at] = price -/
def ExD (sd : Addr) : Ex := fun q _ => q = sd
def sp_prices_set (K : PySem.W.Frag) : Sp := fun vs H Q _ => ∃ p u d m s x dx sd, vs = [.ref p, u, .int x] ∧ H p = some (.ins (cA K "Prices") dx (priceF d sd)) ∧ DInt H sd m ∧ m.length ≤ 1000 ∧ IsP H u s ∧ SdOk s ∧ 1 ≤ x ∧ x ≤ 1000000000 ∧ ∀ H', Fr (ExD sd) H H' → DInt H' sd (put m s x) → Q .non H'
theorem ok_prices_set (T : Tg P K mg) : ∃ g fd, SetC K (cA K "Prices") g ∧ FnOk P w K mg base CX0 4 g fd p_Prices_setitem (sp_prices_set K) ∧ Binds K fd p_Prices_setitem [] := by
  obtain ⟨g, fd, G, F⟩ := T.prices_set
  refine ⟨g, fd, G, F.ok sc_Prices_setitem (fun vs H Q E ⟨_, _, _, _, _, _, _, _, e, _⟩ => by rw [e]; rfl) (fun cdv A outer s H vs Q E hr hsp => ?_), F.bindsN (fun _ _ _ _ _ _ us hl => match us, hl with | [_, _, _], _ => rfl)⟩
  obtain ⟨p, u, d, m, sd, x, dx, sa, rfl, hp, hd, hl, hu, hs, h1, h2, k⟩ := hsp
  have B := T.tf.tb.te.td.tc.tw.bt
  have c_check_side := ok_check_side (P := P) (w := w) (base := base) T
  have c_check_price := ok_check_price (P := P) (w := w) (base := base) T
  have hu' := hu_of hr
  refine ⟨_, PSs.nox (pss_cons (ps_asg (pv 1) (pg_tupK K (n := 2) rfl (pgs_cons (gnm 3 sc_Prices_setitem.nd) (pgs_cons (gnm 4 sc_Prices_setitem.nd) pgs_nil)))) (pss_cons (ps_expr (pe_k c_check_side hr (by decide) rfl (pa_cons (pv 3) (pa_cons (pv 4) pa_nil)))) (pss_cons (ps_expr (pe_k c_check_price hr (by decide) rfl (pa_cons (pv 2) pa_nil))) (pss_one (ps_dput (hu_of hr) (fldK K (pv 0) rfl) (pe_tup (pa_cons (pv 3) (pa_cons (pv 4) pa_nil))) (pv 2) rfl))))), ?_⟩
  obtain ⟨a, rfl, ha⟩ := hu
  refine ⟨_, rfl, a, _, rfl, .inl (.inl ha), rfl, _, _, rfl, _, _, rfl, rfl, ?_⟩
  refine ⟨_, rfl, _, rfl, sd, rfl, hs, fun H1 s1 => ?_⟩
  refine ⟨_, rfl, x, rfl, h1, h2, ?_⟩
  refine ⟨_, rfl, _, rfl, p, _, dx, _, _, rfl, s1 _ _ hp, T.prices.cl, T.nP _ (by simp), (show (priceF d sa).lookup ("set_prices" : Str) = some (.ref sa) from rfl), ?_⟩
  refine ⟨_, rfl, _, rfl, (by show 2 ≤ sizeLine; decide), fun q hq => ?_⟩
  have s2 : Same H1 (upd H1 q (.tup [.str sd.1, .str sd.2])) := (Fr.new (E := Ex0) hq).same
  refine ⟨sa, _, rfl, DInt.put (p := sd) (s2 _ _ (s1 _ _ hd)) upd_same hl, k _ ?_ upd_same⟩
  exact (Fr.of (s1.trans s2)).set (s2 _ _ (s1 _ _ hd)) rfl rfl
def sp_total (K : PySem.W.Frag) : Sp := fun vs H Q _ => ∃ v d m a ys ps, vs = [v, .ref a] ∧ PriceAt K H v d m ∧ H a = some (.lst ys) ∧ IsPs H ys ps ∧ (∀ s ∈ ps, SdOk s) ∧ ps.length ≤ 1000 ∧ ∀ H', Same H H' → Q (.int ((ps.map (prc d m)).sum)) H'
theorem ok_total (T : Tg P K mg) : Mf P w K mg base 6 (cA K "Prices") "total" p_Prices_total (sp_total K) := by
  refine Mf.of T.total T.prices.cl sc_Prices_total ((fun _ _ _ _ _ _ us hl => match us, hl with | [_, _], _ => rfl)) (fun vs H Q E ⟨_, _, _, _, _, _, e, _⟩ => by rw [e]; rfl) fun f cdv A outer s H vs Q E hr ⟨v, d, m, a, ys, ps, e, hv, ha, hys, hs, hl, k⟩ => ?_
  subst e
  have B := T.tf.tb.te.td.tc.tw.bt
  obtain ⟨g, fd, G, F, bF⟩ := ok_prices_get (P := P) (w := w) (base := base) T
  refine ⟨_, (pss_one (ps_ret (cB (cr_sum rfl) B.sum bb_sum (pa_cons (pe_lc (own := [("side", 2), ("deed", 3)]) rfl sc_Prices_total.nd (pi_listK K (pv 1)) (blkOk_by (N := n_Prices_total) (sc := defScope s_Prices_total) (by decide +kernel)) (fun _ _ _ _ _ => (pg_tupK K (n := 2) rfl (pgs_cons (gnm 2 sc_Prices_total.nd) (pgs_cons (gnm 3 sc_Prices_total.nd) pgs_nil)))) (fun _ _ _ _ _ => pts_nil) (fun _ _ _ _ _ => (pe_ownix G F bF hr (pv 0) (pe_tup (pa_cons (pv 2) (pa_cons (pv 3) pa_nil)))))) pa_nil)))), ?_⟩
  have hyl : ys.length = ps.length := Paired.length hys
  refine ⟨_, rfl, a, rfl, ⟨_, .inl (.inl ha)⟩, fun D hD => ?_⟩
  refine lc_map (E := Ex0) (walk_list (xs := ys)) (B := Int) ps (fun _ => true) (prc d m) (fun _ v b => v = .int b) hyl.symm hD (by omega) (fun H' f => .inl (.inl (f.same _ _ ha))) (fun i H x H' y => by rw [y.1]; exact Fr.refl _ _) (Sta.eq V.int) (fun _ _ _ _ z => z) ?_ ?_
  · rintro i x H1 H2 sd Ky Kn hsd fr ⟨rfl, hx⟩ hy hk
    obtain ⟨q, rfl, hq⟩ := Paired.at hys hx hsd
    have hv1 := hv.same fr.same
    obtain ⟨p, dx, sa, rfl, hp, hd⟩ := id hv1
    refine ⟨q, _, rfl, .inl (.inl (fr.same _ _ hq)), rfl, _, _, rfl, _, _, rfl, rfl, rfl, yes_of ?_⟩
    refine ⟨_, rfl, _, rfl, _, rfl, (by show 2 ≤ sizeLine; decide), fun t ht => ?_⟩
    have s2 : Same _ (upd _ t (.tup [.str sd.1, .str sd.2])) := (Fr.new (E := Ex0) ht).same
    exact ⟨p, dx, _, rfl, s2 _ _ hp, _, _, d, m, sd, rfl, hv1.same s2, ⟨t, rfl, upd_same⟩, hs sd (List.mem_of_getElem? hsd), fun H3 s3 => hy _ _ rfl (Fr.of (s2.trans s3)) rfl⟩
  · intro H1 zs fr hD1 r
    have hz := Paired.mapEq (f := V.int) r
    rw [List.filter_eq_self.mpr (fun _ _ => rfl)] at hz
    exact ⟨D, _, rfl, .inl (.inl (hz ▸ hD1)), k _ fr.same⟩
end
end Pn
/-! #### P1 -/
namespace Pn
open PySem
/-! ### the flow, in plain words -/
def nw (p : Pr) : Pr := ("new", p.1)
def od (p : Pr) : Pr := ("old", p.2)
theorem nw_od (p q : Pr) : nw p ≠ od q := by
  intro h
  have : ("new" : Str) = "old" := congrArg Prod.fst h
  exact absurd this (by decide)
def ind (x y : Pr) : Int := if x = y then 1 else 0
/-- how often x is an end of p -/
def inc (x p : Pr) : Int := ind x (nw p) + ind x (od p)
def load (ps : List Pr) (S : Pr → Int) (x : Pr) : Int := (ps.map fun p => inc x p * S p).sum
def bump (S : Pr → Int) (p : Pr) (d : Int) : Pr → Int := fun q => S q + if q = p then d else 0
theorem load_out {ps : List Pr} {S : Pr → Int} {p x : Pr} {d : Int} (h : p ∉ ps) : load ps (bump S p d) x = load ps S x := by
  unfold load
  congr 1
  refine List.map_congr_left fun q hq => ?_
  have : q ≠ p := fun e => h (e ▸ hq)
  simp [bump, this]
theorem load_bump {ps : List Pr} (nd : ps.Nodup) {S : Pr → Int} {p x : Pr} {d : Int} (h : p ∈ ps) : load ps (bump S p d) x = load ps S x + inc x p * d := by
  induction ps with
  | nil => cases h
  | cons q ps ih =>
    have e : ∀ S : Pr → Int, load (q :: ps) S x = inc x q * S q + load ps S x := fun S => by simp [load]
    rw [e, e]
    have hn := List.nodup_cons.mp nd
    by_cases hq : q = p
    · subst hq
      rw [load_out hn.1]
      simp only [bump, if_pos]
      rw [Int.mul_add]
      omega
    · have hp : p ∈ ps := by
        rcases List.mem_cons.mp h with z | z
        · exact absurd z.symm hq
        · exact z
      rw [ih hn.2 hp]
      simp only [bump, if_neg hq, Int.add_zero]
      omega
/-- the sent ones and what is left -/
structure FlowI (ps es : List Pr) (pr S R : Pr → Int) : Prop where
  nd : ps.Nodup
  ends : ∀ p ∈ ps, nw p ∈ es ∧ od p ∈ es
  s0 : ∀ p ∈ ps, 0 ≤ S p
  r0 : ∀ e ∈ es, 0 ≤ R e
  bal : ∀ e ∈ es, R e + load ps S e = pr e
abbrev Trs := List (Pr × Option Pr)
def keys (tr : Trs) : List Pr := tr.map Prod.fst
def BackOk (ps : List Pr) (S R : Pr → Int) (ks : List Pr) (i : Nat) (e : Pr) : Option Pr → Prop
  | none => e.1 = "new" ∧ 0 < R e
  | some p => p ∈ ps ∧ ((e = od p ∧ ∃ j, j < i ∧ ks[j]? = some (nw p)) ∨ (e = nw p ∧ 0 < S p ∧ ∃ j, j < i ∧ ks[j]? = some (od p)))
structure TrailOk (ps es : List Pr) (S R : Pr → Int) (tr : Trs) : Prop where
  nd : (keys tr).Nodup
  sub : ∀ e ∈ keys tr, e ∈ es
  bk : ∀ (i : Nat) (e : Pr) (o : Option Pr), tr[i]? = some (e, o) → BackOk ps S R (keys tr) i e o
  new : ∀ e ∈ es, e.1 = "new" → 0 < R e → e ∈ keys tr
def Done (ps : List Pr) (S : Pr → Int) (ks : List Pr) (k : Nat) : Prop := ∀ (j : Nat) (e : Pr), j < k → ks[j]? = some e → ∀ p ∈ ps, (e = nw p → od p ∈ ks) ∧ (e = od p → 0 < S p → nw p ∈ ks)
theorem keys_app (tr : Trs) (e : Pr) (o : Option Pr) : keys (tr ++ [(e, o)]) = keys tr ++ [e] := by unfold keys; rw [List.map_append]; rfl
theorem BackOk.app {ps : List Pr} {S R : Pr → Int} {ks : List Pr} {i : Nat} {e x : Pr} {o : Option Pr} (h : BackOk ps S R ks i e o) : BackOk ps S R (ks ++ [x]) i e o := by
  cases o with
  | none => exact h
  | some p =>
    refine ⟨h.1, h.2.imp (fun ⟨a, j, hj, b⟩ => ⟨a, j, hj, ?_⟩) (fun ⟨a, c, j, hj, b⟩ => ⟨a, c, j, hj, ?_⟩)⟩
    · rw [List.getElem?_append_left (List.getElem?_eq_some_iff.mp b).1]; exact b
    · rw [List.getElem?_append_left (List.getElem?_eq_some_iff.mp b).1]; exact b
theorem TrailOk.app {ps es : List Pr} {S R : Pr → Int} {tr : Trs} (T : TrailOk ps es S R tr) {e : Pr} {o : Option Pr} (hn : e ∉ keys tr) (he : e ∈ es) (hb : BackOk ps S R (keys tr) tr.length e o) : TrailOk ps es S R (tr ++ [(e, o)]) := by
  refine ⟨?_, fun x hx => ?_, fun i x o' hi => ?_, fun x hx h1 h2 => ?_⟩
  · rw [keys_app]
    exact List.nodup_append.mpr ⟨T.nd, by simp, fun a ha b hb => by
      have : b = e := by simpa using hb
      rw [this]
      exact fun z => hn (z ▸ ha)⟩
  · rw [keys_app] at hx
    rcases List.mem_append.mp hx with z | z
    · exact T.sub x z
    · have : x = e := by simpa using z
      rw [this]; exact he
  · rw [keys_app]
    by_cases hlt : i < tr.length
    · rw [List.getElem?_append_left hlt] at hi
      exact (T.bk i x o' hi).app
    · have hl := (List.getElem?_eq_some_iff.mp hi).1
      rw [List.length_append, List.length_singleton] at hl
      have hie : i = tr.length := by omega
      subst hie
      rw [List.getElem?_append_right (Nat.le_refl _)] at hi
      simp at hi
      obtain ⟨rfl, rfl⟩ := hi
      exact hb.app
  · rw [keys_app]
    exact List.mem_append_left _ (T.new x hx h1 h2)
/-! ### the way back -/
abbrev Way := List (Pr × Int)
def wsum (way : Way) (x : Pr) : Int := (way.map fun e => e.2 * inc x e.1).sum
def sgn (e : Pr) : Int := if e.1 = "old" then 1 else -1
structure WayOk (ps : List Pr) (S : Pr → Int) (tr : Trs) (last : Pr) (way : Way) (e : Pr) (j : Nat) : Prop where
  at_ : (keys tr)[j]? = some e
  tag : e.1 = "old" ∨ e.1 = "new"
  sum : ∀ x, wsum way x = ind x last - sgn e * ind x e
  mem : ∀ q ∈ way, q.1 ∈ ps ∧ (q.2 = 1 ∨ (q.2 = -1 ∧ 0 < S q.1 ∧ ∃ i, j < i ∧ (keys tr)[i]? = some (nw q.1)))
  nd : ((way.filter fun q => decide (q.2 < 0)).map Prod.fst).Nodup
theorem wsum_app (way : Way) (p : Pr) (s : Int) (x : Pr) : wsum (way ++ [(p, s)]) x = wsum way x + s * inc x p := by
  unfold wsum
  rw [List.map_append, List.sum_append]
  simp
theorem tag_new {e : Pr} (h : e.1 = "new") : ¬ e.1 = "old" := by rw [h]; decide
theorem sgn_old {e : Pr} (h : e.1 = "old") : sgn e = 1 := if_pos h
theorem sgn_new {e : Pr} (h : e.1 = "new") : sgn e = -1 := if_neg (tag_new h)
theorem WayOk.start {ps : List Pr} {S : Pr → Int} {tr : Trs} {last : Pr} {j : Nat} (h : (keys tr)[j]? = some last) (ho : last.1 = "old") : WayOk ps S tr last [] last j :=
  ⟨h, .inl ho, fun x => (by rw [sgn_old ho]; simp [wsum]), fun q hq => (by cases hq), (by simp)⟩
theorem WayOk.step {ps es : List Pr} {S R : Pr → Int} {tr : Trs} (T : TrailOk ps es S R tr) {last e : Pr} {way : Way} {j : Nat} {p : Pr} (W : WayOk ps S tr last way e j) (he : tr[j]? = some (e, some p)) :
    ∃ j', j' < j ∧ WayOk ps S tr last (way ++ [(p, sgn e)]) (if e.1 = "old" then nw p else od p) j' := by
  have hb := T.bk j e (some p) he
  obtain ⟨hp, hb⟩ := hb
  rcases hb with ⟨rfl, j', hj, hk⟩ | ⟨rfl, hS, j', hj, hk⟩
  · have ho : (od p).1 = "old" := rfl
    have hn : (nw p).1 = "new" := rfl
    refine ⟨j', hj, ?_⟩
    rw [if_pos ho, sgn_old ho]
    refine ⟨hk, .inr hn, fun x => ?_, fun q hq => ?_, ?_⟩
    · rw [wsum_app, W.sum, sgn_old ho, sgn_new hn]
      unfold inc
      omega
    · rcases List.mem_append.mp hq with z | z
      · obtain ⟨a, b⟩ := W.mem q z
        exact ⟨a, b.imp id fun ⟨c, d, i, hi, f⟩ => ⟨c, d, i, by omega, f⟩⟩
      · have : q = (p, 1) := by simpa using z
        subst this
        exact ⟨hp, .inl rfl⟩
    · rw [List.filter_append, List.filter_cons_of_neg (by simp), List.filter_nil, List.append_nil]
      exact W.nd
  · have hn : (nw p).1 = "new" := rfl
    have ho : (od p).1 = "old" := rfl
    refine ⟨j', hj, ?_⟩
    rw [if_neg (tag_new hn), sgn_new hn]
    refine ⟨hk, .inl ho, fun x => ?_, fun q hq => ?_, ?_⟩
    · rw [wsum_app, W.sum, sgn_old ho, sgn_new hn]
      unfold inc
      omega
    · rcases List.mem_append.mp hq with z | z
      · obtain ⟨a, b⟩ := W.mem q z
        exact ⟨a, b.imp id fun ⟨c, d, i, hi, f⟩ => ⟨c, d, i, by omega, f⟩⟩
      · have : q = (p, -1) := by simpa using z
        subst this
        exact ⟨hp, .inr ⟨rfl, hS, j, hj, W.at_⟩⟩
    · rw [List.filter_append, List.filter_cons_of_pos (by simp), List.filter_nil, List.map_append]
      refine List.nodup_append.mpr ⟨W.nd, by simp, fun a ha b hb => ?_⟩
      have hbp : b = p := by simpa using hb
      subst hbp
      rintro rfl
      obtain ⟨q, hq, eq⟩ := List.mem_map.mp ha
      obtain ⟨hq1, hq2⟩ := List.mem_filter.mp hq
      obtain ⟨_, h2⟩ := W.mem q hq1
      have hneg : q.2 < 0 := of_decide_eq_true hq2
      rcases h2 with h2 | ⟨_, _, i, hi, hki⟩
      · omega
      · rw [eq] at hki
        have hat := W.at_
        obtain ⟨l1, e1⟩ := List.getElem?_eq_some_iff.mp hki
        obtain ⟨l2, e2⟩ := List.getElem?_eq_some_iff.mp hat
        exact absurd (e2.trans e1.symm) (List.pairwise_iff_getElem.mp T.nd j i l2 l1 hi)
theorem WayOk.stop {ps es : List Pr} {S R : Pr → Int} {tr : Trs} (T : TrailOk ps es S R tr) {last e : Pr} {way : Way} {j : Nat} (W : WayOk ps S tr last way e j) (he : tr[j]? = some (e, none)) : e.1 = "new" ∧ 0 < R e ∧ ∀ x, wsum way x = ind x last + ind x e := by
  have hb : e.1 = "new" ∧ 0 < R e := T.bk j e none he
  refine ⟨hb.1, hb.2, fun x => ?_⟩
  rw [W.sum, sgn_new hb.1]
  omega
/-! ### sending along the way -/
def sendAll (S : Pr → Int) (m : Int) : Way → Pr → Int
  | [] => S
  | (p, s) :: way => sendAll (bump S p (s * m)) m way
def cnt (way : Way) (q : Pr) : Int := (way.map fun e => if q = e.1 then e.2 else 0).sum
theorem sendAll_eq (m : Int) : ∀ (way : Way) (S : Pr → Int) (q : Pr), sendAll S m way q = S q + m * cnt way q
  | [], S, q => by simp [sendAll, cnt]
  | (p, s) :: way, S, q => by
    show sendAll (bump S p (s * m)) m way q = _
    rw [sendAll_eq m way]
    have e : cnt ((p, s) :: way) q = (if q = p then s else 0) + cnt way q := by simp [cnt]
    rw [e, Int.mul_add]
    unfold bump
    by_cases h : q = p
    · simp only [if_pos h]
      rw [Int.mul_comm s m]
      omega
    · simp only [if_neg h]
      omega
theorem load_send {ps : List Pr} (nd : ps.Nodup) (m : Int) (x : Pr) : ∀ (way : Way) (S : Pr → Int), (∀ q ∈ way, q.1 ∈ ps) → load ps (sendAll S m way) x = load ps S x + m * wsum way x
  | [], S, _ => by simp [sendAll, wsum]
  | (p, s) :: way, S, h => by
    show load ps (sendAll (bump S p (s * m)) m way) x = _
    rw [load_send nd m x way _ fun q hq => h q (List.mem_cons_of_mem _ hq), load_bump nd (h (p, s) List.mem_cons_self)]
    have e : wsum ((p, s) :: way) x = s * inc x p + wsum way x := by simp [wsum]
    rw [e, Int.mul_add]
    have e2 : inc x p * (s * m) = m * (s * inc x p) := by
      rw [← Int.mul_assoc, Int.mul_comm (inc x p) s, Int.mul_comm]
    show load ps S x + inc x p * (s * m) + m * wsum way x = _
    omega
theorem cnt_ge {way : Way} (hs : ∀ q ∈ way, q.2 = 1 ∨ q.2 = -1) : ∀ q : Pr, -(((way.filter fun r => decide (r.2 < 0)).map Prod.fst).count q : Int) ≤ cnt way q := by
  intro q
  induction way with
  | nil => simp [cnt]
  | cons r way ih =>
    have ih := ih fun x hx => hs x (List.mem_cons_of_mem _ hx)
    have e : cnt (r :: way) q = (if q = r.1 then r.2 else 0) + cnt way q := by simp [cnt]
    rw [e]
    rcases hs r List.mem_cons_self with h | h
    · rw [List.filter_cons_of_neg (by rw [h]; decide)]
      split <;> omega
    · rw [List.filter_cons_of_pos (by rw [h]; decide), List.map_cons, List.count_cons]
      by_cases hq : q = r.1
      · have : (r.1 == q) = true := by rw [hq]; exact beq_self_eq_true _
        rw [if_pos hq, if_pos this, h]
        push_cast
        omega
      · have : ¬ (r.1 == q) = true := by
          intro z
          exact hq (eq_of_beq z).symm
        rw [if_neg hq, if_neg this]
        push_cast
        omega
theorem cnt_none {way : Way} {q : Pr} (h : ∀ r ∈ way, r.1 ≠ q) : cnt way q = 0 := by
  induction way with
  | nil => simp [cnt]
  | cons r way ih =>
    have e : cnt (r :: way) q = (if q = r.1 then r.2 else 0) + cnt way q := by simp [cnt]
    rw [e, if_neg fun z => h r List.mem_cons_self z.symm, ih fun x hx => h x (List.mem_cons_of_mem _ hx)]
    rfl
/-- one growing keeps the balance -/
theorem FlowI.grow {ps es : List Pr} {pr S R : Pr → Int} (F : FlowI ps es pr S R) {tr : Trs} (T : TrailOk ps es S R tr) {last e : Pr} {way : Way} {j : Nat} (W : WayOk ps S tr last way e j) (he : tr[j]? = some (e, none)) (hl : last ∈ es) (ho : last.1 = "old") {m : Int} (hm : 0 ≤ m)
    (m1 : m ≤ R last) (m2 : m ≤ R e) (m3 : ∀ q ∈ way, q.2 < 0 → m ≤ S q.1) : FlowI ps es pr (sendAll S m way) (bump (bump R last (-m)) e (-m)) := by
  obtain ⟨hn, hR, hsum⟩ := W.stop T he
  have hee : e ∈ es := T.sub e (List.mem_of_getElem? W.at_)
  have hne : last ≠ e := fun z => by rw [z, hn] at ho; exact absurd ho (by decide)
  have hsg : ∀ q ∈ way, q.2 = 1 ∨ q.2 = -1 := fun q hq => (W.mem q hq).2.imp id fun h => h.1
  refine ⟨F.nd, F.ends, fun p hp => ?_, fun x hx => ?_, fun x hx => ?_⟩
  · rw [sendAll_eq]
    have c1 := cnt_ge hsg p
    have c2 : ((way.filter fun r => decide (r.2 < 0)).map Prod.fst).count p ≤ 1 := List.nodup_iff_count.mp W.nd p
    have s0 := F.s0 p hp
    by_cases hneg : p ∈ (way.filter fun r => decide (r.2 < 0)).map Prod.fst
    · obtain ⟨q, hq, eq⟩ := List.mem_map.mp hneg
      obtain ⟨hq1, hq2⟩ := List.mem_filter.mp hq
      have m4 := m3 q hq1 (of_decide_eq_true hq2)
      rw [eq] at m4
      have c3 : -1 ≤ cnt way p := by omega
      have c4 : m * (-1) ≤ m * cnt way p := Int.mul_le_mul_of_nonneg_left c3 hm
      omega
    · rw [List.count_eq_zero_of_not_mem hneg] at c1
      have c3 : 0 ≤ cnt way p := by simpa using c1
      have c4 := Int.mul_nonneg hm c3
      omega
  · have := F.r0 x hx
    unfold bump
    by_cases h1 : x = e
    · have h2 : x ≠ last := fun z => hne (z.symm.trans h1)
      rw [if_pos h1, if_neg h2, h1]
      omega
    · by_cases h2 : x = last
      · rw [if_neg h1, if_pos h2, h2]; omega
      · rw [if_neg h1, if_neg h2]; omega
  · have hb := F.bal x hx
    rw [load_send F.nd m x way S fun q hq => (W.mem q hq).1, hsum]
    unfold bump ind
    rw [Int.mul_add]
    by_cases h1 : x = e
    · have h2 : x ≠ last := fun z => hne (z.symm.trans h1)
      simp only [if_pos h1, if_neg h2]; omega
    · by_cases h2 : x = last
      · simp only [if_neg h1, if_pos h2]; omega
      · simp only [if_neg h1, if_neg h2]; omega
/-! ### at the end: the cover -/
theorem nw_ne (p : Pr) : ¬ (nw p).1 = "old" := by show ¬ (("new" : Str) = "old"); decide
def cov (es ks : List Pr) : List Pr := es.filter fun e => decide (e.1 = ("old" : Str)) == decide (e ∈ ks)
structure FlowEnd (ps es : List Pr) (pr S R : Pr → Int) (ks : List Pr) : Prop where
  F : FlowI ps es pr S R
  nd : es.Nodup
  only : ∀ e ∈ es, ∃ p ∈ ps, e = nw p ∨ e = od p
  new : ∀ e ∈ es, e.1 = "new" → 0 < R e → e ∈ ks
  done : ∀ p ∈ ps, (nw p ∈ ks → od p ∈ ks) ∧ (od p ∈ ks → 0 < S p → nw p ∈ ks)
  dry : ∀ e ∈ es, e.1 = "old" → e ∈ ks → R e ≤ 0
section
variable {ps es ks : List Pr} {pr S R : Pr → Int}
theorem cov_mem {e : Pr} : e ∈ cov es ks ↔ e ∈ es ∧ (e.1 = "old" ↔ e ∈ ks) := by
  unfold cov
  rw [List.mem_filter, beq_iff_eq, decide_eq_decide]
theorem FlowEnd.tells (Z : FlowEnd ps es pr S R ks) {p : Pr} (hp : p ∈ ps) : nw p ∈ cov es ks ∨ od p ∈ cov es ks := by
  obtain ⟨h1, h2⟩ := Z.F.ends p hp
  by_cases h : nw p ∈ ks
  · exact .inr (cov_mem.mpr ⟨h2, fun _ => (Z.done p hp).1 h, fun _ => rfl⟩)
  · exact .inl (cov_mem.mpr ⟨h1, fun z => absurd z (nw_ne p), fun z => absurd z h⟩)
theorem FlowEnd.full (Z : FlowEnd ps es pr S R ks) {e : Pr} (he : e ∈ cov es ks) : pr e = load ps S e := by
  obtain ⟨h1, h2⟩ := cov_mem.mp he
  have b := Z.F.bal e h1
  have r0 := Z.F.r0 e h1
  have : R e ≤ 0 := by
    by_cases ho : e.1 = "old"
    · exact Z.dry e h1 ho (h2.mp ho)
    · obtain ⟨p, hp, h⟩ := Z.only e h1
      rcases h with rfl | rfl
      · rcases (by omega : 0 < R (nw p) ∨ R (nw p) ≤ 0) with c | c
        · exact absurd (h2.mpr (Z.new _ h1 rfl c)) ho
        · exact c
      · exact absurd rfl ho
  omega
theorem sum_add {α : Type} (f g : α → Int) : ∀ l : List α, (l.map fun x => f x + g x).sum = (l.map f).sum + (l.map g).sum
  | [] => rfl
  | x :: l => by
    rw [List.map_cons, List.map_cons, List.map_cons, List.sum_cons, List.sum_cons, List.sum_cons, sum_add f g l]
    omega
theorem sum_swap (f : Pr → Pr → Int) (ps : List Pr) : ∀ es : List Pr, (es.map fun e => (ps.map fun p => f e p).sum).sum = (ps.map fun p => (es.map fun e => f e p).sum).sum
  | [] => by
    induction ps with
    | nil => rfl
    | cons p ps ih => rw [List.map_cons, List.sum_cons, ← ih]; rfl
  | e :: es => by
    rw [List.map_cons, List.sum_cons, sum_swap f ps es, ← sum_add]
    rfl
theorem sum_ind {l : List Pr} (nd : l.Nodup) (y : Pr) : (l.map fun x => ind x y).sum = if y ∈ l then 1 else 0 := by
  induction l with
  | nil => rfl
  | cons x l ih =>
    have hn := List.nodup_cons.mp nd
    rw [List.map_cons, List.sum_cons, ih hn.2]
    by_cases h : x = y
    · subst h
      simp [ind, hn.1]
    · have h2 : ¬ y = x := fun z => h z.symm
      simp [ind, h, h2]
theorem sum_inc {l : List Pr} (nd : l.Nodup) (p : Pr) : (l.map fun x => inc x p).sum = (if nw p ∈ l then 1 else 0) + (if od p ∈ l then 1 else 0) := by
  unfold inc
  rw [sum_add, sum_ind nd, sum_ind nd]
theorem sum_mul {α : Type} (f : α → Int) (c : Int) : ∀ l : List α, (l.map fun x => f x * c).sum = (l.map f).sum * c
  | [] => by simp
  | x :: l => by
    rw [List.map_cons, List.map_cons, List.sum_cons, List.sum_cons, sum_mul f c l, Int.add_mul]
theorem FlowEnd.worth (Z : FlowEnd ps es pr S R ks) : ((cov es ks).map pr).sum = (ps.map S).sum := by
  have nd : (cov es ks).Nodup := Z.nd.filter _
  have e1 : (cov es ks).map pr = (cov es ks).map fun e => (ps.map fun p => inc e p * S p).sum := List.map_congr_left fun e he => Z.full he
  rw [e1, sum_swap]
  congr 1
  refine List.map_congr_left fun p hp => ?_
  rw [sum_mul, sum_inc nd]
  rcases (by omega : 0 < S p ∨ S p ≤ 0) with c | c
  · have h : nw p ∈ cov es ks ↔ ¬ od p ∈ cov es ks := by
      constructor
      · intro h1 h2
        have a := (cov_mem.mp h1).2
        have b := (cov_mem.mp h2).2
        have : nw p ∈ ks := (Z.done p hp).2 (b.mp rfl) c
        exact absurd (a.mpr this) (nw_ne p)
      · intro h
        rcases Z.tells hp with z | z
        · exact z
        · exact absurd z h
    by_cases hz : nw p ∈ cov es ks
    · rw [if_pos hz, if_neg (h.mp hz)]; omega
    · have : od p ∈ cov es ks := by
        rcases Z.tells hp with z | z
        · exact absurd z hz
        · exact z
      rw [if_neg hz, if_pos this]; omega
  · have : S p = 0 := by have := Z.F.s0 p hp; omega
    rw [this, Int.mul_zero]
theorem FlowEnd.bears (Z : FlowEnd ps es pr S R ks) {e : Pr} (he : e ∈ es) : load ps S e ≤ pr e := by
  have b := Z.F.bal e he
  have r0 := Z.F.r0 e he
  omega
end
end Pn
/-! #### Fnd7 -/
namespace Pn
open PySem PySem.Spec PyProof.Rows L2

/-! ### comprehensions of any depth, any kind: a level at a time -/
/-- one turn of the level k of the comprehension e: its target, its tests, then what Kt does ahead of the next turn -/
structure CTurn (e : Expr) (k : Nat) (tg iter : Expr) (ifs : List Expr) (Kt : Value → Env → Sem Fin → Sem Fin) : Prop where
  eq : ∀ (it acc : Value) (env : Env), compTurn e k it acc env = (do
      standAt iter.pos
      match ← pyNext it with
      | none => pure (.done .next)
      | some v =>
        letOwnedTupleGo tg it v
        assign tg env v
        let mut ok := true
        for c in ifs do
          if ok then ok ← isTrue c env (eval c env)
        if ok then Kt acc env (again (.compLoop e k it acc env)) else again (.compLoop e k it acc env))
  un1 : ∀ (A : Around) (it acc : Value) (env : Env), A.under (.compLoop e k it acc env) = A
  un2 : ∀ (A : Around) (it acc : Value) (env : Env), A.under (.compStart e k it acc env) = A
  dn1 : ∀ (P : Program) (w : World) (it acc : Value) (env : Env), (model P w).den (.compLoop e k it acc env) = (compTurn e k it acc env).onRaise (fun x => do noteFrame x env; theTreesLotGoes x)
  dn2 : ∀ (P : Program) (w : World) (it acc : Value) (env : Env), (model P w).den (.compStart e k it acc env) = (compStart e k it acc env).onRaise (fun x => do noteFrame x env; standAt theWindowsPlace)
  st : ((clausesOf e)[k]?).elim false (·.is_async != 0) = false
/-- a level with a source within -/
def intoLv (e : Expr) (k : Nat) (iter : Expr) : Value → Env → Sem Fin → Sem Fin := fun acc env r => do
  let x ← eval iter env
  standAt iter.pos
  let x ← foldedSetIterable iter env x
  let _ ← runOwn (.compStart e k (← holding [x] (pyIter x)) acc env) env
  r
section
variable {P : Program} {w : World} {A : Around} {R : Result → Shared → Prop} {s : Shared} {e tg iter : Expr} {ifs : List Expr} {k : Nat} {Kt : Value → Env → Sem Fin → Sem Fin} {it acc : Value} {env : Env}
theorem lv_loop (T : CTurn e k tg iter ifs Kt) (I : Nat → Shared → Prop)
    (turn : ∀ n s, I n s → wpAny (model P w) A (pyNext it) (fun r s1 => match r with
      | none => R (.ok .next) s1
      | some v => wpAny (model P w) A (letOwnedTupleGo tg it v) (fun _ s1' => wpAny (model P w) A (assign tg env v) (fun _ s2 =>
          wpAny (model P w) A (forIn ifs true fun c r => if r = true then do let ok ← isTrue c env (eval c env); pure (ForInStep.yield ok) else pure (ForInStep.yield r)) (fun ok s3 =>
            if ok = true then (∀ (r : Sem Fin) (Q : Fin → Shared → Prop) (E : Value → Shared → Prop), (∀ s4, (∃ m, m < n ∧ I m s4) → wpAny (model P w) A r Q E s4) → wpAny (model P w) A (Kt acc env r) Q E s3)
            else ∃ m, m < n ∧ I m s3) (fun _ _ => False) s2) (fun _ _ => False) s1') (fun _ _ => False) s1) (fun _ _ => False) s)
    (n : Nat) (h : I n s) : codeAny (model P w) A (.compLoop e k it acc env) R s := by
  refine codeAny_loop rfl I (fun n s hI => ?_) n h
  rw [T.un1, T.dn1]
  refine wpAny_noted ?_
  rw [T.eq]
  refine wpAny_bind (wpAny_standAt (wpAny_bind (thnF (turn n s hI) fun r s1 h1 => ?_)))
  cases r with
  | none => exact wpAny_pure h1
  | some v =>
    refine wpAny_bind (thnF h1 fun _ s1' h1' => ?_)
    refine wpAny_bind (thnF h1' fun _ s2 h2 => wpAny_bind (thnF h2 fun ok s3 h3 => ?_))
    cases ok with
    | false => exact wpAny_pure ⟨rfl, h3⟩
    | true => exact h3 _ _ _ fun s4 h4 => wpAny_pure ⟨rfl, h4⟩
theorem lv_start (T : CTurn e k tg iter ifs Kt) (hq : ∀ (it' : Value), (Code.compLoop e k it' acc env).quiet = true) (h0 : codeAny (model P w) A (.compLoop e k it acc env) R s)
    (h : wpAny (model P w) A (pyIter it) (fun it' s' => codeAny (model P w) A (.compLoop e k it' acc env) R s') (fun _ _ => False) s) : codeAny (model P w) A (.compStart e k it acc env) R s := by
  refine codeAny_of_tree ?_
  rw [T.un2, T.dn2]
  refine wpAny_notedAt ?_
  unfold compStart
  rw [T.st]
  show wpAny _ _ (ask >>= _) _ _ s
  refine wpAny_bind (wpAny_askSetting (wpAny_ite ?_))
  split
  · first
      | exact wpAny_bind (wpAny_pure (wpAny_pure (And.intro (hq _) h0)))
      | exact wpAny_pure (And.intro (hq _) h0)
  · refine wpAny_bind (wpAny_rule ?_)
    cases (clausesOf e)[k]? with
    | none => exact wpAny_bind (thnF h fun it' s' h' => wpAny_pure (And.intro (hq _) h'))
    | some g => exact wpAny_bind (wpAny_standAt (wpAny_bind (thnF h fun it' s' h' => wpAny_pure (And.intro (hq _) h'))))
end
abbrev LvT := L2.St → Hp → (Hp → Prop) → Prop
/-- what a level does, seen from the slots and the heap; vs: the names that it stores -/
def Lv (B : Cx) (vs : List Nat) (Kt : Value → Env → Sem Fin → Sem Fin) (acc : Value) (t : LvT) : Prop :=
  ∀ (pins : List (Addr × Obj)) (s : Shared) (σ : L2.St) (H : Hp) (Nx : Hp → Prop) (r : Sem Fin) (Q : Fin → Shared → Prop) (E : Value → Shared → Prop), Inv B pins σ H s → t σ H Nx →
    (∀ s' H', Inv B pins (wipe σ vs) H' s' → Nx H' → wpAny (model B.prog B.w) B.A r Q E s') → wpAny (model B.prog B.w) B.A (Kt acc B.env r) Q E s
/-- the turns of a level over what a source gives -/
def tTurns (J : It) (g : TG) (tt : TT) (t : LvT) (vs : List Nat) (σ : L2.St) (H : Hp) (Nx : Hp → Prop) : Prop := ∃ W : Nat → Nat → Hp → Prop, (∃ m, W 0 m H) ∧ ∀ i m H, W i m H →
  (J.stop i H ∧ Nx H) ∨ (J.go i H ∧ ∃ N : Hp → Prop, (∀ H', N H' → ∃ m', m' < m ∧ W (i + 1) m' H') ∧ ∀ x H', J.yld i H x H' → g x (wipe σ vs) H' fun σ2 H2 => wipe σ2 vs = wipe σ vs ∧ tt σ2 H2 fun b H3 => if b = true then t σ2 H3 N else N H3)
def tInto (wi : TI) (g : TG) (tt : TT) (t : LvT) (vs : List Nat) : LvT := fun σ H Nx => wi σ H fun J H1 => tTurns J g tt t vs σ H1 Nx
section
variable {B : Cx} {e tg iter : Expr} {ifs : List Expr} {k : Nat} {Kt : Value → Env → Sem Fin → Sem Fin} {acc : Value} {g : TG} {tt : TT} {t : LvT} {vs vs' : List Nat}
theorem lv_run {pins : List (Addr × Obj)} {σ : L2.St} {H : Hp} {s : Shared} {J : It} {fp : List Addr} {it : Addr} {tn : Nat → Heap → Prop} {R : Result → Shared → Prop} {Nx : Hp → Prop} (C : CTurn e k tg iter ifs Kt) (hc : B.calm = true) (hx : ∀ e s, ¬ B.xe e s)
    (hg : PG B tg g) (ht : PTs B ifs tt) (L : Lv B vs' Kt acc t) (hv : ∀ i ∈ vs', i ∈ vs) (T : Turn B.prog B.w B.K tg J fp it tn) (st : tn 0 s.heap) (hst : ∀ (σ' : L2.St) (H' : Hp) (s' : Shared), Inv B pins σ' H' s' → (∀ b ∈ fp, H' b = none) → ∀ b ∈ fp, FpOk B pins H' b)
    (hn : ∀ b ∈ fp, H b = none) (I : Inv B pins (wipe σ vs) H s) (h : tTurns J g tt t vs σ H Nx) (fin : ∀ s' H', Inv B pins (wipe σ vs) H' s' → Nx H' → R (.ok .next) s') :
    codeAny (model B.prog B.w) B.A (.compLoop e k (.ref it) acc B.env) R s := by
  obtain ⟨W, ⟨m0, w0⟩, turn⟩ := h
  refine lv_loop C (fun n s' => ∃ j H', Inv B pins (wipe σ vs) H' s' ∧ tn j s'.heap ∧ (∀ b ∈ fp, H' b = none) ∧ W j n H') ?_ m0 ⟨0, H, I, st, hn, w0⟩
  rintro n s1 ⟨j, H1, I1, st1, n1, w1⟩
  rcases turn j n H1 w1 with ⟨stop, nx⟩ | ⟨go, N, hN, step⟩
  · refine thnF (T.done B rfl rfl rfl hc j _ s1 _ H1 (fun _ _ => False) I1 (hst _ _ _ I1 n1) st1 stop) fun r s2 ⟨hr, I2⟩ => ?_
    subst hr
    exact fin s2 H1 I2 nx
  · refine thnF (T.item B rfl rfl rfl hc j _ s1 _ H1 (fun _ _ => False) I1 (hst _ _ _ I1 n1) st1 go) fun r s2 ⟨u, hr, h2⟩ => ?_
    subst hr
    refine thnF h2 fun _ s3 ⟨x, H3, I3, r3, y3, st3, n3⟩ => ?_
    have I3' := I3.pinned (hst _ _ _ I3 n3) (T.obj _ _ st3)
    refine wpAny_mono (hg.run _ s3 _ H3 x u _ I3' r3 (step x H3 y3)) (fun _ s4 ⟨σ4, H4, I4, hw4, q4⟩ => ?_) fun e s z => hx e s z
    refine wpAny_mono (ht.run _ s4 σ4 H4 _ I4 q4) (fun b s5 ⟨H5, I5, q5⟩ => ?_) fun e s z => hx e s z
    have hl4 : (wipe σ vs).length = σ4.length := by rw [← hw4, wipe_length]
    have back : ∀ {σ' : L2.St} {s' : Shared} {H' : Hp}, Inv B (pins ++ pinsAt fp s3.heap) σ' H' s' → (wipe σ vs).length = σ'.length → (∀ (j : Nat) v, (wipe σ vs)[j]? = some (some v) → σ'[j]? = some (some v)) → N H' →
        ∃ m, m < n ∧ ∃ j H', Inv B pins (wipe σ vs) H' s' ∧ tn j s'.heap ∧ (∀ b ∈ fp, H' b = none) ∧ W j m H' := fun {σ' s' H'} I' hl hk nx => by
      obtain ⟨m', hm, w'⟩ := hN H' nx
      have pin' : ∀ b ∈ fp, ∀ o, s3.heap.get? b = some o → s'.heap.get? b = some o ∧ H' b = none := fun b hb o e =>
        let z := I'.pin (b, o) (List.mem_append_right _ (List.mem_append_right _ (mem_pinsAt hb e)))
        ⟨z.1, z.2.1⟩
      refine ⟨m', hm, j + 1, H', I'.unpinned.weak hl hk, T.keep _ _ _ st3 fun b hb o e => (pin' b hb o e).1, fun b hb => ?_, w'⟩
      obtain ⟨o, e, _⟩ := T.obj _ _ st3 b hb
      exact (pin' b hb o e).2
    cases b with
    | false =>
      simp only [Bool.false_eq_true, if_false] at q5 ⊢
      exact back I5 hl4 (fun j v e => by rw [← hw4] at e; exact (wipe_some e).1) q5
    | true =>
      simp only [if_true] at q5 ⊢
      intro r Q E hr
      refine L _ s5 σ4 H5 N r Q E I5 q5 fun s6 H6 I6 q6 => hr s6 (back I6 (hl4.trans (wipe_length σ4 vs').symm) (fun j v e => ?_) q6)
      rw [← hw4] at e
      obtain ⟨e1, e2⟩ := wipe_some e
      rw [wipe_out fun z => e2 (hv j z)]
      exact e1
/-- a level within: its source is read in the block -/
theorem lv_into (C : CTurn e k tg iter ifs Kt) (hc : B.calm = true) (hx : ∀ e s, ¬ B.xe e s) (hq : ∀ (it' acc : Value) (env : Env), (Code.compLoop e k it' acc env).quiet = true) {wi : TI} (hi : PI B tg iter wi) (hg : PG B tg g) (ht : PTs B ifs tt) (L : Lv B vs' Kt acc t) (hv : ∀ i ∈ vs', i ∈ vs)
    (hs : ∀ x, foldedSetIterable iter B.env x = pure x) : Lv B vs (intoLv e k iter) acc (tInto wi g tt t vs) := by
  intro pins s σ H Nx r Q E I h hr
  unfold intoLv
  refine wpAny_bind (wpAny_mono (hi.run pins s σ H _ I h) (fun xv s1 h1 => wpAny_bind (wpAny_standAt (wpAny_bind (wpAny_of_eq (hs xv) (wpAny_bind (wpAny_holding (wpAny_mono h1 (fun itv s2 h2 => ?_) fun e s z => (hx e s z).elim)))))) ) fun e s z => (hx e s z).elim)
  obtain ⟨it, fp, tn, J, H2, e2, I2, T, st2, f2, q2⟩ := h2
  subst e2
  refine wpAny_bind (wpAny_runOwn ?_)
  rw [Around.mark_none]
  have loop : codeAny (model B.prog B.w) B.A (.compLoop e k (.ref it) acc B.env) (fun r' s' => match r' with
      | .ok _ => wpAny (model B.prog B.w) B.A r Q E s'
      | .error _ => False) s2 :=
    lv_run C hc hx hg ht L hv T st2 (fun σ' H' s' I' hn b hb => ⟨hn b hb, (f2 b hb).2⟩) (fun b hb => (f2 b hb).1) (I2.weak (wipe_length _ _) fun j v e => (wipe_some e).1) q2 fun s' H' I' nx => hr s' H' I' nx
  refine codeAny_mono (lv_start C (fun it' => hq it' _ _) loop (T.self B.A 0 _ _ _ st2 loop)) fun r' s' hr' => ?_
  cases r' with
  | ok f =>
    first
      | exact wpAny_pure hr'
      | exact wpAny_bind (wpAny_pure hr')
      | exact hr'
  | error e => exact hr'.elim
end
/-- the comprehension's own reading: o0 is the new container -/
def tCompr (wi : TI) (g : TG) (tt : TT) (o0 : Addr → HO) (t : Addr → LvT) (vs : List Nat) : TE := fun σ H Q => wi σ H fun J H1 => ∀ D, H1 D = none → tTurns J g tt (t D) vs σ (upd H1 D (o0 D)) fun H' => Q (.ref D) H'
/-- a new container as its source makes it -/
structure NewC (X : Cx) (mk : Sem Value) (obj : Obj) (o0 : Addr → HO) : Prop where
  run : ∀ (A : Around) (s : Shared) (Q : Value → Shared → Prop) (E : Value → Shared → Prop), Q (.ref s.heap.objs.size) { s with heap := s.heap.push obj } → wpAny (model X.prog X.w) A mk Q E s
  ok : ∀ (pins : List (Addr × Obj)) (σ : L2.St) (H : Hp) (s : Shared), Inv X pins σ H s → ObjOk X.prog X.w (upd H s.heap.objs.size (o0 s.heap.objs.size)) (s.heap.push obj) s.heap.objs.size (o0 s.heap.objs.size)
section
variable {X : Cx} {e tg iter : Expr} {ifs : List Expr} {gs : List Comprehension} {Kt : Value → Env → Sem Fin → Sem Fin} {scope : Scope} {own : List (Str × Nat)} {mk : Sem Value} {obj : Obj} {o0 : Addr → HO} {wi : TI} {g : TG} {tt : TT} {t : Addr → LvT} {vs' : List Nat}
theorem comp_top {pins : List (Addr × Obj)} {s : Shared} {σ : L2.St} {H : Hp} {Q : VK} {pos' : Pos} {use : Option (Value → Sem Unit)} {Qf : Value → Shared → Prop} (hcl : clausesOf e = ⟨tg, iter, ifs, 0⟩ :: gs) (C : CTurn e 0 tg iter ifs Kt) (hq : ∀ (it' acc : Value) (env : Env), (Code.compLoop e 0 it' acc env).quiet = true)
    (NC : NewC X mk obj o0) (hc : X.calm = true) (hN : X.N.Nodup) (I : Inv X pins σ H s) (hi : PI X tg iter wi) (ok : BlkOk X.N X.env.scope scope own)
    (hg : ∀ (s : Shared) (H : Hp) (C : Addr) (cl : List (Str × Addr)) (fp : List Addr), PG (X.blk s H scope (compEnvC scope cl C X.env) fp) tg g) (ht : ∀ (s : Shared) (H : Hp) (C : Addr) (cl : List (Str × Addr)) (fp : List Addr), PTs (X.blk s H scope (compEnvC scope cl C X.env) fp) ifs tt)
    (L : ∀ (s : Shared) (H : Hp) (C : Addr) (cl : List (Str × Addr)) (fp : List Addr) (D : Addr), Lv (X.blk s H scope (compEnvC scope cl C X.env) fp) vs' Kt (.ref D) (t D)) (hv : ∀ i ∈ vs', i ∈ own.map (·.2)) (hs : ∀ x, foldedSetIterable iter X.env x = pure x)
    (h : tCompr wi g tt o0 t (own.map (·.2)) σ H Q)
    (hRR : ∀ D C s' m H', Inv X pins σ H' s' → Q (.ref D) H' → s'.heap.Ns C m → FpOk X pins H' C → compPost (model X.prog X.w) X.A X.xe use Qf (.ref D) C (.ok .next) s') :
    wpAny (model X.prog X.w) X.A (comprehension e scope X.env pos' mk false (eval iter X.env) use) Qf X.xe s := by
  have hfree : ∀ y ∈ scope.names, y.2 = .free → ∃ c, X.env.cells.lookup y.1 = some c := fun y hy e => by
    rcases ok.free y hy e with k | k
    · exact I.ok.has _ (.inl k)
    · exact I.ok.has _ (.inr k)
  refine wpAny_comprehension_free (use := use) hcl hs (closure_ok hfree) ok.kind (fun y hy e => by rw [ok.uniq y hy, e])
    (thn (hi.run pins s σ H _ I h) fun xv s1 hx => thn hx fun itv s2 h2 => ?_)
  obtain ⟨it, fp, tn, J, H2, e2, I2, T, st2, f2, q⟩ := h2
  subst e2
  refine NC.run _ _ _ _ (newEnv_comp ?_)
  have I3 : Inv X pins σ (upd H2 s2.heap.objs.size (o0 s2.heap.objs.size)) { s2 with heap := s2.heap.push obj } := I2.laid (t' := s2.toks) (fun b o e => Heap.get?_push_of_some _ e) (Nat.le_refl _) (NC.ok _ _ _ _ I2)
  have hDn : H2 s2.heap.objs.size = none := I2.hok.fresh (Nat.le_refl _)
  have turns := q s2.heap.objs.size hDn
  have sz : ∀ b ∈ fp, b < s2.heap.objs.size := fun b hb => by
    obtain ⟨o, e, _⟩ := T.obj _ _ st2 b hb
    exact Heap.lt_size e
  have f3 : ∀ b ∈ fp, FpOk X pins (upd H2 s2.heap.objs.size (o0 s2.heap.objs.size)) b ∧ b < (s2.heap.push obj).objs.size := fun b hb => by
    have hlt := sz b hb
    refine ⟨⟨?_, (f2 b hb).2⟩, by rw [Heap.size_push]; exact Nat.lt_succ_of_lt hlt⟩
    rw [upd_ne (Nat.ne_of_lt hlt)]
    exact (f2 b hb).1
  have st3 : tn 0 (s2.heap.push obj) := T.keep _ _ _ st2 fun b _ o e => Heap.get?_push_of_some _ e
  revert I3 f3 st3 turns
  generalize hs3 : ({ s2 with heap := s2.heap.push obj } : Shared) = s3
  generalize hD : s2.heap.objs.size = D at *
  generalize upd H2 D (o0 D) = H3
  intro I3 turns f3 st3
  have h3 : s3.heap = s2.heap.push obj := by rw [← hs3]
  rw [← h3] at f3 st3
  have I4 := block_start I3 ok hN f3
  have pg := hg s3 H3 s3.heap.objs.size (cellsFrom (s3.heap.objs.size + 1) scope.names (cloFrom X.env.cells scope.names [])) fp
  have pt := ht s3 H3 s3.heap.objs.size (cellsFrom (s3.heap.objs.size + 1) scope.names (cloFrom X.env.cells scope.names [])) fp
  have pl := L s3 H3 s3.heap.objs.size (cellsFrom (s3.heap.objs.size + 1) scope.names (cloFrom X.env.cells scope.names [])) fp D
  have nfp : ∀ b ∈ fp, H3 b = none := fun b hb => (f3 b hb).1.1
  show codeAny _ _ (.compStart e 0 (.ref it) (.ref D) (compEnvC scope (cellsFrom (s3.heap.objs.size + 1) scope.names (cloFrom X.env.cells scope.names [])) s3.heap.objs.size X.env)) (compPost (model X.prog X.w) X.A X.xe use Qf (.ref D) s3.heap.objs.size) { s3 with heap := pushCells (s3.heap.push { cls := .type "dict", data := .dict #[] }) scope.names }
  generalize hce : compEnvC scope (cellsFrom (s3.heap.objs.size + 1) scope.names (cloFrom X.env.cells scope.names [])) s3.heap.objs.size X.env = ce at I4 pg pt pl ⊢
  have cL : ce.locals = s3.heap.objs.size := by subst hce; rfl
  have st4 : tn 0 (pushCells (s3.heap.push { cls := .type "dict", data := .dict #[] }) scope.names) := T.keep _ _ _ st3 fun b _ o e => pushCells_keeps _ _ _ _ (Heap.get?_push_of_some _ e)
  have loop : codeAny (model X.prog X.w) X.A (.compLoop e 0 (.ref it) (.ref D) ce) (compPost (model X.prog X.w) X.A X.xe use Qf (.ref D) s3.heap.objs.size) { s3 with heap := pushCells (s3.heap.push { cls := .type "dict", data := .dict #[] }) scope.names } := by
    refine lv_run (B := X.blk s3 H3 scope ce fp) C hc (fun _ _ z => z) pg pt pl hv T st4 (fun σ' H' s' I' hn b hb =>
      ⟨hn b hb, (I'.ok.exf b hb).1, I'.ok.exfs b hb, .inl hb, fun x c e => (I'.ok.exf b hb).2 x c e, fun p hp => absurd (show p ∈ ([] : List (Addr × Obj)) ++ [] from hp) (by simp)⟩) nfp I4 turns fun s6 H5 I6 qq => ?_
    have I7 : Inv X pins σ H5 s6 := I3.call' (ch := fp) I6.os I6.base I6.hok I6.bare fun b hb => ⟨(f3 b hb).1.2.2.2.1, (f3 b hb).1.2.1, (f3 b hb).1.2.2.2.2.1, (f3 b hb).1.2.2.2.2.2⟩
    have nC : H5 s3.heap.objs.size = none := by
      have z : H5 ce.locals = none := I6.free
      rw [cL] at z
      exact z
    obtain ⟨m, hn, _⟩ := I6.loc
    have hn : s6.heap.Ns ce.locals m := hn
    rw [cL] at hn
    exact hRR D s3.heap.objs.size s6 m H5 I7 qq hn (I3.fpOk (Nat.le_refl _) nC)
  exact lv_start C (fun it' => hq it' _ _) loop (T.self X.A 0 _ _ _ st4 loop)
end
end Pn
/-! #### Fnd8 -/
namespace Pn
open PySem PySem.Spec PyProof.Rows L2

/-! ### a comprehension that is stored in a name at once -/
section
variable {X : Cx} {e tg iter : Expr} {ifs : List Expr} {gs : List Comprehension} {Kt : Value → Env → Sem Fin → Sem Fin} {scope : Scope} {own : List (Str × Nat)} {mk : Sem Value} {obj : Obj} {o0 : Addr → HO} {wi : TI} {g : TG} {tt : TT} {t : Addr → LvT} {vs' : List Nat}
theorem ps_setC {i : Nat} {y : Str} {py pos' spos : Pos} (hcl : clausesOf e = ⟨tg, iter, ifs, 0⟩ :: gs) (C : CTurn e 0 tg iter ifs Kt) (hq : ∀ (it' acc : Value) (env : Env), (Code.compLoop e 0 it' acc env).quiet = true)
    (NC : NewC X mk obj o0) (hc : X.calm = true) (hN : X.N.Nodup) (hy : X.N[i]? = some y) (hyl : X.env.scope.names.lookup y = some .local) (hsw : swapsWith e (some (.Name y py)) spos.line X.env = pure true)
    (hu : ∀ use, evalThenUse e X.env use = (do let _ ← comprehension e scope X.env pos' mk false (eval iter X.env) (some use))) (hi : PI X tg iter wi) (ok : BlkOk X.N X.env.scope scope own)
    (hg : ∀ (s : Shared) (H : Hp) (C : Addr) (cl : List (Str × Addr)) (fp : List Addr), PG (X.blk s H scope (compEnvC scope cl C X.env) fp) tg g) (ht : ∀ (s : Shared) (H : Hp) (C : Addr) (cl : List (Str × Addr)) (fp : List Addr), PTs (X.blk s H scope (compEnvC scope cl C X.env) fp) ifs tt)
    (L : ∀ (s : Shared) (H : Hp) (C : Addr) (cl : List (Str × Addr)) (fp : List Addr) (D : Addr), Lv (X.blk s H scope (compEnvC scope cl C X.env) fp) vs' Kt (.ref D) (t D)) (hv : ∀ i ∈ vs', i ∈ own.map (·.2)) (hs : ∀ x, foldedSetIterable iter X.env x = pure x) :
    PS X (.Assign [.Name y py] e spos) (tAsg (tCompr wi g tt o0 t (own.map (·.2))) (gName i)) := by
  refine ⟨fun pins s σ H D I h => ?_⟩
  rw [exec_Assign_Name_used _ _ _ _ hsw]
  refine wpAny_bind (wpAny_standAt (wpAny_bind ?_))
  rw [hu]
  have h : tCompr wi g tt o0 t (own.map (·.2)) σ H (fun x H1 => gName i x σ H1 D.nx) := h
  refine wpAny_bind (thn (comp_top (Qf := fun _ s' => SP X pins D .next s') hcl C hq NC hc hN I hi ok hg ht L hv hs h fun L C s' m H' I' q hn f => ?_) fun _ s' hq => wpAny_pure (wpAny_pure hq))
  show wpAny _ _ (assign (.Name y py) X.env (.ref L)) _ _ _
  refine wpAny_assign_Name (store_ok2 (v := V.ref L) I' hN hy (.inl hyl) rfl (fun s2 I2 ⟨a, sb, ha⟩ => ?_) (.inr hyl))
  obtain ⟨f0, f1, f2, f3, f4, f5⟩ := f
  have haC : C ≠ a := by
    rcases ha with z | z
    · rw [z]; exact f1
    · exact fun e => f4 y a z e.symm
  refine ⟨m, hn.sameBut sb haC, fun h3 sb3 => ?_⟩
  exact ⟨_, H', I2.turned (t' := s2.toks) (fun b o hb e => (sb3.2 b hb).trans e) f0 f1 f3 f4 f5, q⟩
/-- .. as a value -/
theorem pe_compr {pos' : Pos} (hev : eval e X.env = comprehension e scope X.env pos' mk false (eval iter X.env)) (hcl : clausesOf e = ⟨tg, iter, ifs, 0⟩ :: gs) (C : CTurn e 0 tg iter ifs Kt) (hq : ∀ (it' acc : Value) (env : Env), (Code.compLoop e 0 it' acc env).quiet = true)
    (NC : NewC X mk obj o0) (hc : X.calm = true) (hN : X.N.Nodup) (hi : PI X tg iter wi) (ok : BlkOk X.N X.env.scope scope own)
    (hg : ∀ (s : Shared) (H : Hp) (C : Addr) (cl : List (Str × Addr)) (fp : List Addr), PG (X.blk s H scope (compEnvC scope cl C X.env) fp) tg g) (ht : ∀ (s : Shared) (H : Hp) (C : Addr) (cl : List (Str × Addr)) (fp : List Addr), PTs (X.blk s H scope (compEnvC scope cl C X.env) fp) ifs tt)
    (L : ∀ (s : Shared) (H : Hp) (C : Addr) (cl : List (Str × Addr)) (fp : List Addr) (D : Addr), Lv (X.blk s H scope (compEnvC scope cl C X.env) fp) vs' Kt (.ref D) (t D)) (hv : ∀ i ∈ vs', i ∈ own.map (·.2)) (hs : ∀ x, foldedSetIterable iter X.env x = pure x) :
    PE X e (tCompr wi g tt o0 t (own.map (·.2))) := by
  refine ⟨fun pins s σ H Q I h => ?_⟩
  rw [hev]
  refine comp_top hcl C hq NC hc hN I hi ok hg ht L hv hs h fun D C s' m H' I' q hn f => ⟨m, hn, fun h'' sb => ?_⟩
  obtain ⟨f0, f1, f2, f3, f4, f5⟩ := f
  exact ⟨.ref D, H', I'.turned (t' := s'.toks) (fun b o hb e => (sb.2 b hb).trans e) f0 f1 f3 f4 f5, rfl, q⟩
end
/-! ### dicts with tuples as keys -/
theorem dictSet_T {X : Cx} {pins : List (Addr × Obj)} {σ : L2.St} {H : Hp} {s : Shared} {E : Value → Shared → Prop} {D b : Addr} {kvs : List (List L2.Key × V)} {k : List L2.Key} {v : V} {r : Value} {Q : Unit → Shared → Prop} (hu : X.A.units + 1 < cLine) (I : Inv X pins σ H s) (e : H D = some (.dT kvs)) (l : kvs.length < sizeLine)
    (eb : H b = some (.tup (k.map kV))) (rv : RelV v r) (h : ∀ s', Inv X pins σ (upd H D (.dT (putK kvs k v))) s' → Q () s') : wpAny (model X.prog X.w) X.A (dictSet D (.ref b) r) Q E s := by
  obtain ⟨z, hd, xs, rel, dd⟩ := dt_of I.hok e
  have hz : xs.length ≤ sizeLine := by rw [← Paired.length rel]; exact z
  have hl : (putK kvs k v).length ≤ sizeLine := by have := length_putK kvs k v; omega
  refine wpAny_dictSet_heap (hsz := hz) (show X.A.units < cLine by omega) (key_of I.hok eb) dd fun h' dd' hs => h _ ?_
  obtain ⟨q, es, ep, hq, h2, h3, h4, _, h5⟩ := dd'
  refine d_write I (by rw [e]; exact True.intro) hs ⟨q, hq⟩ ⟨hl, hd, _, (rel.put k eb rv).keeps fun c ys ec => ?_, q, es, ep, hq, h2, h3, h4, h5⟩
  rw [upd_ne (ne_of ec e (fun z => nomatch z))]
  exact ec
/-- k: v into the dict at D -/
def tPutT (tk tv : TE) (D : Addr) : LvT := fun σ H Nx => tk σ H fun y H1 => tv σ H1 fun z H2 => ∃ (b : Addr) (kvs : List (List L2.Key × V)) (k : List L2.Key), y = .ref b ∧ H2 b = some (.tup (k.map kV)) ∧ H2 D = some (.dT kvs) ∧ kvs.length < sizeLine ∧ Nx (upd H2 D (.dT (putK kvs k z)))
def dcK (kx vx : Expr) : Value → Env → Sem Fin → Sem Fin := fun acc env r => do
  (do
    let kv ← eval kx env
    let vv ← holding [kv] (eval vx env)
    match acc with
    | .ref d => do
      standAt { kx.pos with endLine := vx.pos.endLine, endCol := vx.pos.endCol }
      holding [kv, vv] (dictSet d kv vv)
    | _ => unsupported "internal:dictcomp")
  r
theorem dc_turn (kx vx tg iter : Expr) (ifs : List Expr) (scope : Scope) (pos : Pos) : CTurn (.DictComp kx vx [⟨tg, iter, ifs, 0⟩] scope pos) 0 tg iter ifs (dcK kx vx) := ⟨fun _ _ _ => rfl, fun _ _ _ _ => rfl, fun _ _ _ _ => rfl, fun _ _ _ _ _ => rfl, fun _ _ _ _ _ => rfl, rfl⟩
theorem lv_dc {B : Cx} {kx vx : Expr} {tk tv : TE} {D : Addr} (hx : ∀ e s, ¬ B.xe e s) (hu : B.A.units + 1 < cLine) (hk : PE B kx tk) (hv : PE B vx tv) : Lv B [] (dcK kx vx) (.ref D) (tPutT tk tv D) := by
  intro pins s σ H Nx r Q E I h hr
  refine wpAny_bind (wpAny_bind (wpAny_mono (hk.run pins s σ H _ I h) (fun kv s1 ⟨y, H1, I1, ry, h1⟩ => ?_) fun e s z => (hx e s z).elim))
  refine wpAny_bind (wpAny_holding (wpAny_mono (hv.run pins s1 σ H1 _ I1 h1) (fun vv s2 ⟨z, H2, I2, rz, b, kvs, k, ey, eb, eD, l, nx⟩ => ?_) fun e s z => (hx e s z).elim))
  subst ey
  cases ry
  exact wpAny_bind (wpAny_standAt (wpAny_holding (dictSet_T hu I2 eD l eb rz fun s3 I3 => hr s3 _ I3 nx)))
theorem newDict_C {X : Cx} : NewC X newDict { cls := .type "dict", data := .dict #[] } (fun _ => .dT []) := ⟨fun A s Q E h => wpAny_newObj_type h, fun pins σ H s I => dt_empty s.heap I.big⟩
section
variable {X : Cx} {kx vx tg iter : Expr} {ifs : List Expr} {scope : Scope} {own : List (Str × Nat)} {pos : Pos} {wi : TI} {g : TG} {tt : TT} {tk tv : TE}
theorem pe_dcT (hu : X.A.units + 1 < cLine) (hc : X.calm = true) (hN : X.N.Nodup) (hi : PI X tg iter wi) (ok : BlkOk X.N X.env.scope scope own)
    (hg : ∀ (s : Shared) (H : Hp) (C : Addr) (cl : List (Str × Addr)) (fp : List Addr), PG (X.blk s H scope (compEnvC scope cl C X.env) fp) tg g) (ht : ∀ (s : Shared) (H : Hp) (C : Addr) (cl : List (Str × Addr)) (fp : List Addr), PTs (X.blk s H scope (compEnvC scope cl C X.env) fp) ifs tt)
    (hk : ∀ (s : Shared) (H : Hp) (C : Addr) (cl : List (Str × Addr)) (fp : List Addr), PE (X.blk s H scope (compEnvC scope cl C X.env) fp) kx tk) (hv : ∀ (s : Shared) (H : Hp) (C : Addr) (cl : List (Str × Addr)) (fp : List Addr), PE (X.blk s H scope (compEnvC scope cl C X.env) fp) vx tv)
    (hs : ∀ x, foldedSetIterable iter X.env x = pure x := by intro _; rfl) : PE X (.DictComp kx vx [⟨tg, iter, ifs, 0⟩] scope pos) (tCompr wi g tt (fun _ => .dT []) (tPutT tk tv) (own.map (·.2))) :=
  pe_compr rfl rfl (dc_turn kx vx tg iter ifs scope pos) (fun _ _ _ => rfl) newDict_C hc hN hi ok hg ht (fun s H C cl fp D => lv_dc (fun _ _ z => z) hu (hk s H C cl fp) (hv s H C cl fp)) (by simp) hs
theorem ps_setDcT {i : Nat} {y : Str} {py spos : Pos} (hu : X.A.units + 1 < cLine) (hc : X.calm = true) (hN : X.N.Nodup) (hy : X.N[i]? = some y) (hyl : X.env.scope.names.lookup y = some .local) (hsw : swapsWith (.DictComp kx vx [⟨tg, iter, ifs, 0⟩] scope pos) (some (.Name y py)) spos.line X.env = pure true)
    (hi : PI X tg iter wi) (ok : BlkOk X.N X.env.scope scope own)
    (hg : ∀ (s : Shared) (H : Hp) (C : Addr) (cl : List (Str × Addr)) (fp : List Addr), PG (X.blk s H scope (compEnvC scope cl C X.env) fp) tg g) (ht : ∀ (s : Shared) (H : Hp) (C : Addr) (cl : List (Str × Addr)) (fp : List Addr), PTs (X.blk s H scope (compEnvC scope cl C X.env) fp) ifs tt)
    (hk : ∀ (s : Shared) (H : Hp) (C : Addr) (cl : List (Str × Addr)) (fp : List Addr), PE (X.blk s H scope (compEnvC scope cl C X.env) fp) kx tk) (hv : ∀ (s : Shared) (H : Hp) (C : Addr) (cl : List (Str × Addr)) (fp : List Addr), PE (X.blk s H scope (compEnvC scope cl C X.env) fp) vx tv)
    (hs : ∀ x, foldedSetIterable iter X.env x = pure x := by intro _; rfl) : PS X (.Assign [.Name y py] (.DictComp kx vx [⟨tg, iter, ifs, 0⟩] scope pos) spos) (tAsg (tCompr wi g tt (fun _ => .dT []) (tPutT tk tv) (own.map (·.2))) (gName i)) :=
  ps_setC rfl (dc_turn kx vx tg iter ifs scope pos) (fun _ _ _ => rfl) newDict_C hc hN hy hyl hsw (fun _ => rfl) hi ok hg ht (fun s H C cl fp D => lv_dc (fun _ _ z => z) hu (hk s H C cl fp) (hv s H C cl fp)) (by simp) hs
end
/-- a set or dict comprehension stored in a plain name of its line is stored at once -/
theorem sw_dc {kx vx : Expr} {gs : List Comprehension} {scope : Scope} {pos py : Pos} {y : Str} {l : Nat} {env : Env} (hk : env.scope.kind = .function) (hy : env.scope.names.lookup y = some .local) (hl : (py.line == pos.line) = true)
    (ha : (scope.names.any fun (n, k) => n == y && (k == .local || k == .cell)) = false) : swapsWith (.DictComp kx vx gs scope pos) (some (.Name y py)) l env = pure true := by
  have ky : env.kindOf y = some .local := hy
  have hb : env.blockKind = .function := by unfold Env.blockKind; rw [hk]; rfl
  unfold swapsWith
  simp only [hb, ky, ha, Expr.pos, hl]
  rfl
theorem sw_sc {elt : Expr} {gs : List Comprehension} {scope : Scope} {pos py : Pos} {y : Str} {l : Nat} {env : Env} (hk : env.scope.kind = .function) (hy : env.scope.names.lookup y = some .local) (hl : (py.line == pos.line) = true)
    (ha : (scope.names.any fun (n, k) => n == y && (k == .local || k == .cell)) = false) : swapsWith (.SetComp elt gs scope pos) (some (.Name y py)) l env = pure true := by
  have ky : env.kindOf y = some .local := hy
  have hb : env.blockKind = .function := by unfold Env.blockKind; rw [hk]; rfl
  unfold swapsWith
  simp only [hb, ky, ha, Expr.pos, hl]
  rfl
end Pn
/-! #### W10 -/
namespace Pn
open PySem PySem.Spec PyProof.Rows L2
/-! ### cover, flow -/
def coverF (col : Str) (price : Int) (sa pa : Addr) : List (Str × V) := [("column", .str col), ("price", .int price), ("sides", .ref sa), ("packing", .ref pa)]
def flowF (pl sd rd : Addr) : List (Str × V) := [("pairs", .ref pl), ("sent", .ref sd), ("room", .ref rd)]
structure FlowS (K : PySem.W.Frag) (H : Hp) (p dx pl sd rd : Addr) (ps : List Pr) : Prop where
  at_ : H p = some (.ins (cA K "Flow") dx (flowF pl sd rd))
  prs : ∃ vs, H pl = some (.lst vs) ∧ IsPs H vs ps
  ne : sd ≠ rd
/-- a dict of whole numbers, by its keys and a function -/
def DFn (H : Hp) (a : Addr) (ks : List Pr) (f : Pr → Int) : Prop := ∃ m, DInt H a m ∧ m.map Prod.fst = ks ∧ ∀ k ∈ ks, look m k = some (f k)
structure Th (P : Program) (K : PySem.W.Frag) (mg : Str → Option Value) : Prop where
  tg : Tg P K mg
  flow : Own K mg "Flow"
  cover : Own K mg "Cover"
  nF : ∀ f ∈ (["pairs", "sent", "room"] : List Str), NoAttr K (cA K "Flow") f
  nC : ∀ f ∈ (["column", "price", "sides", "packing"] : List Str), NoAttr K (cA K "Cover") f
  cover_init : ∃ f, Mk K (cA K "Cover") f ∧ FnAt K "__init__" "Cover.__init__" s_Cover_init f
  flow_init : ∃ f, Mk K (cA K "Flow") f ∧ FnAt K "__init__" "Flow.__init__" s_Flow_init f
  trails : MetAt K (cA K "Flow") "trails" "Flow.trails" s_Flow_trails
  grow : MetAt K (cA K "Flow") "grow" "Flow.grow" s_Flow_grow
  finish : MetAt K (cA K "Flow") "finish" "Flow.finish" s_Flow_finish
theorem DInt.same {H H' : Hp} {a : Addr} {m : List (Pr × Int)} (s : Same H H') (h : DInt H a m) : DInt H' a m := s _ _ h
theorem DFn.same {H H' : Hp} {a : Addr} {ks : List Pr} {f : Pr → Int} (s : Same H H') (h : DFn H a ks f) : DFn H' a ks f := by
  obtain ⟨m, h1, h2⟩ := h
  exact ⟨m, h1.same s, h2⟩
theorem FlowS.same {K : PySem.W.Frag} {H H' : Hp} {p dx pl sd rd : Addr} {ps : List Pr} (s : Same H H') (h : FlowS K H p dx pl sd rd ps) : FlowS K H' p dx pl sd rd ps := by
  obtain ⟨vs, h1, h2⟩ := h.prs
  exact ⟨s _ _ h.at_, ⟨vs, s _ _ h1, h2.mono s⟩, h.ne⟩
theorem ndt_tup {m : List (List L2.Key × V)} : ∀ xs, (HO.dT m) ≠ .tup xs := fun xs z => by cases z
theorem ndt_ins {m : List (List L2.Key × V)} : ∀ C dx fs, (HO.dT m) ≠ .ins C dx fs := fun _ _ _ z => by cases z
/-- zeros for all of a list of unlike pairs -/
theorem dc_zero {K : PySem.W.Frag} {H1 : Hp} {l D : Addr} {vs : List V} {ps : List Pr} {σ : L2.St} {j : Nat} {Nx : Hp → Prop} (hl : H1 l = some (.lst vs)) (hp : IsPs H1 vs ps) (nd : ps.Nodup) (hn : ps.length ≤ 1000) (hD : H1 D = none) (hj : j < σ.length)
    (h : Nx (upd H1 D (.dT (kvG V.int (ps.map fun p => (p, 0)))))) : tTurns (Itl K l) (gName j) tYes (tPutT (tVar j) (tC (.int 0)) D) [j] σ (upd H1 D (.dT [])) Nx := by
  have hlen : vs.length = ps.length := Paired.length hp
  have nlD : l ≠ D := ne_of_none hl hD
  refine ⟨fun i m H => m = vs.length - i ∧ i ≤ vs.length ∧ H = upd H1 D (.dT (kvG V.int ((ps.take i).map fun p => (p, 0)))), ⟨_, rfl, Nat.zero_le _, rfl⟩, ?_⟩
  rintro i m H ⟨rfl, hi, rfl⟩
  have hsq : SqL K (upd H1 D (.dT (kvG V.int ((ps.take i).map fun p => (p, 0))))) l vs := .inl (.inl (by rw [upd_ne nlD]; exact hl))
  by_cases hlt : i < vs.length
  · refine .inr ⟨(walk_list (K := K) (xs := vs)).goes i _ hlt hsq, fun H' => H' = upd H1 D (.dT (kvG V.int ((ps.take (i + 1)).map fun p => (p, 0)))), fun H' e => ⟨vs.length - (i + 1), by omega, rfl, hlt, e⟩, fun x H' y => ?_⟩
    obtain ⟨rfl, hx⟩ := (walk_list (K := K) (xs := vs)).yields i _ x H' hlt hsq y
    obtain ⟨p, hpi, b, rfl, hb⟩ := Paired.get hp hx
    have hbD : b ≠ D := ne_of_none hb hD
    have hpl : i < ps.length := by omega
    have htk : ps.take (i + 1) = ps.take i ++ [p] := by
      rw [List.take_succ_eq_append_getElem hpl, (List.getElem?_eq_some_iff.mp hpi).2]
    refine ⟨?_, yes_ofL (σ := σ) ?_⟩
    · show ((σ.set j none).set j _).set j none = σ.set j none
      rw [List.set_set, List.set_set]
    · refine ⟨_, ?_, b, kvG V.int ((ps.take i).map fun p => (p, 0)), kP p, rfl, by rw [upd_ne hbD]; exact hb, upd_same, by unfold kvG; rw [List.length_map, List.length_map, List.length_take]; exact small1000 (by omega), ?_⟩
      · show ((σ.set j none).set j _)[j]? = _
        rw [List.getElem?_set_self (by rw [List.length_set]; exact hj)]
      · rw [putK_kvG, upd_upd, htk, List.map_append]
        have hno : ¬ ((((ps.take i).map fun p => (p, (0 : Int))).any fun e => decide (e.1 = p)) = true) := fun z => by
          obtain ⟨e, he, h2⟩ := List.any_eq_true.mp z
          obtain ⟨q, hq, rfl⟩ := List.mem_map.mp he
          have e2 : q = p := of_decide_eq_true h2
          subst e2
          obtain ⟨jj, hjj⟩ := List.mem_iff_getElem?.mp hq
          rw [List.getElem?_take] at hjj
          split at hjj
          · rename_i hlt2
            obtain ⟨a1, b1⟩ := List.getElem?_eq_some_iff.mp hjj
            obtain ⟨a2, b2⟩ := List.getElem?_eq_some_iff.mp hpi
            exact absurd (b1.trans b2.symm) (List.pairwise_iff_getElem.mp nd jj i a1 a2 hlt2)
          · cases hjj
        unfold put
        rw [if_neg hno]
        rfl
  · have e : i = vs.length := by omega
    subst e
    refine .inl ⟨(walk_list (K := K) (xs := vs)).stops _ hsq, ?_⟩
    rw [hlen, List.take_length]
    exact h
theorem look_zero {ps : List Pr} {p : Pr} (h : p ∈ ps) : look (ps.map fun p => (p, (0 : Int))) p = some 0 := by
  induction ps with
  | nil => cases h
  | cons q ps ih =>
    unfold look at *
    by_cases hq : q = p
    · rw [List.map_cons, List.find?_cons_of_pos (by simpa using hq)]; rfl
    · rw [List.map_cons, List.find?_cons_of_neg (by simpa using hq)]
      rcases List.mem_cons.mp h with z | z
      · exact absurd z.symm hq
      · exact ih z
section
variable {P : Program} {w : World} {K : PySem.W.Frag} {mg : Str → Option Value} {base : Heap}
def sp_cover_init (K : PySem.W.Frag) : Sp := fun vs H Q _ => ∃ (H0 : Hp) (p dx sa pa : Addr) (col : Str) (price : Int), vs = [.ref p, .str col, .int price, .ref sa, .ref pa] ∧ Same H0 H ∧ H0 p = none ∧ H p = some (.ins (cA K "Cover") dx []) ∧ ∀ H', Same H0 H' → H' p = some (.ins (cA K "Cover") dx (coverF col price sa pa)) → Q .non H'
theorem ok_cover_init (T : Th P K mg) : ∃ f fd, Mk K (cA K "Cover") f ∧ FnOk P w K mg base CX0 1 f fd p_Cover_init (sp_cover_init K) ∧ Binds K fd p_Cover_init [] := by
  obtain ⟨f, M, oc, od, kV, doc, pm, an, cdv, ct, osl, lk, hcd⟩ := T.cover_init
  refine ⟨f, _, M, fn_of lk hcd sc_Cover_init (fun vs H Q E ⟨_, _, _, _, _, _, _, e, _⟩ => by rw [e]; rfl) (fun A outer s H vs Q E hr hsp => ?_), .all fun us hl => match us, hl with | [_, _, _, _, _], _ => rfl⟩
  obtain ⟨H0, p, dx, sa, pa, col, price, rfl, s0, p0, hp, k⟩ := hsp
  refine ⟨_, PSs.nox (pss_cons (ps_fld (pv 0) (pv 1) rfl) (pss_cons (ps_fld (pv 0) (pv 2) rfl) (pss_cons (ps_fld (pv 0) (pv 3) rfl) (pss_one (ps_fld (pv 0) (pv 4) rfl))))), ?_⟩
  refine ⟨_, rfl, _, rfl, p, _, dx, [], rfl, hp, T.cover.cl, T.nC _ (by simp), (by show 0 < 1000; decide), ?_⟩
  refine ⟨_, rfl, _, rfl, p, _, dx, _, rfl, upd_same, T.cover.cl, T.nC _ (by simp), (by show 1 < 1000; decide), ?_⟩
  refine ⟨_, rfl, _, rfl, p, _, dx, _, rfl, upd_same, T.cover.cl, T.nC _ (by simp), (by show 2 < 1000; decide), ?_⟩
  refine ⟨_, rfl, _, rfl, p, _, dx, _, rfl, upd_same, T.cover.cl, T.nC _ (by simp), (by show 3 < 1000; decide), ?_⟩
  refine k _ (fun b u e => ?_) upd_same
  have nb : b ≠ p := fun z => by rw [z, p0] at e; cases e
  rw [upd_ne nb, upd_ne nb, upd_ne nb, upd_ne nb]
  exact s0 _ _ e
/-- each of L is put with its worth -/
structure PutOk (f : Pr → Int) (L : List Pr) (m : List (Pr × Int)) : Prop where
  nd : (m.map Prod.fst).Nodup
  mem : ∀ e, e ∈ m.map Prod.fst ↔ e ∈ L
  val : ∀ e ∈ L, look m e = some (f e)
  len : m.length ≤ L.length
theorem PutOk.nil (f : Pr → Int) : PutOk f [] [] := ⟨by simp, by simp, by simp, Nat.le_refl _⟩
theorem PutOk.put {f : Pr → Int} {L : List Pr} {m : List (Pr × Int)} (h : PutOk f L m) (e : Pr) : PutOk f (L ++ [e]) (put m e (f e)) := by
  refine ⟨?_, fun x => ?_, fun x hx => ?_, ?_⟩
  · rw [put_keys]
    split
    · exact h.nd
    · rename_i hn
      exact List.nodup_append.mpr ⟨h.nd, by simp, fun a ha b hb => by
        have : b = e := by simpa using hb
        rw [this]
        exact fun z => hn (z ▸ ha)⟩
  · rw [put_keys, List.mem_append, List.mem_singleton]
    split
    · rename_i hn
      rw [h.mem]
      exact ⟨fun z => .inl z, fun z => z.elim id fun z => by rw [z]; exact (h.mem e).mp hn⟩
    · rw [List.mem_append, List.mem_singleton, h.mem]
  · rw [look_put]
    by_cases z : x = e
    · rw [if_pos z, z]
    · rw [if_neg z]
      rcases List.mem_append.mp hx with y | y
      · exact h.val x y
      · exact absurd (by simpa using y) z
  · rw [List.length_append, List.length_singleton]
    have := put_len m e (f e)
    have := h.len
    omega
def endsL (ps : List Pr) : List Pr := ps.flatMap fun p => [nw p, od p]
theorem endsL_len (ps : List Pr) : (endsL ps).length = 2 * ps.length := by
  unfold endsL
  induction ps with
  | nil => rfl
  | cons p ps ih => rw [List.flatMap_cons, List.length_append, ih, List.length_cons]; simp; omega
theorem endsL_mem {ps : List Pr} {e : Pr} : e ∈ endsL ps ↔ ∃ p ∈ ps, e = nw p ∨ e = od p := by
  unfold endsL
  rw [List.mem_flatMap]
  simp
def sp_flow_init (K : PySem.W.Frag) : Sp := fun vs H Q _ => ∃ (H0 : Hp) (p dx pl : Addr) (v : V) (d : Int) (m : List (Pr × Int)) (vs' : List V) (ps : List Pr), vs = [.ref p, .ref pl, v] ∧ Same H0 H ∧ H0 p = none ∧ H p = some (.ins (cA K "Flow") dx []) ∧ H0 pl = some (.lst vs') ∧ IsPs H0 vs' ps ∧ ps.Nodup ∧ ps.length ≤ 64 ∧
  (∀ q ∈ ps, Nm q.1 ∧ Nm q.2) ∧ PriceAt K H0 v d m ∧ ∀ H' sd rd es, Same H0 H' → H0 sd = none → H0 rd = none → FlowS K H' p dx pl sd rd ps → DFn H' sd ps (fun _ => 0) → DFn H' rd es (prc d m) → es.Nodup → (∀ e, e ∈ es ↔ ∃ q ∈ ps, e = nw q ∨ e = od q) → es.length ≤ 128 → Q .non H'
theorem ok_flow_init (T : Th P K mg) : ∃ f fd, Mk K (cA K "Flow") f ∧ FnOk P w K mg base CX0 6 f fd p_Flow_init (sp_flow_init K) ∧ Binds K fd p_Flow_init [] := by
  obtain ⟨f, M, oc, od_, kV, doc, pm, an, cdv, ct, osl, lk, hcd⟩ := T.flow_init
  refine ⟨f, _, M, fn_of lk hcd sc_Flow_init (fun vs H Q E ⟨_, _, _, _, _, _, _, _, _, e, _⟩ => by rw [e]; rfl) (fun A outer s H vs Q E hr hsp => ?_), .all fun us hl => match us, hl with | [_, _, _], _ => rfl⟩
  obtain ⟨H0, p, dx, pl, v, d, m, vs', ps, rfl, s0, p0, hp, hpl, hps, nd, hl, hnm, hv, k⟩ := hsp
  have B := T.tg.tf.tb.te.td.tc.tw.bt
  have c_ends_of := ok_ends_of (P := P) (w := w) (base := base) T.tg.tf
  obtain ⟨g, fdg, G, F, bF⟩ := ok_prices_get (P := P) (w := w) (base := base) T.tg
  refine ⟨_, PSs.nox (pss_cons (ps_fld (pv 0) (pv 1) rfl) (pss_cons (ps_fld (pv 0) (pe_dcT (own := [("pair", 3)]) (hu_of hr) rfl sc_Flow_init.nd (pi_listK K (pv 1)) (blkOk_by (N := n_Flow_init) (sc := defScope s_Flow_init) (by decide +kernel)) (fun _ _ _ _ _ => (gnm 3 sc_Flow_init.nd)) (fun _ _ _ _ _ => pts_nil) (fun _ _ _ _ _ => (pv 3)) (fun _ _ _ _ _ => pe_int)) rfl) (pss_cons (ps_fld (pv 0) pe_dnewT rfl) (pss_one (ps_for PassesOwn.never rfl (pi_listK K (pv 1)) (gnm 3 sc_Flow_init.nd) (pss_one (ps_for PassesOwn.never rfl (pi_tupK K (pe_k c_ends_of hr (by decide) rfl (pa_cons (pv 3) pa_nil))) (gnm 4 sc_Flow_init.nd) (pss_one (ps_dput (hu_of hr) (fldK K (pv 0) rfl) (pv 4) (pe_ownix G F bF hr (pv 2) (pe_tup (pa_cons (pe_ix (ix_tupK K) (pv 4) pe_int (fun _ _ => rfl)) (pa_cons (pe_ix (ix_tupK K) (pv 4) pe_int (fun _ _ => rfl)) pa_nil)))) rfl))))))))), ?_⟩
  have hlen : vs'.length = ps.length := Paired.length hps
  -- self.pairs
  refine ⟨_, rfl, _, rfl, p, _, dx, [], rfl, hp, T.flow.cl, T.nF _ (by simp), (by show 0 < 1000; decide), ?_⟩
  have n1 : ∀ b o, H0 b = some o → upd H p (.ins (cA K "Flow") dx (putF "pairs" (.ref pl) [])) b = some o := fun b o e => by
    have nb : b ≠ p := fun z => by rw [z, p0] at e; cases e
    rw [upd_ne nb]; exact s0 _ _ e
  have hp1 := upd_same (H := H) (a := p) (o := .ins (cA K "Flow") dx (putF "pairs" (.ref pl) []))
  revert n1 hp1
  generalize upd H p (.ins (cA K "Flow") dx (putF "pairs" (.ref pl) [])) = H1
  intro n1 hp1
  -- self.sent
  refine ⟨_, rfl, pl, rfl, ⟨_, .inl (.inl (n1 _ _ hpl))⟩, fun sd hsd => dc_zero (n1 _ _ hpl) (hps.mono n1) nd (by omega) hsd (by show 3 < 5; decide) ?_⟩
  have nps : p ≠ sd := ne_of_none hp1 hsd
  have sd0 : H0 sd = none := (Fr.of (E := Ex0) n1).free hsd
  refine ⟨_, rfl, p, _, dx, _, rfl, (by rw [upd_ne nps]; exact hp1), T.flow.cl, T.nF _ (by simp), (by show 1 < 1000; decide), ?_⟩
  -- self.room
  intro rd hrd
  have nsr : sd ≠ rd := fun z => by
    rw [← z, upd_ne nps.symm, upd_same] at hrd; cases hrd
  have npr : p ≠ rd := fun z => by rw [← z, upd_same] at hrd; cases hrd
  refine ⟨_, rfl, p, _, dx, _, rfl, (by rw [upd_ne npr]; exact upd_same), T.flow.cl, T.nF _ (by simp), (by show 2 < 1000; decide), ?_⟩
  have hrd1 : H1 rd = none := by
    rw [upd_ne npr.symm, upd_ne nsr.symm] at hrd; exact hrd
  have rd0 : H0 rd = none := (Fr.of (E := Ex0) n1).free hrd1
  have n2 : Same H0 (upd (upd (upd (upd H1 sd (.dT (kvG V.int (ps.map fun p => (p, 0))))) p (.ins (cA K "Flow") dx (putF "sent" (.ref sd) (putF "pairs" (.ref pl) [])))) rd (.dT [])) p (.ins (cA K "Flow") dx (flowF pl sd rd))) :=
    (((((Fr.of (E := Ex0) n1).put sd0).put p0).put rd0).put p0).same
  have hpF : upd (upd (upd (upd H1 sd (.dT (kvG V.int (ps.map fun p => (p, 0))))) p (.ins (cA K "Flow") dx (putF "sent" (.ref sd) (putF "pairs" (.ref pl) [])))) rd (.dT [])) p (.ins (cA K "Flow") dx (flowF pl sd rd)) p = some (.ins (cA K "Flow") dx (flowF pl sd rd)) := upd_same
  have hsF : DInt (upd (upd (upd (upd H1 sd (.dT (kvG V.int (ps.map fun p => (p, 0))))) p (.ins (cA K "Flow") dx (putF "sent" (.ref sd) (putF "pairs" (.ref pl) [])))) rd (.dT [])) p (.ins (cA K "Flow") dx (flowF pl sd rd))) sd (ps.map fun p => (p, 0)) := by
    show upd _ p _ sd = _
    rw [upd_ne nps.symm, upd_ne nsr, upd_ne nps.symm, upd_same]
  have hrF : DInt (upd (upd (upd (upd H1 sd (.dT (kvG V.int (ps.map fun p => (p, 0))))) p (.ins (cA K "Flow") dx (putF "sent" (.ref sd) (putF "pairs" (.ref pl) [])))) rd (.dT [])) p (.ins (cA K "Flow") dx (flowF pl sd rd))) rd [] := by
    show upd _ p _ rd = _
    rw [upd_ne npr.symm, upd_same]; rfl
  show tSeq _ _ _ _ (upd (upd (upd (upd H1 sd (.dT (kvG V.int (ps.map fun p => (p, 0))))) p (.ins (cA K "Flow") dx (putF "sent" (.ref sd) (putF "pairs" (.ref pl) [])))) rd (.dT [])) p (.ins (cA K "Flow") dx (flowF pl sd rd)))
  revert n2 hpF hsF hrF
  generalize upd (upd (upd (upd H1 sd (.dT (kvG V.int (ps.map fun p => (p, 0))))) p (.ins (cA K "Flow") dx (putF "sent" (.ref sd) (putF "pairs" (.ref pl) [])))) rd (.dT [])) p (.ins (cA K "Flow") dx (flowF pl sd rd)) = H2
  intro n2 hpF hsF hrF
  have vl : ps.length = vs'.length := hlen.symm
  let es0 : Nat → List Pr := fun i => endsL (ps.take i)
  let Pv : Nat → L2.St → Hp → Prop := fun i σ H' => (∃ o1 o2, σ = [some (.ref p), some (.ref pl), some v, o1, o2]) ∧ Same H0 H' ∧ H' p = some (.ins (cA K "Flow") dx (flowF pl sd rd)) ∧ DInt H' sd (ps.map fun p => (p, 0)) ∧ ∃ mr, DInt H' rd mr ∧ PutOk (prc d m) (endsL (ps.take i)) mr
  refine ⟨_, rfl, pl, rfl, ⟨vs', .inl (.inl (n2 _ _ hpl))⟩, for_it (walk_list (xs := vs')) Pv ⟨⟨_, _, rfl⟩, n2, hpF, hsF, [], hrF, .nil _⟩ (fun i σ H' _ p => .inl (.inl (p.2.1 _ _ hpl))) ?_ ?_⟩
  · rintro i x σ H3 H4 hi ⟨⟨o1, o2, rfl⟩, s3, hp3, hs3, mr, hr3, pk⟩ ⟨rfl, hx⟩
    obtain ⟨q, hq, b, rfl, hb⟩ := Paired.get hps hx
    have hqi : i < ps.length := (List.getElem?_eq_some_iff.mp hq).1
    have htk : ps.take (i + 1) = ps.take i ++ [q] := by
      rw [List.take_succ_eq_append_getElem hqi, (List.getElem?_eq_some_iff.mp hq).2]
    have e7 : endsL (ps.take (i + 1)) = endsL (ps.take i) ++ [nw q, od q] := by
      unfold endsL
      rw [htk, List.flatMap_append, List.flatMap_cons, List.flatMap_nil, List.append_nil]
    have hqm := List.mem_of_getElem? hq
    have hsd2 : ∀ e ∈ [nw q, od q], SdOk e := fun e he => by
      rcases List.mem_cons.mp he with z | z
      · subst z; exact ⟨.inr rfl, (hnm q hqm).1⟩
      · have : e = od q := by simpa using z
        subst this; exact ⟨.inl rfl, (hnm q hqm).2⟩
    refine ⟨_, rfl, .ref b, q.1, q.2, rfl, ⟨b, rfl, s3 _ _ hb⟩, fun r H5 s5 ⟨us, hr5, hus⟩ => ?_⟩
    have s35 := s3.trans s5
    refine ⟨r, rfl, ⟨us, .inl (.inl hr5)⟩, ?_⟩
    have hul : us.length = 2 := Paired.length hus
    let Pw : Nat → L2.St → Hp → Prop := fun j σ H' => (∃ o2, σ = [some (.ref p), some (.ref pl), some v, some (.ref b), o2]) ∧ Same H0 H' ∧ H' p = some (.ins (cA K "Flow") dx (flowF pl sd rd)) ∧ DInt H' sd (ps.map fun p => (p, 0)) ∧ (H' r = some (.tup us) ∧ IsPs H' us [nw q, od q]) ∧ ∃ mr, DInt H' rd mr ∧ PutOk (prc d m) (endsL (ps.take i) ++ ([nw q, od q] : List Pr).take j) mr
    refine for_it (walk_tup (xs := us)) Pw ⟨⟨_, rfl⟩, s35, s5 _ _ hp3, hs3.same s5, ⟨hr5, hus⟩, mr, hr3.same s5, by simpa using pk⟩ (fun j σ H' _ p => .inl (.inl p.2.2.2.2.1.1)) ?_ ?_
    · rintro j y σ H6 H7 hj ⟨⟨o2, rfl⟩, s6, hp6, hs6, ⟨hr6, hus6⟩, mr6, hm6, pk6⟩ ⟨rfl, hy⟩
      obtain ⟨e, he, c, rfl, hc⟩ := Paired.get hus6 hy
      have hjl : j < ([nw q, od q] : List Pr).length := (List.getElem?_eq_some_iff.mp he).1
      have htj : ([nw q, od q] : List Pr).take (j + 1) = ([nw q, od q] : List Pr).take j ++ [e] := by
        rw [List.take_succ_eq_append_getElem hjl, (List.getElem?_eq_some_iff.mp he).2]
      have hem : e ∈ ([nw q, od q] : List Pr) := List.mem_of_getElem? he
      refine ⟨_, rfl, _, rfl, c, _, 0, _, rfl, rfl, .inl (.inl hc), at0 e, _, rfl, c, _, 1, _, rfl, rfl, .inl (.inl hc), at1 e, (by show 2 ≤ sizeLine; decide), fun t ht => ?_⟩
      have s7 : Same H7 (upd H7 t (.tup [.str e.1, .str e.2])) := (Fr.new (E := Ex0) ht).same
      have hv7 := (hv.same s6).same s7
      obtain ⟨pp, dxx, sa, rfl, hpp, hdd⟩ := id hv7
      refine ⟨pp, _, _, rfl, hpp, _, _, d, m, e, rfl, hv7, ⟨t, rfl, upd_same⟩, hsd2 e hem, fun H8 s8 => ?_⟩
      have s78 := s7.trans s8
      refine ⟨_, rfl, p, _, dx, _, _, rfl, s78 _ _ hp6, T.flow.cl, T.nF _ (by simp), (show (flowF pl sd rd).lookup ("room" : Str) = some (.ref rd) from rfl), _, rfl, rd, _, rfl, DInt.put (p := e) (hm6.same s78) (s78 _ _ hc) ?_, ?_⟩
      · have h1 := pk6.len
        rw [List.length_append, endsL_len, List.length_take, List.length_take] at h1
        have h2 : min j ([nw q, od q] : List Pr).length ≤ 2 := Nat.min_le_right _ _
        omega
      · have s08 := s6.trans s78
        refine ⟨⟨_, rfl⟩, ((Fr.of (E := Ex0) s08).put rd0).same, ?_, ?_, ⟨?_, ?_⟩, _, upd_same, ?_⟩
        · rw [upd_ne npr]; exact s78 _ _ hp6
        · show upd _ rd _ sd = _
          rw [upd_ne nsr]; exact s78 _ _ hs6
        · rw [upd_ne (ne_of hr6 hm6 (by intro z; cases z))]; exact s78 _ _ hr6
        · exact IsPs.at (s78 _ _ hm6) (by intro xs z; cases z) (hus6.mono s78)
        · rw [htj, ← List.append_assoc]
          exact pk6.put e
    · rintro σ H6 ⟨⟨o2, rfl⟩, s6, hp6, hs6, ⟨hr6, hus6⟩, mr6, hm6, pk6⟩
      rw [hul] at pk6
      exact ⟨⟨_, _, rfl⟩, s6, hp6, hs6, mr6, hm6, by rw [e7]; exact pk6⟩
  · rintro σ H3 ⟨⟨o1, o2, rfl⟩, s3, hp3, hs3, mr, hr3, pk⟩
    rw [hlen, List.take_length] at pk
    refine k H3 sd rd (mr.map Prod.fst) s3 sd0 rd0 ⟨hp3, ⟨vs', s3 _ _ hpl, hps.mono s3⟩, nsr⟩ ⟨_, hs3, by rw [List.map_map]; simp [Function.comp_def], fun e he => look_zero he⟩ ⟨mr, hr3, rfl, fun e he => pk.val e ((pk.mem e).mp he)⟩ pk.nd (fun e => by rw [pk.mem, endsL_mem]) ?_
    have h1 := pk.len
    rw [endsL_len] at h1
    rw [List.length_map]
    omega
end
end Pn
/-! #### W11 -/
namespace Pn
open PySem PySem.Spec PyProof.Rows L2
/-! ### trails -/
def OptP (H : Hp) (v : V) : Option Pr → Prop
  | none => v = .non
  | some p => IsP H v p
theorem OptP.mono {H H' : Hp} {v : V} {o : Option Pr} (s : Same H H') (h : OptP H v o) : OptP H' v o := by
  cases o with
  | none => exact h
  | some p => exact IsP.mono s h
theorem OptP.upd {H : Hp} {v : V} {o : Option Pr} {a : Addr} {u w : HO} (e : H a = some u) (n : ∀ xs, u ≠ .tup xs) (h : OptP H v o) : OptP (upd H a w) v o := by
  cases o with
  | none => exact h
  | some p =>
    obtain ⟨b, e2, hb⟩ := h
    exact ⟨b, e2, by rw [upd_ne (ne_of hb e fun z => n _ z.symm)]; exact hb⟩
def TrR (H : Hp) (a : Pr × V) (b : Pr × Option Pr) : Prop := a.1 = b.1 ∧ OptP H a.2 b.2
def DTr (H : Hp) (fd : Addr) (tr : Trs) : Prop := ∃ m : List (Pr × V), H fd = some (.dT (kvG id m)) ∧ Paired (TrR H) m tr
theorem DTr.same {H H' : Hp} {fd : Addr} {tr : Trs} (s : Same H H') (h : DTr H fd tr) : DTr H' fd tr := by
  obtain ⟨m, h1, h2⟩ := h
  exact ⟨m, s _ _ h1, Paired.mono (fun a b r => ⟨r.1, r.2.mono s⟩) h2⟩
theorem DTr.keep {H : Hp} {fd a : Addr} {tr : Trs} {u w : HO} (h : DTr H fd tr) (e : H a = some u) (hne : fd ≠ a) (n : ∀ xs, u ≠ .tup xs) : DTr (upd H a w) fd tr := by
  obtain ⟨m, h1, h2⟩ := h
  exact ⟨m, by rw [upd_ne hne]; exact h1, Paired.mono (fun a b r => ⟨r.1, r.2.upd e n⟩) h2⟩
theorem TrR.keys {H : Hp} {tr : Trs} {m : List (Pr × V)} (h2 : Paired (TrR H) m tr) : m.map Prod.fst = keys tr := by
  induction h2 with
  | nil => rfl
  | cons h t ih => unfold Pn.keys at *; rw [List.map_cons, List.map_cons, ih, h.1]
theorem DTr.has {H : Hp} {fd b : Addr} {tr : Trs} {p : Pr} (h : DTr H fd tr) (hb : H b = some (.tup (vP p))) : ∃ o, DGet H fd (.ref b) o ∧ o.isSome = decide (p ∈ keys tr) := by
  obtain ⟨m, h1, h2⟩ := h
  refine ⟨_, DGet.t (k := kP p) h1 hb, ?_⟩
  rw [valV_kvG, Option.isSome_map, Bool.eq_iff_iff, decide_eq_true_iff, look_some, TrR.keys h2]
theorem look_at {α : Type} {m : List (Pr × α)} (nd : (m.map Prod.fst).Nodup) {i : Nat} {p : Pr} {v : α} (h : m[i]? = some (p, v)) : look m p = some v := by
  induction m generalizing i with
  | nil => simp at h
  | cons e m ih =>
    unfold look at *
    cases i with
    | zero =>
      simp at h
      subst h
      rw [List.find?_cons_of_pos (by simp)]; rfl
    | succ i =>
      have h : m[i]? = some (p, v) := by simpa using h
      have hn := List.nodup_cons.mp nd
      have : ¬ e.1 = p := fun z => hn.1 (z ▸ List.mem_map.mpr ⟨_, List.mem_of_getElem? h, rfl⟩)
      rw [List.find?_cons_of_neg (by simpa using this)]
      exact ih hn.2 h
theorem DTr.get {H : Hp} {fd b : Addr} {tr : Trs} {p : Pr} {o : Option Pr} {i : Nat} (h : DTr H fd tr) (nd : (keys tr).Nodup) (hb : H b = some (.tup (vP p))) (ht : tr[i]? = some (p, o)) : ∃ v, DGet H fd (.ref b) (some v) ∧ OptP H v o := by
  obtain ⟨m, h1, h2⟩ := h
  obtain ⟨⟨q, v⟩, hm, r1, r2⟩ := Paired.get' h2 ht
  have r1 : q = p := r1
  subst r1
  refine ⟨v, ?_, r2⟩
  have := DGet.t (k := kP q) h1 hb
  rw [valV_kvG, look_at (by rw [TrR.keys h2]; exact nd) hm] at this
  exact this
theorem put_new {α : Type} {m : List (Pr × α)} {p : Pr} {v : α} (h : p ∉ m.map Prod.fst) : put m p v = m ++ [(p, v)] := by
  unfold put
  rw [if_neg]
  intro z
  obtain ⟨e, he, h2⟩ := List.any_eq_true.mp z
  exact h (List.mem_map.mpr ⟨e, he, of_decide_eq_true h2⟩)
theorem DTr.put {H : Hp} {fd b : Addr} {tr : Trs} {p : Pr} {v : V} {o : Option Pr} (h : DTr H fd tr) (hn : p ∉ keys tr) (hb : H b = some (.tup (vP p))) (hv : OptP H v o) (hl : tr.length ≤ 1000) : ∃ H', DPut H fd (.ref b) v H' ∧ (∃ u, H' = upd H fd u) ∧ DTr H' fd (tr ++ [(p, o)]) := by
  obtain ⟨m, h1, h2⟩ := h
  have hlen : m.length = tr.length := Paired.length h2
  refine ⟨_, DPut.t (k := kP p) h1 hb (by unfold kvG; rw [List.length_map]; exact small1000 (by omega)), ⟨_, rfl⟩, m ++ [(p, v)], ?_, ?_⟩
  · have := putK_kvG id m p v
    rw [show (id v : V) = v from rfl] at this
    rw [this, put_new (by rw [TrR.keys h2]; exact hn)]
    exact upd_same
  · exact Paired.app (Paired.mono (fun a b r => ⟨r.1, r.2.upd h1 (fun xs z => by cases z)⟩) h2) (.cons ⟨rfl, hv.upd h1 (fun xs z => by cases z)⟩ .nil)
theorem DTr.nil {H : Hp} {fd : Addr} (h : H fd = some (.dT [])) : DTr H fd [] := ⟨[], h, .nil⟩
theorem DTr.dt {H : Hp} {fd : Addr} {tr : Trs} (h : DTr H fd tr) : ∃ m, H fd = some (.dT m) := by obtain ⟨m, h, _⟩ := h; exact ⟨_, h⟩
theorem paired2 {α β : Type} {F : α → β → Prop} {l : List α} {x y : β} (h : Paired F l [x, y]) : ∃ a b, l = [a, b] ∧ F a x ∧ F b y := by
  cases h with
  | cons h1 t => cases t with
    | cons h2 t => cases t; exact ⟨_, _, rfl, h1, h2⟩
theorem Done.app {ps : List Pr} {S : Pr → Int} {ks : List Pr} {k : Nat} {x : Pr} (h : Done ps S ks k) (hk : k ≤ ks.length) : Done ps S (ks ++ [x]) k := fun j e hj he p hp => by
  rw [List.getElem?_append_left (by omega)] at he
  obtain ⟨h1, h2⟩ := h j e hj he p hp
  exact ⟨fun z => List.mem_append_left _ (h1 z), fun z y => List.mem_append_left _ (h2 z y)⟩
theorem same_unlock {H H' : Hp} {d : Addr} {u : HO} {o : Obj} (h : H d = some u) (s : Same (upd H d (.frz o u)) H') : Same H (upd H' d u) := fun q v hq => by
  by_cases z : q = d
  · subst z
    rw [h] at hq; cases hq
    exact upd_same
  · rw [upd_ne z]
    exact s _ _ (by rw [upd_ne z]; exact hq)
theorem kvG_at {α : Type} {f : α → V} {m : List (Pr × α)} {i : Nat} {k : List L2.Key} {v : V} (h : (kvG f m)[i]? = some (k, v)) : ∃ e, m[i]? = some e ∧ k = kP e.1 ∧ v = f e.2 := by
  unfold kvG at h
  rw [List.getElem?_map] at h
  obtain ⟨e, he, z⟩ := Option.map_eq_some_iff.mp h
  cases z
  exact ⟨e, he, rfl, rfl⟩
theorem eqP {K : PySem.W.Frag} {H : Hp} {a b : Addr} {p q : Pr} {Q : VK} (ha : H a = some (.tup (vP p))) (hb : H b = some (.tup (vP q))) (sp : SkP p) (sq : SkP q) (k : Q (.bl (decide (p = q))) H) : rEqD K (.ref a) (.ref b) H Q :=
  ⟨prD2 p, prD2 q, IsP.dp ⟨a, rfl, ha⟩, IsP.dp ⟨b, rfl, hb⟩, prD2_shaped sp, prD2_shaped sq, by rw [prD2_eqv]; exact k⟩
/-- the room as a locked dict, or a plain one -/
def RdInt (H : Hp) (a : Addr) (m : List (Pr × Int)) : Prop := Rd H a (.dT (kvG V.int m))
theorem RdInt.get {H : Hp} {a b : Addr} {m : List (Pr × Int)} {p : Pr} (h : RdInt H a m) (hb : H b = some (.tup (vP p))) : DGet H a (.ref b) ((look m p).map V.int) := by
  rw [← valV_kvG]
  exact .inr ⟨_, kP p, b, h, rfl, hb, rfl⟩
theorem RdInt.at {H : Hp} {a b : Addr} {m : List (Pr × Int)} {p : Pr} {i : Int} (h : RdInt H a m) (hb : H b = some (.tup (vP p))) (e : look m p = some i) : DGet H a (.ref b) (some (.int i)) := by
  have := h.get hb
  rw [e] at this
  exact this
theorem DInt.at {H : Hp} {a b : Addr} {m : List (Pr × Int)} {p : Pr} {i : Int} (h : DInt H a m) (hb : H b = some (.tup (vP p))) (e : look m p = some i) : DGet H a (.ref b) (some (.int i)) := RdInt.at (.inl h) hb e
/-- what a flow is given -/
structure FlG (ps es : List Pr) : Prop where
  nm : ∀ q ∈ ps, Nm q.1 ∧ Nm q.2
  nd : ps.Nodup
  few : ps.length ≤ 64
  end_ : es.Nodup
  efew : es.length ≤ 128
  mem : ∀ e, e ∈ es ↔ ∃ q ∈ ps, e = nw q ∨ e = od q
theorem sk_new : Sk "new" := by unfold Sk; decide +kernel
theorem sk_old : Sk "old" := by unfold Sk; decide +kernel
theorem FlG.sk {ps es : List Pr} (G : FlG ps es) {e : Pr} (h : e ∈ es) : SkP e := by
  obtain ⟨q, hq, z⟩ := (G.mem e).mp h
  rcases z with rfl | rfl
  · exact ⟨sk_new, (G.nm q hq).1.sk⟩
  · exact ⟨sk_old, (G.nm q hq).2.sk⟩
theorem FlG.tag {ps es : List Pr} (G : FlG ps es) {e : Pr} (h : e ∈ es) : e.1 = "old" ∨ e.1 = "new" := by
  obtain ⟨q, hq, z⟩ := (G.mem e).mp h
  rcases z with rfl | rfl
  · exact .inr rfl
  · exact .inl rfl
def isNew (R : Pr → Int) (e : Pr) : Bool := decide (e.1 = ("new" : Str)) && decide (0 < R e)
def start0 (es : List Pr) (R : Pr → Int) : Trs := (es.filter (isNew R)).map fun e => (e, none)
theorem keys_start0 (es : List Pr) (R : Pr → Int) : keys (start0 es R) = es.filter (isNew R) := by
  unfold keys start0
  rw [List.map_map]
  simp [Function.comp_def]
theorem start0_ok {ps es : List Pr} {S R : Pr → Int} (nd : es.Nodup) : TrailOk ps es S R (start0 es R) := by
  refine ⟨?_, fun e he => ?_, fun i e o hi => ?_, fun e he h1 h2 => ?_⟩
  · rw [keys_start0]; exact List.Nodup.sublist List.filter_sublist nd
  · rw [keys_start0] at he; exact (List.mem_filter.mp he).1
  · have := List.mem_of_getElem? hi
    unfold start0 at this
    obtain ⟨x, hx, z⟩ := List.mem_map.mp this
    cases z
    have := (List.mem_filter.mp hx).2
    unfold isNew at this
    rw [Bool.and_eq_true] at this
    exact ⟨of_decide_eq_true this.1, of_decide_eq_true this.2⟩
  · rw [keys_start0]
    exact List.mem_filter.mpr ⟨he, by unfold isNew; rw [decide_eq_true h1, decide_eq_true h2]; rfl⟩
theorem TrailOk.len {ps es : List Pr} {S R : Pr → Int} {tr : Trs} (T : TrailOk ps es S R tr) : tr.length ≤ es.length := by
  have := nodup_len T.nd T.sub
  unfold keys at this
  rw [List.length_map] at this
  exact this
section
variable {P : Program} {w : World} {K : PySem.W.Frag} {mg : Str → Option Value} {base : Heap}
def sp_trails (K : PySem.W.Frag) : Sp := fun vs H Q _ => ∃ (p dx pl sd rd : Addr) (ps es : List Pr) (S R : Pr → Int), vs = [.ref p] ∧ FlowS K H p dx pl sd rd ps ∧ DFn H sd ps S ∧ DFn H rd es R ∧ FlG ps es ∧
  ∀ H' fd tr, Same H H' → H fd = none → DTr H' fd tr → TrailOk ps es S R tr → Done ps S (keys tr) tr.length → Q (.ref fd) H'
set_option maxHeartbeats 8000000 in
theorem ok_trails (T : Th P K mg) : Mf P w K mg base 3 (cA K "Flow") "trails" p_Flow_trails (sp_trails K) := by
  refine Mf.of T.trails T.flow.cl sc_Flow_trails ((fun _ _ _ _ _ _ us hl => match us, hl with | [_], _ => rfl)) (fun vs H Q E ⟨_, _, _, _, _, _, _, _, _, e, _⟩ => by rw [e]; rfl) fun f cdv A outer s H vs Q E hr ⟨p, dx, pl, sd, rd, ps, es, S, R, e, hF, hS, hR, G, k⟩ => ?_
  subst e
  have B := T.tg.tf.tb.te.td.tc.tw.bt
  have c_ends_of := ok_ends_of (P := P) (w := w) (base := base) T.tg.tf
  refine ⟨_, (pss_cons (sset 1 sc_Flow_trails.nd pe_dnewT) (pss_cons (ps_lock (ps_setLc (i := 2) (own := [("end", 3)]) rfl sc_Flow_trails.nd rfl rfl (sw_true rfl rfl rfl (by decide +kernel)) (pi_keys (fldK K (pv 0) rfl)) (blkOk_by (N := n_Flow_trails) (sc := defScope s_Flow_trails) (by decide +kernel)) (fun _ _ _ _ _ => (gnm 3 sc_Flow_trails.nd)) (fun _ _ _ _ _ => pts_one (PW.pt (pw_and (pt_cmpR op_eq (pe_ix (ix_tupK K) (pv 3) pe_int (fun _ _ => rfl)) pe_str (nomark _)) (pw_and1 (pt_cmpR op_gt (pe_dget (hu_of hr) (fldK K (pv 0) rfl) (pv 3) (fun _ _ => rfl)) pe_int (nomark _)))))) (fun _ _ _ _ _ => (pv 3)))) (pss_cons (ps_for PassesOwn.never rfl (pi_listK K (pv 2)) (gnm 3 sc_Flow_trails.nd) (pss_one (ps_dput (hu_of hr) (pv 1) (pv 3) pe_non rfl))) (pss_cons (sset 4 sc_Flow_trails.nd pe_int) (pss_cons (ps_while PassesOwn.never (pt_cmpR op_lt (pv 4) (cB (len_seqK K) B.len bb_len (pa_cons (pv 2) pa_nil)) (nomark _)) (pss_cons (ps_for PassesOwn.never rfl (pi_listK K (fldK K (pv 0) rfl)) (gnm 5 sc_Flow_trails.nd) (pss_cons (ps_asg (pe_k c_ends_of hr (by decide) rfl (pa_cons (pv 5) pa_nil)) (pg_tupK K (n := 2) rfl (pgs_cons (gnm 6 sc_Flow_trails.nd) (pgs_cons (gnm 7 sc_Flow_trails.nd) pgs_nil)))) (pss_cons (sset 8 sc_Flow_trails.nd (pe_ifExp (pt_cmpR (op_eqDK K (hu64 hr)) (pe_ix (ix_listK K) (pv 2) (pv 4) (fun _ _ => rfl)) (pv 6) (nomark _)) (pv 7) (pv 6))) (pss_cons (sset 9 sc_Flow_trails.nd (pe_or (pe_cmpR (op_eqDK K (hu64 hr)) (pe_ix (ix_listK K) (pv 2) (pv 4) (fun _ _ => rfl)) (pv 6) (nomark _)) (pe_one (pe_and (pe_cmpR (op_eqDK K (hu64 hr)) (pe_ix (ix_listK K) (pv 2) (pv 4) (fun _ _ => rfl)) (pv 7) (nomark _)) (pe_one (pe_cmpR op_gt (pe_dget (hu_of hr) (fldK K (pv 0) rfl) (pv 5) (fun _ _ => rfl)) pe_int (nomark _))))))) (pss_one (ps_if (PW.pt (pw_and (pt_val (pv 9)) (pw_and1 (pt_cmp (pc_dnotin (hu_of hr) (pv 8) (pv 1)))))) (pss_cons (ps_dput (hu_of hr) (pv 1) (pv 8) (pv 5) rfl) (pss_one (ps_expr (pe_bm PySem.F.plainAttrs_list PySem.F.slot_list_append PySem.F.type_list_append mt_append (pv 2) (pa_cons (pv 8) pa_nil))))) pss_nil)))))) (pss_one (saug 4 sc_Flow_trails.nd pe_int ip_add)))) (pss_one (ps_ret (pv 1)))))))), ?_⟩
  obtain ⟨mS, hmS, kS, vS⟩ := id hS
  obtain ⟨mR, hmR, kR, vR⟩ := id hR
  obtain ⟨vs', hpl, hps⟩ := hF.prs
  have hesl : mR.length ≤ 128 := by
    have := congrArg List.length kR
    rw [List.length_map] at this
    have := G.efew
    omega
  intro fd hfd
  have nrf : rd ≠ fd := ne_of_none hmR hfd
  have s1 : Same H (upd H fd (.dT [])) := (Fr.new (E := Ex0) hfd).same
  have hR1 : upd H fd (.dT []) rd = some (.dT (kvG V.int mR)) := s1 _ _ hmR
  refine ⟨rd, _, hR1, True.intro, fun ob => ?_⟩
  have hp1 : upd (upd H fd (.dT [])) rd (.frz ob (.dT (kvG V.int mR))) p = some (.ins (cA K "Flow") dx (flowF pl sd rd)) := by
    rw [upd_ne (ne_of hF.at_ hmR (by intro z; cases z)), upd_ne (ne_of_none hF.at_ hfd)]; exact hF.at_
  refine ⟨_, rfl, p, _, dx, _, _, rfl, hp1, T.flow.cl, T.nF _ (by simp), (show (flowF pl sd rd).lookup ("room" : Str) = some (.ref rd) from rfl), rd, ob, rfl, .inr ⟨_, upd_same, fun W hW => ?_⟩⟩
  have hlr : (kvG V.int mR).length = mR.length := by unfold kvG; rw [List.length_map]
  refine lc_map (E := Ex0) (walk_keysT (d := rd) (o := ob) (kvs := kvG V.int mR)) (B := Pr) (mR.map Prod.fst) (isNew R) id IsP (by rw [List.length_map, hlr]) hW (by omega) (fun H' f => f.same _ _ upd_same) (fun i H x H' y => by rw [y.1]; exact Fr.refl _ _) (Sta.isP' .e0) (fun _ _ _ _ z => z) ?_ ?_
  · rintro i x H2 H3 e Ky Kn he fr ⟨rfl, k0, v0, q, hk0, rfl, hq⟩ hy hk
    obtain ⟨e0, he0, rfl, rfl⟩ := kvG_at hk0
    have ee : e0.1 = e := by
      rw [List.getElem?_map, he0] at he
      exact Option.some.inj he
    subst ee
    have hq : H3 q = some (.tup (vP e0.1)) := hq
    have hem : e0.1 ∈ es := by rw [← kR]; exact List.mem_map.mpr ⟨_, List.mem_of_getElem? he0, rfl⟩
    refine ⟨rfl, _, rfl, q, _, 0, _, rfl, rfl, .inl (.inl hq), at0 e0.1, rfl, _, rfl, ite2 (fun z => ?_) (fun z => ?_)⟩
    · have z1 : e0.1.1 = ("new" : Str) := V.str.inj (of_decide_eq_true z)
      refine ⟨_, rfl, p, _, dx, _, _, rfl, fr.same _ _ hp1, T.flow.cl, T.nF _ (by simp), (show (flowF pl sd rd).lookup ("room" : Str) = some (.ref rd) from rfl), _, rfl, rd, .int (R e0.1), rfl, RdInt.at (m := mR) (p := e0.1) (.inr ⟨ob, fr.same _ _ upd_same⟩) hq (vR e0.1 hem), _, _, rfl, rfl, _, rfl, ite2 (fun z2 => ?_) (fun z2 => ?_)⟩
      · exact ⟨_, rfl, hy _ _ (by unfold isNew; rw [decide_eq_true z1, z2]; rfl) (Fr.refl _ _) ⟨q, rfl, hq⟩⟩
      · exact hk _ (by unfold isNew; rw [decide_eq_true z1]; simpa using z2) (Fr.refl _ _)
    · refine hk _ ?_ (Fr.refl _ _)
      unfold isNew
      rw [decide_eq_false (fun y => z (decide_eq_true (congrArg V.str y)))]
      rfl
  · intro H2 ys fr hW2 r
    rw [kR, List.map_id] at r
    refine ⟨fr.same _ _ upd_same, ?_⟩
    have nWr : W ≠ rd := (ne_of_none upd_same hW).symm
    have nWf : W ≠ fd := (ne_of_none (by rw [upd_ne nrf.symm]; exact upd_same) hW).symm
    have hWH : H W = none := by
      rw [upd_ne nWr, upd_ne nWf] at hW; exact hW
    have sU := same_unlock hR1 fr.same
    have s4 : Same H (upd H2 rd (.dT (kvG V.int mR))) := s1.trans sU
    have hf4 : DTr (upd H2 rd (.dT (kvG V.int mR))) fd [] := .nil (sU _ _ upd_same)
    have hW4 : upd H2 rd (.dT (kvG V.int mR)) W = some (.lst ys) := by rw [upd_ne nWr]; exact hW2
    have r4 : IsPs (upd H2 rd (.dT (kvG V.int mR))) ys (es.filter (isNew R)) := IsPs.at (fr.same _ _ upd_same) (by intro xs z; cases z) r
    revert s4 hf4 hW4 r4
    generalize upd H2 rd (.dT (kvG V.int mR)) = H4
    intro s4 hf4 hW4 r4
    have fixW : ∀ {H' : Hp}, Same H H' → ∀ u, Same H (upd H' W u) := fun s u => ((Fr.of (E := Ex0) s).put hWH).same
    have fixF : ∀ {H' : Hp}, Same H H' → ∀ u, Same H (upd H' fd u) := fun s u => ((Fr.of (E := Ex0) s).put hfd).same
    have hyl : ys.length = (es.filter (isNew R)).length := Paired.length r4
    let P1 : Nat → L2.St → Hp → Prop := fun i σ H' => (∃ o, σ = [some (.ref p), some (.ref fd), some (.ref W), o, none, none, none, none, none, none]) ∧ Same H H' ∧ H' W = some (.lst ys) ∧ IsPs H' ys (es.filter (isNew R)) ∧ DTr H' fd ((start0 es R).take i)
    refine ⟨_, rfl, W, rfl, ⟨ys, .inl (.inl hW4)⟩, for_it (walk_list (xs := ys)) P1 ⟨⟨_, rfl⟩, s4, hW4, r4, hf4⟩ (fun i σ H' _ p => .inl (.inl p.2.2.1)) ?_ ?_⟩
    · rintro i x σ H5 H6 hi ⟨⟨o, rfl⟩, s5, hW5, r5, hf5⟩ ⟨rfl, hx⟩
      obtain ⟨e, he, b, rfl, hb⟩ := Paired.get r5 hx
      have ht : (start0 es R)[i]? = some (e, none) := by
        unfold start0
        rw [List.getElem?_map, he]; rfl
      have hil : i < (start0 es R).length := (List.getElem?_eq_some_iff.mp ht).1
      have htk : (start0 es R).take (i + 1) = (start0 es R).take i ++ [(e, none)] := by
        rw [List.take_succ_eq_append_getElem hil, (List.getElem?_eq_some_iff.mp ht).2]
      have hn : e ∉ keys ((start0 es R).take i) := fun z => by
        have nd := (start0_ok (ps := ps) (S := S) (R := R) G.end_).nd
        rw [← List.take_append_drop i (start0 es R)] at nd
        unfold keys at nd z
        rw [List.map_append] at nd
        refine (List.nodup_append.mp nd).2.2 e z e ?_ rfl
        refine List.mem_map.mpr ⟨(e, none), ?_, rfl⟩
        refine List.mem_iff_getElem?.mpr ⟨0, ?_⟩
        rw [List.getElem?_drop, Nat.add_zero]
        exact ht
      have hln : ((start0 es R).take i).length ≤ 1000 := by
        have h1 := (start0_ok (ps := ps) (S := S) (R := R) G.end_).len
        have h2 := G.efew
        rw [List.length_take]
        omega
      obtain ⟨H7, hd, ⟨u, rfl⟩, hf7⟩ := hf5.put hn hb (v := .non) (o := none) rfl hln
      have hfd5 : ∃ m, H6 fd = some (.dT m) := by obtain ⟨m, h, _⟩ := hf5; exact ⟨_, h⟩
      obtain ⟨m5, hm5⟩ := hfd5
      refine ⟨_, rfl, _, rfl, fd, _, rfl, hd, ⟨_, rfl⟩, fixF s5 _, ?_, IsPs.at hm5 (by intro xs z; cases z) r5, by rw [htk]; exact hf7⟩
      rw [upd_ne nWf]; exact hW5
    · rintro σ H5 ⟨⟨o, rfl⟩, s5, hW5, r5, hf5⟩
      have hl0 : ys.length = (start0 es R).length := by unfold start0; rw [List.length_map]; exact hyl
      rw [hl0, List.take_length] at hf5
      have T0 := start0_ok (ps := ps) (S := S) (R := R) G.end_
      let St : Nat → Trs → L2.St → Hp → Prop := fun i tr σ H' => ∃ ys o3 o5 o6 o7 o8 o9, σ = [some (.ref p), some (.ref fd), some (.ref W), o3, some (.int i), o5, o6, o7, o8, o9] ∧ Same H H' ∧ H' W = some (.lst ys) ∧ IsPs H' ys (keys tr) ∧ DTr H' fd tr ∧ TrailOk ps es S R tr ∧ Done ps S (keys tr) i
      let Wh : Nat → L2.St → Hp → Prop := fun m σ H' => ∃ i tr, m = es.length - i ∧ i ≤ tr.length ∧ St i tr σ H'
      refine ⟨Wh, ⟨_, 0, start0 es R, rfl, Nat.zero_le _, ys, _, _, _, _, _, _, rfl, s5, hW5, by rw [keys_start0]; exact r5, hf5, T0, fun j e hj => absurd hj (Nat.not_lt_zero _)⟩, ?_⟩
      rintro m σ H6 ⟨i, tr, rfl, hil, ys6, o3, o5, o6, o7, o8, o9, rfl, s6, hW6, r6, hf6, T6, D6⟩
      have hy6 : ys6.length = tr.length := by rw [Paired.length r6]; unfold keys; rw [List.length_map]
      refine ⟨_, rfl, _, rfl, W, ys6, rfl, .inl (.inl (.inl hW6)), _, _, rfl, rfl, _, rfl, ite2 (fun z => ?_) (fun z => ?_)⟩
      · have hilt : i < tr.length := by
          have := of_decide_eq_true z
          omega
        obtain ⟨e, he⟩ : ∃ e, (keys tr)[i]? = some e := ⟨_, List.getElem?_eq_getElem (by unfold keys; rw [List.length_map]; exact hilt)⟩
        have hle := T6.len
        refine ⟨fun σ' H' => ∃ m', m' < es.length - i ∧ Wh m' σ' H', fun _ _ h => h, ?_⟩
        obtain ⟨dx', hdx⟩ : ∃ d, d = dx := ⟨_, rfl⟩
        let P2 : Nat → L2.St → Hp → Prop := fun j σ H' => ∃ tr, St i tr σ H' ∧ (keys tr)[i]? = some e ∧ ∀ k q, k < j → ps[k]? = some q → (e = nw q → od q ∈ keys tr) ∧ (e = od q → 0 < S q → nw q ∈ keys tr)
        refine ⟨_, rfl, p, _, dx, _, _, rfl, s6 _ _ hF.at_, T.flow.cl, T.nF _ (by simp), (show (flowF pl sd rd).lookup ("pairs" : Str) = some (.ref pl) from rfl), pl, rfl, ⟨vs', .inl (.inl (s6 _ _ hpl))⟩, for_it (walk_list (xs := vs')) P2 ⟨tr, ⟨_, _, _, _, _, _, _, rfl, s6, hW6, r6, hf6, T6, D6⟩, he, fun k q hk => absurd hk (Nat.not_lt_zero _)⟩ (fun j σ H' _ ⟨_, ⟨_, _, _, _, _, _, _, _, s7, _⟩, _⟩ => .inl (.inl (s7 _ _ hpl))) ?_ ?_⟩
        · rintro j x σ H7 H8 hj ⟨tr, ⟨ys, o3, o5, o6, o7, o8, o9, rfl, s7, hW7, r7, hf7, T7, D7⟩, he, hdn⟩ ⟨rfl, hx⟩
          obtain ⟨q, hq, b, rfl, hb⟩ := Paired.get hps hx
          have hqm := List.mem_of_getElem? hq
          refine ⟨_, rfl, .ref b, q.1, q.2, rfl, ⟨b, rfl, s7 _ _ hb⟩, fun t H9 s9 ⟨us, ht, hus⟩ => ?_⟩
          obtain ⟨_, _, rfl, ⟨a1, rfl, h1⟩, ⟨a2, rfl, h2⟩⟩ := paired2 hus
          have h1 : H9 a1 = some (.tup (vP (nw q))) := h1
          have h2 : H9 a2 = some (.tup (vP (od q))) := h2
          have s79 := s7.trans s9
          have hW9 := s9 _ _ hW7
          have r9 : IsPs H9 ys (keys tr) := r7.mono s9
          have hf9 := hf7.same s9
          obtain ⟨c, hc, hce⟩ : ∃ c, ys[i]? = some (.ref c) ∧ H9 c = some (.tup (vP e)) := by
            obtain ⟨v, hv, c, rfl, hc⟩ := Paired.get' r9 he
            exact ⟨c, hv, hc⟩
          have hees : e ∈ es := T7.sub e (List.mem_of_getElem? he)
          have he1 : nw q ∈ es := (G.mem _).mpr ⟨q, hqm, .inl rfl⟩
          have he2 : od q ∈ es := (G.mem _).mpr ⟨q, hqm, .inr rfl⟩
          have hat : atI ys (i : Nat) = some (V.ref c) := atI_nat hc
          have hle7 := T7.len
          have hef := G.efew
          refine ⟨t, _, rfl, .inl (.inl ht), rfl, _, _, rfl, _, _, rfl, rfl, ?_⟩
          have hil7 : i < tr.length := by
            have := (List.getElem?_eq_some_iff.mp he).1
            unfold keys at this
            rw [List.length_map] at this
            exact this
          have hk7 : (keys tr).length = tr.length := by unfold keys; rw [List.length_map]
          have step : ∀ ks : List Pr, (∀ x ∈ keys tr, x ∈ ks) → ((e = nw q → od q ∈ ks) ∧ (e = od q → 0 < S q → nw q ∈ ks)) → ∀ k' q', k' < j + 1 → ps[k']? = some q' → (e = nw q' → od q' ∈ ks) ∧ (e = od q' → 0 < S q' → nw q' ∈ ks) := fun ks hks h k' q' hk' hq' => by
            by_cases z : k' = j
            · subst z
              rw [hq] at hq'; cases hq'
              exact h
            · obtain ⟨g1, g2⟩ := hdn k' q' (by omega) hq'
              exact ⟨fun y => hks _ (g1 y), fun y y2 => hks _ (g2 y y2)⟩
          -- the tail: test, then put or go on
          have tail : ∀ (D : Ends) (ta : Addr) (th : Pr) (way : Bool), (∀ σ H', P2 (j + 1) σ H' → D.nx σ H') → H9 ta = some (.tup (vP th)) → th ∈ es →
              (way = true → BackOk ps S R (keys tr) tr.length th (some q)) →
              (∀ ks : List Pr, (∀ x ∈ keys tr, x ∈ ks) → (way = true → th ∈ ks) → (e = nw q → od q ∈ ks) ∧ (e = od q → 0 < S q → nw q ∈ ks)) →
              tIfS (tAnd (tB (tVar 9)) (tB (tDNotIn (tVar 8) (tVar 1)))) (tSeq (sDPut (tVar 1) (tVar 8) (tVar 5)) (tDrop (tBM K "list" rAppend (tVar 2) (tCons (tVar 8) tNil)))) tNext
                D [some (.ref p), some (.ref fd), some (.ref W), o3, some (.int i), some (.ref b), some (.ref a1), some (.ref a2), some (.ref ta), some (.bl way)] H9 := by
            intro D ta th way hD hta hth hbk hcl
            have on : (way = true → th ∈ keys tr) → D.nx [some (.ref p), some (.ref fd), some (.ref W), o3, some (.int i), some (.ref b), some (.ref a1), some (.ref a2), some (.ref ta), some (.bl way)] H9 := fun h =>
              hD _ _ ⟨tr, ⟨ys, _, _, _, _, _, _, rfl, s79, hW9, r9, hf9, T7, D7⟩, he, step _ (fun _ z => z) (hcl _ (fun _ z => z) h)⟩
            cases way with
            | false => exact ⟨_, rfl, false, rfl, iteF (iteF (on fun z => by cases z))⟩
            | true =>
              obtain ⟨o, hg, ho⟩ := hf9.has hta
              refine ⟨_, rfl, true, rfl, iteT ⟨_, rfl, _, rfl, fd, o, rfl, hg, _, rfl, ?_⟩⟩
              rw [ho]
              by_cases hk : th ∈ keys tr
              · rw [decide_eq_true hk]
                exact iteF (on fun _ => hk)
              · rw [decide_eq_false hk]
                obtain ⟨H10, hd, ⟨u, rfl⟩, hf10⟩ := hf9.put hk hta (v := .ref b) (o := some q) ⟨b, rfl, s79 _ _ hb⟩ (by omega)
                obtain ⟨m9, hm9⟩ := hf9.dt
                have hW10 : upd H9 fd u W = some (.lst ys) := by rw [upd_ne nWf]; exact hW9
                have r10 : IsPs (upd H9 fd u) ys (keys tr) := IsPs.at hm9 (by intro xs z; cases z) r9
                have hta10 : upd H9 fd u ta = some (.tup (vP th)) := by rw [upd_ne (ne_of hta hm9 (by intro z; cases z))]; exact hta
                refine iteT ⟨_, rfl, _, rfl, _, rfl, fd, _, rfl, hd, _, rfl, .inl ⟨rfl, _, .inl (.inl hW10)⟩, _, rfl, W, ys, _, rfl, rfl, hW10, small1000 (by rw [Paired.length r10]; omega), ?_⟩
                refine hD _ _ ⟨tr ++ [(th, some q)], ⟨ys ++ [.ref ta], _, _, _, _, _, _, rfl, fixW (fixF s79 _) _, upd_same, ?_, hf10.keep hW10 (fun z => nWf z.symm) (by intro xs z; cases z), T7.app hk hth (hbk rfl), ?_⟩, ?_, ?_⟩
                · rw [keys_app]
                  exact IsPs.at hW10 (by intro xs z; cases z) (Paired.app r10 (.cons ⟨ta, rfl, hta10⟩ .nil))
                · rw [keys_app]
                  exact D7.app (by omega)
                · rw [keys_app, List.getElem?_append_left (by omega)]
                  exact he
                · rw [keys_app]
                  exact step _ (fun _ z => List.mem_append_left _ z) (hcl _ (fun _ z => List.mem_append_left _ z) fun _ => List.mem_append_right _ List.mem_cons_self)
          refine ⟨_, rfl, _, rfl, W, ys, _, _, rfl, rfl, .inl (.inl hW9), hat, _, rfl, eqP hce h1 (G.sk hees) (G.sk he1) ⟨_, rfl, ite2 (fun z => ?_) (fun z => ?_)⟩⟩
          · have hA := of_decide_eq_true z
            refine ⟨_, rfl, _, rfl, _, rfl, W, ys, _, _, rfl, rfl, .inl (.inl hW9), hat, _, rfl, eqP hce h1 (G.sk hees) (G.sk he1) ⟨_, rfl, ?_⟩⟩
            rw [z]
            refine iteT (tail _ a2 (od q) true (fun _ _ h => h) h2 he2 (fun _ => ⟨hqm, .inl ⟨rfl, i, hil7, hA ▸ he⟩⟩) fun ks _ h => ⟨fun _ => h rfl, fun y => absurd (hA.symm.trans y) (nw_od q q)⟩)
          · have hA : ¬ e = nw q := fun y => z (decide_eq_true y)
            refine ⟨_, rfl, _, rfl, _, rfl, W, ys, _, _, rfl, rfl, .inl (.inl hW9), hat, _, rfl, eqP hce h1 (G.sk hees) (G.sk he1) ⟨_, rfl, ?_⟩⟩
            rw [decide_eq_false hA]
            refine iteF ⟨_, rfl, _, rfl, W, ys, _, _, rfl, rfl, .inl (.inl hW9), hat, _, rfl, eqP hce h2 (G.sk hees) (G.sk he2) ⟨_, rfl, ite2 (fun z2 => ?_) (fun z2 => ?_)⟩⟩
            · have hB := of_decide_eq_true z2
              refine ⟨_, rfl, p, _, dx, _, _, rfl, s79 _ _ hF.at_, T.flow.cl, T.nF _ (by simp), (show (flowF pl sd rd).lookup ("sent" : Str) = some (.ref sd) from rfl), _, rfl, sd, .int (S q), rfl, DInt.at (s79 _ _ hmS) (s79 _ _ hb) (vS q hqm), _, _, rfl, rfl, ?_⟩
              exact tail _ a1 (nw q) (decide (0 < S q)) (fun _ _ h => h) h1 he1 (fun y => ⟨hqm, .inr ⟨rfl, of_decide_eq_true y, i, hil7, hB ▸ he⟩⟩) fun ks _ h => ⟨fun y => absurd y hA, fun _ y => h (decide_eq_true y)⟩
            · have hB : ¬ e = od q := fun y => z2 (decide_eq_true y)
              exact tail _ a1 (nw q) false (fun _ _ h => h) h1 he1 (fun y => by cases y) fun ks _ h => ⟨fun y => absurd y hA, fun y => absurd y hB⟩
        · rintro σ H7 ⟨tr, ⟨ys, o3, o5, o6, o7, o8, o9, rfl, s7, hW7, r7, hf7, T7, D7⟩, he, hdn⟩
          have hil7 : i < tr.length := by
            have := (List.getElem?_eq_some_iff.mp he).1
            unfold keys at this
            rw [List.length_map] at this
            exact this
          have hle7 := T7.len
          have hvl : vs'.length = ps.length := Paired.length hps
          refine ⟨_, rfl, _, _, rfl, rfl, es.length - (i + 1), by omega, i + 1, tr, rfl, hil7, ys, _, _, _, _, _, _, rfl, s7, hW7, r7, hf7, T7, ?_⟩
          intro j e' hj he' q hq
          by_cases y : j = i
          · subst y
            rw [he] at he'; cases he'
            obtain ⟨k', hk'⟩ := List.mem_iff_getElem?.mp hq
            refine hdn k' q ?_ hk'
            have := (List.getElem?_eq_some_iff.mp hk').1
            omega
          · exact D7 j e' (by omega) he' q hq
      · have hie : i = tr.length := by
          have : ¬ ((i : Int) < (ys6.length : Nat)) := fun y => z (decide_eq_true y)
          omega
        subst hie
        exact ⟨_, rfl, k H6 fd tr s6 hfd hf6 T6 D6⟩
end
end Pn
/-! #### W12 -/
namespace Pn
open PySem PySem.Spec PyProof.Rows L2
/-! ### grow -/
def ExF (sd rd : Addr) : Ex := fun q o => (q = sd ∨ q = rd) ∧ ∃ kvs, o = .dT kvs
/-- a step of the way: a pair and a sign -/
def IsW (H : Hp) (v : V) (x : Pr × Int) : Prop := ∃ t u, v = .ref t ∧ H t = some (.tup [u, .int x.2]) ∧ IsP H u x.1
theorem IsW.mono {H H' : Hp} {v : V} {x : Pr × Int} (s : Same H H') (h : IsW H v x) : IsW H' v x := by
  obtain ⟨t, u, e, h1, h2⟩ := h
  exact ⟨t, u, e, s _ _ h1, h2.mono s⟩
theorem IsW.at {H : Hp} {a : Addr} {o u : HO} (ha : H a = some u) (hu : ∀ xs, u ≠ .tup xs) {v : V} {x : Pr × Int} (h : IsW H v x) : IsW (upd H a o) v x := by
  obtain ⟨t, w, e, h1, h2⟩ := h
  exact ⟨t, w, e, by rw [upd_ne (ne_of h1 ha (fun z => hu _ z.symm))]; exact h1, IsP.at ha hu h2⟩
theorem IsW.fr {sd rd : Addr} {H H' : Hp} {v : V} {x : Pr × Int} (s : Fr (ExF sd rd) H H') (h : IsW H v x) : IsW H' v x := by
  obtain ⟨t, w, e, h1, a, h2, h3⟩ := h
  exact ⟨t, w, e, s.get h1 (fun z => by obtain ⟨_, _, z⟩ := z; cases z), a, h2, s.get h3 (fun z => by obtain ⟨_, _, z⟩ := z; cases z)⟩
theorem IsP.frF {sd rd : Addr} {H H' : Hp} {v : V} {x : Pr} (s : Fr (ExF sd rd) H H') (h : IsP H v x) : IsP H' v x := by
  obtain ⟨a, h2, h3⟩ := h
  exact ⟨a, h2, s.get h3 (fun z => by obtain ⟨_, _, z⟩ := z; cases z)⟩
theorem DFn.put {H : Hp} {a b : Addr} {ks : List Pr} {f : Pr → Int} {p : Pr} (h : DFn H a ks f) (hp : p ∈ ks) (hb : H b = some (.tup (vP p))) (hl : ks.length ≤ 1000) (d : Int) : ∃ H' m, DPut H a (.ref b) (.int (f p + d)) H' ∧ H' = upd H a (.dT m) ∧ DFn H' a ks (bump f p d) := by
  obtain ⟨m, h1, h2, h3⟩ := h
  have hml : m.length = ks.length := by rw [← h2, List.length_map]
  refine ⟨_, _, DInt.put (v := f p + d) h1 hb (by omega), rfl, Pn.put m p (f p + d), upd_same, ?_, fun k hk => ?_⟩
  · rw [put_keys, h2, if_pos hp]
  · rw [look_put]
    unfold bump
    by_cases z : k = p
    · rw [if_pos z, if_pos z, z]
    · rw [if_neg z, if_neg z, h3 k hk, Int.add_zero]
theorem DFn.get {H : Hp} {a b : Addr} {ks : List Pr} {f : Pr → Int} {p : Pr} (h : DFn H a ks f) (hp : p ∈ ks) (hb : H b = some (.tup (vP p))) : DGet H a (.ref b) (some (.int (f p))) := by
  obtain ⟨m, h1, h2, h3⟩ := h
  exact DInt.at h1 hb (h3 p hp)
theorem DFn.keep {H : Hp} {a b : Addr} {ks : List Pr} {f : Pr → Int} {u : HO} (h : DFn H a ks f) (n : a ≠ b) : DFn (upd H b u) a ks f := by
  obtain ⟨m, h1, h2, h3⟩ := h
  exact ⟨m, (by show upd H b u a = _; rw [upd_ne n]; exact h1), h2, h3⟩
theorem DFn.dt {H : Hp} {a : Addr} {ks : List Pr} {f : Pr → Int} (h : DFn H a ks f) : ∃ m, H a = some (.dT m) := by
  obtain ⟨m, h1, _⟩ := h
  exact ⟨_, h1⟩
theorem DFn.ext {H : Hp} {a : Addr} {ks : List Pr} {f g : Pr → Int} (h : DFn H a ks f) (e : ∀ k ∈ ks, f k = g k) : DFn H a ks g := by
  obtain ⟨m, h1, h2, h3⟩ := h
  exact ⟨m, h1, h2, fun k hk => by rw [h3 k hk, e k hk]⟩
theorem sendAll_snoc (m : Int) (p : Pr) (z : Int) : ∀ (way : Way) (S : Pr → Int), sendAll S m (way ++ [(p, z)]) = bump (sendAll S m way) p (z * m)
  | [], S => rfl
  | (q, y) :: way, S => sendAll_snoc m p z way _
section
variable {P : Program} {w : World} {K : PySem.W.Frag} {mg : Str → Option Value} {base : Heap}
def sp_grow (K : PySem.W.Frag) : Sp := fun vs H Q _ => ∃ (p dx pl sd rd fd la : Addr) (ps es : List Pr) (pr S R : Pr → Int) (tr : Trs) (last : Pr), vs = [.ref p, .ref fd, .ref la] ∧ FlowS K H p dx pl sd rd ps ∧ DFn H sd ps S ∧ DFn H rd es R ∧ FlG ps es ∧
  FlowI ps es pr S R ∧ TrailOk ps es S R tr ∧ DTr H fd tr ∧ H la = some (.tup (vP last)) ∧ last ∈ keys tr ∧ last.1 = "old" ∧ 0 < R last ∧
  ∀ H' S' R', Fr (ExF sd rd) H H' → DFn H' sd ps S' → DFn H' rd es R' → FlowI ps es pr S' R' → (∀ e, R' e ≤ R e) → R' last < R last → Q .non H'
set_option maxHeartbeats 8000000 in
theorem ok_grow (T : Th P K mg) : Mf P w K mg base 3 (cA K "Flow") "grow" p_Flow_grow (sp_grow K) := by
  refine Mf.of T.grow T.flow.cl sc_Flow_grow ((fun _ _ _ _ _ _ us hl => match us, hl with | [_, _, _], _ => rfl)) (fun vs H Q E ⟨_, _, _, _, _, _, _, _, _, _, _, _, _, _, e, _⟩ => by rw [e]; rfl) fun f cdv A outer s H vs Q E hr ⟨p, dx, pl, sd, rd, fd, la, ps, es, pr, S, R, tr, last, e, hF, hS, hR, G, FI, TO, hf, hla, hlk, hlo, hl0, k⟩ => ?_
  subst e
  have B := T.tg.tf.tb.te.td.tc.tw.bt
  have c_ends_of := ok_ends_of (P := P) (w := w) (base := base) T.tg.tf
  refine ⟨_, (pss_cons (sset 3 sc_Flow_grow.nd (pe_lst pa_nil)) (pss_cons (sset 4 sc_Flow_grow.nd (pv 2)) (pss_cons (ps_while PassesOwn.never (pt_cmpR op_notN (pe_dget (hu_of hr) (pv 1) (pv 4) (fun _ _ => rfl)) pe_non (nomark _)) (pss_cons (sset 5 sc_Flow_grow.nd (pe_dget (hu_of hr) (pv 1) (pv 4) (fun _ _ => rfl))) (pss_cons (ps_expr (pe_bm PySem.F.plainAttrs_list PySem.F.slot_list_append PySem.F.type_list_append mt_append (pv 3) (pa_cons (pe_tup (pa_cons (pv 5) (pa_cons (pe_ifExp (pt_cmpR op_eq (pe_ix (ix_tupK K) (pv 4) pe_int (fun _ _ => rfl)) pe_str (nomark _)) pe_int (pe_un un_neg pe_int)) pa_nil))) pa_nil))) (pss_cons (ps_asg (pe_k c_ends_of hr (by decide) rfl (pa_cons (pv 5) pa_nil)) (pg_tupK K (n := 2) rfl (pgs_cons (gnm 6 sc_Flow_grow.nd) (pgs_cons (gnm 7 sc_Flow_grow.nd) pgs_nil)))) (pss_one (sset 4 sc_Flow_grow.nd (pe_ifExp (pt_cmpR op_eq (pe_ix (ix_tupK K) (pv 4) pe_int (fun _ _ => rfl)) pe_str (nomark _)) (pv 6) (pv 7)))))))) (pss_cons (sset 8 sc_Flow_grow.nd (cB (cr_min rfl) B.min bb_min (pa_cons (pe_lst (pa_cons (pe_dget (hu_of hr) (fldK K (pv 0) rfl) (pv 2) (fun _ _ => rfl)) (pa_cons (pe_dget (hu_of hr) (fldK K (pv 0) rfl) (pv 4) (fun _ _ => rfl)) (StX.pa_star (pe_lc (own := [("pair", 5), ("sign", 9)]) rfl sc_Flow_grow.nd (pi_listK K (pv 3)) (blkOk_by (N := n_Flow_grow) (sc := defScope s_Flow_grow) (by decide +kernel)) (fun _ _ _ _ _ => (pg_tupK K (n := 2) rfl (pgs_cons (gnm 5 sc_Flow_grow.nd) (pgs_cons (gnm 9 sc_Flow_grow.nd) pgs_nil)))) (fun _ _ _ _ _ => pts_one (pt_cmpR op_lt (pv 9) pe_int (nomark _))) (fun _ _ _ _ _ => (pe_dget (hu_of hr) (fldK K (pv 0) rfl) (pv 5) (fun _ _ => rfl)))) pa_nil)))) pa_nil))) (pss_cons (ps_for PassesOwn.never rfl (pi_listK K (pv 3)) (pg_tupK K (n := 2) rfl (pgs_cons (gnm 5 sc_Flow_grow.nd) (pgs_cons (gnm 9 sc_Flow_grow.nd) pgs_nil))) (pss_one (ps_daug (hu_of hr) (fldK K (pv 0) rfl) (pv 5) (pe_op op_mul (pv 9) (pv 8)) in_add (by intros; rfl)))) (pss_cons (ps_daug (hu_of hr) (fldK K (pv 0) rfl) (pv 2) (pv 8) in_sub (by intros; rfl)) (pss_one (ps_daug (hu_of hr) (fldK K (pv 0) rfl) (pv 4) (pv 8) in_sub (by intros; rfl))))))))), ?_⟩
  obtain ⟨j0, hj0⟩ := List.mem_iff_getElem?.mp hlk
  have hef := G.efew
  have htl := TO.len
  have hkl : (keys tr).length = tr.length := by unfold keys; rw [List.length_map]
  have hjl : j0 < tr.length := by
    have := (List.getElem?_eq_some_iff.mp hj0).1
    omega
  refine ⟨Nat.zero_le _, fun wl hwl => ?_⟩
  have s1 : Same H (upd H wl (.lst [])) := (Fr.new (E := Ex0) hwl).same
  let Wh : Nat → L2.St → Hp → Prop := fun m σ H' => ∃ (way : Way) (ws : List V) (e : Pr) (j : Nat) (c : Addr) (o5 o6 o7 : Option V), m = j ∧ σ = [some (.ref p), some (.ref fd), some (.ref la), some (.ref wl), some (.ref c), o5, o6, o7, none, none] ∧ Same H H' ∧ H' wl = some (.lst ws) ∧ Paired (IsW H') ws way ∧ H' c = some (.tup (vP e)) ∧ WayOk ps S tr last way e j ∧ way.length + j ≤ 128
  refine ⟨_, rfl, Wh, ⟨j0, [], [], last, j0, la, _, _, _, rfl, rfl, s1, upd_same, .nil, s1 _ _ hla, .start hj0 hlo, by simp; omega⟩, ?_⟩
  rintro j σ H6 ⟨way, ws, e, _, c, o5, o6, o7, rfl, rfl, s6, hw6, hws, hc6, W, hwn⟩
  have hwsl : ws.length = way.length := Paired.length hws
  obtain ⟨o, he⟩ : ∃ o, tr[j]? = some (e, o) := by
    have h1 := W.at_
    unfold keys at h1
    rw [List.getElem?_map] at h1
    obtain ⟨⟨e', o⟩, h2, h3⟩ := Option.map_eq_some_iff.mp h1
    exact ⟨o, by rw [h2]; exact congrArg some (Prod.ext h3 rfl)⟩
  obtain ⟨v, hg, hv⟩ := (hf.same s6).get TO.nd hc6 he
  refine ⟨_, rfl, _, rfl, fd, v, rfl, hg, rfl, _, rfl, ?_⟩
  cases o with
  | some q =>
    obtain ⟨b, rfl, hb⟩ := hv
    have ht0 : (!decide (V.ref b = V.non)) = true := by rw [decide_eq_false (by intro z; cases z)]; rfl
    rw [ht0]
    refine iteT ⟨fun σ' H' => ∃ m', m' < j ∧ Wh m' σ' H', fun _ _ h => h, ?_⟩
    refine ⟨_, rfl, _, rfl, fd, _, rfl, hg, ?_⟩
    obtain ⟨j', hlt, W'⟩ := W.step TO he
    rcases W.tag with ho | hn
    · have hd : decide (V.str e.1 = V.str "old") = true := decide_eq_true (congrArg V.str ho)
      rw [sgn_old ho, if_pos ho] at W'
      have hx : True := trivial
      refine ⟨_, rfl, .inl ⟨rfl, _, .inl (.inl hw6)⟩, _, rfl, _, rfl, c, _, 0, _, rfl, rfl, .inl (.inl hc6), at0 e, rfl, _, rfl, ?_⟩
      rw [hd]
      refine iteT ⟨(by show 2 ≤ sizeLine; decide), fun t ht => ?_⟩
      have st : Same H6 (upd H6 t (.tup [.ref b, .int 1])) := (Fr.new (E := Ex0) ht).same
      have hw7 := st _ _ hw6
      have nwt : wl ≠ t := ne_of_none hw6 ht
      refine ⟨wl, ws, _, rfl, rfl, hw7, small1000 (by omega), ?_⟩
      have fin := TO
      have s7 : Same H (upd (upd H6 t (.tup [.ref b, .int 1])) wl (.lst (ws ++ [.ref t]))) := ((Fr.of (E := Ex0) (s6.trans st)).put hwl).same
      have c7 : upd (upd H6 t (.tup [.ref b, .int 1])) wl (.lst (ws ++ [.ref t])) c = some (.tup (vP e)) := by
        rw [upd_ne (ne_of hc6 hw6 (by intro z; cases z))]; exact st _ _ hc6
      have b7 : IsP (upd (upd H6 t (.tup [.ref b, .int 1])) wl (.lst (ws ++ [.ref t]))) (.ref b) q := IsP.at hw7 (by intro xs z; cases z) (IsP.mono st ⟨b, rfl, hb⟩)
      have ws7 : Paired (IsW (upd (upd H6 t (.tup [.ref b, .int 1])) wl (.lst (ws ++ [.ref t])))) (ws ++ [.ref t]) (way ++ [(q, 1)]) :=
        Paired.app (Paired.mono (fun _ _ z => IsW.at hw7 (by intro xs z; cases z) (IsW.mono st z)) hws) (.cons ⟨t, .ref b, rfl, by rw [upd_ne nwt.symm]; exact upd_same, b7⟩ .nil)
      have w7 : upd (upd H6 t (.tup [.ref b, .int 1])) wl (.lst (ws ++ [.ref t])) wl = some (.lst (ws ++ [.ref t])) := upd_same
      revert s7 c7 b7 ws7 w7
      generalize upd (upd H6 t (.tup [.ref b, .int 1])) wl (.lst (ws ++ [.ref t])) = H7
      intro s7 c7 b7 ws7 w7
      refine ⟨_, rfl, .ref b, q.1, q.2, rfl, b7, fun r H9 s9 ⟨us, hr9, hus⟩ => ?_⟩
      obtain ⟨_, _, rfl, ⟨a1, rfl, h1⟩, ⟨a2, rfl, h2⟩⟩ := paired2 hus
      have h1 : H9 a1 = some (.tup (vP (nw q))) := h1
      have h2 : H9 a2 = some (.tup (vP (od q))) := h2
      refine ⟨r, _, rfl, .inl (.inl hr9), rfl, _, _, rfl, _, _, rfl, rfl, ?_⟩
      refine ⟨_, rfl, c, _, 0, _, rfl, rfl, .inl (.inl (s9 _ _ c7)), at0 e, rfl, _, rfl, ?_⟩
      rw [hd]
      refine iteT ⟨_, rfl, j', hlt, way ++ [(q, 1)], ws ++ [.ref t], nw q, j', a1, _, _, _, rfl, rfl, s7.trans s9, s9 _ _ w7, Paired.mono (fun _ _ z => IsW.mono s9 z) ws7, h1, W', ?_⟩
      rw [List.length_append, List.length_singleton]
      omega
    · have hd : decide (V.str e.1 = V.str "old") = false := decide_eq_false fun z => tag_new hn (V.str.inj z)
      rw [sgn_new hn, if_neg (tag_new hn)] at W'
      refine ⟨_, rfl, .inl ⟨rfl, _, .inl (.inl hw6)⟩, _, rfl, _, rfl, c, _, 0, _, rfl, rfl, .inl (.inl hc6), at0 e, rfl, _, rfl, ?_⟩
      rw [hd]
      refine iteF ⟨_, rfl, (by show 2 ≤ sizeLine; decide), fun t ht => ?_⟩
      have st : Same H6 (upd H6 t (.tup [.ref b, .int (-1)])) := (Fr.new (E := Ex0) ht).same
      have hw7 := st _ _ hw6
      have nwt : wl ≠ t := ne_of_none hw6 ht
      refine ⟨wl, ws, _, rfl, rfl, hw7, small1000 (by omega), ?_⟩
      have fin := TO
      have s7 : Same H (upd (upd H6 t (.tup [.ref b, .int (-1)])) wl (.lst (ws ++ [.ref t]))) := ((Fr.of (E := Ex0) (s6.trans st)).put hwl).same
      have c7 : upd (upd H6 t (.tup [.ref b, .int (-1)])) wl (.lst (ws ++ [.ref t])) c = some (.tup (vP e)) := by
        rw [upd_ne (ne_of hc6 hw6 (by intro z; cases z))]; exact st _ _ hc6
      have b7 : IsP (upd (upd H6 t (.tup [.ref b, .int (-1)])) wl (.lst (ws ++ [.ref t]))) (.ref b) q := IsP.at hw7 (by intro xs z; cases z) (IsP.mono st ⟨b, rfl, hb⟩)
      have ws7 : Paired (IsW (upd (upd H6 t (.tup [.ref b, .int (-1)])) wl (.lst (ws ++ [.ref t])))) (ws ++ [.ref t]) (way ++ [(q, (-1))]) :=
        Paired.app (Paired.mono (fun _ _ z => IsW.at hw7 (by intro xs z; cases z) (IsW.mono st z)) hws) (.cons ⟨t, .ref b, rfl, by rw [upd_ne nwt.symm]; exact upd_same, b7⟩ .nil)
      have w7 : upd (upd H6 t (.tup [.ref b, .int (-1)])) wl (.lst (ws ++ [.ref t])) wl = some (.lst (ws ++ [.ref t])) := upd_same
      revert s7 c7 b7 ws7 w7
      generalize upd (upd H6 t (.tup [.ref b, .int (-1)])) wl (.lst (ws ++ [.ref t])) = H7
      intro s7 c7 b7 ws7 w7
      refine ⟨_, rfl, .ref b, q.1, q.2, rfl, b7, fun r H9 s9 ⟨us, hr9, hus⟩ => ?_⟩
      obtain ⟨_, _, rfl, ⟨a1, rfl, h1⟩, ⟨a2, rfl, h2⟩⟩ := paired2 hus
      have h1 : H9 a1 = some (.tup (vP (nw q))) := h1
      have h2 : H9 a2 = some (.tup (vP (od q))) := h2
      refine ⟨r, _, rfl, .inl (.inl hr9), rfl, _, _, rfl, _, _, rfl, rfl, ?_⟩
      refine ⟨_, rfl, c, _, 0, _, rfl, rfl, .inl (.inl (s9 _ _ c7)), at0 e, rfl, _, rfl, ?_⟩
      rw [hd]
      refine iteF ⟨_, rfl, j', hlt, way ++ [(q, (-1))], ws ++ [.ref t], od q, j', a2, _, _, _, rfl, rfl, s7.trans s9, s9 _ _ w7, Paired.mono (fun _ _ z => IsW.mono s9 z) ws7, h2, W', ?_⟩
      rw [List.length_append, List.length_singleton]
      omega
  | none =>
    have hv : v = .non := hv
    subst hv
    have ht0 : (!decide (V.non = V.non)) = false := by rw [decide_eq_true rfl]; rfl
    rw [ht0]
    refine iteF ?_
    have hst := W.stop TO he
    have hee : e ∈ es := TO.sub e (List.mem_of_getElem? W.at_)
    have hle : last ∈ es := TO.sub last hlk
    have hla6 := s6 _ _ hla
    have hR6 := hR.same s6
    have hS6 := hS.same s6
    have hp6 := s6 _ _ hF.at_
    refine ⟨_, rfl, p, _, dx, _, _, rfl, hp6, T.flow.cl, T.nF _ (by simp), (show (flowF pl sd rd).lookup ("room" : Str) = some (.ref rd) from rfl), _, rfl, rd, _, rfl, hR6.get hle hla6, ?_⟩
    refine ⟨_, rfl, p, _, dx, _, _, rfl, hp6, T.flow.cl, T.nF _ (by simp), (show (flowF pl sd rd).lookup ("room" : Str) = some (.ref rd) from rfl), _, rfl, rd, _, rfl, hR6.get hee hc6, ?_⟩
    refine ⟨_, rfl, wl, rfl, ⟨ws, .inl (.inl hw6)⟩, fun D hD => ?_⟩
    refine lc_map (E := Ex0) (walk_list (xs := ws)) (B := Int) way (fun x => decide (x.2 < 0)) (fun x => S x.1) (fun _ v b => v = .int b) hwsl.symm hD (by omega) (fun H' f => .inl (.inl (f.same _ _ hw6))) (fun i H x H' y => by rw [y.1]; exact Fr.refl _ _) (Sta.eq V.int) (fun _ _ _ _ z => z) ?_ ?_
    · rintro i x H7 H8 ⟨q, z⟩ Ky Kn hq fr ⟨rfl, hx⟩ hy hk
      obtain ⟨t, u, rfl, ht, b, rfl, hb⟩ := Paired.at hws hx hq
      have hqm := (W.mem (q, z) (List.mem_of_getElem? hq)).1
      refine ⟨t, _, rfl, .inl (.inl (fr.same _ _ ht)), rfl, _, _, rfl, _, _, rfl, rfl, rfl, _, rfl, _, _, rfl, rfl, _, rfl, ite2 (fun y => ?_) (fun y => hk _ (by simpa using y) (Fr.refl _ _))⟩
      exact ⟨_, rfl, p, _, dx, _, _, rfl, fr.same _ _ hp6, T.flow.cl, T.nF _ (by simp), (show (flowF pl sd rd).lookup ("sent" : Str) = some (.ref sd) from rfl), _, rfl, sd, _, rfl, (hS6.same fr.same).get hqm (fr.same _ _ hb), hy _ _ y (Fr.refl _ _) rfl⟩
    · intro H7 zs fr hD7 rz
      have hz := Paired.mapEq (f := V.int) rz
      have hzl : zs.length ≤ 128 := by
        rw [hz, List.length_map, List.length_map]
        exact Nat.le_trans (List.length_filter_le _ _) (by omega)
      have s7 := s6.trans fr.same
      refine ⟨D, zs, rfl, .inr (.inl (.inl hD7)), ?_, fun q hq => ?_⟩
      · have : sizeLine ≥ 1000 := by decide
        show ((_ :: _ :: (zs ++ [])) : List V).length ≤ sizeLine
        simp only [List.append_nil, List.length_cons]
        omega
      have s8 : Same H (upd H7 q (.lst (V.int (R last) :: V.int (R e) :: (zs ++ [])))) := ((Fr.of (E := Ex0) s7).new' hq).same
      have h8 : SqL K (upd H7 q (.lst (V.int (R last) :: V.int (R e) :: (zs ++ [])))) q ((R last :: R e :: (way.filter fun x => decide (x.2 < 0)).map fun x => S x.1).map V.int) := by
        rw [List.map_cons, List.map_cons, ← hz, List.append_nil]
        exact .inl (.inl upd_same)
      have s78 : Same H7 (upd H7 q (.lst (V.int (R last) :: V.int (R e) :: (zs ++ [])))) := (Fr.new (E := Ex0) hq).same
      refine ⟨q, _, rfl, h8, Nat.succ_pos _, fun m hm hmin => ?_⟩
      revert s8 s78
      generalize upd H7 q (.lst (V.int (R last) :: V.int (R e) :: (zs ++ []))) = H8
      intro s8 s78
      have m1 : m ≤ R last := hmin _ List.mem_cons_self
      have m2 : m ≤ R e := hmin _ (List.mem_cons_of_mem _ List.mem_cons_self)
      have m3 : ∀ x ∈ way, x.2 < 0 → m ≤ S x.1 := fun x hx hn => hmin _ (List.mem_cons_of_mem _ (List.mem_cons_of_mem _ (List.mem_map.mpr ⟨x, List.mem_filter.mpr ⟨hx, decide_eq_true hn⟩, rfl⟩)))
      have m0 : 0 < m := by
        rcases List.mem_cons.mp hm with z | hm
        · omega
        rcases List.mem_cons.mp hm with z | hm
        · have := hst.2.1; omega
        obtain ⟨x, hx, rfl⟩ := List.mem_map.mp hm
        obtain ⟨hx1, hx2⟩ := List.mem_filter.mp hx
        have hneg : x.2 < 0 := of_decide_eq_true hx2
        rcases (W.mem x hx1).2 with y | y
        · omega
        · exact y.2.1
      have s68 := fr.same.trans s78
      have hw8 := s68 _ _ hw6
      have hws8 : Paired (IsW H8) ws way := Paired.mono (fun _ _ z => IsW.mono s68 z) hws
      have hc8 := s68 _ _ hc6
      have nws : wl ≠ sd := by obtain ⟨_, z⟩ := hS6.dt; exact ne_of hw6 z (by intro y; cases y)
      have nwr : wl ≠ rd := by obtain ⟨_, z⟩ := hR6.dt; exact ne_of hw6 z (by intro y; cases y)
      have nsr := hF.ne
      have hpF : ∀ {H' : Hp}, Fr (ExF sd rd) H H' → H' p = some (.ins (cA K "Flow") dx (flowF pl sd rd)) := fun f => f.get hF.at_ (fun z => by obtain ⟨_, _, z⟩ := z; cases z)
      let P3 : Nat → L2.St → Hp → Prop := fun i σ H' => (∃ o5 o9, σ = [some (.ref p), some (.ref fd), some (.ref la), some (.ref wl), some (.ref c), o5, o6, o7, some (.int m), o9]) ∧ Fr (ExF sd rd) H H' ∧ H' wl = some (.lst ws) ∧ Paired (IsW H') ws way ∧ H' c = some (.tup (vP e)) ∧ DFn H' sd ps (sendAll S m (way.take i)) ∧ DFn H' rd es R
      refine ⟨_, rfl, wl, rfl, ⟨ws, .inl (.inl hw8)⟩, for_it (walk_list (xs := ws)) P3 ⟨⟨_, _, rfl⟩, Fr.of s8, hw8, hws8, hc8, hS.same s8, hR.same s8⟩ (fun i σ H' _ z => .inl (.inl z.2.2.1)) ?_ ?_⟩
      · rintro i x σ H9 H10 hi ⟨⟨o5', o9', rfl⟩, f9, hw9, hws9, hc9, hS9, hR9⟩ ⟨rfl, hx⟩
        obtain ⟨⟨q, z⟩, hq, t, u, rfl, ht, b, rfl, hb⟩ := Paired.get hws9 hx
        have hqm := (W.mem (q, z) (List.mem_of_getElem? hq)).1
        have hz1 : z = 1 ∨ z = -1 := (W.mem (q, z) (List.mem_of_getElem? hq)).2.imp id fun y => y.1
        have hil : i < way.length := (List.getElem?_eq_some_iff.mp hq).1
        have htk : way.take (i + 1) = way.take i ++ [(q, z)] := by
          rw [List.take_succ_eq_append_getElem hil, (List.getElem?_eq_some_iff.mp hq).2]
        obtain ⟨H11, mm, hd, rfl, hS11⟩ := hS9.put hqm hb (by have := G.few; omega) (z * m)
        obtain ⟨ms, hms⟩ := hS9.dt
        refine ⟨t, _, rfl, .inl (.inl ht), rfl, _, _, rfl, _, _, rfl, rfl, ?_⟩
        refine ⟨_, rfl, p, _, dx, _, _, rfl, hpF f9, T.flow.cl, T.nF _ (by simp), (show (flowF pl sd rd).lookup ("sent" : Str) = some (.ref sd) from rfl), _, rfl, sd, _, rfl, hS9.get hqm hb, _, rfl, _, rfl, _, _, rfl, rfl, .inl (by show -(2 ^ 64) < z ∧ z < 2 ^ 64; rcases hz1 with y | y <;> rw [y] <;> decide), _, _, rfl, rfl, _, hd, ⟨_, _, rfl⟩, ?_⟩
        refine ⟨f9.set hms ⟨.inl rfl, _, rfl⟩ ⟨.inl rfl, _, rfl⟩, by rw [upd_ne nws]; exact hw9, Paired.mono (fun _ _ y => IsW.at hms (by intro xs y; cases y) y) hws9, by rw [upd_ne (ne_of hc9 hms (by intro y; cases y))]; exact hc9, ?_, hR9.keep nsr.symm⟩
        rw [htk, sendAll_snoc]
        exact hS11
      · rintro σ H9 ⟨⟨o5', o9', rfl⟩, f9, hw9, hws9, hc9, hS9, hR9⟩
        rw [hwsl, List.take_length] at hS9
        have hla9 : H9 la = some (.tup (vP last)) := f9.get hla (fun z => by obtain ⟨_, _, z⟩ := z; cases z)
        obtain ⟨H11, mm, hd, rfl, hR11⟩ := hR9.put hle hla9 (by omega) (-m)
        obtain ⟨mr, hmr⟩ := hR9.dt
        have f11 : Fr (ExF sd rd) H (upd H9 rd (.dT mm)) := f9.set hmr ⟨.inr rfl, _, rfl⟩ ⟨.inr rfl, _, rfl⟩
        have hc11 : upd H9 rd (.dT mm) c = some (.tup (vP e)) := by rw [upd_ne (ne_of hc9 hmr (by intro y; cases y))]; exact hc9
        obtain ⟨H12, mm2, hd2, rfl, hR12⟩ := hR11.put hee hc11 (by omega) (-m)
        obtain ⟨mr2, hmr2⟩ := hR11.dt
        refine ⟨_, rfl, p, _, dx, _, _, rfl, hpF f9, T.flow.cl, T.nF _ (by simp), (show (flowF pl sd rd).lookup ("room" : Str) = some (.ref rd) from rfl), _, rfl, rd, _, rfl, hR9.get hle hla9, _, rfl, _, _, rfl, rfl, _, hd, ?_⟩
        refine ⟨_, rfl, p, _, dx, _, _, rfl, hpF f11, T.flow.cl, T.nF _ (by simp), (show (flowF pl sd rd).lookup ("room" : Str) = some (.ref rd) from rfl), _, rfl, rd, _, rfl, hR11.get hee hc11, _, rfl, _, _, rfl, rfl, _, hd2, ?_⟩
        refine k _ (sendAll S m way) (bump (bump R last (-m)) e (-m)) (f11.set hmr2 ⟨.inr rfl, _, rfl⟩ ⟨.inr rfl, _, rfl⟩) ((hS9.keep nsr).keep nsr) hR12 (FI.grow TO W he hle hlo (by omega) m1 m2 m3) (fun x => ?_) ?_
        · unfold bump
          split <;> split <;> omega
        · unfold bump
          rw [if_pos rfl]
          split <;> omega
end
end Pn
/-! #### W13 -/
namespace Pn
open PySem PySem.Spec PyProof.Rows L2
/-! ### finish -/
theorem FlowS.fr {K : PySem.W.Frag} {H H' : Hp} {p dx pl sd rd sd' rd' : Addr} {ps : List Pr} (s : Fr (ExF sd' rd') H H') (h : FlowS K H p dx pl sd rd ps) : FlowS K H' p dx pl sd rd ps := by
  obtain ⟨vs, h1, h2⟩ := h.prs
  exact ⟨s.get h.at_ (fun z => by obtain ⟨_, _, z⟩ := z; cases z), ⟨vs, s.get h1 (fun z => by obtain ⟨_, _, z⟩ := z; cases z), Paired.mono (fun _ _ => IsP.frF s) h2⟩, h.ne⟩
theorem sum_le {es : List Pr} {f g : Pr → Int} (h : ∀ e ∈ es, f e ≤ g e) : (es.map f).sum ≤ (es.map g).sum := by
  induction es with
  | nil => simp
  | cons x es ih =>
    rw [List.map_cons, List.map_cons, List.sum_cons, List.sum_cons]
    have h1 := h x List.mem_cons_self
    have h2 := ih fun e he => h e (List.mem_cons_of_mem _ he)
    omega
theorem sum_lt {es : List Pr} {f g : Pr → Int} (h : ∀ e ∈ es, f e ≤ g e) {x : Pr} (hx : x ∈ es) (hl : f x < g x) : (es.map f).sum < (es.map g).sum := by
  induction es with
  | nil => cases hx
  | cons y es ih =>
    rw [List.map_cons, List.map_cons, List.sum_cons, List.sum_cons]
    have h1 := h y List.mem_cons_self
    rcases List.mem_cons.mp hx with z | z
    · subst z
      have h2 := sum_le fun e he => h e (List.mem_cons_of_mem _ he)
      omega
    · have h2 := ih (fun e he => h e (List.mem_cons_of_mem _ he)) z
      omega
theorem sum_nn {es : List Pr} {f : Pr → Int} (h : ∀ e ∈ es, 0 ≤ f e) : 0 ≤ (es.map f).sum := by
  induction es with
  | nil => simp
  | cons y es ih =>
    rw [List.map_cons, List.sum_cons]
    have h1 := h y List.mem_cons_self
    have h2 := ih fun e he => h e (List.mem_cons_of_mem _ he)
    omega
theorem eqv_empty (zs : List Pr) : PyData.eqv (.list (zs.map prD2)) (.list []) = zs.isEmpty := by
  cases zs with
  | nil => simp [PyData.eqv, PyData.eqvAll]
  | cons z zs => simp [PyData.eqv, PyData.eqvAll]
def isOld (R : Pr → Int) (e : Pr) : Bool := decide (e.1 = ("old" : Str)) && decide (0 < R e)
section
variable {P : Program} {w : World} {K : PySem.W.Frag} {mg : Str → Option Value} {base : Heap}
def sp_finish (K : PySem.W.Frag) : Sp := fun vs H Q _ => ∃ (p dx pl sd rd : Addr) (ps es : List Pr) (pr S R : Pr → Int), vs = [.ref p] ∧ FlowS K H p dx pl sd rd ps ∧ DFn H sd ps S ∧ DFn H rd es R ∧ FlG ps es ∧ FlowI ps es pr S R ∧
  ∀ H' r ys S' R' ks, Fr (ExF sd rd) H H' → H r = none → H' r = some (.lst ys) → IsPs H' ys (cov es ks) → DFn H' sd ps S' → DFn H' rd es R' → FlowEnd ps es pr S' R' ks → Q (.ref r) H'
set_option maxHeartbeats 8000000 in
theorem ok_finish (T : Th P K mg) : Mf P w K mg base 4 (cA K "Flow") "finish" p_Flow_finish (sp_finish K) := by
  refine Mf.of T.finish T.flow.cl sc_Flow_finish ((fun _ _ _ _ _ _ us hl => match us, hl with | [_], _ => rfl)) (fun vs H Q E ⟨_, _, _, _, _, _, _, _, _, _, e, _⟩ => by rw [e]; rfl) fun f cdv A outer s H vs Q E hr ⟨p, dx, pl, sd, rd, ps, es, pr, S, R, e, hF, hS, hR, G, FI, k⟩ => ?_
  subst e
  have B := T.tg.tf.tb.te.td.tc.tw.bt
  have c_trails := ok_trails (P := P) (w := w) (base := base) T
  have c_grow := ok_grow (P := P) (w := w) (base := base) T
  refine ⟨_, (pss_cons (ps_while PassesOwn.never (pt_val pe_bl) (pss_cons (sset 1 sc_Flow_finish.nd (pe_m0 c_trails hr (by decide) (pv 0))) (pss_cons (ps_lock (ps_setLc (i := 2) (own := [("end", 3)]) rfl sc_Flow_finish.nd rfl rfl (sw_true rfl rfl rfl (by decide +kernel)) (pi_keys (pv 1)) (blkOk_by (N := n_Flow_finish) (sc := defScope s_Flow_finish) (by decide +kernel)) (fun _ _ _ _ _ => (gnm 3 sc_Flow_finish.nd)) (fun _ _ _ _ _ => pts_one (PW.pt (pw_and (pt_cmpR op_eq (pe_ix (ix_tupK K) (pv 3) pe_int (fun _ _ => rfl)) pe_str (nomark _)) (pw_and1 (pt_cmpR op_gt (pe_dget (hu_of hr) (fldK K (pv 0) rfl) (pv 3) (fun _ _ => rfl)) pe_int (nomark _)))))) (fun _ _ _ _ _ => (pv 3)))) (pss_cons (ps_if (pt_cmpR (op_eqDK K (hu64 hr)) (pv 2) (pe_lst pa_nil) (nomark _)) (pss_one ps_break) pss_nil) (pss_one (ps_expr (pe_m c_grow hr (by decide) (pv 0) (pa_cons (pv 1) (pa_cons (pe_ix (ix_listK K) (pv 2) pe_int (fun _ _ => rfl)) pa_nil))))))))) (pss_one (ps_lock (ps_ret (pe_lc (own := [("end", 3)]) rfl sc_Flow_finish.nd (pi_keys (fldK K (pv 0) rfl)) (blkOk_by (N := n_Flow_finish) (sc := defScope s_Flow_finish) (by decide +kernel)) (fun _ _ _ _ _ => (gnm 3 sc_Flow_finish.nd)) (fun _ _ _ _ _ => pts_one (pt_cmpR op_eq (pe_cmpR op_eq (pe_ix (ix_tupK K) (pv 3) pe_int (fun _ _ => rfl)) pe_str (nomark _)) (pe_cmp (pc_din (hu_of hr) (pv 3) (pv 1))) (nomark _))) (fun _ _ _ _ _ => (pv 3))))))), ?_⟩
  let Wh : Nat → L2.St → Hp → Prop := fun m σ H' => ∃ (S R : Pr → Int) (o1 o2 o3 : Option V), σ = [some (.ref p), o1, o2, o3] ∧ Fr (ExF sd rd) H H' ∧ DFn H' sd ps S ∧ DFn H' rd es R ∧ FlowI ps es pr S R ∧ m = (es.map R).sum.toNat
  refine ⟨Wh, ⟨_, S, R, _, _, _, rfl, Fr.refl _ _, hS, hR, FI, rfl⟩, ?_⟩
  clear hS hR FI S R
  rintro m σ H1 ⟨S, R, o1, o2, o3, rfl, f1, hS, hR, FI, rfl⟩
  have hF1 := hF.fr f1
  refine ⟨true, rfl, iteT ⟨fun σ' H' => ∃ m', m' < (es.map R).sum.toNat ∧ Wh m' σ' H', fun _ _ h => h, ?_⟩⟩
  refine ⟨_, rfl, p, dx, _, rfl, hF1.at_, rfl, p, dx, pl, sd, rd, ps, es, S, R, rfl, hF1, hS, hR, G, fun H2 fd tr s2 hfd hf TO DO => ?_⟩
  obtain ⟨m, hm, hmt⟩ := id hf
  obtain ⟨mR, hmR, kR, vR⟩ := id hR
  have nfr : fd ≠ rd := (ne_of_none hmR hfd).symm
  have hesl := G.efew
  have htl := TO.len
  have hkm : m.map Prod.fst = keys tr := TrR.keys hmt
  have hml : m.length = tr.length := Paired.length hmt
  have hmrl : mR.length = es.length := by rw [← kR, List.length_map]
  have hp2 := s2 _ _ hF1.at_
  -- free
  refine ⟨fd, _, hm, True.intro, fun ob => ?_⟩
  have hpl : upd H2 fd (.frz ob (.dT (kvG id m))) p = some (.ins (cA K "Flow") dx (flowF pl sd rd)) := by
    rw [upd_ne (ne_of_none hF1.at_ hfd)]; exact hp2
  have hrl : upd H2 fd (.frz ob (.dT (kvG id m))) rd = some (.dT (kvG V.int mR)) := by
    rw [upd_ne nfr.symm]; exact s2 _ _ hmR
  have hlr : (kvG id m).length = m.length := by unfold kvG; rw [List.length_map]
  refine ⟨_, rfl, fd, ob, rfl, .inr ⟨_, upd_same, fun W hW => ?_⟩⟩
  refine lc_map (E := Ex0) (walk_keysT (d := fd) (o := ob) (kvs := kvG id m)) (B := Pr) (m.map Prod.fst) (isOld R) id IsP (by rw [List.length_map, hlr]) hW (by omega) (fun H' f => f.same _ _ upd_same) (fun i H x H' y => by rw [y.1]; exact Fr.refl _ _) (Sta.isP' .e0) (fun _ _ _ _ z => z) ?_ ?_
  · rintro i x H3 H4 e Ky Kn he fr ⟨rfl, k0, v0, q, hk0, rfl, hq⟩ hy hk
    obtain ⟨e0, he0, rfl, rfl⟩ := kvG_at hk0
    have ee : e0.1 = e := by
      rw [List.getElem?_map, he0] at he
      exact Option.some.inj he
    subst ee
    have hq : H4 q = some (.tup (vP e0.1)) := hq
    have hem : e0.1 ∈ es := TO.sub _ (by rw [← hkm]; exact List.mem_map.mpr ⟨_, List.mem_of_getElem? he0, rfl⟩)
    refine ⟨rfl, _, rfl, q, _, 0, _, rfl, rfl, .inl (.inl hq), at0 e0.1, rfl, _, rfl, ite2 (fun z => ?_) (fun z => ?_)⟩
    · have z1 : e0.1.1 = ("old" : Str) := V.str.inj (of_decide_eq_true z)
      refine ⟨_, rfl, p, _, dx, _, _, rfl, fr.same _ _ hpl, T.flow.cl, T.nF _ (by simp), (show (flowF pl sd rd).lookup ("room" : Str) = some (.ref rd) from rfl), _, rfl, rd, .int (R e0.1), rfl, DInt.at (m := mR) (p := e0.1) (fr.same _ _ hrl) hq (vR e0.1 hem), _, _, rfl, rfl, _, rfl, ite2 (fun z2 => ?_) (fun z2 => ?_)⟩
      · exact ⟨_, rfl, hy _ _ (by unfold isOld; rw [decide_eq_true z1, z2]; rfl) (Fr.refl _ _) ⟨q, rfl, hq⟩⟩
      · exact hk _ (by unfold isOld; rw [decide_eq_true z1]; simpa using z2) (Fr.refl _ _)
    · refine hk _ ?_ (Fr.refl _ _)
      unfold isOld
      rw [decide_eq_false (fun y => z (decide_eq_true (congrArg V.str y)))]
      rfl
  · intro H3 ys fr hW2 r
    rw [hkm, List.map_id] at r
    refine ⟨fr.same _ _ upd_same, ?_⟩
    have nWf : W ≠ fd := (ne_of_none upd_same hW).symm
    have sU := same_unlock hm fr.same
    have hW4 : upd H3 fd (.dT (kvG id m)) W = some (.lst ys) := by rw [upd_ne nWf]; exact hW2
    have r4 : IsPs (upd H3 fd (.dT (kvG id m))) ys ((keys tr).filter (isOld R)) := IsPs.at (fr.same _ _ upd_same) (by intro xs z; cases z) r
    revert sU hW4 r4
    generalize upd H3 fd (.dT (kvG id m)) = H4
    intro sU hW4 r4
    have s4 := s2.trans sU
    have hf4 := hf.same sU
    have hsk : ∀ z ∈ (keys tr).filter (isOld R), SkP z := fun z hz => G.sk (TO.sub z (List.mem_filter.mp hz).1)
    refine ⟨_, rfl, Nat.zero_le _, fun q hq => ?_⟩
    have s5 : Same H4 (upd H4 q (.lst [])) := (Fr.new (E := Ex0) hq).same
    refine ⟨.list (((keys tr).filter (isOld R)).map prD2), .list [], (r4.mono s5).dp (s5 _ _ hW4), .lst (.inl (.inl upd_same)) .nil, prDs2_shaped hsk, by decide, ?_⟩
    rw [eqv_empty]
    have s15 := s4.trans s5
    revert s5 s15
    generalize upd H4 q (.lst []) = H5
    intro s5 s15
    have f5 : Fr (ExF sd rd) H H5 := f1.trans (Fr.of s15)
    refine ⟨_, rfl, ite2 (fun z => ?_) (fun z => ?_)⟩
    · -- the end
      have z0 : (keys tr).filter (isOld R) = [] := List.isEmpty_iff.mp z
      have FE : FlowEnd ps es pr S R (keys tr) := by
        refine ⟨FI, G.end_, fun e he => (G.mem e).mp he, TO.new, fun p hp => ⟨fun y => ?_, fun y y2 => ?_⟩, fun e he ho hk => ?_⟩
        · obtain ⟨j, hj⟩ := List.mem_iff_getElem?.mp y
          have hjl := (List.getElem?_eq_some_iff.mp hj).1
          unfold keys at hjl
          rw [List.length_map] at hjl
          exact (DO j _ hjl hj p hp).1 rfl
        · obtain ⟨j, hj⟩ := List.mem_iff_getElem?.mp y
          have hjl := (List.getElem?_eq_some_iff.mp hj).1
          unfold keys at hjl
          rw [List.length_map] at hjl
          exact (DO j _ hjl hj p hp).2 rfl y2
        · rcases Int.lt_or_le 0 (R e) with h | h
          · have : e ∈ (keys tr).filter (isOld R) := List.mem_filter.mpr ⟨hk, by unfold isOld; rw [decide_eq_true ho, decide_eq_true h]; rfl⟩
            rw [z0] at this
            cases this
          · exact h
      have hR5 := s15 _ _ hmR
      refine ⟨rd, _, hR5, True.intro, fun ob2 => ?_⟩
      have hp5 : upd H5 rd (.frz ob2 (.dT (kvG V.int mR))) p = some (.ins (cA K "Flow") dx (flowF pl sd rd)) := by
        rw [upd_ne (ne_of (s15 _ _ hF1.at_) hR5 (by intro y; cases y))]; exact s15 _ _ hF1.at_
      have hfl : DTr (upd H5 rd (.frz ob2 (.dT (kvG V.int mR)))) fd tr := (hf4.same s5).keep hR5 nfr (by intro xs y; cases y)
      have hlr2 : (kvG V.int mR).length = mR.length := by unfold kvG; rw [List.length_map]
      refine ⟨_, rfl, p, _, dx, _, _, rfl, hp5, T.flow.cl, T.nF _ (by simp), (show (flowF pl sd rd).lookup ("room" : Str) = some (.ref rd) from rfl), rd, ob2, rfl, .inr ⟨_, upd_same, fun D hD => ?_⟩⟩
      refine lc_map (E := Ex0) (walk_keysT (d := rd) (o := ob2) (kvs := kvG V.int mR)) (B := Pr) (mR.map Prod.fst) (fun e => decide (e.1 = ("old" : Str)) == decide (e ∈ keys tr)) id IsP (by rw [List.length_map, hlr2]) hD (by omega) (fun H' f => f.same _ _ upd_same) (fun i H x H' y => by rw [y.1]; exact Fr.refl _ _) (Sta.isP' .e0) (fun _ _ _ _ z => z) ?_ ?_
      · rintro i x H6 H7 e Ky Kn he fr ⟨rfl, k0, v0, q, hk0, rfl, hq⟩ hy hk
        obtain ⟨e0, he0, rfl, rfl⟩ := kvG_at hk0
        have ee : e0.1 = e := by
          rw [List.getElem?_map, he0] at he
          exact Option.some.inj he
        subst ee
        have hq : H7 q = some (.tup (vP e0.1)) := hq
        obtain ⟨o, hg, ho⟩ := (hfl.same fr.same).has hq
        refine ⟨rfl, _, rfl, q, _, 0, _, rfl, rfl, .inl (.inl hq), at0 e0.1, rfl, _, rfl, _, rfl, fd, o, rfl, hg, rfl, _, rfl, ?_⟩
        have hdd : decide (V.bl (decide (V.str e0.1.1 = V.str "old")) = V.bl o.isSome) = (decide (e0.1.1 = ("old" : Str)) == decide (e0.1 ∈ keys tr)) := by
          rw [ho, Bool.eq_iff_iff, decide_eq_true_iff, beq_iff_eq]
          have : decide (V.str e0.1.1 = V.str "old") = decide (e0.1.1 = ("old" : Str)) := by
            rw [decide_eq_decide]
            exact ⟨fun h => V.str.inj h, fun h => congrArg V.str h⟩
          rw [this]
          exact ⟨fun h => V.bl.inj h, fun h => congrArg V.bl h⟩
        rw [hdd]
        refine ite2 (fun y => ?_) (fun y => ?_)
        · exact ⟨_, rfl, hy _ _ y (Fr.refl _ _) ⟨q, rfl, hq⟩⟩
        · exact hk _ (by simpa using y) (Fr.refl _ _)
      · intro H6 zs fr hD6 r
        rw [kR, List.map_id] at r
        have nDr : D ≠ rd := (ne_of_none upd_same hD).symm
        have sU2 := same_unlock hR5 fr.same
        have f6 : Fr (ExF sd rd) H (upd H6 rd (.dT (kvG V.int mR))) := f5.trans (Fr.of sU2)
        have hDH : H D = none := by
          rw [upd_ne nDr] at hD
          exact f5.free hD
        exact ⟨fr.same _ _ upd_same, k _ D zs S R (keys tr) f6 hDH (by rw [upd_ne nDr]; exact hD6) (IsPs.at (fr.same _ _ upd_same) (by intro xs z; cases z) r) (hS.same (s15.trans sU2)) (hR.same (s15.trans sU2)) FE⟩
    · -- grow
      cases hfr : (keys tr).filter (isOld R) with
      | nil => rw [hfr] at z; exact absurd rfl z
      | cons last rest =>
        have hlm : last ∈ (keys tr).filter (isOld R) := by rw [hfr]; exact List.mem_cons_self
        obtain ⟨hlk, hlo⟩ := List.mem_filter.mp hlm
        unfold isOld at hlo
        rw [Bool.and_eq_true] at hlo
        have ho := of_decide_eq_true hlo.1
        have h0 := of_decide_eq_true hlo.2
        have r5 := r4.mono s5
        rw [hfr] at r5
        obtain ⟨v, hv, la, rfl, hla⟩ := Paired.get' (i := 0) r5 rfl
        refine ⟨_, rfl, p, dx, _, rfl, s15 _ _ hF1.at_, rfl, _, rfl, _, rfl, W, ys, 0, _, rfl, rfl, .inl (.inl (s5 _ _ hW4)), atI_nat (j := 0) hv, ?_⟩
        refine ⟨p, dx, pl, sd, rd, fd, la, ps, es, pr, S, R, tr, last, rfl, hF1.same s15, hS.same s15, hR.same s15, G, FI, TO, hf4.same s5, hla, hlk, ho, h0, fun H6 S' R' f6 hS6 hR6 FI6 hle hlt => ?_⟩
        refine ⟨(es.map R').sum.toNat, ?_, S', R', _, _, _, rfl, f5.trans f6, hS6, hR6, FI6, rfl⟩
        have h1 := sum_lt (es := es) (fun e _ => hle e) (TO.sub last hlk) hlt
        have h2 := sum_nn (es := es) FI6.r0
        omega
end
end Pn
/-! #### W14 -/
namespace Pn
open PySem PySem.Spec PyProof.Rows L2
/-! ### fewest -/
/-- the top's def x whose last parameter may be left out: None -/
def DefAtN (K : PySem.W.Frag) (mg : Str → Option Value) (x : Str) (st : Stmt) : Prop := ∃ f fd, FunD K x x (defArgs st) (defBody st) (defScope st) [.non] [] f fd ∧ mg x = some (.ref f)
structure KfN (P : Program) (w : World) (K : PySem.W.Frag) (mg : Str → Option Value) (base : Heap) (k : Nat) (x : Str) (ps : List Str) (sp : Sp) : Prop where
  ex : ∃ f fd ds, FnOk P w K mg base CX0 k f fd ps sp ∧ Binds K fd ps [] ∧ Vals [.non] ds ∧ Binds K fd ps ds ∧ mg x = some (.ref f) ∧ PySem.W.keepIn K (.ref f) = true
structure Ti (P : Program) (K : PySem.W.Frag) (mg : Str → Option Value) : Prop where
  th : Th P K mg
  fewest : DefAtN K mg "fewest" s_fewest
  is_packing : DefAtN K mg "is_packing" s_is_packing
  is_cover : DefAt K mg "is_cover" s_is_cover
/-- prices that are given, or none -/
def PrOpt (K : PySem.W.Frag) (H : Hp) (v : V) (d : Int) (m : List (Pr × Int)) : Prop := (v = .non ∧ d = 1 ∧ m = []) ∨ PriceAt K H v d m
structure CovAt (K : PySem.W.Frag) (H : Hp) (r : Addr) (col : Str) (price : Int) (sd : List Pr) (pk : List (Pr × Int)) : Prop where
  at_ : ∃ dx sa pa ys ws, H r = some (.ins (cA K "Cover") dx (coverF col price sa pa)) ∧ H sa = some (.tup ys) ∧ IsPs H ys sd ∧ H pa = some (.tup ws) ∧ Paired (IsW H) ws pk
theorem succOf_fst {cols : List Str} {ds : List Dd} {col : Str} {d : Dd} {p : Pr} (h : p ∈ succOf cols ds col d) : p.1 = d.name ∧ ∃ e ∈ ds, p.2 = e.name := by
  unfold succOf at h
  split at h
  · obtain ⟨e, he, rfl⟩ := List.mem_map.mp h
    exact ⟨rfl, e, (List.mem_filter.mp he).1, rfl⟩
  · cases h
theorem map_nd {α β γ : Type} {f : α → β} {g : α → γ} (h : ∀ a b, g a = g b → f a = f b) : ∀ {l : List α}, (l.map f).Nodup → (l.map g).Nodup
  | [], _ => by simp
  | a :: l, nd => by
    have hn := List.nodup_cons.mp nd
    rw [List.map_cons]
    refine List.nodup_cons.mpr ⟨fun z => ?_, map_nd h hn.2⟩
    obtain ⟨b, hb, e⟩ := List.mem_map.mp z
    exact hn.1 (List.mem_map.mpr ⟨b, hb, h b a e⟩)
theorem succOf_nd {cols : List Str} {ds : List Dd} {col : Str} {d : Dd} (nd : (ds.map Dd.name).Nodup) : (succOf cols ds col d).Nodup := by
  unfold succOf
  split
  · have : ((ds.filter (nxB cols ds col (Behind ds d))).map Dd.name).Nodup := List.Nodup.sublist (List.Sublist.map _ List.filter_sublist) nd
    exact map_nd (f := Dd.name) (fun a b e => congrArg Prod.snd e) this
  · simp
theorem succ_nd {cols : List Str} {ds : List Dd} {col : Str} (nd : (ds.map Dd.name).Nodup) : (succ cols ds col).Nodup := by
  unfold succ
  have gen : ∀ l : List Dd, (l.map Dd.name).Nodup → (l.flatMap (succOf cols ds col)).Nodup := by
    intro l
    induction l with
    | nil => intro _; simp
    | cons d l ih =>
      intro h
      have hn := List.nodup_cons.mp h
      rw [List.flatMap_cons]
      refine List.nodup_append.mpr ⟨succOf_nd nd, ih hn.2, fun a ha b hb => ?_⟩
      rintro rfl
      obtain ⟨d', hd', hb'⟩ := List.mem_flatMap.mp hb
      exact hn.1 (List.mem_map.mpr ⟨d', hd', (succOf_fst hb').1.symm.trans (succOf_fst ha).1⟩)
  exact gen ds nd
theorem succ_nm {cols : List Str} {ds : List Dd} {col : Str} (h : ∀ d ∈ ds, Nm d.name) : ∀ q ∈ succ cols ds col, Nm q.1 ∧ Nm q.2 := fun q hq => by
  unfold succ at hq
  obtain ⟨d, hd, hq⟩ := List.mem_flatMap.mp hq
  obtain ⟨e1, e, he, e2⟩ := succOf_fst hq
  rw [e1, e2]
  exact ⟨h d hd, h e he⟩
theorem load_zero (ps : List Pr) (x : Pr) : load ps (fun _ => 0) x = 0 := by
  unfold load
  induction ps with
  | nil => rfl
  | cons p ps ih => rw [List.map_cons, List.sum_cons, ih]; simp
theorem same_fr {H H1 H2 : Hp} {sd rd : Addr} (s : Same H H1) (f : Fr (ExF sd rd) H1 H2) (h1 : H sd = none) (h2 : H rd = none) : Same H H2 := fun q o h => by
  refine f.get (s _ _ h) fun z => ?_
  rcases z.1 with rfl | rfl
  · rw [h1] at h; cases h
  · rw [h2] at h; cases h
theorem Sta.isW : Sta Ex0 IsW := ⟨fun H H' v b f h => IsW.mono f.same h, fun H D ys ys' v b d h => IsW.at d (by intro xs z; cases z) h⟩
theorem cov_len (es ks : List Pr) : (cov es ks).length ≤ es.length := List.length_filter_le _ _
section
variable {P : Program} {w : World} {K : PySem.W.Frag} {mg : Str → Option Value} {base : Heap}
/-- what fewest gives, in plain words -/
structure Fewest (cols : List Str) (ds : List Dd) (col : Str) (pr : Pr → Int) (price : Int) (sd : List Pr) (pk : List (Pr × Int)) : Prop where
  ex : ∃ es S R ks, FlowEnd (succ cols ds col) es pr S R ks ∧ sd = (cov es ks).mergeSort prLe ∧ pk = ((succ cols ds col).filter fun p => decide (0 < S p)).map fun p => (p, S p)
  price : price = (sd.map pr).sum
def sp_fewest (K : PySem.W.Frag) : Sp := fun vs H Q _ => ∃ (v pv : V) (col : Str) (cols : List Str) (ds : List Dd) (d : Int) (m : List (Pr × Int)), vs = [v, .str col, pv] ∧ BookAt K H v cols ds ∧ BkOk cols ds ∧ col ∈ cols ∧ PrOpt K H pv d m ∧ (∀ s, 0 ≤ prc d m s) ∧
  ∀ H' r price sd pk, Same H H' → H r = none → CovAt K H' r col price sd pk → Fewest cols ds col (prc d m) price sd pk → Q (.ref r) H'
set_option maxHeartbeats 8000000 in
theorem ok_fewest (T : Ti P K mg) : KfN P w K mg base 9 "fewest" p_fewest (sp_fewest K) := by
  obtain ⟨f, fd, F, hm⟩ := T.fewest
  have T := T.th
  obtain ⟨ds0, r0, b0⟩ := FunD.binds1 F (ps := p_fewest) 3 1 (by simp) rfl fun T kV doc pm an cdv ct us its h1 h2 => by
    match us, h1, its, h2 with
    | [_, _, _], _, [_], _ => exact ⟨_, rfl, rfl⟩
  obtain ⟨ds1, r1, b1⟩ := FunD.binds1 F (ps := p_fewest) 2 0 (by simp) rfl fun T kV doc pm an cdv ct us its h1 h2 => by
    match us, h1, its, h2 with
    | [_, _], _, [_], _ => exact ⟨_, rfl, rfl⟩
  cases r0
  refine ⟨f, fd, ds1, F.ok sc_fewest (fun vs H Q E ⟨_, _, _, _, _, _, _, e, _⟩ => by rw [e]; rfl) (fun cdv A outer s H vs Q E hr hsp => ?_), b0, r1, b1, hm, F.kp⟩
  obtain ⟨v, pw, col, cols, ds, d, m, rfl, hb, hok, hcol, hpv, hpr, k⟩ := hsp
  have B := T.tg.tf.tb.te.td.tc.tw.bt
  have c_check_column := ok_check_column (P := P) (w := w) (base := base) T.tg.tf.tb
  have c_all_successions := ok_all_successions (P := P) (w := w) (base := base) T.tg.tf.tb
  have c_finish := ok_finish (P := P) (w := w) (base := base) T
  have c_total := ok_total (P := P) (w := w) (base := base) T.tg
  obtain ⟨fp, fdp, dp, Mp, Fp, _, vp, bp⟩ := ok_prices_init (P := P) (w := w) (base := base) T.tg
  obtain ⟨ff, fdf, Mf', Ff, bf⟩ := ok_flow_init (P := P) (w := w) (base := base) T
  obtain ⟨fc, fdc, Mc, Fc, bc⟩ := ok_cover_init (P := P) (w := w) (base := base) T
  refine ⟨_, PSs.nox (pss_cons (ps_expr (pe_k c_check_column hr (by decide) rfl (pa_cons (pv 0) (pa_cons (pv 1) pa_nil)))) (pss_cutP (sset 3 sc_fewest.nd (pe_ifExp (pt_cmpR op_isN (pv 2) pe_non (nomark _)) (pe_make0 Mp Fp (hr.mono (by decide)) rfl T.tg.prices.g bp vp pass0) (pv 2))) (pss_cons (sset 4 sc_fewest.nd (pe_make Mf' Ff (hr.mono (by decide)) rfl T.flow.g bf .nil pass0 (pa_cons (pe_k c_all_successions hr (by decide) rfl (pa_cons (pv 0) (pa_cons (pv 1) pa_nil))) (pa_cons (pv 3) pa_nil)))) (pss_cons (sset 5 sc_fewest.nd (cB (cr_sortedPr hr) B.sorted bb_sorted (pa_cons (pe_m0 c_finish hr (by decide) (pv 4)) pa_nil))) (pss_cons (ps_setLc (i := 6) (own := [("pair", 7)]) rfl sc_fewest.nd rfl rfl (sw_true rfl rfl rfl (by decide +kernel)) (pi_listK K (fldK K (pv 4) rfl)) (blkOk_by (N := n_fewest) (sc := defScope s_fewest) (by decide +kernel)) (fun _ _ _ _ _ => (gnm 7 sc_fewest.nd)) (fun _ _ _ _ _ => pts_one (pt_cmpR op_gt (pe_dget (hu_of hr) (fldK K (pv 4) rfl) (pv 7) (fun _ _ => rfl)) pe_int (nomark _))) (fun _ _ _ _ _ => (pe_tup (pa_cons (pv 7) (pa_cons (pe_dget (hu_of hr) (fldK K (pv 4) rfl) (pv 7) (fun _ _ => rfl)) pa_nil))))) (pss_one (ps_ret (pe_make Mc Fc (hr.mono (by decide)) rfl T.cover.g bc .nil pass0 (pa_cons (pv 1) (pa_cons (pe_m c_total hr (by decide) (pv 3) (pa_cons (pv 5) pa_nil)) (pa_cons (cT call_tuple_of B.tuple bb_tuple (pa_cons (pv 5) pa_nil)) (pa_cons (cT call_tuple_of B.tuple bb_tuple (pa_cons (pv 6) pa_nil)) pa_nil)))))))))))), ?_⟩
  refine ⟨_, rfl, _, rfl, v, col, cols, ds, rfl, hb, hcol, ?_⟩
  refine ⟨fun σ H' => (∃ wv, σ = [some v, some (.str col), some pw, some wv, none, none, none, none] ∧ PriceAt K H' wv d m) ∧ Same H H', ?_, ?_⟩
  · rcases hpv with ⟨rfl, rfl, rfl⟩ | hpv
    · refine ⟨_, rfl, rfl, _, rfl, iteT fun x dx hx hdx hne => ?_⟩
      have s1 : Same H (upd (upd H dx (.own x)) x (.ins (cA K "Prices") dx [])) := (((Fr.refl Ex0 H).put hdx).put hx).same
      refine ⟨H, x, dx, 1, rfl, by decide, by decide, s1, hx, upd_same, fun H' sa s2 hsa hx' hd => ⟨rfl, ⟨.ref x, rfl, x, dx, sa, rfl, hx', hd⟩, s2⟩⟩
    · have hne : decide (pw = V.non) = false := decide_eq_false (by
        obtain ⟨p, _, _, rfl, _⟩ := hpv
        intro z; cases z)
      refine ⟨_, rfl, rfl, _, rfl, ?_⟩
      rw [hne]
      exact iteF ⟨_, rfl, ⟨_, rfl, hpv⟩, fun _ _ h => h⟩
  · rintro σ H1 ⟨⟨wv, rfl, hw⟩, s1⟩
    refine ⟨_, rfl, _, rfl, v, col, cols, ds, rfl, hb.same s1, hok, fun l H2 s2 ⟨hl0, vs, hl, hvs⟩ => ?_⟩
    refine ⟨_, rfl, fun x dx hx hdx hne => ?_⟩
    have s3 : Same H2 (upd (upd H2 dx (.own x)) x (.ins (cA K "Flow") dx [])) := (((Fr.refl Ex0 H2).put hdx).put hx).same
    have hnm := succ_nm (cols := cols) (col := col) hok.nm
    have hnd := succ_nd (cols := cols) (col := col) hok.nd
    have hln := succ_len (cols := cols) (col := col) hok.few
    refine ⟨H2, x, dx, l, wv, d, m, vs, succ cols ds col, rfl, s3, hx, upd_same, hl, hvs, hnd, hln, hnm, hw.same s2, fun H4 sd rd es s4 hsd hrd hF hS hR hen hem hel => ⟨rfl, ?_⟩⟩
    have G : FlG (succ cols ds col) es := ⟨hnm, hnd, hln, hen, hel, hem⟩
    have FI : FlowI (succ cols ds col) es (prc d m) (fun _ => 0) (prc d m) := by
      refine ⟨hnd, fun p hp => ⟨(hem _).mpr ⟨p, hp, .inl rfl⟩, (hem _).mpr ⟨p, hp, .inr rfl⟩⟩, fun _ _ => Int.le_refl _, fun e _ => hpr e, fun e _ => ?_⟩
      rw [load_zero, Int.add_zero]
    refine ⟨_, rfl, x, dx, _, rfl, hF.at_, rfl, x, dx, l, sd, rd, succ cols ds col, es, prc d m, fun _ => 0, prc d m, rfl, hF, hS, hR, G, FI, fun H5 r ys S R ks f5 hr0 hr5 hys hS5 hR5 FE => ?_⟩
    have s5 : Same H2 H5 := same_fr s4 f5 hsd hrd
    have hF5 := hF.fr f5
    have hcl := cov_len es ks
    refine ⟨r, ys, cov es ks, rfl, .inl (.inl (.inl hr5)), hys, by omega, fun zs q hzs hq => ?_⟩
    have s6 : Same H5 (upd H5 q (.lst zs)) := (Fr.new (E := Ex0) hq).same
    have hq6 : upd H5 q (.lst zs) q = some (.lst zs) := upd_same
    revert s6 hq6
    generalize upd H5 q (.lst zs) = H6
    intro s6 hq6
    have hF6 := hF5.same s6
    have hS6 := hS5.same s6
    obtain ⟨vl, hvl, hvlp⟩ := hF6.prs
    have hvll : vl.length = (succ cols ds col).length := Paired.length hvlp
    refine ⟨_, rfl, x, _, dx, _, _, rfl, hF6.at_, T.flow.cl, T.nF _ (by simp), (show (flowF l sd rd).lookup ("pairs" : Str) = some (.ref l) from rfl), l, rfl, ⟨vl, .inl (.inl hvl)⟩, fun D hD => ?_⟩
    refine lc_map (E := Ex0) (walk_list (xs := vl)) (B := Pr × Int) (succ cols ds col) (fun p => decide (0 < S p)) (fun p => (p, S p)) IsW hvll.symm hD (by omega) (fun H' f => .inl (.inl (f.same _ _ hvl))) (fun i H x H' y => by rw [y.1]; exact Fr.refl _ _) Sta.isW (fun _ _ _ _ z => z) ?_ ?_
    · rintro i y H7 H8 p Ky Kn hp fr ⟨rfl, hy0⟩ hy hk
      obtain ⟨b, rfl, hb8⟩ := Paired.at hvlp hy0 hp
      have hpm := List.mem_of_getElem? hp
      have hb8' := fr.same _ _ hb8
      refine ⟨rfl, _, rfl, x, _, dx, _, _, rfl, fr.same _ _ hF6.at_, T.flow.cl, T.nF _ (by simp), (show (flowF l sd rd).lookup ("sent" : Str) = some (.ref sd) from rfl), _, rfl, sd, _, rfl, (hS6.same fr.same).get hpm hb8', _, _, rfl, rfl, _, rfl, ite2 (fun z => ?_) (fun z => hk _ (by simpa using z) (Fr.refl _ _))⟩
      refine ⟨_, rfl, _, rfl, x, _, dx, _, _, rfl, fr.same _ _ hF6.at_, T.flow.cl, T.nF _ (by simp), (show (flowF l sd rd).lookup ("sent" : Str) = some (.ref sd) from rfl), _, rfl, sd, _, rfl, (hS6.same fr.same).get hpm hb8', (by show 2 ≤ sizeLine; decide), fun t ht => ?_⟩
      exact hy _ _ z (Fr.new ht) ⟨t, .ref b, rfl, upd_same, b, rfl, (Fr.new (E := Ex0) ht).same _ _ hb8'⟩
    · intro H7 ws fr hD7 rw
      have s7 := s6.trans fr.same
      have hzs7 : IsPs H7 zs ((cov es ks).mergeSort prLe) := hzs.mono s7
      have hq7 := fr.same _ _ hq6
      have hsl : ((cov es ks).mergeSort prLe).length = (cov es ks).length := List.length_mergeSort _
      have h27 := s5.trans s7
      have sdok : ∀ s ∈ (cov es ks).mergeSort prLe, SdOk s := fun s hs => by
        have h1 : s ∈ es := (List.mem_filter.mp ((List.mergeSort_perm _ _).mem_iff.mp hs)).1
        obtain ⟨p, hp, z⟩ := (hem s).mp h1
        rcases z with rfl | rfl
        · exact ⟨.inr rfl, (hnm p hp).1⟩
        · exact ⟨.inl rfl, (hnm p hp).2⟩
      obtain ⟨pw', dxw, sw, ew, hw1, hw2⟩ := id ((hw.same s2).same h27)
      refine ⟨_, rfl, _, rfl, pw', dxw, _, ew, hw1, rfl, _, rfl, wv, d, m, q, zs, (cov es ks).mergeSort prLe, by rw [ew]; rfl, (hw.same s2).same h27, hq7, hzs7, sdok, by omega, fun H8 s8 => ?_⟩
      refine ⟨_, rfl, q, zs, rfl, .inl ⟨.inl (.inl (s8 _ _ hq7)), fun sa hsa => ?_⟩⟩
      have s9 : Same H8 (upd H8 sa (.tup zs)) := (Fr.new (E := Ex0) hsa).same
      have hsa9 : upd H8 sa (.tup zs) sa = some (.tup zs) := upd_same
      have hsa0 := hsa
      revert s9 hsa9
      generalize upd H8 sa (.tup zs) = H9
      intro s9 hsa9
      have s79 := s8.trans s9
      refine ⟨_, rfl, D, ws, rfl, .inl ⟨.inl (.inl (s79 _ _ hD7)), fun pa hpa => fun c dc hc hdc hnc => ?_⟩⟩
      have sA : Same H9 (upd H9 pa (.tup ws)) := (Fr.new (E := Ex0) hpa).same
      have sB : Same (upd H9 pa (.tup ws)) (upd (upd (upd H9 pa (.tup ws)) dc (.own c)) c (.ins (cA K "Cover") dc [])) := (((Fr.refl Ex0 _).put hdc).put hc).same
      refine ⟨upd H9 pa (.tup ws), c, dc, sa, pa, col, _, rfl, sB, hc, upd_same, fun H' sC hc' => ⟨rfl, ?_⟩⟩
      have s2A : Same H2 (upd H9 pa (.tup ws)) := h27.trans (s79.trans sA)
      refine k H' c _ ((cov es ks).mergeSort prLe) _ ((s1.trans s2).trans (s2A.trans sC)) ?_ ⟨dc, sa, pa, zs, ws, hc', sC _ _ (sA _ _ hsa9), hzs7.mono (s79.trans (sA.trans sC)), sC _ _ upd_same, Paired.mono (fun _ _ z => IsW.mono (s79.trans (sA.trans sC)) z) rw⟩ ⟨⟨es, S, R, ks, FE, rfl, rfl⟩, rfl⟩
      exact (Fr.of (E := Ex0) ((s1.trans s2).trans s2A)).free hc
end
end Pn
/-! #### W15 -/
namespace Pn
open PySem PySem.Spec PyProof.Rows L2
/-! ### is_cover, is_packing -/
section
variable {K : PySem.W.Frag} {H : Hp} {b l : Addr} {p : Pr} {vs : List V} {ps : List Pr} {Q : VK}
theorem inP (hb : H b = some (.tup (vP p))) (hl : H l = some (.lst vs)) (hp : IsPs H vs ps) (sp : SkP p) (sq : ∀ z ∈ ps, SkP z) (k : Q (.bl (decide (p ∈ ps))) H) : rInD K (.ref b) (.ref l) H Q :=
  ⟨prD2 p, ps.map prD2, IsP.dp ⟨b, rfl, hb⟩, hp.dp hl, prD2_shaped sp, prDs2_shaped sq, by rw [prDs2_any]; exact k⟩
theorem notInP (hb : H b = some (.tup (vP p))) (hl : H l = some (.lst vs)) (hp : IsPs H vs ps) (sp : SkP p) (sq : ∀ z ∈ ps, SkP z) (k : Q (.bl (!decide (p ∈ ps))) H) : rNotInD K (.ref b) (.ref l) H Q :=
  ⟨prD2 p, ps.map prD2, IsP.dp ⟨b, rfl, hb⟩, hp.dp hl, prD2_shaped sp, prDs2_shaped sq, by rw [prDs2_any]; exact k⟩
end
theorem Paired.take {α β : Type} {F : α → β → Prop} : ∀ {l1 : List α} {l2 : List β} (i : Nat), Paired F l1 l2 → Paired F (l1.take i) (l2.take i)
  | _, _, 0, _ => by simp; exact .nil
  | _, _, i + 1, .nil => by simp; exact .nil
  | _, _, i + 1, .cons h t => by rw [List.take_succ_cons, List.take_succ_cons]; exact .cons h (Paired.take i t)
theorem sides_mem {cols : List Str} {ds : List Dd} {col : Str} {e : Pr} : e ∈ sides cols ds col ↔ ∃ d ∈ ds, e ∈ sidesIn cols col d := by
  unfold sides
  rw [List.mem_flatMap]
theorem sidesIn_fst {cols : List Str} {col : Str} {d : Dd} {e : Pr} (h : e ∈ sidesIn cols col d) : e.2 = d.name ∧ (e.1 = "old" ∨ e.1 = "new") := by
  unfold sidesIn at h
  rcases List.mem_append.mp h with z | z
  · split at z
    · have : e = (("new" : Str), d.name) := by simpa using z
      subst this; exact ⟨rfl, .inr rfl⟩
    · cases z
  · split at z
    · have : e = (("old" : Str), d.name) := by simpa using z
      subst this; exact ⟨rfl, .inl rfl⟩
    · cases z
theorem sides_sk {cols : List Str} {ds : List Dd} {col : Str} (h : ∀ d ∈ ds, Nm d.name) {e : Pr} (he : e ∈ sides cols ds col) : SkP e ∧ SdOk e := by
  obtain ⟨d, hd, z⟩ := sides_mem.mp he
  obtain ⟨h1, h2⟩ := sidesIn_fst z
  have hn := h d hd
  refine ⟨⟨?_, by rw [h1]; exact hn.sk⟩, h2, by rw [h1]; exact hn⟩
  rcases h2 with y | y <;> rw [y]
  · exact sk_old
  · exact sk_new
theorem sidesIn_nd {cols : List Str} {col : Str} {d : Dd} : (sidesIn cols col d).Nodup := by
  have : ¬ Str.ofString "new" = Str.ofString "old" := by decide
  unfold sidesIn
  split <;> split <;> simp [this]
theorem sides_nd {cols : List Str} {ds : List Dd} {col : Str} (nd : (ds.map Dd.name).Nodup) : (sides cols ds col).Nodup := by
  unfold sides
  induction ds with
  | nil => simp
  | cons d l ih =>
    have hn := List.nodup_cons.mp nd
    rw [List.flatMap_cons]
    refine List.nodup_append.mpr ⟨sidesIn_nd, ih hn.2, fun a ha b hb => ?_⟩
    rintro rfl
    obtain ⟨d', hd', hb'⟩ := List.mem_flatMap.mp hb
    exact hn.1 (List.mem_map.mpr ⟨d', hd', (sidesIn_fst hb').1.symm.trans (sidesIn_fst ha).1⟩)
section
variable {P : Program} {w : World} {K : PySem.W.Frag} {mg : Str → Option Value} {base : Heap}
def sp_is_cover (K : PySem.W.Frag) : Sp := fun vs H Q _ => ∃ (v : V) (col : Str) (cols : List Str) (ds : List Dd) (sa : Addr) (ys : List V) (sd : List Pr), vs = [v, .str col, .ref sa] ∧ BookAt K H v cols ds ∧ BkOk cols ds ∧ col ∈ cols ∧ H sa = some (.tup ys) ∧ IsPs H ys sd ∧
  (∀ s ∈ sd, s ∈ sides cols ds col) ∧ sd.Nodup ∧ (∀ p ∈ succ cols ds col, nw p ∈ sd ∨ od p ∈ sd) ∧ ∀ H', Same H H' → Q (.bl true) H'
set_option maxHeartbeats 8000000 in
theorem ok_is_cover (T : Ti P K mg) : Kf P w K mg base 7 "is_cover" p_is_cover (sp_is_cover K) := by
  refine Kf.of T.is_cover sc_is_cover ((fun _ _ _ _ _ _ us hl => match us, hl with | [_, _, _], _ => rfl)) (fun vs H Q E ⟨_, _, _, _, _, _, _, e, _⟩ => by rw [e]; rfl) fun f cdv A outer s H vs Q E hr ⟨v, col, cols, ds, sa, ys, sd, e, hb, hok, hcol, hsa, hys, hin, hnd, hcv, k⟩ => ?_
  subst e
  have T := T.th
  have B := T.tg.tf.tb.te.td.tc.tw.bt
  have c_check_column := ok_check_column (P := P) (w := w) (base := base) T.tg.tf.tb
  have c_all_successions := ok_all_successions (P := P) (w := w) (base := base) T.tg.tf.tb
  have c_sides_of := ok_sides_of (P := P) (w := w) (base := base) T.tg.tf
  have c_ends_of := ok_ends_of (P := P) (w := w) (base := base) T.tg.tf
  refine ⟨_, (pss_cons (ps_expr (pe_k c_check_column hr (by decide) rfl (pa_cons (pv 0) (pa_cons (pv 1) pa_nil)))) (pss_cons (sset 3 sc_is_cover.nd (pe_k c_sides_of hr (by decide) rfl (pa_cons (pv 0) (pa_cons (pv 1) pa_nil)))) (pss_cons (ps_if (pt_not (pt_val (cB (isiTK K) B.isinstance bb_isinstance (pa_cons (pv 2) (pa_cons (pe_tup (pa_cons (pe_tyv "list" B.list bb_list) (pa_cons (pe_tyv "tuple" B.tuple bb_tuple) pa_nil))) pa_nil))))) (pss_one (ps_ret pe_bl)) pss_nil) (pss_cons (sset 4 sc_is_cover.nd (cT call_list_of B.list bb_list (pa_cons (pv 2) pa_nil))) (pss_cons (ps_for PassesOwn.never rfl (pi_enum rfl B.enumerate (pa_cons (pv 4) pa_nil)) (pg_tupK K (n := 2) rfl (pgs_cons (gnm 5 sc_is_cover.nd) (pgs_cons (gnm 6 sc_is_cover.nd) pgs_nil))) (pss_one (ps_if (PW.pt (pw_or (pt_cmpR (op_notInDK K (hu65 hr)) (pv 6) (pv 3) (by with_unfolding_all rfl)) (pw_or1 (pt_cmpR (op_inDK K (hu65 hr)) (pv 6) (pe_slice sl_list (pv 4) po_none (po_some (pv 5))) (by with_unfolding_all rfl))))) (pss_one (ps_ret pe_bl)) pss_nil))) (pss_one (ps_ret (cB (allK K rfl) B.all bb_all (pa_cons (pe_lc (own := [("pair", 8)]) rfl sc_is_cover.nd (pi_listK K (pe_k c_all_successions hr (by decide) rfl (pa_cons (pv 0) (pa_cons (pv 1) pa_nil)))) (blkOk_by (N := n_is_cover) (sc := defScope s_is_cover) (by decide +kernel)) (fun _ _ _ _ _ => (gnm 8 sc_is_cover.nd)) (fun _ _ _ _ _ => pts_nil) (fun _ _ _ _ _ => (cB (anyK K rfl) B.any bb_any (pa_cons (pe_lc (own := [("end", 7)]) rfl sc_is_cover.nd (pi_tupK K (pe_k c_ends_of hr (by decide) rfl (pa_cons (pv 8) pa_nil))) (blkOk_by (by kernel_rfl)) (fun _ _ _ _ _ => (gnm 7 sc_is_cover.nd)) (fun _ _ _ _ _ => pts_nil) (fun _ _ _ _ _ => (pe_cmpR (op_inDK K (hu65 hr)) (pv 7) (pv 4) (by with_unfolding_all rfl)))) pa_nil)))) pa_nil))))))))), ?_⟩
  refine ⟨_, rfl, _, rfl, v, col, cols, ds, rfl, hb, hcol, ?_⟩
  refine ⟨_, rfl, _, rfl, v, col, cols, ds, rfl, hb, hok, fun kl H1 s1 ⟨hkl0, kv, hkl, hkv⟩ => ?_⟩
  have hsks : ∀ e ∈ sides cols ds col, SkP e := fun e he => (sides_sk hok.nm he).1
  have hsk : ∀ e ∈ sd, SkP e := fun e he => hsks e (hin e he)
  have hyl : ys.length = sd.length := Paired.length hys
  have hsdl : sd.length ≤ 16 := Nat.le_trans (nodup_len hnd hin) (sides_len hok.few)
  refine ⟨_, rfl, (by show 2 ≤ sizeLine; decide), fun tp htp => ?_⟩
  have s2 : Same H1 (upd H1 tp (.tup [.ty "list", .ty "tuple"])) := (Fr.new (E := Ex0) htp).same
  refine ⟨.ref sa, tp, _, .type "tuple", [.type "list", .type "tuple"], true, rfl, upd_same, .cons (.ty _) (.cons (.ty _) .nil), .base (.tup (s2 _ _ (s1 _ _ hsa))), kitAny_cons (b := false) (kit_ty (by decide +kernel)) (fun _ => kitAny_cons (b := true) (kit_ty (by decide +kernel)) (fun z => by cases z) fun _ => rfl) (fun z => by cases z), true, rfl, iteF ?_⟩
  have s12 := s1.trans s2
  have hkl2 := s2 _ _ hkl
  revert s2 s12 hkl2
  generalize upd H1 tp (.tup [.ty "list", .ty "tuple"]) = H2
  intro s2 s12 hkl2
  have hkv2 := hkv.mono s2
  refine ⟨_, rfl, sa, ys, rfl, .inr (.inl (.inl (s12 _ _ hsa))), fun l hl => ?_⟩
  have s3 : Same H2 (upd H2 l (.lst ys)) := (Fr.new (E := Ex0) hl).same
  have hl3 : upd H2 l (.lst ys) l = some (.lst ys) := upd_same
  revert s3 hl3
  generalize upd H2 l (.lst ys) = H3
  intro s3 hl3
  have s13 := s12.trans s3
  let Pv : Nat → L2.St → Hp → Prop := fun i σ H' => (∃ o5 o6, σ = [some v, some (.str col), some (.ref sa), some (.ref kl), some (.ref l), o5, o6, none, none]) ∧ Same H3 H'
  refine ⟨_, rfl, l, ys, rfl, .inl (.inl hl3), for_it (walk_enum (xs := ys)) Pv ⟨⟨_, _, rfl⟩, Same.refl _⟩ (fun i σ H' _ p => .inl (.inl (p.2 _ _ hl3))) ?_ ?_⟩
  · rintro i x σ H4 H5 hi ⟨⟨o5, o6, rfl⟩, s4⟩ ⟨t, x1, y, rfl, ht, rfl, ex, ey⟩
    cases ex
    obtain ⟨e, he, b, rfl, hb0⟩ := Paired.get hys ey
    have hem := List.mem_of_getElem? he
    have s5 : Same H4 (upd H4 t (.tup [.int (i : Nat), .ref b])) := (Fr.new (E := Ex0) ht).same
    have ht5 : upd H4 t (.tup [.int (i : Nat), .ref b]) t = some (.tup [.int (i : Nat), .ref b]) := upd_same
    revert s5 ht5
    generalize upd H4 t (.tup [.int (i : Nat), .ref b]) = H5
    intro s5 ht5
    have s35 := s4.trans s5
    have hb5 : H5 b = some (.tup (vP e)) := s35 _ _ (s13 _ _ hb0)
    refine ⟨t, _, rfl, .inl (.inl ht5), rfl, _, _, rfl, _, _, rfl, rfl, ?_⟩
    refine ⟨_, rfl, _, rfl, notInP hb5 (s35 _ _ (s3 _ _ hkl2)) (hkv2.mono (s3.trans s35)) (hsk e hem) hsks ⟨_, rfl, ?_⟩⟩
    rw [decide_eq_true (hin e hem)]
    refine iteF ⟨_, rfl, _, rfl, _, rfl, (i : Nat), rfl, l, ys, rfl, .inl (.inl (s35 _ _ hl3)), fun q hq => ?_⟩
    rw [cut_take _ _ (Nat.le_of_lt hi)]
    have s6 : Same H5 (upd H5 q (.lst (ys.take i))) := (Fr.new (E := Ex0) hq).same
    refine inP (s6 _ _ hb5) upd_same (IsPs.mono ((s13.trans s35).trans s6) (Paired.take i hys)) (hsk e hem) (fun z hz => hsk z (List.mem_of_mem_take hz)) ⟨_, rfl, ?_⟩
    have hno : e ∉ sd.take i := fun z => by
      obtain ⟨j, hj⟩ := List.mem_iff_getElem?.mp z
      rw [List.getElem?_take] at hj
      split at hj
      · rename_i hlt
        obtain ⟨a1, b1⟩ := List.getElem?_eq_some_iff.mp hj
        obtain ⟨a2, b2⟩ := List.getElem?_eq_some_iff.mp he
        exact absurd (b1.trans b2.symm) (List.pairwise_iff_getElem.mp hnd j i a1 a2 hlt)
      · cases hj
    rw [decide_eq_false hno]
    exact iteF ⟨⟨_, _, rfl⟩, s35.trans s6⟩
  · rintro σ H4 ⟨⟨o5, o6, rfl⟩, s4⟩
    have s14 := s13.trans s4
    refine ⟨_, rfl, _, rfl, v, col, cols, ds, rfl, hb.same s14, hok, fun r H5 s5 ⟨hr0, rv, hrv, hrp⟩ => ⟨r, rfl, ⟨rv, .inl (.inl hrv)⟩, fun D hD => ?_⟩⟩
    have hl5 := s5 _ _ (s4 _ _ hl3)
    have hy5 : IsPs H5 ys sd := hys.mono (s14.trans s5)
    have hrl : rv.length = (succ cols ds col).length := Paired.length hrp
    have hsl := succ_len (cols := cols) (col := col) hok.few
    refine lc_map (E := Ex0) (walk_list (xs := rv)) (B := Bool) (succ cols ds col) (fun _ => true) (fun _ => true) (fun _ v b => v = .bl b) hrl.symm hD (by omega) (fun H' f => .inl (.inl (f.same _ _ hrv))) (fun i H x H' y => by rw [y.1]; exact Fr.refl _ _) (Sta.eq V.bl) (fun _ _ _ _ z => z) ?_ ?_
    · rintro i x H6 H7 q Ky Kn hq fr ⟨rfl, hx⟩ hy hk
      obtain ⟨b, rfl, hb0⟩ := Paired.at hrp hx hq
      have hqm := List.mem_of_getElem? hq
      have hnq := succ_nm (cols := cols) (col := col) hok.nm q hqm
      refine ⟨rfl, yes_of ?_⟩
      refine ⟨_, rfl, .ref b, q.1, q.2, rfl, ⟨b, rfl, fr.same _ _ hb0⟩, fun t H8 s8 ⟨us, ht8, hus⟩ => ⟨t, rfl, ⟨us, .inl (.inl ht8)⟩, fun D2 hD2 => ?_⟩⟩
      have hus : IsPs H8 us [nw q, od q] := hus
      have hul : us.length = 2 := Paired.length hus
      refine lc_map (E := Ex0) (walk_tup (xs := us)) (B := Bool) [nw q, od q] (fun _ => true) (fun e => decide (e ∈ sd)) (fun _ v b => v = .bl b) hul.symm hD2 (by omega) (fun H' f => .inl (.inl (f.same _ _ ht8))) (fun i H x H' y => by rw [y.1]; exact Fr.refl _ _) (Sta.eq V.bl) (fun _ _ _ _ z => z) ?_ ?_
      · rintro j y H9 H10 e Ky2 Kn2 he fr2 ⟨rfl, hye⟩ hy2 hk2
        obtain ⟨c, rfl, hc⟩ := Paired.at hus hye he
        have hske : SkP e := by
          have : e ∈ ([nw q, od q] : List Pr) := List.mem_of_getElem? he
          rcases List.mem_cons.mp this with z | z
          · subst z; exact ⟨sk_new, hnq.1.sk⟩
          · have : e = od q := by simpa using z
            subst this; exact ⟨sk_old, hnq.2.sk⟩
        have s510 := (fr.same.trans s8).trans fr2.same
        refine ⟨rfl, yes_of ⟨_, rfl, _, rfl, inP (fr2.same _ _ hc) (s510 _ _ hl5) (hy5.mono s510) hske hsk (hy2 _ _ rfl (Fr.refl _ _) rfl)⟩⟩
      · intro H9 zs fr2 hD9 rz
        have hz := Paired.mapEq (f := V.bl) rz
        rw [List.filter_eq_self.mpr (fun _ _ => rfl)] at hz
        refine ⟨D2, _, rfl, .inl (.inl (hz ▸ hD9)), hy _ _ rfl (Fr.of (s8.trans fr2.same)) ?_⟩
        show V.bl _ = V.bl true
        congr 1
        rcases hcv q hqm with z | z
        · simp [z]
        · simp [z]
    · intro H6 zs fr hD6 rz
      have hz := Paired.mapEq (f := V.bl) rz
      rw [List.filter_eq_self.mpr (fun _ _ => rfl)] at hz
      refine ⟨D, _, rfl, .inl (.inl (hz ▸ hD6)), ?_⟩
      have e : (((succ cols ds col).map fun _ => true).all id) = true := by simp
      rw [e]
      exact k _ ((s14.trans s5).trans fr.same)
end
end Pn
/-! #### W16 -/
namespace Pn
open PySem PySem.Spec PyProof.Rows L2
/-! ### is_packing -/
def loadP (pk : List (Pr × Int)) (e : Pr) : Int := (pk.map fun x => inc e x.1 * x.2).sum
theorem loadP_app (pk : List (Pr × Int)) (q : Pr) (n : Int) (e : Pr) : loadP (pk ++ [(q, n)]) e = loadP pk e + inc e q * n := by
  unfold loadP
  rw [List.map_append, List.sum_append]
  simp
theorem bump2 (f : Pr → Int) (q : Pr) (n : Int) (e : Pr) : bump (bump f (nw q) n) (od q) n e = f e + inc e q * n := by
  unfold bump inc ind
  have := nw_od q q
  by_cases h1 : e = nw q
  · have h2 : ¬ e = od q := fun z => this (h1.symm.trans z)
    simp only [if_pos h1, if_neg h2]
    omega
  · by_cases h2 : e = od q
    · simp only [if_neg h1, if_pos h2]
      omega
    · simp only [if_neg h1, if_neg h2]
      omega
section
variable {P : Program} {w : World} {K : PySem.W.Frag} {mg : Str → Option Value} {base : Heap}
def sp_is_packing (K : PySem.W.Frag) : Sp := fun vs H Q _ => ∃ (v pw : V) (col : Str) (cols : List Str) (ds : List Dd) (d : Int) (m : List (Pr × Int)) (pa : Addr) (ws : List V) (pk : List (Pr × Int)), vs = [v, .str col, .ref pa, pw] ∧ BookAt K H v cols ds ∧ BkOk cols ds ∧ col ∈ cols ∧ PrOpt K H pw d m ∧
  H pa = some (.tup ws) ∧ Paired (IsW H) ws pk ∧ (∀ x ∈ pk, x.1 ∈ succ cols ds col ∧ 1 ≤ x.2) ∧ (pk.map Prod.fst).Nodup ∧ (∀ p ∈ succ cols ds col, nw p ∈ sides cols ds col ∧ od p ∈ sides cols ds col) ∧ (∀ e ∈ sides cols ds col, loadP pk e ≤ prc d m e) ∧ ∀ H', Same H H' → Q (.bl true) H'
set_option maxHeartbeats 8000000 in
theorem ok_is_packing (T : Ti P K mg) : KfN P w K mg base 7 "is_packing" p_is_packing (sp_is_packing K) := by
  obtain ⟨f, fd, F, hm⟩ := T.is_packing
  have T := T.th
  obtain ⟨ds0, r0, b0⟩ := FunD.binds1 F (ps := p_is_packing) 4 1 (by simp) rfl fun T kV doc pm an cdv ct us its h1 h2 => by
    match us, h1, its, h2 with
    | [_, _, _, _], _, [_], _ => exact ⟨_, rfl, rfl⟩
  obtain ⟨ds1, r1, b1⟩ := FunD.binds1 F (ps := p_is_packing) 3 0 (by simp) rfl fun T kV doc pm an cdv ct us its h1 h2 => by
    match us, h1, its, h2 with
    | [_, _, _], _, [_], _ => exact ⟨_, rfl, rfl⟩
  cases r0
  refine ⟨f, fd, ds1, F.ok sc_is_packing (fun vs H Q E ⟨_, _, _, _, _, _, _, _, _, _, e, _⟩ => by rw [e]; rfl) (fun cdv A outer s H vs Q E hr hsp => ?_), b0, r1, b1, hm, F.kp⟩
  obtain ⟨v, pw, col, cols, ds, d, m, pa, ws, pk, rfl, hb, hok, hcol, hpv, hpa, hws, hpk, hnd, hends, hle, k⟩ := hsp
  have B := T.tg.tf.tb.te.td.tc.tw.bt
  have c_check_column := ok_check_column (P := P) (w := w) (base := base) T.tg.tf.tb
  have c_all_successions := ok_all_successions (P := P) (w := w) (base := base) T.tg.tf.tb
  have c_sides_of := ok_sides_of (P := P) (w := w) (base := base) T.tg.tf
  have c_ends_of := ok_ends_of (P := P) (w := w) (base := base) T.tg.tf
  have c_is_integer := ok_is_integer (P := P) (w := w) (base := base) T.tg.tf.tb.te.td.tc.tw
  obtain ⟨fp, fdp, dp, Mp, Fp, _, vp, bp⟩ := ok_prices_init (P := P) (w := w) (base := base) T.tg
  obtain ⟨g, fdg, Gg, Fg, bg⟩ := ok_prices_get (P := P) (w := w) (base := base) T.tg
  refine ⟨_, PSs.nox (pss_cons (ps_expr (pe_k c_check_column hr (by decide) rfl (pa_cons (pv 0) (pa_cons (pv 1) pa_nil)))) (pss_cutP (sset 4 sc_is_packing.nd (pe_ifExp (pt_cmpR op_isN (pv 3) pe_non (nomark _)) (pe_make0 Mp Fp (hr.mono (by decide)) rfl T.tg.prices.g bp vp pass0) (pv 3))) (pss_cons (sset 5 sc_is_packing.nd (pe_k c_all_successions hr (by decide) rfl (pa_cons (pv 0) (pa_cons (pv 1) pa_nil)))) (pss_cons (ps_if (pt_not (pt_val (cB (isiTK K) B.isinstance bb_isinstance (pa_cons (pv 2) (pa_cons (pe_tup (pa_cons (pe_tyv "list" B.list bb_list) (pa_cons (pe_tyv "tuple" B.tuple bb_tuple) pa_nil))) pa_nil))))) (pss_one (ps_ret pe_bl)) pss_nil) (pss_cons (sset 6 sc_is_packing.nd (pe_dcT (own := [("side", 7)]) (hu_of hr) rfl sc_is_packing.nd (pi_listK K (pe_k c_sides_of hr (by decide) rfl (pa_cons (pv 0) (pa_cons (pv 1) pa_nil)))) (blkOk_by (N := n_is_packing) (sc := defScope s_is_packing) (by decide +kernel)) (fun _ _ _ _ _ => (gnm 7 sc_is_packing.nd)) (fun _ _ _ _ _ => pts_nil) (fun _ _ _ _ _ => (pv 7)) (fun _ _ _ _ _ => pe_int))) (pss_cons (sset 8 sc_is_packing.nd (pe_lst pa_nil)) (pss_cons (ps_for PassesOwn.never rfl (pi_tupK K (pv 2)) (gnm 9 sc_is_packing.nd) (pss_cons (ps_if (PW.pt (pw_or (pt_not (pt_val (cB (isiK K) B.isinstance bb_isinstance (pa_cons (pv 9) (pa_cons (pe_tyv "tuple" B.tuple bb_tuple) pa_nil))))) (pw_or (pt_cmpR op_ne (cB (len_seqK K) B.len bb_len (pa_cons (pv 9) pa_nil)) pe_int (nomark _)) (pw_or (pt_cmpR (op_notInDK K (hu65 hr)) (pe_ix (ix_tupK K) (pv 9) pe_int (fun _ _ => rfl)) (pv 5) (by with_unfolding_all rfl)) (pw_or1 (pt_cmpR (op_inDK K (hu65 hr)) (pe_ix (ix_tupK K) (pv 9) pe_int (fun _ _ => rfl)) (pv 8) (by with_unfolding_all rfl))))))) (pss_one (ps_ret pe_bl)) pss_nil) (pss_cons (ps_if (PW.pt (pw_or (pt_not (pt_val (pe_k c_is_integer hr (by decide) rfl (pa_cons (pe_ix (ix_tupK K) (pv 9) pe_int (fun _ _ => rfl)) pa_nil)))) (pw_or1 (pt_cmpR op_lt (pe_ix (ix_tupK K) (pv 9) pe_int (fun _ _ => rfl)) pe_int (nomark _))))) (pss_one (ps_ret pe_bl)) pss_nil) (pss_cons (ps_expr (pe_bm PySem.F.plainAttrs_list PySem.F.slot_list_append PySem.F.type_list_append mt_append (pv 8) (pa_cons (pe_ix (ix_tupK K) (pv 9) pe_int (fun _ _ => rfl)) pa_nil))) (pss_one (ps_for PassesOwn.never rfl (pi_tupK K (pe_k c_ends_of hr (by decide) rfl (pa_cons (pe_ix (ix_tupK K) (pv 9) pe_int (fun _ _ => rfl)) pa_nil))) (gnm 10 sc_is_packing.nd) (pss_one (ps_daug (hu_of hr) (pv 6) (pv 10) (pe_ix (ix_tupK K) (pv 9) pe_int (fun _ _ => rfl)) in_add (by intros; rfl))))))))) (pss_one (ps_lock (ps_ret (cB (allK K rfl) B.all bb_all (pa_cons (pe_lc (own := [("end", 10)]) rfl sc_is_packing.nd (pi_keys (pv 6)) (blkOk_by (N := n_is_packing) (sc := defScope s_is_packing) (by decide +kernel)) (fun _ _ _ _ _ => (gnm 10 sc_is_packing.nd)) (fun _ _ _ _ _ => pts_nil) (fun _ _ _ _ _ => (pe_cmpR op_le (pe_dget (hu_of hr) (pv 6) (pv 10) (fun _ _ => rfl)) (pe_ownix Gg Fg bg (hr.mono (by decide)) (pv 4) (pe_tup (pa_cons (pe_ix (ix_tupK K) (pv 10) pe_int (fun _ _ => rfl)) (pa_cons (pe_ix (ix_tupK K) (pv 10) pe_int (fun _ _ => rfl)) pa_nil)))) (nomark _)))) pa_nil)))))))))))), ?_⟩
  refine ⟨_, rfl, _, rfl, v, col, cols, ds, rfl, hb, hcol, ?_⟩
  refine ⟨fun σ H' => (∃ wv, σ = [some v, some (.str col), some (.ref pa), some pw, some wv, none, none, none, none, none, none] ∧ PriceAt K H' wv d m) ∧ Same H H', ?_, ?_⟩
  · rcases hpv with ⟨rfl, rfl, rfl⟩ | hpv
    · refine ⟨_, rfl, rfl, _, rfl, iteT fun x dx hx hdx hne => ?_⟩
      have s1 : Same H (upd (upd H dx (.own x)) x (.ins (cA K "Prices") dx [])) := (((Fr.refl Ex0 H).put hdx).put hx).same
      refine ⟨H, x, dx, 1, rfl, by decide, by decide, s1, hx, upd_same, fun H' sa s2 hsa hx' hd => ⟨rfl, ⟨.ref x, rfl, x, dx, sa, rfl, hx', hd⟩, s2⟩⟩
    · have hne : decide (pw = V.non) = false := decide_eq_false (by
        obtain ⟨p, _, _, rfl, _⟩ := hpv
        intro z; cases z)
      refine ⟨_, rfl, rfl, _, rfl, ?_⟩
      rw [hne]
      exact iteF ⟨_, rfl, ⟨_, rfl, hpv⟩, fun _ _ h => h⟩
  · rintro σ H1 ⟨⟨wv, rfl, hw⟩, s1⟩
    refine ⟨_, rfl, _, rfl, v, col, cols, ds, rfl, hb.same s1, hok, fun pl H2 s2 ⟨hl0, pvs, hpl, hpvs⟩ => ?_⟩
    have s02 := s1.trans s2
    refine ⟨_, rfl, (by show 2 ≤ sizeLine; decide), fun tp htp => ?_⟩
    have s3 : Same H2 (upd H2 tp (.tup [.ty "list", .ty "tuple"])) := (Fr.new (E := Ex0) htp).same
    refine ⟨.ref pa, tp, _, .type "tuple", [.type "list", .type "tuple"], true, rfl, upd_same, .cons (.ty _) (.cons (.ty _) .nil), .base (.tup (s3 _ _ (s02 _ _ hpa))), kitAny_cons (b := false) (kit_ty (by decide +kernel)) (fun _ => kitAny_cons (b := true) (kit_ty (by decide +kernel)) (fun z => by cases z) fun _ => rfl) (fun z => by cases z), true, rfl, iteF ?_⟩
    have s03 := s02.trans s3
    revert s3 s03
    generalize upd H2 tp (.tup [.ty "list", .ty "tuple"]) = H3
    intro s3 s03
    refine ⟨_, rfl, _, rfl, v, col, cols, ds, rfl, hb.same s03, hok, fun kl H4 s4 ⟨hkl0, kvs, hkl, hkvs⟩ => ⟨kl, rfl, ⟨kvs, .inl (.inl hkl)⟩, fun ld hld => ?_⟩⟩
    have hsds := sides_nd (cols := cols) (col := col) hok.nd
    have hsdl := sides_len (cols := cols) (col := col) hok.few
    have s04 := s03.trans s4
    have hpl4 := s4 _ _ (s3 _ _ hpl)
    have hpv4 := hpvs.mono (s3.trans s4)
    have hw4 := (hw.same s2).same (s3.trans s4)
    have hpa4 := s04 _ _ hpa
    have hws4 : Paired (IsW H4) ws pk := Paired.mono (fun _ _ z => IsW.mono s04 z) hws
    refine dc_zero hkl hkvs hsds (by omega) hld (by show 7 < 11; decide) ?_
    have hd5 : DFn (upd H4 ld (.dT (kvG V.int ((sides cols ds col).map fun p => (p, 0))))) ld (sides cols ds col) (loadP []) := ⟨_, upd_same, by rw [List.map_map]; simp [Function.comp_def], fun e he => look_zero he⟩
    have s45 : Same H4 (upd H4 ld (.dT (kvG V.int ((sides cols ds col).map fun p => (p, 0))))) := (Fr.new (E := Ex0) hld).same
    show tSeq _ _ _ _ (upd H4 ld (.dT (kvG V.int ((sides cols ds col).map fun p => (p, 0)))))
    revert hd5 s45
    generalize upd H4 ld (.dT (kvG V.int ((sides cols ds col).map fun p => (p, 0)))) = H5
    intro hd5 s45
    refine ⟨Nat.zero_le _, fun se hse => ?_⟩
    obtain ⟨md, hmd⟩ := hd5.dt
    have nls : ld ≠ se := ne_of_none hmd hse
    have hse4 : H4 se = none := (Fr.of (E := Ex0) s45).free hse
    have s46 : Same H4 (upd H5 se (.lst [])) := ((Fr.of (E := Ex0) s45).put hse4).same
    have wl : ws.length = pk.length := Paired.length hws
    have hpkl : pk.length ≤ 64 := by
      have h1 := nodup_len hnd (m := succ cols ds col) fun x hx => by
        obtain ⟨y, hy, rfl⟩ := List.mem_map.mp hx
        exact (hpk y hy).1
      have h2 := succ_len (cols := cols) (col := col) hok.few
      rw [List.length_map] at h1
      omega
    have hnm := succ_nm (cols := cols) (col := col) hok.nm
    have hskp : ∀ z ∈ succ cols ds col, SkP z := fun z hz => ⟨(hnm z hz).1.sk, (hnm z hz).2.sk⟩
    let Pv : Nat → L2.St → Hp → Prop := fun i σ H' => (∃ o9 o10, σ = [some v, some (.str col), some (.ref pa), some pw, some wv, some (.ref pl), some (.ref ld), none, some (.ref se), o9, o10]) ∧ Same H4 H' ∧ (∃ zs, H' se = some (.lst zs) ∧ IsPs H' zs ((pk.take i).map Prod.fst)) ∧ DFn H' ld (sides cols ds col) (loadP (pk.take i))
    refine ⟨_, rfl, pa, rfl, ⟨ws, .inl (.inl (s46 _ _ hpa4))⟩, for_it (walk_tup (xs := ws)) Pv ⟨⟨_, _, rfl⟩, s46, ⟨[], upd_same, .nil⟩, hd5.keep nls⟩ (fun i σ H' _ p => .inl (.inl (p.2.1 _ _ hpa4))) ?_ ?_⟩
    · rintro i x σ H6 H7 hi ⟨⟨o9, o10, rfl⟩, s6, ⟨zs, hzs, hzp⟩, hd6⟩ ⟨rfl, hx⟩
      obtain ⟨⟨q, n⟩, hq, t, u, rfl, ht4, b, rfl, hb4⟩ := Paired.get hws4 hx
      have hqm := List.mem_of_getElem? hq
      have hq1 := (hpk _ hqm).1
      have hn1 : 1 ≤ n := (hpk _ hqm).2
      have ht : H7 t = some (.tup [.ref b, .int n]) := s6 _ _ ht4
      have hb7 : H7 b = some (.tup (vP q)) := s6 _ _ hb4
      have hil : i < pk.length := (List.getElem?_eq_some_iff.mp hq).1
      have htk : pk.take (i + 1) = pk.take i ++ [(q, n)] := by
        rw [List.take_succ_eq_append_getElem hil, (List.getElem?_eq_some_iff.mp hq).2]
      have hno : q ∉ (pk.take i).map Prod.fst := fun z => by
        have nd := hnd
        rw [← List.take_append_drop i pk, List.map_append] at nd
        refine (List.nodup_append.mp nd).2.2 q z q ?_ rfl
        refine List.mem_map.mpr ⟨(q, n), List.mem_iff_getElem?.mpr ⟨0, ?_⟩, rfl⟩
        rw [List.getElem?_drop, Nat.add_zero]
        exact hq
      have i0 : ∀ Q : VK, Q (.ref b) H7 → tOp (rIxT K) (tVar 9) (tC (.int 0)) [some v, some (.str col), some (.ref pa), some pw, some wv, some (.ref pl), some (.ref ld), none, some (.ref se), some (.ref t), o10] H7 Q := fun Q h => ⟨_, rfl, t, _, 0, _, rfl, rfl, .inl (.inl ht), rfl, h⟩
      have hzl : zs.length ≤ 64 := by
        rw [Paired.length hzp, List.length_map, List.length_take]; omega
      refine ⟨_, rfl, .ref t, .ty "tuple", _, _, true, rfl, .ty _, .base (.tup ht), kit_ty (by decide +kernel), true, rfl, iteF ?_⟩
      refine ⟨_, rfl, t, _, rfl, .inr (.inl (.inl ht)), rfl, _, rfl, iteF ?_⟩
      refine i0 _ ⟨_, rfl, notInP hb7 (s6 _ _ hpl4) (hpv4.mono s6) (hskp q hq1) hskp ⟨_, rfl, ?_⟩⟩
      rw [decide_eq_true hq1]
      refine iteF (i0 _ ⟨_, rfl, inP hb7 hzs hzp (hskp q hq1) (fun z hz => ?_) ⟨_, rfl, ?_⟩⟩)
      · obtain ⟨y, hy, rfl⟩ := List.mem_map.mp hz
        exact hskp _ (hpk y (List.mem_of_mem_take hy)).1
      rw [decide_eq_false hno]
      refine iteF ?_
      refine ⟨_, rfl, t, _, 1, _, rfl, rfl, .inl (.inl ht), rfl, n, rfl, true, rfl, iteF ?_⟩
      refine ⟨_, rfl, t, _, 1, _, rfl, rfl, .inl (.inl ht), rfl, _, _, rfl, rfl, _, rfl, ?_⟩
      rw [decide_eq_false (by omega : ¬ n < 1)]
      refine iteF ?_
      refine ⟨_, rfl, .inl ⟨rfl, _, .inl (.inl hzs)⟩, i0 _ ⟨se, zs, _, rfl, rfl, hzs, small1000 (by omega), ?_⟩⟩
      have s48 : Same H4 (upd H7 se (.lst (zs ++ [.ref b]))) := ((Fr.of (E := Ex0) s6).put hse4).same
      have hz8 : upd H7 se (.lst (zs ++ [.ref b])) se = some (.lst (zs ++ [.ref b])) := upd_same
      have hb8 : upd H7 se (.lst (zs ++ [.ref b])) b = some (.tup (vP q)) := s48 _ _ hb4
      have hzp8 : IsPs (upd H7 se (.lst (zs ++ [.ref b]))) (zs ++ [.ref b]) ((pk.take (i + 1)).map Prod.fst) := by
        rw [htk, List.map_append]
        exact Paired.app (IsPs.at hzs (by intro xs z; cases z) hzp) (.cons ⟨b, rfl, hb8⟩ .nil)
      have hd8 : DFn (upd H7 se (.lst (zs ++ [.ref b]))) ld (sides cols ds col) (loadP (pk.take i)) := hd6.keep nls
      revert s48 hz8 hb8 hzp8 hd8
      generalize upd H7 se (.lst (zs ++ [.ref b])) = H8
      intro s48 hz8 hb8 hzp8 hd8
      have ht8 := s48 _ _ ht4
      refine ⟨_, rfl, t, _, 0, _, rfl, rfl, .inl (.inl ht8), rfl, .ref b, q.1, q.2, rfl, ⟨b, rfl, hb8⟩, fun r H9 s9 ⟨us, hr9, hus⟩ => ⟨r, rfl, ⟨us, .inl (.inl hr9)⟩, ?_⟩⟩
      have hus : IsPs H9 us [nw q, od q] := hus
      have hul : us.length = 2 := Paired.length hus
      let gs : Nat → Pr → Int := fun j => (([nw q, od q] : List Pr).take j).foldl (fun f e => bump f e n) (loadP (pk.take i))
      let Pw : Nat → L2.St → Hp → Prop := fun j σ H' => (∃ o10, σ = [some v, some (.str col), some (.ref pa), some pw, some wv, some (.ref pl), some (.ref ld), none, some (.ref se), some (.ref t), o10]) ∧ Same H4 H' ∧ (∃ zs, H' se = some (.lst zs) ∧ IsPs H' zs ((pk.take (i + 1)).map Prod.fst)) ∧ DFn H' ld (sides cols ds col) (gs j) ∧ H' r = some (.tup us) ∧ IsPs H' us [nw q, od q]
      refine for_it (walk_tup (xs := us)) Pw ⟨⟨_, rfl⟩, s48.trans s9, ⟨_, s9 _ _ hz8, hzp8.mono s9⟩, hd8.same s9, hr9, hus⟩ (fun j σ H' _ p => .inl (.inl p.2.2.2.2.1)) ?_ ?_
      · rintro j y σ H10 H11 hj ⟨⟨o10', rfl⟩, s10, ⟨zs', hz10, hzp10⟩, hd10, hr10, hus10⟩ ⟨rfl, hy⟩
        obtain ⟨e, he, c, rfl, hc⟩ := Paired.get hus10 hy
        have hjl : j < ([nw q, od q] : List Pr).length := (List.getElem?_eq_some_iff.mp he).1
        have htj : ([nw q, od q] : List Pr).take (j + 1) = ([nw q, od q] : List Pr).take j ++ [e] := by
          rw [List.take_succ_eq_append_getElem hjl, (List.getElem?_eq_some_iff.mp he).2]
        have hem : e ∈ sides cols ds col := by
          have : e ∈ ([nw q, od q] : List Pr) := List.mem_of_getElem? he
          rcases List.mem_cons.mp this with z | z
          · subst z; exact (hends q hq1).1
          · have : e = od q := by simpa using z
            subst this; exact (hends q hq1).2
        obtain ⟨H12, mm, hdp, rfl, hd12⟩ := hd10.put hem hc (by omega) n
        obtain ⟨md10, hmd10⟩ := hd10.dt
        refine ⟨_, rfl, _, rfl, ld, _, rfl, hd10.get hem hc, _, rfl, t, _, 1, _, rfl, rfl, .inl (.inl (s10 _ _ ht4)), rfl, _, _, rfl, rfl, _, hdp, ⟨_, rfl⟩, ((Fr.of (E := Ex0) s10).put hld).same, ⟨zs', by rw [upd_ne nls.symm]; exact hz10, IsPs.at hmd10 (by intro xs z; cases z) hzp10⟩, ?_, by rw [upd_ne (ne_of hr10 hmd10 (by intro z; cases z))]; exact hr10, IsPs.at hmd10 (by intro xs z; cases z) hus10⟩
        show DFn _ _ _ ((([nw q, od q] : List Pr).take (j + 1)).foldl (fun f e => bump f e n) (loadP (pk.take i)))
        rw [htj, List.foldl_append]
        exact hd12
      · rintro σ H10 ⟨⟨o10', rfl⟩, s10, hz10, hd10, hr10, hus10⟩
        rw [hul] at hd10
        refine ⟨⟨_, _, rfl⟩, s10, hz10, hd10.ext fun e he => ?_⟩
        show bump (bump (loadP (pk.take i)) (nw q) n) (od q) n e = _
        rw [bump2, htk, loadP_app]
    · rintro σ H6 ⟨⟨o9, o10, rfl⟩, s6, hz6, hd6⟩
      rw [wl, List.take_length] at hd6
      obtain ⟨ml, hml, kml, vml⟩ := hd6
      refine ⟨ld, _, hml, True.intro, fun ob => ?_⟩
      have hmll : ml.length = (sides cols ds col).length := by rw [← kml, List.length_map]
      have hlr : (kvG V.int ml).length = ml.length := by unfold kvG; rw [List.length_map]
      have s4L : Same H4 (upd H6 ld (.frz ob (.dT (kvG V.int ml)))) := ((Fr.of (E := Ex0) s6).put hld).same
      refine ⟨_, rfl, ld, ob, rfl, .inr ⟨_, upd_same, fun D hD => ?_⟩⟩
      refine lc_map (E := Ex0) (walk_keysT (d := ld) (o := ob) (kvs := kvG V.int ml)) (B := Bool) (ml.map Prod.fst) (fun _ => true) (fun _ => true) (fun _ v b => v = .bl b) (by rw [List.length_map, hlr]) hD (by omega) (fun H' f => f.same _ _ upd_same) (fun i H x H' y => by rw [y.1]; exact Fr.refl _ _) (Sta.eq V.bl) (fun _ _ _ _ z => z) ?_ ?_
      · rintro i x H7 H8 e Ky Kn he fr ⟨rfl, k0, v0, q, hk0, rfl, hq⟩ hy hk
        obtain ⟨e0, he0, rfl, rfl⟩ := kvG_at hk0
        have ee : e0.1 = e := by
          rw [List.getElem?_map, he0] at he
          exact Option.some.inj he
        subst ee
        have hq : H8 q = some (.tup (vP e0.1)) := hq
        have hem : e0.1 ∈ sides cols ds col := by rw [← kml]; exact List.mem_map.mpr ⟨_, List.mem_of_getElem? he0, rfl⟩
        have s48 := s4L.trans fr.same
        refine ⟨rfl, yes_of ?_⟩
        refine ⟨_, rfl, _, rfl, ld, .int (loadP pk e0.1), rfl, RdInt.at (m := ml) (p := e0.1) (.inr ⟨ob, fr.same _ _ upd_same⟩) hq (vml e0.1 hem), _, rfl, _, rfl, q, _, 0, _, rfl, rfl, .inl (.inl hq), at0 e0.1, _, rfl, q, _, 1, _, rfl, rfl, .inl (.inl hq), at1 e0.1, (by show 2 ≤ sizeLine; decide), fun t ht => ?_⟩
        have sT : Same H8 (upd H8 t (.tup [.str e0.1.1, .str e0.1.2])) := (Fr.new (E := Ex0) ht).same
        have hw8 := (hw4.same s48).same sT
        obtain ⟨pp, dxx, sa, rfl, hpp, hdd⟩ := id hw8
        refine ⟨pp, _, _, rfl, hpp, _, _, d, m, e0.1, rfl, hw8, ⟨t, rfl, upd_same⟩, (sides_sk hok.nm hem).2, fun H9 s9 => ⟨_, _, rfl, rfl, hy _ _ rfl (Fr.of (sT.trans s9)) ?_⟩⟩
        show V.bl _ = V.bl true
        congr 1
        exact decide_eq_true (hle e0.1 hem)
      · intro H7 zs fr hD7 rz
        have hz := Paired.mapEq (f := V.bl) rz
        rw [List.filter_eq_self.mpr (fun _ _ => rfl)] at hz
        refine ⟨D, _, rfl, .inl (.inl (hz ▸ hD7)), fr.same _ _ upd_same, ?_⟩
        have e : (((ml.map Prod.fst).map fun _ => true).all id) = true := by simp
        rw [e]
        exact k _ (s04.trans ((Fr.of (E := Ex0) (s4L.trans fr.same)).put hld).same)
end
end Pn
/-! #### Fnd9 -/
namespace Pn
open PySem PySem.Spec PyProof.Rows L2
open PpSet (storeB_at newSet_ok)
/-! ### sets of texts: made by a comprehension, sorted -/
def keyS (e : Int × Value) : Str := match e.2 with | .str k _ => k | _ => ""
def GoodS (w : World) (e : Int × Value) : Prop := ∃ k tk, e.2 = Value.str k tk ∧ e.1 = hashStr w k
/-- the set of texts at a: l its members; its table rises and can be walked -/
def SetS (w : World) (h : Heap) (a : Addr) (l : List Str) : Prop :=
  ∃ o es ep t, h.get? a = some o ∧ o.ExactSet ∧ o.data = .set es ep t ∧ (∀ e ∈ es.toList, GoodS w e) ∧ (es.toList.map keyS).Perm l ∧ l.Nodup ∧ l.length < scanBound ∧ t.fits es.size = true ∧ Ris t.place.toList ∧ (w.params.followText "set-order" = true ∨ t.led = true)
section
variable {P : Program} {w : World} {h h' : Heap} {a : Addr} {l : List Str}
theorem SetS.at (R : SetS w h a l) (k : ∀ o, h.get? a = some o → h'.get? a = some o) : SetS w h' a l := by
  obtain ⟨o, es, ep, t, ho, r⟩ := R
  exact ⟨o, es, ep, t, k o ho, r⟩
theorem goodS_elems {m : List (Int × Value)} (g : ∀ e ∈ m, GoodS w e) : ElemsOf (strKind P w) m := fun e he => by
  obtain ⟨k, tk, h1, h2⟩ := g e he
  exact ⟨⟨k, by rw [h1]; exact strKind_is P w k tk, h2⟩, by rw [h1]; rfl⟩
theorem goodS_is {e : Int × Value} (g : GoodS w e) (k : Str) : (strKind P w).is k e.2 = true ↔ keyS e = k := by
  obtain ⟨k0, tk, h1, _⟩ := g
  unfold keyS
  rw [h1]
  constructor
  · intro z
    exact (strKind P w).inj (.str k0 tk) k0 k (strKind_is P w k0 tk) z
  · intro z
    rw [← z]
    exact strKind_is P w k0 tk
theorem goodS_mem {m : List (Int × Value)} (g : ∀ e ∈ m, GoodS w e) (k : Str) : k ∈ m.map keyS ↔ ∃ e ∈ m, (strKind P w).is k e.2 = true := by
  rw [List.mem_map]
  constructor
  · rintro ⟨e, he, q⟩
    exact ⟨e, he, (goodS_is (g e he) k).2 q⟩
  · rintro ⟨e, he, q⟩
    exact ⟨e, he, (goodS_is (g e he) k).1 q⟩
end
def addS (l : List Str) (x : Str) : List Str := if x ∈ l then l else x :: l
theorem addS_mem (l : List Str) (x y : Str) : y ∈ addS l x ↔ y = x ∨ y ∈ l := by
  unfold addS
  split
  · rename_i h
    exact ⟨.inr, fun z => z.elim (fun e => e ▸ h) id⟩
  · exact List.mem_cons
theorem addS_nd {l : List Str} (h : l.Nodup) (x : Str) : (addS l x).Nodup := by
  unfold addS
  split
  · exact h
  · rename_i z
    exact List.nodup_cons.mpr ⟨z, h⟩
theorem addS_len (l : List Str) (x : Str) : (addS l x).length ≤ l.length + 1 := by
  unfold addS
  split <;> simp
section
variable {P : Program} {w : World} {A : Around} {E : Value → Shared → Prop} {s : Shared} {a : Addr} {l : List Str}
theorem setS_tail {g : Bool → Sem Unit} (hg : ∀ (b : Bool) (s₁ : Shared) (Q' : Unit → Shared → Prop), Q' () s₁ → wpAny (model P w) A (g b) Q' E s₁)
    {o : Obj} {es : Array (Int × Value)} {ep : Nat} {t : SetTable} (ho : s.heap.get? a = some o) (hex : o.ExactSet) (hd : o.data = .set es ep t)
    {es1 : Array (Int × Value)} {t2 : SetTable} {l' : List Str} (g1 : ∀ e ∈ es1.toList, GoodS w e) (p1 : (es1.toList.map keyS).Perm l') (nd1 : l'.Nodup)
    (hb1 : l'.length < scanBound) (hf2 : t2.fits es1.size = true) (hr : Ris t2.place.toList) (hl : w.params.followText "set-order" = true ∨ t2.led = true) {wasDummy : Bool} {R : Option Bool → Shared → Prop}
    (hR : ∀ h', Heap.SameBut a s.heap h' → SetS w h' a l' → R (some true) { s with heap := h' }) :
    wpAny (model P w) A (do
        storeSet a es1 t2
        if (!wasDummy && t2.tooFull) = true then do
            g (relayAll t2 es1 (SetTable.grown es1.size)).2.2
            storeSet a (relayAll t2 es1 (SetTable.grown es1.size)).1 (relayAll t2 es1 (SetTable.grown es1.size)).2.1
            pure (some true)
          else pure (some true)) R E s := by
  have hz1 : es1.size < scanBound := by
    have := p1.length_eq
    rw [List.length_map, Array.length_toList] at this
    rw [this]; exact hb1
  have ho1 := storeB_at (es' := es1) (t' := t2) ho hd
  have sb1 := Heap.SameBut.update s.heap a (Obj.putSet es1 t2)
  refine wpAny_bind (wpAny_storeSet_of ho hd ?_ (fits_of_scanBound hz1))
  split
  · have pm := relayAll_perm t2 es1 (SetTable.grown es1.size)
    have hf3 := relayAll_fits t2 es1 (SetTable.grown es1.size)
    have hr3 := relayAll_ris t2 es1 (SetTable.grown es1.size)
    have hl3 := relayAll_led t2 es1 (SetTable.grown es1.size)
    generalize relayAll t2 es1 (SetTable.grown es1.size) = Z at pm hf3 hr3 hl3 ⊢
    obtain ⟨es2, t3, gave⟩ := Z
    dsimp only at pm hf3 hr3 hl3 ⊢
    have hsz : es2.size = es1.size := by rw [← Array.length_toList, pm.length_eq, Array.length_toList]
    refine wpAny_bind (hg _ _ _ ?_)
    refine wpAny_bind (wpAny_storeSet_of ho1 rfl ?_ (fits_of_scanBound (by rw [hsz]; exact hz1)))
    have ho2 := storeB_at (es' := es2) (t' := t3) ho1 rfl
    exact wpAny_pure (hR _ (sb1.trans (Heap.SameBut.update _ a _)) ⟨_, es2, _, t3, ho2, hex, rfl, fun e he => g1 e (pm.mem_iff.mp he), (pm.map keyS).trans p1, nd1, hb1, hf3, hr3, hl.imp id fun z => by rw [hl3]; exact z⟩)
  · exact wpAny_pure (hR _ sb1 ⟨_, es1, _, t2, ho1, hex, rfl, g1, p1, nd1, hb1, hf2, hr, hl⟩)
theorem setS_add_hashed {k : Str} {tk : Tok} {Q : Bool → Shared → Prop} (R : SetS w s.heap a l) (room : l.length + 1 < scanBound)
    (hQ : ∀ b h', Heap.SameBut a s.heap h' → SetS w h' a (addS l k) → Q b { s with heap := h' }) :
    wpAny (model P w) A (setAddHashed a (.str k tk) ((strKind P w).hash k)) Q E s := by
  obtain ⟨o, es, ep, t, ho, hex, hd, g, pl, nd, hb, hf, hr, hl⟩ := R
  have hkey : (strKind P w).is k (.str k tk) = true := strKind_is P w k tk
  have hsc : (Value.str k tk).scannable = true := rfl
  have hel : ElemsOf (strKind P w) es.toList := goodS_elems g
  have hz : es.size < scanBound := by
    have := pl.length_eq
    rw [List.length_map, Array.length_toList] at this
    rw [this]; exact hb
  unfold setAddHashed setAddHashedIn
  refine wpAny_holding (wpAny_bind (wpAny_setState_of ho hd hf ?_))
  dsimp only
  rw [byScan_of hsc hz hel]
  simp only [↓reduceIte]
  unfold setAddByScan
  refine wpAny_bind ?_
  refine wpAny_bind (wpAny_rule ?_)
  refine wpAny_bind (wpAny_setScan_of hkey ho hd hf hel ?_)
  cases hfi : List.findIdx? (fun e => (strKind P w).is k e.2) es.toList with
  | some j =>
    dsimp only
    obtain ⟨hj, pj, _⟩ := List.findIdx?_eq_some_iff_getElem.mp hfi
    have hk : k ∈ l := pl.mem_iff.mp ((goodS_mem (P := P) (w := w) g k).2 ⟨es.toList[j], List.getElem_mem hj, pj⟩)
    refine wpAny_pure (wpAny_pure ?_)
    have e : addS l k = l := if_pos hk
    exact hQ _ s.heap (Heap.SameBut.refl a s.heap) (by rw [e]; exact ⟨o, es, ep, t, ho, hex, hd, g, pl, nd, hb, hf, hr, hl⟩)
  | none =>
    dsimp only
    have hnk : k ∉ l := fun z => by
      obtain ⟨e, he, q⟩ := (goodS_mem (P := P) (w := w) g k).1 (pl.mem_iff.mpr z)
      have c := List.findIdx?_eq_none_iff.mp hfi e he
      rw [q] at c
      cases c
    have ea : addS l k = k :: l := if_neg hnk
    have hgw : ∀ (b : Bool) {s₁ : Shared} {Q' : Unit → Shared → Prop}, Q' () s₁ → wpAny (model P w) A (match b with | true => rule "set.scan.the-table-gave-way" | false => pure ()) Q' E s₁ :=
      fun b s₁ Q' q => by cases b <;> first | exact wpAny_pure q | exact wpAny_rule q
    have pm := layNew_perm t es ((strKind P w).hash k) (.str k tk)
    have hf1 := layNew_fits t es ((strKind P w).hash k) (.str k tk)
    have hr1 := layNew_ris t es ((strKind P w).hash k) (.str k tk) hr
    have hl1 := layNew_led t es ((strKind P w).hash k) (.str k tk)
    generalize layNew t es ((strKind P w).hash k) (.str k tk) = Z at pm hf1 hr1 hl1 ⊢
    obtain ⟨es1, t1, wasDummy, gave⟩ := Z
    dsimp only at pm hf1 hr1 hl1 ⊢
    rw [Array.toList_push] at pm
    have pc : es1.toList.Perm (((strKind P w).hash k, Value.str k tk) :: es.toList) := pm.trans (List.perm_append_singleton _ _)
    have pk : (es1.toList.map keyS).Perm (addS l k) := by
      rw [ea]
      exact (pc.map keyS).trans (List.Perm.cons k pl)
    have g1 : ∀ e ∈ es1.toList, GoodS w e := fun e he => by
      rcases List.mem_cons.mp (pc.mem_iff.mp he) with z | z
      · rw [z]; exact ⟨k, tk, rfl, rfl⟩
      · exact g e z
    have nd1 : (addS l k).Nodup := addS_nd nd k
    have hb1 : (addS l k).length < scanBound := by rw [ea, List.length_cons]; exact room
    have hled : w.params.followText "set-order" = true ∨ t1.led = true := hl.imp id fun z => by rw [hl1]; exact z
    refine wpAny_bind (hgw _ ?_)
    split
    · refine wpAny_bind ?_
      rw [hashByValue_scannable 8 hsc]
      refine wpAny_pure ?_
      refine setS_tail ?_ ho hex hd g1 pk nd1 hb1 ?_ ?_ ?_ ?_
      · intro b s₁ Q' q; cases b <;> first | exact wpAny_pure q | exact wpAny_rule q
      · first | (split <;> first | exact hf1 | exact SetTable.fits_plain_off hf1) | exact hf1
      · first | (split <;> exact hr1) | exact hr1
      · first | (split <;> exact hled) | exact hled
      · intro h' sb r; dsimp only; exact wpAny_pure (hQ _ h' sb r)
    · refine wpAny_bind (wpAny_pure ?_)
      simp only [↓reduceIte]
      refine setS_tail ?_ ho hex hd g1 pk nd1 hb1 hf1 hr1 hled ?_
      · intro b s₁ Q' q; cases b <;> first | exact wpAny_pure q | exact wpAny_rule q
      · intro h' sb r; dsimp only; exact wpAny_pure (hQ _ h' sb r)
theorem setS_typeIs (R : SetS w s.heap a l) : s.TypeIs (.ref a) "set" := by
  obtain ⟨o, es, ep, t, ho, hex, _⟩ := R
  exact ⟨o, ho, hex.1⟩
theorem setS_add {k : Str} {tk : Tok} {Q : Value → Shared → Prop} (R : SetS w s.heap a l) (room : l.length + 1 < scanBound)
    (hQ : ∀ h', Heap.SameBut a s.heap h' → SetS w h' a (addS l k) → Q .none { s with heap := h', toks := s.toks + 1 }) :
    wpAny (model P w) A (call (.builtin "set.add") [.ref a, .str k tk]) Q E s := by
  refine wpAny_call_entry F.slot_set_add (setS_typeIs R) F.entry_set_add ?_ (F.args_set_add_2 _ _)
  unfold Builtin.«set.add» Builtin.Frozenset.oneOther
  simp only [List.isEmpty_nil, bind_assoc]
  unfold Builtin.Frozenset.addrOf setAdd
  refine wpAny_bind (wpAny_pure ?_)
  try dsimp only
  refine wpAny_bind (wpAny_pure ?_)
  try dsimp only
  refine wpAny_bind ?_
  refine wpAny_holding ?_
  refine wpAny_bind ((strKind P w).pyHash (strKind_is P w k tk) ?_)
  refine setS_add_hashed (s := { s with toks := s.toks + 1 }) R room fun b h' sb r => ?_
  show wpAny _ _ (ret Value.none) _ _ _
  exact wpAny_pure ⟨_, rfl, hQ h' sb r⟩
end
theorem setS_fresh {h : Heap} (w : World) : SetS w (h.push { cls := .type "set", dict := none, data := .set #[] 0 (.fresh 0 0 (!w.params.followText "set-order")) }) h.objs.size [] :=
  ⟨_, #[], 0, _, Heap.get?_push_size _ rfl, ⟨rfl, rfl, rfl⟩, rfl, (fun e he => by simp at he), .refl _, (by simp), (by decide), (by rfl), List.Pairwise.nil, by
    show _ ∨ (!w.params.followText "set-order") = true
    cases w.params.followText "set-order"
    · exact .inr rfl
    · exact .inl rfl⟩
/-- the set of texts at a -/
def SetSO (w : World) (a : Addr) (l : List Str) : HO := .ext fun h => SetS w h a l
theorem setSO_new {w : World} {P : Program} {H : Hp} {h : Heap} {a : Addr} {l : List Str} (R : SetS w h a l) : ObjOk P w H h a (SetSO w a l) := by
  have ⟨o, _, _, _, ho, _⟩ := R
  exact ⟨R, ⟨o, ho⟩, fun h1 h2 p k => SetS.at p k⟩
theorem newSet_C {X : Cx} : NewC X (newSet (.type "set")) { cls := .type "set", dict := none, data := .set #[] 0 (.fresh 0 0 (!X.w.params.followText "set-order")) } (fun a => SetSO X.w a []) :=
  ⟨fun A s Q E h => newSet_ok h, fun pins σ H s I => setSO_new (setS_fresh X.w)⟩
section
variable {X : Cx}
theorem setSO_get {pins : List (Addr × Obj)} {σ : L2.St} {H : Hp} {s : Shared} {a : Addr} {l : List Str} (I : Inv X pins σ H s) (ha : H a = some (SetSO X.w a l)) : SetS X.w s.heap a l := (I.hok a _ ha).1
theorem addSO_ok {pins : List (Addr × Obj)} {σ : L2.St} {H : Hp} {s : Shared} {E : Value → Shared → Prop} {D : Addr} {l : List Str} {y : Str} {tk : Tok} {Q : Value → Shared → Prop} (I : Inv X pins σ H s) (hD : H D = some (SetSO X.w D l)) (room : l.length + 1 < scanBound)
    (h : ∀ s', Inv X pins σ (upd H D (SetSO X.w D (addS l y))) s' → Q .none s') : wpAny (model X.prog X.w) X.A (call (.builtin "set.add") [.ref D, .str y tk]) Q E s := by
  have R := setSO_get I hD
  refine setS_add R room fun h' sb new => ?_
  have he : ∃ u, h'.get? D = some u := by
    have ⟨o, _, _, _, ho, _⟩ := new
    exact ⟨o, ho⟩
  exact h _ (I.write (e := D) (t' := s.toks + 1) (by rw [hD]; trivial) (.inl rfl) (fun b u hb hu => (sb.2 b hb).trans hu) he (setSO_new new))
end
/-- the text into the set at D -/
def tAddT (w : World) (te : TE) (D : Addr) : LvT := fun σ H Nx => te σ H fun y H1 => ∃ (x : Str) (l : List Str), y = .str x ∧ H1 D = some (SetSO w D l) ∧ l.length + 1 < scanBound ∧ Nx (upd H1 D (SetSO w D (addS l x)))
def scK (elt : Expr) : Value → Env → Sem Fin → Sem Fin := fun acc env r => do
  (do let v ← eval elt env; standAt elt.pos; let _ ← call (.builtin "set.add") [acc, v])
  r
theorem lv_sc {B : Cx} {elt : Expr} {te : TE} {D : Addr} (hx : ∀ e s, ¬ B.xe e s) (he : PE B elt te) : Lv B [] (scK elt) (.ref D) (tAddT B.w te D) := by
  intro pins s σ H Nx r Q E I h hr
  refine wpAny_bind (wpAny_bind (wpAny_mono (he.run pins s σ H _ I h) (fun v s1 ⟨y, H1, I1, ry, x, l, ey, eD, hl, nx⟩ => ?_) fun e s z => (hx e s z).elim))
  subst ey
  obtain ⟨tk, rfl⟩ := (show ∃ t, v = Value.str x t from ry)
  exact wpAny_bind (wpAny_standAt (wpAny_bind (addSO_ok I1 eD hl fun s3 I3 => wpAny_pure (hr s3 _ I3 nx))))
/-- the comprehension of three fors -/
theorem sc3_turn0 (elt t0 i0 t1 i1 t2 i2 : Expr) (f0 f1 f2 : List Expr) (scope : Scope) (pos : Pos) : CTurn (.SetComp elt [⟨t0, i0, f0, 0⟩, ⟨t1, i1, f1, 0⟩, ⟨t2, i2, f2, 0⟩] scope pos) 0 t0 i0 f0 (intoLv (.SetComp elt [⟨t0, i0, f0, 0⟩, ⟨t1, i1, f1, 0⟩, ⟨t2, i2, f2, 0⟩] scope pos) 1 i1) := ⟨fun _ _ _ => rfl, fun _ _ _ _ => rfl, fun _ _ _ _ => rfl, fun _ _ _ _ _ => rfl, fun _ _ _ _ _ => rfl, rfl⟩
theorem sc3_turn1 (elt t0 i0 t1 i1 t2 i2 : Expr) (f0 f1 f2 : List Expr) (scope : Scope) (pos : Pos) : CTurn (.SetComp elt [⟨t0, i0, f0, 0⟩, ⟨t1, i1, f1, 0⟩, ⟨t2, i2, f2, 0⟩] scope pos) 1 t1 i1 f1 (intoLv (.SetComp elt [⟨t0, i0, f0, 0⟩, ⟨t1, i1, f1, 0⟩, ⟨t2, i2, f2, 0⟩] scope pos) 2 i2) := ⟨fun _ _ _ => rfl, fun _ _ _ _ => rfl, fun _ _ _ _ => rfl, fun _ _ _ _ _ => rfl, fun _ _ _ _ _ => rfl, rfl⟩
theorem sc3_turn2 (elt t0 i0 t1 i1 t2 i2 : Expr) (f0 f1 f2 : List Expr) (scope : Scope) (pos : Pos) : CTurn (.SetComp elt [⟨t0, i0, f0, 0⟩, ⟨t1, i1, f1, 0⟩, ⟨t2, i2, f2, 0⟩] scope pos) 2 t2 i2 f2 (scK elt) := ⟨fun _ _ _ => rfl, fun _ _ _ _ => rfl, fun _ _ _ _ => rfl, fun _ _ _ _ _ => rfl, fun _ _ _ _ _ => rfl, rfl⟩
end Pn
/-! #### Fnd10 -/
namespace Pn
open PySem PySem.Spec PyProof.Rows L2
open PySem.W (EachIs SortsAt AllAlike Sortable dataLe dataLt dataKind)
/-! ### sorted of a set of texts -/
def nmV (v : Value) : Str := match v with | .str k _ => k | _ => ""
theorem each_strs : ∀ {vs : List Value}, (∀ v ∈ vs, ∃ k tk, v = Value.str k tk) → EachIs (fun v b => ∃ tk, v = Value.str b tk) vs (vs.map nmV)
  | [], _ => .nil
  | v :: vs, h => by
    obtain ⟨k, tk, rfl⟩ := h v List.mem_cons_self
    exact .cons ⟨tk, rfl⟩ (each_strs fun u hu => h u (List.mem_cons_of_mem _ hu))
theorem vals_strs : ∀ {us : List Value} {xs : List Str}, EachIs (fun v b => ∃ tk, v = Value.str b tk) us xs → Vals (xs.map V.str) us
  | _, _, .nil => .nil
  | _, _, .cons h t => .cons h (vals_strs t)
def rSortedSet (w : World) : List V → Hp → VK → Prop := fun vs H Q => ∃ (a : Addr) (l : List Str), vs = [.ref a] ∧ H a = some (SetSO w a l) ∧ l.length ≤ 1000 ∧ ∀ (ys : List Str) (p : Addr), ys.Perm l → H p = none → Q (.ref p) (upd H p (.lst (ys.map V.str)))
section
variable {X : Cx}
theorem cr_sortedSet {k : Nat} (hc : X.calm = true) (hr : Room k X.A) : CallR X (.builtin "sorted") (rSortedSet X.w) := by
  intro pins s σ H vs us Q I r h
  obtain ⟨a, l, rfl, hs, hl, q⟩ := h
  rw [Vals.ref1 r]
  obtain ⟨o, es, ep, t, ho, hex, hd, g, pl, nd, hb, hf, hri, hled⟩ := setSO_get I hs
  have hz : es.size = l.length := by
    have := pl.length_eq
    rw [List.length_map, Array.length_toList] at this
    exact this
  refine sorted_by (args_sorted1 _) (fun _ => args_list_sort _) fun E' => collect_set (A := X.A.in1) (I.ok.hd hc) ⟨o, ho, hex.1, hd⟩ hf (by rw [hz]; exact hb) hri hled fun s1 out k1 hz1 g1 o1 pm => ?_
  have ol : out.length = l.length := by
    rw [pm.length_eq, List.length_map, Array.length_toList, hz]
  have hst : ∀ v ∈ out, ∃ k tk, v = Value.str k tk := fun v hv => by
    obtain ⟨e, he, z⟩ := List.mem_map.mp (pm.mem_iff.mp hv)
    obtain ⟨k, tk, h1, _⟩ := g e he
    exact ⟨k, tk, by rw [← z]; exact h1⟩
  have pn : (out.map nmV).Perm l := by
    have := pm.map nmV
    rw [List.map_map] at this
    exact this.trans pl
  refine ⟨by rw [ol]; exact Nat.le_of_lt (small1000 hl), fun E'' => ?_⟩
  have e0 := each_strs hst
  have I1 : Inv X pins σ H s1 := I.call' (ch := []) o1 (Un.kept k1) (I.hok.kept k1) (by rw [g1]; exact I.bare) (fun _ z => nomatch z)
  refine sort_data (s := s1) (bs := out.map nmV) (enc := PyData.str) e0 (e0.mono fun v b ⟨tk, z⟩ => ⟨[], by rw [z]; exact .str _ _⟩) (AllAlike.of fun b b' => by simp [PySem.W.alike]) (Sortable.others (enc := PyData.str) fun b => ⟨(show PyData.str b ≠ .none from by intro z; cases z), (show ∀ xs, PyData.str b ≠ .tuple xs from by intro xs z; cases z)⟩) (by rw [List.length_map, ol]; exact Nat.le_of_lt (small1000 hl))
    (fun b _ => by have := hr.units; simp only [PyData.depth]; show X.A.units + 1 + 1 + _ < cLine; omega) fun res c h' kk hg hlo heach => ?_
  have hp : ((out.map nmV).mergeSort (dataLe false PyData.str)).Perm l := (List.mergeSort_perm _ _).trans pn
  have rv := vals_strs heach
  have hly : (((out.map nmV).mergeSort (dataLe false PyData.str)).map V.str).length ≤ sizeLine := by rw [List.length_map, hp.length_eq]; exact Nat.le_of_lt (small1000 hl)
  have hfr := I1.hok.fresh (Nat.le_refl s1.heap.objs.size)
  exact ⟨.ref _, upd H s1.heap.objs.size (.lst (((out.map nmV).mergeSort (dataLe false PyData.str)).map V.str)), I1.laid (t' := s1.toks) kk (Nat.le_refl _) ⟨hly, res, c, rv, hg⟩, rfl, q _ _ hp hfr⟩
end
/-! ### turns by an invariant -/
theorem turns_it {J : It} {n : Nat} {G : Hp → Prop} {Y : Nat → Hp → V → Hp → Prop} (w : Walk J n G Y) {g : TG} {tt : TT} {t : LvT} {vs : List Nat} {σ : L2.St} {H : Hp} {Nx : Hp → Prop} (Pv : Nat → Hp → Prop) (h0 : Pv 0 H) (hG : ∀ i H, i ≤ n → Pv i H → G H)
    (hs : ∀ i x H H', i < n → Pv i H → Y i H x H' → g x (wipe σ vs) H' fun σ2 H2 => wipe σ2 vs = wipe σ vs ∧ tt σ2 H2 fun b H3 => if b = true then t σ2 H3 (Pv (i + 1)) else Pv (i + 1) H3) (hd : ∀ H, Pv n H → Nx H) : tTurns J g tt t vs σ H Nx := by
  refine ⟨fun i m H => m = n - i ∧ i ≤ n ∧ Pv i H, ⟨_, rfl, Nat.zero_le _, h0⟩, ?_⟩
  rintro i m H ⟨rfl, hi, p⟩
  have q := hG i H hi p
  by_cases hlt : i < n
  · exact .inr ⟨w.goes i H hlt q, Pv (i + 1), fun H' p' => ⟨n - (i + 1), by omega, rfl, hlt, p'⟩, fun x H' y => hs i x H H' hlt p (w.yields i H x H' hlt q y)⟩
  · have e : i = n := by omega
    subst e
    exact .inl ⟨w.stops H q, hd H p⟩
section
variable {X : Cx} {elt t0 i0 t1 i1 t2 i2 : Expr} {f0 f1 f2 : List Expr} {scope : Scope} {own : List (Str × Nat)} {pos : Pos} {wi0 wi1 wi2 : TI} {g0 g1 g2 : TG} {tt0 tt1 tt2 : TT} {te : TE}
/-- found = {elt for .. for .. for ..}, elt a text -/
theorem ps_setSc3 {i : Nat} {y : Str} {py spos : Pos} (vs1 vs2 : List Nat) (hc : X.calm = true) (hN : X.N.Nodup) (hy : X.N[i]? = some y) (hyl : X.env.scope.names.lookup y = some .local) (hsw : swapsWith (.SetComp elt [⟨t0, i0, f0, 0⟩, ⟨t1, i1, f1, 0⟩, ⟨t2, i2, f2, 0⟩] scope pos) (some (.Name y py)) spos.line X.env = pure true)
    (hi : PI X t0 i0 wi0) (ok : BlkOk X.N X.env.scope scope own) (hv1 : ∀ i ∈ vs1, i ∈ own.map (·.2)) (hv2 : ∀ i ∈ vs2, i ∈ vs1)
    (hg : ∀ (s : Shared) (H : Hp) (C : Addr) (cl : List (Str × Addr)) (fp : List Addr), PG (X.blk s H scope (compEnvC scope cl C X.env) fp) t0 g0) (ht : ∀ (s : Shared) (H : Hp) (C : Addr) (cl : List (Str × Addr)) (fp : List Addr), PTs (X.blk s H scope (compEnvC scope cl C X.env) fp) f0 tt0)
    (hi1 : ∀ (s : Shared) (H : Hp) (C : Addr) (cl : List (Str × Addr)) (fp : List Addr), PI (X.blk s H scope (compEnvC scope cl C X.env) fp) t1 i1 wi1) (hg1 : ∀ (s : Shared) (H : Hp) (C : Addr) (cl : List (Str × Addr)) (fp : List Addr), PG (X.blk s H scope (compEnvC scope cl C X.env) fp) t1 g1) (ht1 : ∀ (s : Shared) (H : Hp) (C : Addr) (cl : List (Str × Addr)) (fp : List Addr), PTs (X.blk s H scope (compEnvC scope cl C X.env) fp) f1 tt1)
    (hi2 : ∀ (s : Shared) (H : Hp) (C : Addr) (cl : List (Str × Addr)) (fp : List Addr), PI (X.blk s H scope (compEnvC scope cl C X.env) fp) t2 i2 wi2) (hg2 : ∀ (s : Shared) (H : Hp) (C : Addr) (cl : List (Str × Addr)) (fp : List Addr), PG (X.blk s H scope (compEnvC scope cl C X.env) fp) t2 g2) (ht2 : ∀ (s : Shared) (H : Hp) (C : Addr) (cl : List (Str × Addr)) (fp : List Addr), PTs (X.blk s H scope (compEnvC scope cl C X.env) fp) f2 tt2)
    (he : ∀ (s : Shared) (H : Hp) (C : Addr) (cl : List (Str × Addr)) (fp : List Addr), PE (X.blk s H scope (compEnvC scope cl C X.env) fp) elt te)
    (hs0 : ∀ env x, foldedSetIterable i0 env x = pure x := by intro _ _; rfl) (hs1 : ∀ env x, foldedSetIterable i1 env x = pure x := by intro _ _; rfl) (hs2 : ∀ env x, foldedSetIterable i2 env x = pure x := by intro _ _; rfl) :
    PS X (.Assign [.Name y py] (.SetComp elt [⟨t0, i0, f0, 0⟩, ⟨t1, i1, f1, 0⟩, ⟨t2, i2, f2, 0⟩] scope pos) spos) (tAsg (tCompr wi0 g0 tt0 (fun a => SetSO X.w a []) (fun D => tInto wi1 g1 tt1 (tInto wi2 g2 tt2 (tAddT X.w te D) vs2) vs1) (own.map (·.2))) (gName i)) :=
  ps_setC rfl (sc3_turn0 elt t0 i0 t1 i1 t2 i2 f0 f1 f2 scope pos) (fun _ _ _ => rfl) newSet_C hc hN hy hyl hsw (fun _ => rfl) hi ok hg ht
    (fun s H C cl fp D => lv_into (B := X.blk s H scope (compEnvC scope cl C X.env) fp) (sc3_turn1 elt t0 i0 t1 i1 t2 i2 f0 f1 f2 scope pos) hc (fun _ _ z => z) (fun _ _ _ => rfl) (hi1 s H C cl fp) (hg1 s H C cl fp) (ht1 s H C cl fp)
      (lv_into (B := X.blk s H scope (compEnvC scope cl C X.env) fp) (sc3_turn2 elt t0 i0 t1 i1 t2 i2 f0 f1 f2 scope pos) hc (fun _ _ z => z) (fun _ _ _ => rfl) (hi2 s H C cl fp) (hg2 s H C cl fp) (ht2 s H C cl fp) (lv_sc (fun _ _ z => z) (he s H C cl fp)) (by simp) (hs2 _)) hv2 (hs1 _)) hv1 (hs0 _)
end
end Pn
/-! #### Fnd11 -/
namespace Pn
open PySem PySem.Spec PyProof.Rows L2 LamX
open PySem.W (EachIs SortsAt AllAlike Sortable dataLe dataLt dataKind KeyPure KeepsBut keyH_tree keyH_turns keyedOut_each bound_map)
/-! ### sorted(xs, key=lambda x: x.f) -/
theorem lam_call {prog : Program} {w : World} {A : Around} {s : Shared} {f c' : Addr} {nm qual pn : Str} {params : Arguments} {body : Expr} {scope : Scope} {cl : List (Str × Addr)} {pm ctv u : Value} {Q : Value → Shared → Prop}
    (hA : A.depth < recursionLimit) (ho : s.heap.get? f = some (PySem.W.kla_obj nm qual params body scope cl pm c' ctv)) (hco : scope.isCoroutine = false) (hgen : scope.isGenerator = false) (hrec : s.heap.CodeRec (.ref c') qual) (hlim : s.heap.NoLimit)
    (hbind : bindArgs (PySem.W.kla_fn nm qual params body scope cl pm (.ref c') ctv) ⟨[u], []⟩ = pure [(pn, u)]) (hl : scope.names.lookup pn = some .local) (hcell : ∀ x ∈ scope.names, x.2 ≠ .cell) (hk : scope.kind = .function)
    (h : ∀ h₁, (∀ b o, s.heap.get? b = some o → h₁.get? b = some o) → h₁.Ns s.heap.objs.size (fun y => ([(pn, u)] : List (Str × Value)).reverse.lookup y) →
      wpAny (model prog w) (A.deeper (PySem.W.envX qual scope s.heap.objs.size f (.ref c') cl)) (eval body (PySem.W.envX qual scope s.heap.objs.size f (.ref c') cl)) Q (fun _ _ => False) { s with heap := h₁, toks := s.toks + 1 }) :
    wpAny (model prog w) A (call (.ref f) [u]) Q (fun _ _ => False) s := by
  have rc : codeAny (model prog w) A (.call (.ref f) ⟨[u], []⟩) (fun r s' => match r with
      | .ok (.ret v) => Q v s'
      | _ => False) s := by
    refine PySem.W.kla_callFunE hA ho rfl hco hgen rfl hrec ?_
    rw [hbind]
    refine wpAny_pure (wpAny_newFunctionEnv hcell (fun y hy => ?_) (fun h₁ hns hsb => ⟨hlim.fresh _ hsb, ?_⟩) hk)
    · have : y = (pn, u) := by simpa using hy
      rw [this]; exact hl
    show codeAny _ _ (.expr body (PySem.W.envX qual scope s.heap.objs.size f (.ref c') cl)) _ _
    have kp : ∀ b o, s.heap.get? b = some o → h₁.get? b = some o := fun b o e => hsb.extBut b o (Nat.ne_of_lt (Heap.lt_size e)) (Heap.get?_push_of_some _ e)
    exact PySem.W.kla_codeExpr (wpAny_mono (h h₁ kp hns) (fun v s' q => q) fun e s' z => z.elim)
  refine wpAny_call (codeAny_mono rc fun r s2 hq => ?_)
  cases r with
  | error e => exact (show False from hq).elim
  | ok fl =>
    cases fl with
    | ret u => exact hq
    | next => exact False.elim hq
    | brk => exact False.elim hq
    | cont => exact False.elim hq
def FldIs (K : PySem.W.Frag) (fld : Str) (H : Hp) (v : V) (k : Str) : Prop := ∃ a C dx fs, v = .ref a ∧ H a = some (.ins C dx fs) ∧ Cls K C ∧ NoAttr K C fld ∧ fs.lookup fld = some (.str k)
theorem FldIs.ext {K : PySem.W.Frag} {fld : Str} {H H' : Hp} {v : V} {k : Str} (e : ExtN H H') (h : FldIs K fld H v k) : FldIs K fld H' v k := by
  obtain ⟨a, C, dx, fs, h1, h2, h3⟩ := h
  exact ⟨a, C, dx, fs, h1, e _ _ h2 (fun ps z => by cases z), h3⟩
def keyLe (z w : V × Str) : Bool := dataLe false (fun x : V × Str => PyData.str x.2) z w
def byKey (xs : List V) (ks : List Str) : List V := ((xs.zip ks).mergeSort keyLe).map Prod.fst
def tSortKey (K : PySem.W.Frag) (T : List (Addr × Str)) (fld : Str) (t : TA) : TE := fun σ H Q => t σ H fun vs H1 => ∃ (a : Addr) (xs : List V) (ks : List Str), vs = [.ref a] ∧ (SqL K H1 a xs ∨ SqT K H1 a xs) ∧ Tabs T H1 ∧ xs.length ≤ 1000 ∧ Paired (FldIs K fld H1) xs ks ∧
  ∀ H2 p, ExtN H1 H2 → Tabs T H2 → H2 p = none → Q (.ref p) (upd H2 p (.lst (byKey xs ks)))
theorem each_zip : ∀ {xs : List V} {us : List Value} {ks : List Str}, Vals xs us → xs.length = ks.length → EachIs (fun u (z : V × Str) => RelV z.1 u) us (xs.zip ks)
  | _, _, [], .nil, _ => .nil
  | _, _, k :: ks, .cons r t, h => .cons r (each_zip t (by simpa using h))
  | _, _, _ :: _, .nil, h => by simp at h
  | _, _, [], .cons _ _, h => by simp at h
theorem vals_zip : ∀ {us : List Value} {zs : List (V × Str)}, EachIs (fun u (z : V × Str) => RelV z.1 u) us zs → Vals (zs.map Prod.fst) us
  | _, _, .nil => .nil
  | _, _, .cons h t => .cons h (vals_zip t)
theorem paired_zip {α β : Type} {F : α → β → Prop} : ∀ {l : List α} {m : List β}, Paired F l m → ∀ z ∈ l.zip m, F z.1 z.2
  | _, _, .nil, z, hz => by simp at hz
  | _, _, .cons h t, z, hz => by
    rw [List.zip_cons_cons] at hz
    rcases List.mem_cons.mp hz with e | e
    · rw [e]; exact h
    · exact paired_zip t z e
section
variable {X : Cx}
theorem pe_sortKey {T : List (Addr × Str)} {c P : Addr} {k : Nat} {e : Expr} {t : TA} {params : Arguments} {scope : Scope} {x fld : Str} {p p1 p2 lpos kpos pos : Pos} (hr : Room (k + 1) X.A) (hc : X.calm = true) (hg : Gl X "sorted") (hm : X.mg "sorted" = none) (ha : PA X [e] t)
    (TB : TabB X.base X.mg c P) (hcode : X.env.code = .ref c) (hmT : (P, X.env.qual ++ "<lambda>") ∈ T) (hu : ∀ p ∈ T, p.1 = P → p.2 = X.env.qual ++ "<lambda>") (hdef : defaultsOf params X.env = ([], []))
    (hbind : ∀ (q : Str) (cl : List (Str × Addr)) (pm cv ctv u : Value), bindArgs (PySem.W.kla_fn "<lambda>" q params (.Attribute (.Name x p1) fld p2) scope cl pm cv ctv) ⟨[u], []⟩ = pure [(x, u)])
    (hk : scope.kind = .function) (hco : scope.isCoroutine = false) (hgen : scope.isGenerator = false) (hl : scope.names.lookup x = some .local) (hnames : ∀ y ∈ scope.names, y.2 ≠ .cell ∧ y.2 ≠ .free) (hd : (x == ("__debug__" : Str)) = false := by decide)
    (he : backTo pos (starEach [e] X.env) = (false, eval e X.env) :: backTo pos (starEach [] X.env) := by rfl) (hpl : (backTo pos (starEach [e] X.env)).any (·.1) = false := by rfl)
    (hab : ∀ env : Env, attributeBase (.Name x p1) fld env (eval (.Name x p1) env) = eval (.Name x p1) env := by intro _; rfl) :
    PE X (.Call (.Name "sorted" p) [e] [⟨some "key", .Lambda params (.Attribute (.Name x p1) fld p2) scope lpos, kpos⟩] pos) (tSortKey X.K T fld t) := by
  refine ⟨fun pins s σ H Q I h => ?_⟩
  have hv : bootBuiltins "sorted" = some (.builtin "sorted") := by decide +kernel
  refine wpAny_Call_Name_kw (ld_blt I hg hm hv ?_ (by decide) (by decide))
  refine PyProof.Rows.callWith_kw (thn (ha.run pos pins s σ H _ I h) fun us s1 ⟨vs, H1, I1, r1, h1⟩ => ?_) he hpl (by rfl) (by rfl)
  obtain ⟨a, xs, ks, rfl, hs, hT, hl1, hp, q⟩ := h1
  rw [Vals.ref1 r1]
  show wpAny _ _ (evalAll ((do let v ← eval (.Lambda params (.Attribute (.Name x p1) fld p2) scope lpos) X.env; standAt pos; pure v) :: [])) _ _ s1
  refine wpAny_evalAll_cons (wpAny_bind (lam_make2 I1 TB hcode hmT hu hT hdef (fun y hy e => absurd e (hnames y hy).2) fun f c' pm ctv H2 s2 I2 eN T2 hf hfn hfr hco2 => wpAny_bind (wpAny_standAt (wpAny_pure (wpAny_evalAll_nil ?_)))))
  have hxk : xs.length = ks.length := Paired.length hp
  have hs2 : SqL X.K H2 a xs ∨ SqT X.K H2 a xs := by
    rcases hs with hs | hs
    · rcases hs with (z | ⟨o, z⟩) | z
      · exact .inl (.inl (.inl (eN _ _ z fun ps y => by cases y)))
      · exact .inl (.inl (.inr ⟨o, eN _ _ z fun ps y => by cases y⟩))
      · exact .inl (.inr z)
    · rcases hs with (z | ⟨o, z⟩) | z
      · exact .inr (.inl (.inl (eN _ _ z fun ps y => by cases y)))
      · exact .inr (.inl (.inr ⟨o, eN _ _ z fun ps y => by cases y⟩))
      · exact .inr (.inr z)
  have main : ∀ (its : List Value) (o : Obj) (n : Nat) (T' : String), Vals xs its → s2.heap.get? a = some o → o.cls = .type T' → (T' = "list" ∨ T' = "tuple") → o.data = .seq its.toArray n → wpAny (model X.prog X.w) X.A (call (.builtin "sorted") [.ref a] [(Str.ofString "key", .ref f)]) (EP X pins σ Q) X.xe s2 := fun its o n T' rv ho hcl hT' hdt => by
    have hlen : its.length = xs.length := rv.length.symm
    have hsz : its.length ≤ sizeLine := by rw [hlen]; exact Nat.le_of_lt (small1000 hl1)
    refine sorted_by (PyProof.Rows.ksk_s1 _ _) (fun _ => PyProof.Rows.ksk_l1 _ _) fun E' => collect_seq ho hcl hT' hdt ⟨hsz, fun E'' => ?_⟩ hsz
    have hsz1 : ((s2.heap.push (seqObj "list" #[] 0)).update s2.heap.objs.size (Obj.mapSeq (· ++ its.toArray))).objs.size = s2.heap.objs.size + 1 := by rw [Heap.size_update, size_push']
    have keep1 : ∀ b o, s2.heap.get? b = some o → ((s2.heap.push (seqObj "list" #[] 0)).update s2.heap.objs.size (Obj.mapSeq (· ++ its.toArray))).get? b = some o := fun b o q => by
      rw [Heap.get?_update_ne _ _ _ _ (Nat.ne_of_lt (Heap.lt_size q))]
      exact Heap.get?_push_of_some _ q
    have up : ∀ {g : Heap}, KeepsBut ((s2.heap.push (seqObj "list" #[] 0)).update s2.heap.objs.size (Obj.mapSeq (· ++ its.toArray))).objs.size (((s2.heap.push (seqObj "list" #[] 0)).update s2.heap.objs.size (Obj.mapSeq (· ++ its.toArray))).push (seqObj "list" its.toArray 0)) g → ∀ b o, s2.heap.get? b = some o → g.get? b = some o := fun {g} kp b o z =>
      kp b o (by rw [hsz1]; exact Nat.ne_of_lt (Nat.lt_succ_of_lt (Heap.lt_size z))) (Heap.get?_push_of_some _ (keep1 b o z))
    rw [PyProof.Rows.ksk_t1]
    have eZ := each_zip rv hxk
    have hzl : (xs.zip ks).length = its.length := by rw [List.length_zip, ← hxk, Nat.min_self, hlen]
    refine keyH_tree (kz := (xs.zip ks).map fun z => PyData.str z.2) (Heap.get?_push_size _ rfl) (by rw [List.length_map]; exact hzl) hsz (AllAlike.of fun b b' => by simp [PySem.W.alike]) (Sortable.others (enc := fun z : V × Str => PyData.str z.2) fun b => ⟨(show PyData.str b.2 ≠ .none from by intro z; cases z), (show ∀ ys, PyData.str b.2 ≠ .tuple ys from by intro ys z; cases z)⟩)
      (bound_map (enc := fun z : V × Str => PyData.str z.2) fun b _ => by have := hr.un; simp only [PyData.depth]; show X.A.units + 1 + 1 + _ < cLine; omega) (keyH_turns (k := fun z : V × Str => PyData.str z.2) eZ fun u z hR hz h tk kp => ?_) fun h' tk out cc kp hD ko => ⟨rfl, ?_⟩
    · obtain ⟨a1, C1, dx1, fs1, e1, g1, cl1, na1, lk1⟩ := (paired_zip hp z hz).ext eN
      have kk := up kp
      have I3 : Inv X pins σ H2 { s2 with heap := h, toks := tk } := I2.kept kk
      have hR : RelV z.1 u := hR
      rw [e1] at hR
      obtain rfl : u = Value.ref a1 := hR
      obtain ⟨⟨oc, ov, ot, hoc, hdc, hvc⟩, _, _⟩ := I3.hok c' _ hco2
      refine lam_call (s := { s2 with heap := h, toks := tk }) (A := X.A.in1.in1) (by have := hr.dp; show X.A.depth < recursionLimit; omega) (kk _ _ hf) hco hgen ⟨c', oc, ov, ot, rfl, hoc, hdc, hvc⟩ I3.nolimit (hbind _ _ _ _ _ _) hl (fun y hy => (hnames y hy).1) hk fun h₁ kp1 hns => ?_
      have I4 : Inv X pins σ H2 { s2 with heap := h₁, toks := tk + 1 } := I3.kept kp1
      refine attr_of (hab _) (wpAny_Name (wpAny_loadName_local hk hl hns (v := .ref a1) (by simp) ?_) hd)
      obtain ⟨mA, O, ro, _, _, _⟩ := ins_get I4.hok g1
      obtain ⟨w1, hw1, rw1⟩ := RelO.some_of (v := V.str z.2) (o := mA fld) (by rw [← lk1]; exact ro fld)
      refine get_map I4.kIn O (cl1.get fld) cl1.hd na1 hw1 (handed_of rw1) ?_
      obtain ⟨t1, rfl⟩ := (show ∃ t, w1 = Value.str z.2 t from rw1)
      exact ⟨h₁, _, rfl, kp1, .str _ _⟩
    · have kk := up kp
      have eo := keyedOut_each (fun z : V × Str => PyData.str z.2) ko eZ
      have rv2 := vals_zip eo
      have hol : (((xs.zip ks).mergeSort (dataLe false fun z : V × Str => PyData.str z.2)).map Prod.fst).length ≤ sizeLine := by
        rw [List.length_map, List.length_mergeSort, hzl]; exact hsz
      have hf2 := I2.hok.fresh (Nat.le_succ s2.heap.objs.size)
      rw [hsz1]
      rw [hsz1] at hD
      exact ⟨.ref _, upd H2 (s2.heap.objs.size + 1) (.lst (byKey xs ks)), I2.laid (t' := tk) kk (Nat.le_succ _) ⟨hol, out, cc, rv2, hD⟩, rfl, q H2 _ eN T2 hf2⟩
  rcases hs2 with hs | hs
  · obtain ⟨its, rv, ⟨o, n, ho, hc, hdn, hdt⟩, _⟩ := I2.list hs
    exact main its o n "list" rv ho hc (.inl rfl) hdt
  · obtain ⟨its, rv, ⟨o, ho, hc, n, hdt⟩, _⟩ := I2.tuple hs
    exact main its o n "tuple" rv ho hc (.inr rfl) hdt
end
end Pn
/-! #### W17 -/
namespace Pn
open PySem PySem.Spec PyProof.Rows L2
/-! ### the making of a book -/
def Dd.ws (d : Dd) : List Str := match d.words with
  | none => []
  | some (o, n) => o ++ n
/-- what a deed's columns and words are, beside the book's columns -/
structure DWo (cols : List Str) (d : Dd) : Prop where
  own : ∀ x ∈ d.cols, x ∈ cols
  few : d.ws.length ≤ 900
  ws : ∀ x ∈ d.ws, x = "state" ∨ (x ∈ cols ∧ (d.kd = .ch → x ∈ d.cols))
/-- .. of Book.__init__: its function, its code object, that one's table -/
def BkFn (K : PySem.W.Frag) (mg : Str → Option Value) (base : Heap) (P : Addr) : Prop := ∃ (f : Addr) (oc : Value) (od : Option Addr) (kV doc pm : Value) (an : Option Addr) (c : Addr) (ct : Value) (osl : Array (Option Value)), Mk K (cA K "Book") f ∧
  K.lookup f = some ⟨oc, od, .func (PySem.W.fnOf "__init__" "Book.__init__" (defArgs s_Book_init) (defBody s_Book_init) (defScope s_Book_init) .none kV doc pm an (.ref c) ct), osl⟩ ∧ PySem.W.codeIn K (.ref c) "Book.__init__" = true ∧ LamX.TabB base mg c P
def lamQ : Str := (("Book.__init__" : Str) ++ ".<locals>.") ++ "<lambda>"
structure Tj (P : Program) (K : PySem.W.Frag) (mg : Str → Option Value) (base : Heap) (tP : Addr) : Prop where
  ti : Ti P K mg
  check_words : DefAt K mg "check_words" s_check_words
  book_init : BkFn K mg base tP
  book_of : CmAt K (cA K "Book") "of" "Book.of" s_Book_of
  g_MOST_DEEDS : GInt mg "MOST_DEEDS" 8
  g_MOST_STATES : GInt mg "MOST_STATES" 4
  g_MOST_KEPT : GInt mg "MOST_KEPT" 3
section
variable {P : Program} {w : World} {K : PySem.W.Frag} {mg : Str → Option Value} {base : Heap} {tP : Addr}
def sp_check_words (K : PySem.W.Frag) : Sp := fun vs H Q _ => ∃ (u : V) (c : Addr) (d : Dd) (cols : List Str), vs = [u, .ref c] ∧ DeedAt K H u d ∧ TxT H c cols ∧ DWo cols d ∧ ∀ H', Same H H' → Q .non H'
theorem ok_check_words (T : Tj P K mg base tP) : Kf P w K mg base 1 "check_words" p_check_words (sp_check_words K) := by
  refine Kf.of T.check_words sc_check_words ((fun _ _ _ _ _ _ us hl => match us, hl with | [_, _], _ => rfl)) (fun vs H Q E ⟨_, _, _, _, e, _⟩ => by rw [e]; rfl) fun f cdv A outer s H vs Q E hr ⟨u, c, d, cols, e, hd, hc, hw, k⟩ => ?_
  subst e
  have T := T.ti.th.tg.tf.tb.te.td.tc
  have B := T.tw.bt
  have hca := op_catA (X := (cxOf CX0 P w K mg base n_check_words "check_words" (defScope s_check_words) f cdv A outer s H E).nox)
  refine ⟨_, (pss_cons (ps_for PassesOwn.never rfl (pi_tupK K (fldK K (pv 0) rfl)) (gnm 2 sc_check_words.nd) (pss_one (ps_if (pt_cmpR (op_notIn_seqK K) (pv 2) (pv 1) (by with_unfolding_all rfl)) (pss_one ps_never) pss_nil))) (pss_cutP (sset 3 sc_check_words.nd (pe_ifExp (pt_cmpR op_isN (fldK K (pv 0) rfl) pe_non (nomark _)) (pe_tup pa_nil) (pe_op hca (fldK K (fldK K (pv 0) rfl) rfl) (fldK K (fldK K (pv 0) rfl) rfl)))) (pss_one (ps_for PassesOwn.never rfl (pi_tupK K (pv 3)) (gnm 4 sc_check_words.nd) (pss_cons (ps_if (PW.pt (pw_and (pt_cmpR op_ne (pv 4) pe_str (nomark _)) (pw_and1 (pt_cmpR (op_notIn_seqK K) (pv 4) (pv 1) (by with_unfolding_all rfl))))) (pss_one ps_never) pss_nil) (pss_one (ps_if (PW.pt (pw_and (pt_cmpR op_ne (pv 4) pe_str (nomark _)) (pw_and (pt_val (cB (isiK K) B.isinstance bb_isinstance (pa_cons (pv 0) (pa_cons (pe_own T.change.v) pa_nil)))) (pw_and1 (pt_cmpR (op_notIn_seqK K) (pv 4) (fldK K (pv 0) rfl) (by with_unfolding_all rfl)))))) (pss_one ps_never) pss_nil))))))), ?_⟩
  obtain ⟨q, dx, m, cc, nv, ms, rfl, h1, h2, h3, h4, h5⟩ := id hd
  have notin : ∀ {x : Str} {xs : List Str} {H' : Hp} {a : Addr} {Q : VK}, TxT H' a xs → Q (.bl (!decide (x ∈ xs))) H' → rIn K true (.str x) (.ref a) H' Q := fun {x xs H' a Q} ha h => ⟨a, _, rfl, .inr ha.t, rfl, flat_strs _, by rw [inV_strs]; exact h⟩
  have hcl : (deedF d.name m cc nv).lookup ("columns" : Str) = some (.ref cc) := rfl
  have hnl : (deedF d.name m cc nv).lookup ("note" : Str) = some nv := rfl
  refine ⟨_, rfl, q, _, dx, _, _, rfl, h1, T.cls d.kd, T.nD d.kd _ (by simp), hcl, cc, rfl, ⟨_, h4.t⟩, for_it (walk_tup (xs := d.cols.map V.str)) (fun i σ H' => (∃ o, σ = [some (.ref q), some (.ref c), o, none, none]) ∧ Same H H') ⟨⟨_, rfl⟩, Same.refl _⟩ (fun i σ H' _ p => (h4.same p.2).t) ?_ ?_⟩
  · rintro i x σ H1 H2 hi ⟨⟨o, rfl⟩, s1⟩ ⟨rfl, hx⟩
    obtain ⟨z, hz, rfl⟩ := map_at hx
    refine ⟨_, rfl, _, rfl, notin (hc.same s1) ⟨_, rfl, ?_⟩⟩
    rw [decide_eq_true (hw.own z (List.mem_of_getElem? hz))]
    exact iteF ⟨⟨_, rfl⟩, s1⟩
  · rintro σ H1 ⟨⟨o, rfl⟩, s1⟩
    have h1' := s1 _ _ h1
    refine ⟨fun σ H' => (∃ wa, σ = [some (.ref q), some (.ref c), o, some (.ref wa), none] ∧ TxT H' wa d.ws) ∧ Same H H', ?_, ?_⟩
    · refine ⟨_, rfl, q, _, dx, _, _, rfl, h1', T.cls d.kd, T.nD d.kd _ (by simp), hnl, rfl, _, rfl, ?_⟩
      cases hws : d.words with
      | none =>
        rw [hws] at h5
        have h5 : nv = .non := h5
        subst h5
        have hnil : d.ws = [] := by unfold Dd.ws; rw [hws]
        rw [decide_eq_true rfl]
        refine iteT ⟨Nat.zero_le _, fun t ht => ⟨⟨t, rfl, ?_⟩, ((Fr.of (E := Ex0) s1).new' ht).same⟩⟩
        rw [hnil]
        exact upd_same
      | some on =>
        obtain ⟨ol, nl⟩ := on
        rw [hws] at h5
        obtain ⟨n1, dx1, oa, na, nm, ch, rfl, g1, g2, g3⟩ := h5
        have hdw : d.ws = ol ++ nl := by unfold Dd.ws; rw [hws]
        have hfw := hw.few
        rw [hdw] at hfw
        rw [List.length_append] at hfw
        rw [decide_eq_false (by intro z; cases z)]
        refine iteF ⟨_, rfl, q, _, dx, _, _, rfl, h1', T.cls d.kd, T.nD d.kd _ (by simp), hnl, n1, _, dx1, _, _, rfl, s1 _ _ g1, T.note.cl, T.nN _ (by simp), (show (noteF oa na nm ch).lookup ("old" : Str) = some (.ref oa) from rfl), ?_⟩
        refine ⟨_, rfl, q, _, dx, _, _, rfl, h1', T.cls d.kd, T.nD d.kd _ (by simp), hnl, n1, _, dx1, _, _, rfl, s1 _ _ g1, T.note.cl, T.nN _ (by simp), (show (noteF oa na nm ch).lookup ("new" : Str) = some (.ref na) from rfl), ?_⟩
        have g2' := g2.same s1
        have g3' := g3.same s1
        have hsz : sizeLine ≥ 1000 := by decide
        refine ⟨oa, na, _, _, rfl, rfl, g2'.t, g3'.t, by rw [List.length_map, List.length_map]; omega, fun e1 => ⟨⟨na, rfl, ?_⟩, s1⟩, fun e1 e2 => ⟨⟨oa, rfl, ?_⟩, s1⟩, fun e1 e2 p hp => ⟨⟨p, rfl, ?_⟩, ((Fr.of (E := Ex0) s1).new' hp).same⟩⟩
        · rw [hdw, List.map_eq_nil_iff.mp e1, List.nil_append]; exact g3'
        · rw [hdw, List.map_eq_nil_iff.mp e2, List.append_nil]; exact g2'
        · rw [hdw]
          show upd H1 p _ p = _
          rw [upd_same, List.map_append]
    · rintro σ H2 ⟨⟨wa, rfl, hwa⟩, s2⟩
      refine ⟨_, rfl, wa, rfl, ⟨_, hwa.t⟩, for_it (walk_tup (xs := d.ws.map V.str)) (fun i σ H' => (∃ o4, σ = [some (.ref q), some (.ref c), o, some (.ref wa), o4]) ∧ H' = H2) ⟨⟨_, rfl⟩, rfl⟩ (fun i σ H' _ p => by rw [p.2]; exact hwa.t) ?_ (fun σ H' p => by rw [p.2]; exact k H2 s2)⟩
      rintro i x σ H3 H4 hi ⟨⟨o4, rfl⟩, rfl⟩ ⟨rfl, hx⟩
      obtain ⟨z, hz, rfl⟩ := map_at hx
      have hzw := hw.ws z (List.mem_of_getElem? hz)
      have tag : decide (V.str z = V.str "state") = decide (z = "state") := by
        rw [decide_eq_decide]
        exact ⟨fun h => V.str.inj h, fun h => congrArg V.str h⟩
      by_cases hst : z = "state"
      · refine ⟨_, rfl, rfl, _, rfl, ?_⟩
        rw [tag, decide_eq_true hst]
        refine iteF (iteF ⟨_, rfl, rfl, _, rfl, ?_⟩)
        rw [tag, decide_eq_true hst]
        exact iteF (iteF ⟨⟨_, rfl⟩, rfl⟩)
      · obtain ⟨hzc, hzd⟩ := hzw.resolve_left hst
        refine ⟨_, rfl, rfl, _, rfl, ?_⟩
        rw [tag, decide_eq_false hst]
        refine iteT ⟨_, rfl, _, rfl, notin (hc.same s2) ⟨_, rfl, ?_⟩⟩
        rw [decide_eq_true hzc]
        refine iteF ⟨_, rfl, rfl, _, rfl, ?_⟩
        rw [tag, decide_eq_false hst]
        refine iteT ⟨_, rfl, .ref q, .ref (cA K "Change"), _, _, _, rfl, .own _, (T.own d.kd).ty T (s2 _ _ h1), T.kD d.kd .ch, _, rfl, ite2 (fun y => ?_) (fun y => iteF ⟨⟨_, rfl⟩, rfl⟩)⟩
        have hkd := of_decide_eq_true y
        refine ⟨_, rfl, _, rfl, q, _, dx, _, _, rfl, s2 _ _ h1, T.cls d.kd, T.nD d.kd _ (by simp), hcl, notin (h4.same s2) ⟨_, rfl, ?_⟩⟩
        rw [decide_eq_true (hzd hkd)]
        exact iteF ⟨⟨_, rfl⟩, rfl⟩
end
end Pn
/-! #### W18 -/
namespace Pn
open PySem PySem.Spec PyProof.Rows L2 LamX
open PySem.W (dataLe dataLt)
/-! ### Book.__init__ -/
def Stg (K : PySem.W.Frag) (H0 : Hp) (p dx mt : Addr) (us : List V) (fs : List (Str × V)) (H : Hp) : Prop := Same H0 H ∧ H p = some (.ins (cA K "Book") dx fs) ∧ H mt = some (.tup us)
section
variable {K : PySem.W.Frag} {H0 H H' : Hp} {p dx mt : Addr} {us : List V} {fs fs' : List (Str × V)}
theorem Stg.same (h : Stg K H0 p dx mt us fs H) (s : Same H H') : Stg K H0 p dx mt us fs H' := ⟨h.1.trans s, s _ _ h.2.1, s _ _ h.2.2⟩
theorem Stg.fld (h : Stg K H0 p dx mt us fs H) (p0 : H0 p = none) : Stg K H0 p dx mt us fs' (upd H p (.ins (cA K "Book") dx fs')) :=
  ⟨((Fr.of (E := Ex0) h.1).put p0).same, upd_same, by rw [upd_ne (ne_of h.2.2 h.2.1 (by intro z; cases z))]; exact h.2.2⟩
end
/-- the law of a book's deeds as they are given -/
structure DsIn (cols : List Str) (ds : List Dd) : Prop where
  few : ds.length ≤ 8
  nd : (ds.map Dd.name).Nodup
  mv : ∀ d ∈ ds, d.moves.length ≤ 4
  st : ∃ L : List Str, L.length ≤ 4 ∧ ∀ d ∈ ds, ∀ m ∈ d.moves, (m.1 = "" ∨ m.1 ∈ L) ∧ (m.2 = "" ∨ m.2 ∈ L)
  wo : ∀ d ∈ ds, DWo cols d
def nmLe (d e : Dd) : Bool := dataLe false (fun x : Dd => PyData.str x.name) d e
theorem nmLe_eq (d e : Dd) : nmLe d e = !stLt e.name d.name := by
  show (!dataLt (.str e.name) (.str d.name)) = _
  rw [PySem.W.dataLt_str]
  rfl
theorem nmLe_total (d e : Dd) : (nmLe d e || nmLe e d) = true := by
  rcases (PySem.W.sortLe_total (PyProof.Rows.listOrd PyProof.Rows.itemOrd) false fun b : Dd => PySem.W.keyToks (.str b.name)).total d e with h | h
  · rw [show nmLe d e = true from h, Bool.true_or]
  · rw [show nmLe e d = true from h, Bool.or_true]
theorem nmLe_trans (a b c : Dd) : nmLe a b = true → nmLe b c = true → nmLe a c = true := (PySem.W.sortLe_total (PyProof.Rows.listOrd PyProof.Rows.itemOrd) false fun b : Dd => PySem.W.keyToks (.str b.name)).trans a b c
theorem byKey_deeds {F : V → Dd → Prop} {us : List V} {ds : List Dd} (h : Paired F us ds) : ∃ ds', Paired F (byKey us (ds.map Dd.name)) ds' ∧ ds'.Perm ds ∧ ds'.Pairwise fun d e => nmLe d e = true := by
  have hl : us.length = ds.length := Paired.length h
  let le' : V × Dd → V × Dd → Bool := fun x y => nmLe x.2 y.2
  let W := (us.zip ds).mergeSort le'
  have ez : us.zip (ds.map Dd.name) = (us.zip ds).map fun z => (z.1, z.2.name) := by
    rw [List.zip_map_right]
    rfl
  have eW : (us.zip (ds.map Dd.name)).mergeSort keyLe = W.map fun z => (z.1, z.2.name) := by
    rw [ez]
    exact (List.map_mergeSort (r := le') (s := keyLe) (f := fun z : V × Dd => (z.1, z.2.name)) (fun a _ b _ => rfl)).symm
  refine ⟨W.map Prod.snd, ?_, ?_, ?_⟩
  · unfold byKey
    rw [eW, List.map_map]
    have gen : ∀ l : List (V × Dd), (∀ z ∈ l, F z.1 z.2) → Paired F (l.map (Prod.fst ∘ fun z : V × Dd => (z.1, z.2.name))) (l.map Prod.snd) := by
      intro l
      induction l with
      | nil => intro _; exact .nil
      | cons z l ih => intro hz; exact .cons (hz z List.mem_cons_self) (ih fun y hy => hz y (List.mem_cons_of_mem _ hy))
    exact gen W fun z hz => paired_zip h z ((List.mergeSort_perm _ _).mem_iff.mp hz)
  · have := (List.mergeSort_perm (us.zip ds) le').map Prod.snd
    have e : (us.zip ds).map Prod.snd = ds := List.map_snd_zip (by omega)
    rw [e] at this
    exact this
  · rw [List.pairwise_map]
    exact List.pairwise_mergeSort (le := le') (fun a b c => nmLe_trans a.2 b.2 c.2) (fun a b => nmLe_total a.2 b.2) (us.zip ds)
theorem vP_at {pr : Pr} {j : Nat} {v : V} (h : (vP pr)[j]? = some v) : ∃ x, v = .str x ∧ (x = pr.1 ∨ x = pr.2) := by
  match j, h with
  | 0, h => exact ⟨pr.1, (Option.some.inj h).symm, .inl rfl⟩
  | 1, h => exact ⟨pr.2, (Option.some.inj h).symm, .inr rfl⟩
theorem kit3 {K : PySem.W.Frag} {mg : Str → Option Value} (T : Tc K mg) (kd : Kd) : PySem.W.kitAny K (.ref (kd.cls K)) [.ref (cA K "Make"), .ref (cA K "Change"), .ref (cA K "End")] = some true := by
  have h1 := T.kD kd .mk
  have h2 := T.kD kd .ch
  have h3 := T.kD kd .en
  cases kd
  · exact kitAny_cons (b := true) h1 (fun z => by cases z) fun _ => rfl
  · exact kitAny_cons (b := false) h1 (fun _ => kitAny_cons (b := true) h2 (fun z => by cases z) fun _ => rfl) fun z => by cases z
  · exact kitAny_cons (b := false) h1 (fun _ => kitAny_cons (b := false) h2 (fun _ => kitAny_cons (b := true) h3 (fun z => by cases z) fun _ => rfl) fun z => by cases z) fun z => by cases z
theorem NoteAt.ext {K : PySem.W.Frag} {H H' : Hp} {v : V} {ws : Ws} (e : ExtN H H') (h : NoteAt K H v ws) : NoteAt K H' v ws := by
  cases ws with
  | none => exact h
  | some on =>
    obtain ⟨o, n⟩ := on
    obtain ⟨q, dx, oa, na, nm, ch, rfl, g1, g2, g3⟩ := h
    exact ⟨q, dx, oa, na, nm, ch, rfl, e _ _ g1 (fun _ z => by cases z), e _ _ g2 (fun _ z => by cases z), e _ _ g3 (fun _ z => by cases z)⟩
theorem DeedAt.ext {K : PySem.W.Frag} {H H' : Hp} {v : V} {d : Dd} (e : ExtN H H') (h : DeedAt K H v d) : DeedAt K H' v d := by
  obtain ⟨p, dx, m, c, nv, ms, rfl, h1, h2, h3, h4, h5⟩ := h
  exact ⟨p, dx, m, c, nv, ms, rfl, e _ _ h1 (fun _ z => by cases z), e _ _ h2 (fun _ z => by cases z), Paired.mono (fun _ _ ⟨a, ea, ha⟩ => ⟨a, ea, e _ _ ha (fun _ z => by cases z)⟩) h3, e _ _ h4 (fun _ z => by cases z), h5.ext e⟩
theorem tabs_upd {T : List (Addr × Str)} {H : Hp} {p : Addr} {u v : HO} (h : Tabs T H) (e : H p = some u) (n1 : ∀ ps, u ≠ .tbl ps) (n2 : ∀ c q, u ≠ CodeO c q) : Tabs T (upd H p v) := fun x hx => by
  obtain ⟨ps, h1, h2, h3⟩ := h x hx
  refine ⟨ps, by rw [upd_ne (ne_of h1 e (fun z => n1 _ z.symm))]; exact h1, h2, fun pos cv hc => ?_⟩
  obtain ⟨c, e1, e2⟩ := h3 pos cv hc
  exact ⟨c, e1, by rw [upd_ne (ne_of e2 e (fun z => n2 _ _ z.symm))]; exact e2⟩
theorem ins_code {C dx : Addr} {fs : List (Str × V)} (c : Addr) (q : Str) : HO.ins C dx fs ≠ CodeO c q := fun z => by
  unfold CodeO at z
  cases z
/-- the last stages -/
structure Fin3 (K : PySem.W.Frag) (tP : Addr) (H0 : Hp) (p dx rc q : Addr) (cs : List Str) (ys : List V) (fs : List (Str × V)) (H : Hp) : Prop where
  ext : ExtN H0 H
  tabs : Tabs [(tP, lamQ)] H
  at_ : H p = some (.ins (cA K "Book") dx fs)
  cols : TxT H rc cs
  lst : H q = some (.lst ys)
section
variable {K : PySem.W.Frag} {tP : Addr} {H0 H H' : Hp} {p dx rc q : Addr} {cs : List Str} {ys : List V} {fs fs' : List (Str × V)}
theorem Fin3.same (h : Fin3 K tP H0 p dx rc q cs ys fs H) (s : Same H H') : Fin3 K tP H0 p dx rc q cs ys fs H' := ⟨h.ext.trans (ExtN.of s), h.tabs.ext s, s _ _ h.at_, s _ _ h.cols, s _ _ h.lst⟩
theorem Fin3.fld (h : Fin3 K tP H0 p dx rc q cs ys fs H) (p0 : H0 p = none) : Fin3 K tP H0 p dx rc q cs ys fs' (upd H p (.ins (cA K "Book") dx fs')) := by
  refine ⟨fun b o e n => ?_, tabs_upd h.tabs h.at_ (fun _ z => by cases z) ins_code, upd_same, ?_, ?_⟩
  · have nb : b ≠ p := fun z => by rw [z, p0] at e; cases e
    rw [upd_ne nb]; exact h.ext _ _ e n
  · show upd H p _ rc = _
    rw [upd_ne (ne_of h.cols h.at_ (by intro z; cases z))]; exact h.cols
  · rw [upd_ne (ne_of h.lst h.at_ (by intro z; cases z))]; exact h.lst
end
theorem paired_map {α β γ : Type} {F : α → β → Prop} {G : α → γ → Prop} {f : β → γ} (h : ∀ a b, F a b → G a (f b)) : ∀ {l : List α} {m : List β}, Paired F l m → Paired G l (m.map f)
  | _, _, .nil => .nil
  | _, _, .cons h1 t => .cons (h _ _ h1) (paired_map h t)
def KeepOk (kv : V) : Prop := kv = .non ∨ ∃ i : Int, kv = .int i ∧ 1 ≤ i ∧ i ≤ 3
section
variable {P : Program} {w : World} {K : PySem.W.Frag} {mg : Str → Option Value} {base : Heap} {tP : Addr}
def sp_book_init (K : PySem.W.Frag) (tP : Addr) : List V → List V → Hp → VK → Prop := fun vs zs H Q => ∃ (H0 : Hp) (p dx c : Addr) (cols : List Str) (us : List V) (ds : List Dd) (kv : V), vs = .ref p :: .ref c :: us ∧ zs = [kv] ∧ Same H0 H ∧ H0 p = none ∧ H p = some (.ins (cA K "Book") dx []) ∧
  TxL H0 c cols ∧ (∀ x ∈ cols, Nm x ∧ x ∉ (["state", "row", "deed"] : List Str)) ∧ cols.Nodup ∧ cols.length ≤ 3 ∧ Paired (DeedAt K H0) us ds ∧ DsIn cols ds ∧ KeepOk kv ∧ Tabs [(tP, lamQ)] H0 ∧
  ∀ H' cs ds', ExtN H0 H' → Tabs [(tP, lamQ)] H' → Sorted cs cols → ds'.Perm ds → ds'.Pairwise (fun d e => nmLe d e = true) → BookAt K H' (.ref p) cs ds' → Q .non H'
set_option maxHeartbeats 8000000 in
theorem ok_book_init (T : Tj P K mg base tP) : ∃ f, Mk K (cA K "Book") f ∧ FnG P w K mg base 5 f ["keep"] (sp_book_init K tP) := by
  obtain ⟨f, oc, od, kV, doc, pm, an, c0, ct, osl, M, lk, hcd, TB⟩ := T.book_init
  refine ⟨f, M, (fnG_star (ps := ["self", "columns"]) (ks := ["keep"]) (pv := "deeds") (N := n_Book_init) (sp := sp_book_init K tP) lk hcd sc_Book_init (fun us rest ws h1 h2 A' Ex Q s _ hQ => ?_) fun A outer s H as rest zs mt Q hr h1 h2 hmt hsp => ?_).imp fun vs zs H Q h => ?_⟩
  · match us, h1, ws, h2 with
    | [_, _], _, [_], _ =>
      cases rest with
      | nil => exact hQ
      | cons r rs => exact hQ
  · obtain ⟨H0, p, dx, c, cols, us, ds, kv, e1, rfl, s0, p0, hp, hcl, hcn, hcd', hcl3, hus, hds, hkv, hT, k⟩ := hsp
    obtain ⟨rfl, rfl⟩ : as = [.ref p, .ref c] ∧ us = rest := by
      match as, h1, e1 with
      | [_, _], _, e1 => cases e1; exact ⟨rfl, rfl⟩
    have TT := T
    have TB' := T.ti.th.tg.tf.tb
    have TC := TB'.te.td.tc
    have B := TC.tw.bt
    have c_check_columns := ok_check_columns (P := P) (w := w) (base := base) TC.tw
    have c_check_once := ok_check_once (P := P) (w := w) (base := base) TC.tw
    have c_is_between := ok_is_between (P := P) (w := w) (base := base) TC.tw
    have c_check_words := ok_check_words (P := P) (w := w) T
    refine ⟨_, PSs.nox (pss_cons (ps_fld (pv 0) (pe_k c_check_columns hr (by decide) rfl (pa_cons (pv 1) pa_nil)) rfl) (pss_cons (ps_for PassesOwn.never rfl (pi_tupK K (pv 3)) (gnm 4 sc_Book_init.nd) (pss_one (ps_if (pt_not (pt_val (cB (isiTK K) B.isinstance bb_isinstance (pa_cons (pv 4) (pa_cons (pe_tup (pa_cons (pe_own TC.make.v) (pa_cons (pe_own TC.change.v) (pa_cons (pe_own TC.end_.v) pa_nil)))) pa_nil))))) (pss_one ps_never) pss_nil))) (pss_cons (ps_expr (pe_k c_check_once hr (by decide) rfl (pa_cons (pe_lc (own := [("deed", 4)]) rfl sc_Book_init.nd (pi_tupK K (pv 3)) (blkOk_by (N := n_Book_init) (sc := defScope s_Book_init) (by decide +kernel)) (fun _ _ _ _ _ => (gnm 4 sc_Book_init.nd)) (fun _ _ _ _ _ => pts_nil) (fun _ _ _ _ _ => (fldK K (pv 4) rfl))) pa_nil))) (pss_cons (ps_if (pt_cmpR op_gt (cB (len_seqK K) B.len bb_len (pa_cons (pv 3) pa_nil)) (pe_own T.g_MOST_DEEDS) (nomark _)) (pss_one ps_never) pss_nil) (pss_cons (ps_setSc3 (i := 5) (own := [("deed", 4), ("move", 6), ("state", 7)]) [6, 7] [7] rfl sc_Book_init.nd rfl rfl (sw_sc rfl rfl rfl (by decide +kernel)) (pi_tupK K (pv 3)) (blkOk_by (N := n_Book_init) (sc := defScope s_Book_init) (by decide +kernel)) (by decide) (by decide) (fun _ _ _ _ _ => (gnm 4 sc_Book_init.nd)) (fun _ _ _ _ _ => pts_nil) (fun _ _ _ _ _ => (pi_tupK K (fldK K (pv 4) rfl))) (fun _ _ _ _ _ => (gnm 6 sc_Book_init.nd)) (fun _ _ _ _ _ => pts_nil) (fun _ _ _ _ _ => (pi_tupK K (pv 6))) (fun _ _ _ _ _ => (gnm 7 sc_Book_init.nd)) (fun _ _ _ _ _ => pts_one (pt_cmpR op_ne (pv 7) pe_str (nomark _))) (fun _ _ _ _ _ => (pv 7))) (pss_cons (ps_fld (pv 0) (cT call_tuple_of B.tuple bb_tuple (pa_cons (cB (cr_sortedSet rfl hr) B.sorted bb_sorted (pa_cons (pv 5) pa_nil)) pa_nil)) rfl) (pss_cons (ps_if (pt_cmpR op_gt (cB (len_seqK K) B.len bb_len (pa_cons (fldK K (pv 0) rfl) pa_nil)) (pe_own T.g_MOST_STATES) (nomark _)) (pss_one ps_never) pss_nil) (pss_cons (ps_for PassesOwn.never rfl (pi_tupK K (pv 3)) (gnm 4 sc_Book_init.nd) (pss_one (ps_expr (pe_k c_check_words hr (by decide) rfl (pa_cons (pv 4) (pa_cons (fldK K (pv 0) rfl) pa_nil)))))) (pss_cons (ps_if (PW.pt (pw_and (pt_cmpR op_notN (pv 2) pe_non (nomark _)) (pw_and1 (pt_not (pt_val (pe_k c_is_between hr (by decide) rfl (pa_cons (pv 2) (pa_cons pe_int (pa_cons (pe_own T.g_MOST_KEPT) pa_nil))))))))) (pss_one ps_never) pss_nil) (pss_cons (ps_fld (pv 0) (pe_sortKey (k := 0) (T := [(tP, lamQ)]) (hr.mono (by decide)) rfl rfl B.sorted (pa_cons (pv 3) pa_nil) TB rfl (List.mem_singleton.mpr rfl) (fun p hp _ => by rw [List.mem_singleton.mp hp]; rfl) rfl (fun _ _ _ _ _ _ => rfl) rfl rfl rfl rfl (by decide)) rfl) (pss_cons (ps_fld (pv 0) (cT call_tuple_of B.tuple bb_tuple (pa_cons (pe_lc (own := [("deed", 4)]) rfl sc_Book_init.nd (pi_listK K (fldK K (pv 0) rfl)) (blkOk_by (N := n_Book_init) (sc := defScope s_Book_init) (by decide +kernel)) (fun _ _ _ _ _ => (gnm 4 sc_Book_init.nd)) (fun _ _ _ _ _ => pts_nil) (fun _ _ _ _ _ => (fldK K (pv 4) rfl))) pa_nil)) rfl) (pss_one (ps_fld (pv 0) (pv 2) rfl))))))))))))), ?_⟩
    have hlen : us.length = ds.length := Paired.length hus
    have hfew := hds.few
    have S0 : Stg K H0 p dx mt us [] H := ⟨s0, hp, hmt⟩
    -- self.columns
    refine ⟨_, rfl, c, cols, rfl, hcl.same s0, hcn, hcd', hcl3, fun rc cs H1 s1 hcs hrc => ⟨_, rfl, p, _, dx, [], rfl, s1 _ _ hp, TB'.book.cl, TB'.nB _ (by simp), (by show 0 < 1000; decide), ?_⟩⟩
    have S1 : Stg K H0 p dx mt us [("columns", .ref rc)] (upd H1 p (.ins (cA K "Book") dx [("columns", .ref rc)])) := (S0.same s1).fld p0
    have c1 : TxT (upd H1 p (.ins (cA K "Book") dx [("columns", .ref rc)])) rc cs := by
      show upd H1 p _ rc = _
      rw [upd_ne (ne_of hrc (s1 _ _ hp) (by intro z; cases z))]
      exact hrc
    show tSeq _ _ _ _ (upd H1 p (.ins (cA K "Book") dx [("columns", .ref rc)]))
    revert S1 c1
    generalize upd H1 p (.ins (cA K "Book") dx [("columns", .ref rc)]) = H2
    intro S1 c1
    -- kinds
    refine ⟨_, rfl, mt, rfl, ⟨us, .inl (.inl S1.2.2)⟩, for_it (walk_tup (xs := us)) (fun i σ H' => (∃ o, σ = [some (.ref p), some (.ref c), some kv, some (.ref mt), o, none, none, none]) ∧ Same H2 H') ⟨⟨_, rfl⟩, Same.refl _⟩ (fun i σ H' _ q => .inl (.inl (q.2 _ _ S1.2.2))) ?_ ?_⟩
    · rintro i x σ H3 H4 hi ⟨⟨o, rfl⟩, s3⟩ ⟨rfl, hx⟩
      obtain ⟨d, hd, hda⟩ := Paired.get hus hx
      obtain ⟨u, du, m, cc, nv, ms, rfl, g1, _⟩ := hda.same (S1.1.trans s3)
      refine ⟨_, rfl, (by show 3 ≤ sizeLine; decide), fun t ht => ?_⟩
      have s4 : Same H4 (upd H4 t (.tup [.ref (cA K "Make"), .ref (cA K "Change"), .ref (cA K "End")])) := (Fr.new (E := Ex0) ht).same
      exact ⟨.ref u, t, _, _, [.ref (cA K "Make"), .ref (cA K "Change"), .ref (cA K "End")], true, rfl, upd_same, .cons (.own _) (.cons (.own _) (.cons (.own _) .nil)), (TC.own d.kd).ty TC (s4 _ _ g1), kit3 TC d.kd, true, rfl, iteF ⟨⟨_, rfl⟩, s3.trans s4⟩⟩
    rintro σ H3 ⟨⟨o, rfl⟩, s3⟩
    have S3 := S1.same s3
    have c3 := c1.same s3
    -- names
    refine ⟨_, rfl, mt, rfl, ⟨us, .inl (.inl S3.2.2)⟩, fun D hD => ?_⟩
    refine lc_map (E := Ex0) (walk_tup (xs := us)) (B := Str) ds (fun _ => true) Dd.name (fun _ v b => v = .str b) hlen.symm hD (by omega) (fun H' f => .inl (.inl (f.same _ _ S3.2.2))) (fun i H x H' y => by rw [y.1]; exact Fr.refl _ _) (Sta.eq V.str) (fun _ _ _ _ z => z) ?_ ?_
    · rintro i x H4 H5 d Ky Kn hd fr ⟨rfl, hx⟩ hy hk
      obtain ⟨u, du, m, cc, nv, ms, rfl, g1, _⟩ := (Paired.at hus hx hd).same (S3.1.trans fr.same)
      refine ⟨rfl, yes_of ?_⟩
      exact ⟨_, rfl, u, _, du, _, _, rfl, g1, TC.cls d.kd, TC.nD d.kd _ (by simp), deed_name _ _ _ _, hy _ _ rfl (Fr.refl _ _) rfl⟩
    intro H4 zs fr4 hD4 r4
    have hz4 := Paired.mapEq (f := V.str) r4
    rw [List.filter_eq_self.mpr (fun _ _ => rfl)] at hz4
    refine ⟨D, ds.map Dd.name, rfl, .inl (by rw [hz4] at hD4; exact hD4), hds.nd, fun H5 s5 => ?_⟩
    have S5 := (S3.same fr4.same).same s5
    have c5 := (c3.same fr4.same).same s5
    -- few
    refine ⟨_, rfl, mt, us, rfl, .inr (.inl (.inl S5.2.2)), _, _, rfl, rfl, _, rfl, ?_⟩
    rw [show decide ((8 : Int) < ((us.length : Nat) : Int)) = false from decide_eq_false (by omega)]
    refine iteF ?_
    -- found
    obtain ⟨L, hL4, hL⟩ := hds.st
    refine ⟨_, rfl, mt, rfl, ⟨us, .inl (.inl S5.2.2)⟩, fun ss hss => ?_⟩
    let I0 : Hp → Prop := fun H' => Same H5 H' ∧ ∃ l, H' ss = some (SetSO w ss l) ∧ l.Nodup ∧ ∀ x ∈ l, x ∈ L
    have i0 : I0 (upd H5 ss (SetSO w ss [])) := ⟨(Fr.new (E := Ex0) hss).same, [], upd_same, by simp, by simp⟩
    refine turns_it (walk_tup (xs := us)) (fun _ H' => I0 H') i0 (fun i H' _ q => .inl (.inl (q.1 _ _ S5.2.2))) ?_ ?_
    · rintro i x H6 H7 hi i6 ⟨rfl, hx⟩
      obtain ⟨d, hd, hda⟩ := Paired.get hus hx
      obtain ⟨u, du, m, cc, nv, ms, rfl, g1, g2, g3, _⟩ := hda.same S5.1
      refine ⟨rfl, yes_ofL (σ := []) ⟨_, rfl, u, _, du, _, _, rfl, i6.1 _ _ g1, TC.cls d.kd, TC.nD d.kd _ (by simp), (show (deedF d.name m cc nv).lookup ("moves" : Str) = some (.ref m) from rfl), m, rfl, ⟨ms, .inl (.inl (i6.1 _ _ g2))⟩, turns_it (walk_tup (xs := ms)) (fun _ H' => I0 H') i6 (fun i H' _ q => .inl (.inl (q.1 _ _ g2))) ?_ (fun H' q => q)⟩⟩
      rintro j y H8 H9 hj i8 ⟨rfl, hy⟩
      obtain ⟨pr, hpr, t, rfl, ht⟩ := Paired.get g3 hy
      have hLp := hL d (List.mem_of_getElem? hd) pr (List.mem_of_getElem? hpr)
      refine ⟨rfl, yes_ofL (σ := []) ⟨_, rfl, t, rfl, ⟨vP pr, .inl (.inl (i8.1 _ _ ht))⟩, turns_it (walk_tup (xs := vP pr)) (fun _ H' => I0 H') i8 (fun i H' _ q => .inl (.inl (q.1 _ _ ht))) ?_ (fun H' q => q)⟩⟩
      rintro n z H10 H11 hn i10 ⟨rfl, hz⟩
      obtain ⟨xx, rfl, hxx⟩ := vP_at hz
      refine ⟨rfl, _, rfl, rfl, _, rfl, ite2 (fun yy => ?_) (fun _ => i10)⟩
      have hne : xx ≠ "" := fun e => by
        rw [e, decide_eq_true rfl] at yy
        cases yy
      have hxL : xx ∈ L := by
        rcases hxx with e | e
        · rw [e] at hne ⊢; exact hLp.1.resolve_left hne
        · rw [e] at hne ⊢; exact hLp.2.resolve_left hne
      obtain ⟨i11, l, hl, hnd, hlL⟩ := i10
      refine ⟨_, rfl, xx, l, rfl, hl, ?_, ((Fr.of (E := Ex0) i11).put hss).same, addS l xx, upd_same, addS_nd hnd xx, fun v hv => ?_⟩
      · have := nodup_len hnd hlL
        show l.length + 1 < scanBound
        unfold scanBound
        omega
      · rcases (addS_mem l xx v).mp hv with e | e
        · rw [e]; exact hxL
        · exact hlL v e
    rintro H6 ⟨s6, l, hl, hlnd, hlL⟩
    have S6 := S5.same s6
    have c6 := c5.same s6
    have hll := nodup_len hlnd hlL
    -- self.states
    refine ⟨_, rfl, ss, l, rfl, hl, by omega, fun ys q hperm hq => ⟨q, _, rfl, .inl ⟨.inl (.inl upd_same), fun st hst => ?_⟩⟩⟩
    have s7 : Same H6 (upd (upd H6 q (.lst (ys.map V.str))) st (.tup (ys.map V.str))) := ((Fr.new (E := Ex0) hq).new' hst).same
    have st7 : upd (upd H6 q (.lst (ys.map V.str))) st (.tup (ys.map V.str)) st = some (.tup (ys.map V.str)) := upd_same
    revert s7 st7
    generalize upd (upd H6 q (.lst (ys.map V.str))) st (.tup (ys.map V.str)) = H7
    intro s7 st7
    have S7 := S6.same s7
    refine ⟨_, rfl, p, _, dx, _, rfl, S7.2.1, TB'.book.cl, TB'.nB _ (by simp), (by show 1 < 1000; decide), ?_⟩
    have S8 : Stg K H0 p dx mt us [("columns", .ref rc), ("states", .ref st)] (upd H7 p (.ins (cA K "Book") dx [("columns", .ref rc), ("states", .ref st)])) := S7.fld p0
    have c8 : TxT (upd H7 p (.ins (cA K "Book") dx [("columns", .ref rc), ("states", .ref st)])) rc cs := by
      show upd H7 p _ rc = _
      rw [upd_ne (ne_of (c6.same s7) S7.2.1 (by intro z; cases z))]
      exact c6.same s7
    have st8 : upd H7 p (.ins (cA K "Book") dx [("columns", .ref rc), ("states", .ref st)]) st = some (.tup (ys.map V.str)) := by
      rw [upd_ne (ne_of st7 S7.2.1 (by intro z; cases z))]; exact st7
    show tSeq _ _ _ _ (upd H7 p (.ins (cA K "Book") dx [("columns", .ref rc), ("states", .ref st)]))
    revert S8 c8 st8
    generalize upd H7 p (.ins (cA K "Book") dx [("columns", .ref rc), ("states", .ref st)]) = H8
    intro S8 c8 st8
    refine ⟨_, rfl, p, _, dx, _, _, rfl, S8.2.1, TB'.book.cl, TB'.nB _ (by simp), (show ([("columns", .ref rc), ("states", .ref st)] : List (Str × V)).lookup ("states" : Str) = some (.ref st) from rfl), st, _, rfl, .inr (.inl (.inl st8)), _, _, rfl, rfl, _, rfl, ?_⟩
    rw [show decide ((4 : Int) < (((ys.map V.str).length : Nat) : Int)) = false from decide_eq_false (by rw [List.length_map, hperm.length_eq]; omega)]
    refine iteF ?_
    -- check_words
    have hwo : ∀ d ∈ ds, DWo cs d := fun d hd => by
      have h := hds.wo d hd
      exact ⟨fun x hx => hcs.1.mem_iff.mpr (h.own x hx), h.few, fun x hx => (h.ws x hx).imp id fun y => ⟨hcs.1.mem_iff.mpr y.1, y.2⟩⟩
    refine ⟨_, rfl, mt, rfl, ⟨us, .inl (.inl S8.2.2)⟩, for_it (walk_tup (xs := us)) (fun i σ H' => (∃ o, σ = [some (.ref p), some (.ref c), some kv, some (.ref mt), o, some (.ref ss), none, none]) ∧ Same H8 H') ⟨⟨_, rfl⟩, Same.refl _⟩ (fun i σ H' _ q => .inl (.inl (q.2 _ _ S8.2.2))) ?_ ?_⟩
    · rintro i x σ H9 H10 hi ⟨⟨o', rfl⟩, s9⟩ ⟨rfl, hx⟩
      obtain ⟨d, hd, hda⟩ := Paired.get hus hx
      refine ⟨_, rfl, _, rfl, p, _, dx, _, _, rfl, s9 _ _ S8.2.1, TB'.book.cl, TB'.nB _ (by simp), (show ([("columns", .ref rc), ("states", .ref st)] : List (Str × V)).lookup ("columns" : Str) = some (.ref rc) from rfl), x, rc, d, cs, rfl, hda.same (S8.1.trans s9), c8.same s9, hwo d (List.mem_of_getElem? hd), fun H11 s11 => ⟨⟨_, rfl⟩, s9.trans s11⟩⟩
    rintro σ H9 ⟨⟨o', rfl⟩, s9⟩
    have S9 := S8.same s9
    have c9 := c8.same s9
    -- the rest
    have hfld : Paired (FldIs K "name" H9) us (ds.map Dd.name) := paired_map (fun v d hda => by
      obtain ⟨u, du, m, cc, nv, ms, rfl, g1, _⟩ := hda.same S9.1
      exact ⟨u, _, du, _, rfl, g1, TC.cls d.kd, TC.nD d.kd _ (by simp), deed_name _ _ _ _⟩) hus
    obtain ⟨ds', hp', hperm', hsort'⟩ := byKey_deeds hus
    have hl' : (byKey us (ds.map Dd.name)).length = ds'.length := Paired.length hp'
    have hdl' : ds'.length = ds.length := hperm'.length_eq
    have fin : tSeq (sFld K (tVar 0) (tSortKey K [(tP, lamQ)] "name" (tCons (tVar 3) tNil)) "deeds") (tSeq (sFld K (tVar 0) (tCB (fun xs H Q => ∃ p ys, xs = [V.ref p] ∧ ((SqL K H p ys ∧ ∀ l, H l = none → Q (.ref l) (upd H l (.tup ys))) ∨ (SqT K H p ys ∧ Q (.ref p) H))) (tCons (tLc (iList K (tFld K (tVar 0) "deeds")) (gName 4) tYes (tFld K (tVar 4) "name") [4]) tNil)) "names") (sFld K (tVar 0) (tVar 2) "keep"))
        { nx := fun _ H' => Q .non H', rt := Q } [some (.ref p), some (.ref c), some kv, some (.ref mt), o', some (.ref ss), none, none] H9 := by
      refine ⟨_, rfl, mt, us, ds.map Dd.name, rfl, .inr (.inl (.inl S9.2.2)), hT.ext S9.1, by omega, hfld, fun H10 q eN T10 hq => ?_⟩
      have hp10 : H10 p = some (.ins (cA K "Book") dx [("columns", .ref rc), ("states", .ref st)]) := eN _ _ S9.2.1 (fun _ z => by cases z)
      have c10 : TxT H10 rc cs := eN _ _ c9 (fun _ z => by cases z)
      have sq : Same H10 (upd H10 q (.lst (byKey us (ds.map Dd.name)))) := (Fr.new (E := Ex0) hq).same
      have F1 : Fin3 K tP H0 p dx rc q cs (byKey us (ds.map Dd.name)) [("columns", .ref rc), ("states", .ref st)] (upd H10 q (.lst (byKey us (ds.map Dd.name)))) :=
        ⟨((ExtN.of S9.1).trans eN).trans (ExtN.of sq), T10.ext sq, sq _ _ hp10, c10.same sq, upd_same⟩
      revert F1
      generalize upd H10 q (.lst (byKey us (ds.map Dd.name))) = H11
      intro F1
      refine ⟨_, rfl, p, _, dx, _, rfl, F1.at_, TB'.book.cl, TB'.nB _ (by simp), (by show 2 < 1000; decide), ?_⟩
      have F2 : Fin3 K tP H0 p dx rc q cs (byKey us (ds.map Dd.name)) [("columns", .ref rc), ("states", .ref st), ("deeds", .ref q)] (upd H11 p (.ins (cA K "Book") dx [("columns", .ref rc), ("states", .ref st), ("deeds", .ref q)])) := F1.fld p0
      show tSeq _ _ _ _ (upd H11 p (.ins (cA K "Book") dx [("columns", .ref rc), ("states", .ref st), ("deeds", .ref q)]))
      revert F2
      generalize upd H11 p (.ins (cA K "Book") dx [("columns", .ref rc), ("states", .ref st), ("deeds", .ref q)]) = H12
      intro F2
      refine ⟨_, rfl, p, _, dx, _, _, rfl, F2.at_, TB'.book.cl, TB'.nB _ (by simp), (show ([("columns", .ref rc), ("states", .ref st), ("deeds", .ref q)] : List (Str × V)).lookup ("deeds" : Str) = some (.ref q) from rfl), q, rfl, ⟨_, .inl (.inl F2.lst)⟩, fun E hE => ?_⟩
      refine lc_map (E := Ex0) (walk_list (xs := byKey us (ds.map Dd.name))) (B := Str) ds' (fun _ => true) Dd.name (fun _ v b => v = .str b) hl'.symm hE (by omega) (fun H' f => .inl (.inl (f.same _ _ F2.lst))) (fun i H x H' y => by rw [y.1]; exact Fr.refl _ _) (Sta.eq V.str) (fun _ _ _ _ z => z) ?_ ?_
      · rintro i x H13 H14 d Ky Kn hd fr ⟨rfl, hx⟩ hy hk
        obtain ⟨u, du, m, cc, nv, ms, rfl, g1, _⟩ := ((Paired.at hp' hx hd).ext F2.ext).same fr.same
        refine ⟨rfl, yes_of ?_⟩
        exact ⟨_, rfl, u, _, du, _, _, rfl, g1, TC.cls d.kd, TC.nD d.kd _ (by simp), deed_name _ _ _ _, hy _ _ rfl (Fr.refl _ _) rfl⟩
      · intro H13 ws fr hE13 _
        have F3 := F2.same fr.same
        refine ⟨E, ws, rfl, .inl ⟨.inl (.inl hE13), fun nm hnm => ?_⟩⟩
        have F4 := F3.same (Fr.new (E := Ex0) (o := .tup ws) hnm).same
        revert F4
        generalize upd H13 nm (.tup ws) = H14
        intro F4
        refine ⟨_, rfl, p, _, dx, _, rfl, F4.at_, TB'.book.cl, TB'.nB _ (by simp), (by show 3 < 1000; decide), ?_⟩
        have F5 : Fin3 K tP H0 p dx rc q cs (byKey us (ds.map Dd.name)) [("columns", .ref rc), ("states", .ref st), ("deeds", .ref q), ("names", .ref nm)] (upd H14 p (.ins (cA K "Book") dx [("columns", .ref rc), ("states", .ref st), ("deeds", .ref q), ("names", .ref nm)])) := F4.fld p0
        refine (fun (F : ∀ H15, Fin3 K tP H0 p dx rc q cs (byKey us (ds.map Dd.name)) [("columns", .ref rc), ("states", .ref st), ("deeds", .ref q), ("names", .ref nm)] H15 → sFld K (tVar 0) (tVar 2) "keep" { nx := fun _ H' => Q .non H', rt := Q } [some (.ref p), some (.ref c), some kv, some (.ref mt), o', some (.ref ss), none, none] H15) => F _ F5) fun H15 F5 => ?_
        refine ⟨_, rfl, _, rfl, p, _, dx, _, rfl, F5.at_, TB'.book.cl, TB'.nB _ (by simp), (by show 4 < 1000; decide), ?_⟩
        have F6 : Fin3 K tP H0 p dx rc q cs (byKey us (ds.map Dd.name)) (bookF rc st q nm kv) (upd H15 p (.ins (cA K "Book") dx (bookF rc st q nm kv))) := F5.fld p0
        exact k _ cs ds' F6.ext F6.tabs hcs hperm' hsort' ⟨p, dx, rc, st, q, nm, kv, _, rfl, F6.at_, F6.cols, F6.lst, Paired.mono (fun _ _ z => DeedAt.ext F6.ext z) hp'⟩
    rcases hkv with rfl | ⟨i, rfl, hi1, hi3⟩
    · refine ⟨_, rfl, rfl, _, rfl, ?_⟩
      rw [decide_eq_true rfl]
      exact iteF (iteF fin)
    · refine ⟨_, rfl, rfl, _, rfl, ?_⟩
      rw [decide_eq_false (by intro z; cases z)]
      exact iteT ⟨_, rfl, i, 1, 3, rfl, hi1, hi3, true, rfl, iteF fin⟩
  · obtain ⟨H0, p, dx, c, cols, us, ds, kv, e1, e2, s0, p0, hp, hcl, hcn, hcd', hcl3, hus, hds, hkv, hT, k⟩ := h
    have hlen : us.length = ds.length := Paired.length hus
    refine ⟨[.ref p, .ref c], us, e1, rfl, by have := hds.few; exact Nat.le_of_lt (small1000 (by omega)), fun t ht => ?_⟩
    have sN : Same H (upd H t (.tup us)) := (Fr.new (E := Ex0) ht).same
    exact ⟨H0, p, dx, c, cols, us, ds, kv, e1, e2, s0.trans sN, p0, sN _ _ hp, hcl, hcn, hcd', hcl3, hus, hds, hkv, hT, k⟩
end
end Pn
/-! #### W19 -/
namespace Pn
open PySem PySem.Spec PyProof.Rows L2 LamX
/-! ### Book.of -/
section
variable {P : Program} {w : World} {K : PySem.W.Frag} {mg : Str → Option Value} {base : Heap} {tP : Addr}
def sp_book_of (K : PySem.W.Frag) (tP : Addr) : List V → List V → Hp → VK → Prop := fun vs zs H Q => ∃ (c dl : Addr) (cols : List Str) (us : List V) (ds : List Dd) (kv : V), vs = [.ref (cA K "Book"), .ref c, .ref dl] ∧ zs = [kv] ∧
  TxL H c cols ∧ (∀ x ∈ cols, Nm x ∧ x ∉ (["state", "row", "deed"] : List Str)) ∧ cols.Nodup ∧ cols.length ≤ 3 ∧ H dl = some (.lst us) ∧ Paired (DeedAt K H) us ds ∧ DsIn cols ds ∧ KeepOk kv ∧ Tabs [(tP, lamQ)] H ∧
  ∀ v H' cs ds', ExtN H H' → Tabs [(tP, lamQ)] H' → Sorted cs cols → ds'.Perm ds → ds'.Pairwise (fun d e => nmLe d e = true) → BookAt K H' v cs ds' → Q v H'
theorem ok_book_of (T : Tj P K mg base tP) : Cm P w K mg base 7 (cA K "Book") "of" ["keep"] (sp_book_of K tP) := by
  obtain ⟨mc, p, g, r, c, oc, od, kV, doc, pm, an, cdv, ct, osl, lk, hcd⟩ := T.book_of
  refine ⟨mc, p, g, r, c, (FnG.of (ps := p_Book_of) (n := 3) (g := fun us ws => us ++ ws) (gV := fun vs zs => vs ++ zs) (sp := fun vs H Q _ => ∃ as zs, vs = as ++ zs ∧ as.length = 3 ∧ zs.length = 1 ∧ sp_book_of K tP as zs H Q) (fn_of lk hcd sc_Book_of (fun vs H Q E h => ?_) fun A outer s H vs Q E hr hsp => ?_) ⟨fun s us ws _ h1 h2 => .of_eq ?_, fun r1 r2 => r1.append r2⟩).imp fun vs zs H Q h => ?_⟩
  · obtain ⟨as, zs, rfl, h1, h2, _⟩ := h
    rw [List.length_append, h1, h2]; rfl
  · obtain ⟨as, zs, e0, h1, h2, cc, dl, cols, us, ds, kv, rfl, rfl, hcl, hcn, hcd', hcl3, hdl, hus, hds, hkv, hT, k⟩ := hsp
    subst e0
    obtain ⟨fI, M, F⟩ := ok_book_init (P := P) (w := w) T
    refine ⟨_, PSs.nox (pss_one (ps_ret (pe_makeG M F hr (pv 0) (pa_cons (pv 1) (StX.pa_star (pv 2) pa_nil)) (pk_cons (pv 3) pk_nil)))), ?_⟩
    refine ⟨_, rfl, rfl, _, rfl, _, rfl, dl, us, rfl, .inr (.inl (.inl hdl)), _, rfl, rfl, fun x dx nx ndx nex => ?_⟩
    have s1 : Same H (upd (upd H dx (.own x)) x (.ins (cA K "Book") dx [])) := ((Fr.new (E := Ex0) ndx).put nx).same
    refine ⟨H, x, dx, cc, cols, us, ds, kv, by rw [List.append_nil], rfl, s1, nx, upd_same, hcl, hcn, hcd', hcl3, hus, hds, hkv, hT, fun H' cs ds' sH tH hcs hp hso hb => ⟨rfl, k _ _ cs ds' sH tH hcs hp hso hb⟩⟩
  · match us, h1, ws, h2 with
    | [_, _, _], _, [_], _ => rfl
  · obtain ⟨cc, dl, cols, us, ds, kv, rfl, rfl, h2⟩ := h
    exact ⟨rfl, [_, _, _], [_], rfl, rfl, rfl, cc, dl, cols, us, ds, kv, rfl, rfl, h2⟩
end
end Pn
/-! #### Fnd12 -/
namespace Pn
open PySem PySem.Spec PyProof.Rows L2
/-! ### sets of unlike pairs of texts -/
abbrev thP (P : Program) (w : World) (p : Pr) : Int := tupleKeyHash (mixKind P w) (kP p)
abbrev IsQ (P : Program) (w : World) (h : Heap) (p : Pr) (a : Addr) : Prop := IsTupleKey (mixKind P w) h (kP p) a
section
variable {P : Program} {w : World} {A : Around} {E : Value → Shared → Prop} {s : Shared}
theorem items_mix {k : List L2.Key} {vs : List Value} (h : ItemsAre (mixKind P w) k vs) : ∀ v ∈ vs, (∃ i t, v = Value.int i t) ∨ ∃ x t, v = Value.str x t := by
  induction h with
  | nil => intro v hv; cases hv
  | cons h1 _ ih =>
    intro v hv
    rcases List.mem_cons.mp hv with e | hv
    · rw [e]
      rcases keyIs_shape h1 with ⟨i, t, _, z⟩ | ⟨x, t, _, z⟩
      · exact .inl ⟨i, t, z⟩
      · exact .inr ⟨x, t, z⟩
    · exact ih v hv
theorem ofAClass_flat (n : Nat) {v : Value} (h : (∃ i t, v = Value.int i t) ∨ ∃ x t, v = Value.str x t) : ofAClassStatement n v = pure false := by
  rcases h with ⟨i, t, rfl⟩ | ⟨x, t, rfl⟩ <;> cases n <;> rfl
theorem hashBy_flat (n : Nat) {v : Value} (h : (∃ i t, v = Value.int i t) ∨ ∃ x t, v = Value.str x t) : ∃ b, hashByValue n v = pure b := by
  rcases h with ⟨i, t, rfl⟩ | ⟨x, t, rfl⟩ <;> cases n <;> exact ⟨_, rfl⟩
theorem ofAClass_mix {k : List L2.Key} {b : Addr} {Q : Bool → Shared → Prop} (hk : IsTupleKey (mixKind P w) s.heap k b) (h : Q false s) : wpAny (model P w) A (ofAClassStatement 8 (.ref b)) Q E s := by
  have hT := hk.typeIs
  obtain ⟨o, items, n, ho, _, hd, hi⟩ := hk
  unfold ofAClassStatement
  refine wpAny_bind (wpAny_typeOf hT ?_)
  dsimp only
  have e : (("tuple" : String) == "tuple") = true := by decide
  simp only [e, if_true, Bool.not_true, Bool.false_eq_true, if_false]
  try refine wpAny_bind (wpAny_pure ?_)
  try simp only [Bool.not_true, Bool.false_eq_true, if_false]
  show wpAny _ _ (seqItems? (.ref b) >>= _) _ _ s
  refine wpAny_bind (wpAny_seqItems ho hd ?_)
  dsimp only
  refine wpAny_bind ?_
  show wpAny _ _ (forIn items _ _) _ _ s
  rw [← Array.forIn_toList]
  refine wpAny_forIn_list _ (fun rest r s' => r.1 = none ∧ s' = s ∧ ∀ v ∈ rest, (∃ i t, v = Value.int i t) ∨ ∃ x t, v = Value.str x t) _ ?_ ?_ _ _ ⟨rfl, rfl, items_mix hi⟩
  · rintro v rest r s' ⟨hr, rfl, hall⟩
    rw [ofAClass_flat 7 (hall v List.mem_cons_self)]
    refine wpAny_bind (wpAny_pure ?_)
    simp only [Bool.false_eq_true, if_false]
    exact wpAny_pure ⟨rfl, rfl, fun u hu' => hall u (List.mem_cons_of_mem _ hu')⟩
  · rintro ⟨r1, r2⟩ s' ⟨hr, rfl, _⟩
    simp only at hr
    subst hr
    exact wpAny_pure h
theorem hashBy_mix {k : List L2.Key} {b : Addr} {Q : Bool → Shared → Prop} (hk : IsTupleKey (mixKind P w) s.heap k b) (h : ∀ c, Q c s) : wpAny (model P w) A (hashByValue 8 (.ref b)) Q E s := by
  have hT := hk.typeIs
  obtain ⟨o, items, n, ho, _, hd, hi⟩ := hk
  unfold hashByValue
  refine wpAny_bind (wpAny_specialOf hT F.slot_tuple_hash.lookup ?_)
  show wpAny _ _ (seqItems? (.ref b) >>= _) _ _ s
  refine wpAny_bind (wpAny_seqItems ho hd ?_)
  refine wpAny_bind ?_
  show wpAny _ _ (forIn items _ _) _ _ s
  rw [← Array.forIn_toList]
  refine wpAny_forIn_list _ (fun rest r s' => (r.1 = none ∨ ∃ c, r.1 = some c) ∧ s' = s ∧ ∀ v ∈ rest, (∃ i t, v = Value.int i t) ∨ ∃ x t, v = Value.str x t) _ ?_ ?_ _ _ ⟨.inl rfl, rfl, items_mix hi⟩
  · rintro v rest r s' ⟨hr, rfl, hall⟩
    obtain ⟨c, e⟩ := hashBy_flat 7 (hall v List.mem_cons_self)
    rw [e]
    refine wpAny_bind (wpAny_pure ?_)
    cases c with
    | true =>
      simp only [Bool.not_true, Bool.false_eq_true, if_false]
      exact wpAny_pure ⟨.inl rfl, rfl, fun u hu' => hall u (List.mem_cons_of_mem _ hu')⟩
    | false =>
      simp only [Bool.not_false, if_true]
      exact wpAny_pure (wpAny_pure (h _))
  · rintro ⟨r1, r2⟩ s' ⟨hr, rfl, _⟩
    simp only at hr
    rcases hr with rfl | ⟨c, rfl⟩
    · exact wpAny_pure (h _)
    · exact wpAny_pure (h _)
theorem seen_mix {k : List L2.Key} {b : Addr} {Q : Bool → Shared → Prop} (hk : IsTupleKey (mixKind P w) s.heap k b) {ys : List Value} (hy : ∀ y ∈ ys, ∃ k' c, y = Value.ref c ∧ IsTupleKey (mixKind P w) s.heap k' c) (h : Q false s) :
    wpAny (model P w) A (searchCouldBeSeen (.ref b) ys) Q E s := by
  unfold searchCouldBeSeen
  refine wpAny_bind ?_
  refine wpAny_forIn_list _ (fun rest r s' => r.1 = none ∧ s' = s ∧ ∀ y ∈ rest, ∃ k' c, y = Value.ref c ∧ IsTupleKey (mixKind P w) s.heap k' c) _ ?_ ?_ _ _ ⟨rfl, rfl, hy⟩
  · rintro v rest r s' ⟨hr, rfl, hall⟩
    obtain ⟨k', c, rfl, hc⟩ := hall v List.mem_cons_self
    have rest' : ∀ y ∈ rest, ∃ k' c, y = Value.ref c ∧ IsTupleKey (mixKind P w) s'.heap k' c := fun u hu' => hall u (List.mem_cons_of_mem _ hu')
    dsimp only
    by_cases hv : (b == c || (carriedByValue (.ref b) && carriedByValue (.ref c))) = true
    · refine wp_if_pos hv ?_
      exact wpAny_pure ⟨rfl, rfl, rest'⟩
    · refine wp_if_neg hv ?_
      refine wpAny_bind (wpAny_eqIsQuiet_tuple hk ?_)
      simp only [Bool.not_true, Bool.false_eq_true, if_false]
      refine wpAny_bind (wpAny_eqIsQuiet_tuple hc ?_)
      simp only [Bool.not_true, Bool.false_eq_true, if_false]
      refine wpAny_bind (ofAClass_mix hk ?_)
      simp only [Bool.false_eq_true, if_false]
      refine wpAny_bind (ofAClass_mix hc ?_)
      simp only [Bool.false_eq_true, if_false]
      exact wpAny_pure ⟨rfl, rfl, rest'⟩
  · rintro ⟨r1, r2⟩ s' ⟨hr, rfl, _⟩
    simp only at hr
    subst hr
    exact wpAny_pure h
end
def rowsP (P : Program) (w : World) (L : List (Addr × Pr)) : List (Int × Value) := L.map fun p => (thP P w p.2, Value.ref p.1)
structure SetPR (P : Program) (w : World) (h : Heap) (a : Addr) (L : List (Addr × Pr)) (es : Array (Int × Value)) (ep : Nat) (t : SetTable) : Prop where
  ob : ∃ o, h.get? a = some o ∧ o.ExactSet ∧ o.data = .set es ep t
  rows : es.toList = rowsP P w L
  tab : TabOk t (L.map fun p => thP P w p.2)
  tup : ∀ p ∈ L, IsQ P w h p.2 p.1
  led : w.params.followText "set-order" = true ∨ t.led = true
  room : L.length * 5 < t.mask * 3
  few : L.length < 64
section
variable {P : Program} {w : World} {A : Around} {E : Value → Shared → Prop} {s : Shared} {a : Addr} {L : List (Addr × Pr)} {es : Array (Int × Value)} {ep : Nat} {t : SetTable}
theorem rowsP_len (L : List (Addr × Pr)) : (rowsP P w L).length = L.length := by unfold rowsP; rw [List.length_map]
theorem SetPR.size (R : SetPR P w s.heap a L es ep t) : es.size = L.length := by
  have h := congrArg List.length R.rows
  rw [Array.length_toList, rowsP_len] at h
  exact h
theorem fitsP {n : Nat} (hs : t.place.size = n) (hd : t.dummies = #[]) (hr : n ≤ t.mask) : t.fits n = true := by
  unfold SetTable.fits SetTable.fill
  rw [hd, Bool.and_eq_true, beq_iff_eq, decide_eq_true_eq]
  show t.place.size = n ∧ t.place.size + 0 ≤ t.mask
  omega
theorem SetPR.fits (R : SetPR P w s.heap a L es ep t) : t.fits es.size = true := by
  have h1 := R.tab.sz
  rw [List.length_map] at h1
  have h2 := R.size
  have h3 := R.room
  exact fitsP (by rw [h1, h2]) R.tab.dm (by omega)
theorem SetPR.entry (R : SetPR P w s.heap a L es ep t) {i : Nat} {p : Addr × Pr} (h : L[i]? = some p) : es[i]? = some (thP P w p.2, Value.ref p.1) := by
  rw [← Array.getElem?_toList, R.rows]
  unfold rowsP
  rw [List.getElem?_map, h]
  rfl
theorem SetPR.gw (R : SetPR P w s.heap a L es ep t) : ¬ t.gaveWay = true := by
  unfold SetTable.gaveWay
  rw [mask_odd R.tab.mok]
  decide
/-- the search for one that isn't in -/
theorem sP_from (R : SetPR P w s.heap a L es ep t) {x : Addr} {p : Pr} (hx : IsQ P w s.heap p x) (hno : p ∉ L.map (·.2)) (hu : A.units < cLine) {K : Nat} (hKf : K < 10 * SetTable.turns t.mask)
    (hK : way t.mask (thP P w p) K ∉ t.place.toList) (hKb : ∀ c, c < K → way t.mask (thP P w p) c ∈ t.place.toList) {Q : SetFound → Shared → Prop} (hout : Q (.free (way t.mask (thP P w p) K) false) s) :
    ∀ (f c : Nat) (stand : Option SetTable.Probe), stand.getD (t.probeStart (thP P w p)) = nth t.mask (runAt t.mask (SetTable.bits (thP P w p) % (t.mask + 1)) (SetTable.bits (thP P w p))) c → c ≤ K → K - c < f →
      wpAny (model P w) A (setSearchFrom a (.ref x) (thP P w p) true f stand) Q E s
  | 0, c, stand, _, _, hf => absurd hf (Nat.not_lt_zero _)
  | f + 1, c, stand, hst, hc, hf => by
    obtain ⟨o, ho, hex, hd⟩ := R.ob
    rw [setSearchFrom_succ]
    refine wpAny_bind (wpAny_setState_of ho hd R.fits ?_)
    dsimp only
    refine wp_if_neg R.gw ?_
    try refine wpAny_bind (wpAny_pure ?_)
    have hnd : (nth t.mask (runAt t.mask (SetTable.bits (thP P w p) % (t.mask + 1)) (SetTable.bits (thP P w p))) c).dummy = none := by
      have key : ∀ (n : Nat) (q : SetTable.Probe), q.dummy = none → (nth t.mask q n).dummy = none := by
        intro n
        induction n with
        | zero => intro q h; exact h
        | succ n ih =>
          intro q h
          refine ih (adv t.mask q) ?_
          unfold adv
          split <;> exact h
      exact key c _ rfl
    have sh : ∀ q, nth t.mask (nth t.mask (runAt t.mask (SetTable.bits (thP P w p) % (t.mask + 1)) (SetTable.bits (thP P w p))) c) q = nth t.mask (runAt t.mask (SetTable.bits (thP P w p) % (t.mask + 1)) (SetTable.bits (thP P w p))) (c + q) := fun q => (nth_add t.mask c _ q).symm
    have e1 : ∀ q, (nth t.mask (nth t.mask (runAt t.mask (SetTable.bits (thP P w p) % (t.mask + 1)) (SetTable.bits (thP P w p))) c) q).j = way t.mask (thP P w p) (c + q) := fun q => congrArg SetTable.Probe.j (sh q)
    have spec := go_spec t R.tab.ris R.tab.dm (fun i => (es[i]?.map (·.1)).getD 0) (thP P w p) (10 * SetTable.turns t.mask) (K - c) _ hnd (by omega)
      (fun q hq => by rw [e1]; exact hKb (c + q) (by omega)) (by rw [e1, show c + (K - c) = K by omega]; exact hK)
    rcases spec with ⟨q, i, hq, hi, hh, _, hpr⟩ | ⟨_, hpr⟩
    · have hpr' : t.probe (fun i => (es[i]?.map (·.1)).getD 0) (thP P w p) (stand.getD (t.probeStart (thP P w p))) = some (.candidate (way t.mask (thP P w p) (c + q)) i (nth t.mask (runAt t.mask (SetTable.bits (thP P w p) % (t.mask + 1)) (SetTable.bits (thP P w p))) (c + (q + 1)))) := by
        rw [hst, ← e1, ← sh]
        exact hpr
      rw [hpr']
      dsimp only
      rw [e1] at hi
      have hil : i < L.length := by
        have h1 : i < t.place.toList.length := (List.getElem?_eq_some_iff.mp hi).1
        have h2 := R.tab.sz
        rw [List.length_map] at h2
        rw [Array.length_toList] at h1
        omega
      have hp : L[i]? = some L[i] := List.getElem?_eq_getElem hil
      generalize L[i] = r at hp
      have hmem : r ∈ L := List.mem_of_getElem? hp
      have hne : ¬ r.2 = p := fun e => hno (List.mem_map.mpr ⟨r, hmem, e⟩)
      have hnk : ¬ kP r.2 = kP p := fun e => hne (kP_inj e)
      have rest : wpAny (model P w) A (searchRest a (.ref x) (thP P w p) true f es t (way t.mask (thP P w p) (c + q)) i (nth t.mask (runAt t.mask (SetTable.bits (thP P w p) % (t.mask + 1)) (SetTable.bits (thP P w p))) (c + (q + 1)))) Q E s := by
        unfold searchRest
        rw [R.entry hp]
        dsimp only
        refine wpAny_bind (wpAny_holding (wpAny_eqBool_tuple hu (R.tup r hmem) hx ?_))
        refine wpAny_bind (wpAny_setState_of ho hd R.fits ?_)
        dsimp only
        refine wp_if_neg (by simp [hnk]) ?_
        try refine wpAny_bind (wpAny_pure ?_)
        rw [sameMem]
        dsimp only
        have hsl : t.slot (way t.mask (thP P w p) (c + q)) = .live i := slot_live R.tab.ris hi
        simp only [if_true, hsl, R.entry hp]
        refine wpAny_bind (wpAny_isSame_ref_self (wpAny_bind (wpAny_pure ?_)))
        simp only [if_true]
        refine wp_if_neg (by simp [hnk]) ?_
        exact sP_from R hx hno hu hKf hK hKb hout f (c + (q + 1)) _ rfl (by omega) (by omega)
      by_cases hl : t.led = true
      · refine wp_if_neg (by simp [hl]) ?_
        try refine wpAny_bind (wpAny_pure ?_)
        exact rest
      · refine wp_if_pos (by simp [hl]) ?_
        refine wpAny_bind (seen_mix hx (fun y hy => ?_) ?_)
        · obtain ⟨e, he, ee⟩ := List.mem_map.mp hy
          have he1 : e ∈ es ∧ e.1 = thP P w p := by simpa using he
          have he2 : e ∈ es.toList := by simpa using he1.1
          rw [R.rows] at he2
          obtain ⟨p2, hp2, e2⟩ := List.mem_map.mp he2
          refine ⟨kP p2.2, p2.1, ?_, R.tup p2 hp2⟩
          rw [← ee, ← e2]
        · refine wp_if_neg (by decide) ?_
          try refine wpAny_bind (wpAny_pure ?_)
          exact rest
    · have hpr' : t.probe (fun i => (es[i]?.map (·.1)).getD 0) (thP P w p) (stand.getD (t.probeStart (thP P w p))) = some (.empty (way t.mask (thP P w p) K) none) := by
        have e2 : way t.mask (thP P w p) K = (nth t.mask (nth t.mask (runAt t.mask (SetTable.bits (thP P w p) % (t.mask + 1)) (SetTable.bits (thP P w p))) c) (K - c)).j := by
          rw [e1, show c + (K - c) = K by omega]
        rw [hst, e2]
        exact hpr
      rw [hpr']
      dsimp only
      exact wpAny_pure hout
theorem sP_at (R : SetPR P w s.heap a L es ep t) {x : Addr} {p : Pr} (hx : IsQ P w s.heap p x) (hno : p ∉ L.map (·.2)) (hu : A.units < cLine) {Q : SetFound → Shared → Prop}
    (hout : ∀ K, way t.mask (thP P w p) K ∉ t.place.toList → (∀ c, c < K → way t.mask (thP P w p) c ∈ t.place.toList) → Q (.free (way t.mask (thP P w p) K) false) s) :
    wpAny (model P w) A (setSearch a (.ref x) (thP P w p) true) Q E s := by
  have hroom := R.room
  obtain ⟨K, hKf, hK, hKb⟩ := R.tab.first (by rw [List.length_map]; omega) (thP P w p)
  have hbig : K < 100000 := by
    have : 10 * SetTable.turns t.mask ≤ 1420 := by
      unfold SetTable.turns
      rcases R.tab.mok with e | e | e <;> omega
    omega
  unfold setSearch
  exact sP_from R hx hno hu hKf hK hKb (hout K hK hKb) 100000 0 none rfl (Nat.zero_le _) (by omega)
end
end Pn
/-! #### Fnd13 -/
namespace Pn
open PySem PySem.Spec PyProof.Rows L2
section
variable {P : Program} {w : World} {A : Around} {E : Value → Shared → Prop} {s : Shared} {a : Addr} {L : List (Addr × Pr)} {es : Array (Int × Value)} {ep : Nat} {t : SetTable}
theorem isQ_same {h h' : Heap} {p : Pr} {a b : Addr} {o : Obj} {es : Array (Int × Value)} {ep : Nat} {t : SetTable} (hb : IsQ P w h p b) (ho : h.get? a = some o) (hd : o.data = .set es ep t) (hs : Heap.SameBut a h h') : IsQ P w h' p b := by
  obtain ⟨o', items, n, ho', hc, hd', hi⟩ := hb
  have hne : b ≠ a := by
    rintro rfl
    obtain rfl : o' = o := Option.some.inj (ho'.symm.trans ho)
    rw [hd] at hd'
    exact nomatch hd'
  exact ⟨o', items, n, (hs.2 b hne).trans ho', hc, hd', hi⟩
theorem isQ_keep {h h' : Heap} {p : Pr} {b : Addr} (x : IsQ P w h p b) (hk : ∀ c o, h.get? c = some o → h'.get? c = some o) : IsQ P w h' p b := by
  obtain ⟨o, items, n, ho, r⟩ := x
  exact ⟨o, items, n, hk b o ho, r⟩
theorem rowsP_put (L : List (Addr × Pr)) (n : Nat) (x : Addr × Pr) : rowsP P w (L.take n ++ x :: L.drop n) = (rowsP P w L).take n ++ (thP P w x.2, Value.ref x.1) :: (rowsP P w L).drop n := by
  unfold rowsP
  rw [List.map_append, List.map_cons, List.map_take, List.map_drop]
end
/-- the rows in another order, whatever the hash -/
theorem rowsG_order (th : Pr → Int) (L : List (Addr × Pr)) (es : Array (Int × Value)) (order : Array Nat) (hr : es.toList = L.map fun p => (th p.2, Value.ref p.1)) (hp : order.toList.Perm (List.range L.length)) :
    ∃ L2 : List (Addr × Pr), (order.filterMap (es[·]?)).toList = (L2.map fun p => (th p.2, Value.ref p.1)) ∧ L2.Perm L ∧ (L2.map fun p => th p.2) = order.toList.map fun i => (es.map (·.1)).getD i 0 := by
  have hsz : es.size = L.length := by
    have h := congrArg List.length hr
    rw [Array.length_toList, List.length_map] at h
    exact h
  have ent : ∀ i (h : i < L.length), es[i]? = some (th (L[i]).2, Value.ref (L[i]).1) := fun i h => by
    rw [← Array.getElem?_toList, hr, List.getElem?_map, List.getElem?_eq_getElem h]
    rfl
  have key : ∀ l : List Nat, (∀ i ∈ l, i < L.length) → ∃ L2 : List (Addr × Pr), l.filterMap (fun i => es[i]?) = (L2.map fun p => (th p.2, Value.ref p.1)) ∧ L2 = l.filterMap (fun i => L[i]?) ∧ (L2.map fun p => th p.2) = l.map fun i => (es.map (·.1)).getD i 0 := by
    intro l
    induction l with
    | nil => intro _; exact ⟨[], rfl, rfl, rfl⟩
    | cons i l ih =>
      intro hl
      have hi := hl i List.mem_cons_self
      obtain ⟨L2, e1, e2, e3⟩ := ih fun j hj => hl j (List.mem_cons_of_mem _ hj)
      refine ⟨L[i] :: L2, ?_, ?_, ?_⟩
      · rw [List.filterMap_cons_some (ent i hi), e1, List.map_cons]
      · rw [List.filterMap_cons_some (List.getElem?_eq_getElem hi), e2]
      · rw [List.map_cons, List.map_cons, e3]
        have e4 : (es.map (·.1)).getD i 0 = th (L[i]).2 := by
          have e5 : (es.map (·.1))[i]? = some (th (L[i]).2) := by rw [Array.getElem?_map, ent i hi]; rfl
          rw [Array.getD_eq_getD_getElem?, e5]
          rfl
        rw [e4]
  obtain ⟨L2, e1, e2, e3⟩ := key order.toList fun i hi => List.mem_range.mp (hp.mem_iff.mp hi)
  refine ⟨L2, by rw [Array.toList_filterMap]; exact e1, ?_, e3⟩
  have h1 : L2.Perm ((List.range L.length).filterMap fun i => L[i]?) := by
    rw [e2]
    exact hp.filterMap _
  have key2 : ∀ n, n ≤ L.length → (List.range n).filterMap (fun i => L[i]?) = L.take n := by
    intro n
    induction n with
    | zero => intro _; rfl
    | succ n ih =>
      intro hn
      have hlt : n < L.length := hn
      rw [List.range_succ, List.filterMap_append, ih (Nat.le_of_lt hlt), List.take_succ, List.getElem?_eq_getElem hlt]
      rw [List.filterMap_cons_some (List.getElem?_eq_getElem hlt)]
      rfl
  rw [key2 L.length (Nat.le_refl _), List.take_length] at h1
  exact h1
section
variable {P : Program} {w : World} {A : Around} {E : Value → Shared → Prop} {s : Shared} {a : Addr} {L : List (Addr × Pr)} {es : Array (Int × Value)} {ep : Nat} {t : SetTable}
theorem rowsP_order (L : List (Addr × Pr)) (es : Array (Int × Value)) (order : Array Nat) (hr : es.toList = rowsP P w L) (hp : order.toList.Perm (List.range L.length)) :
    ∃ L2, (order.filterMap (es[·]?)).toList = rowsP P w L2 ∧ L2.Perm L ∧ (L2.map fun p => thP P w p.2) = order.toList.map fun i => (es.map (·.1)).getD i 0 := rowsG_order (thP P w) L es order hr hp
theorem relayP {o : Obj} (ho : s.heap.get? a = some o) (hex : o.ExactSet) (hd : o.data = .set es ep t) (hrows : es.toList = rowsP P w L) (hsz : t.place.size = es.size) (hdm : t.dummies = #[]) (hfl : es.size ≤ t.mask)
    (tup : ∀ p ∈ L, IsQ P w s.heap p.2 p.1) (ld : w.params.followText "set-order" = true ∨ t.led = true) (few : L.length < 64) {wanted M : Nat}
    (hw : SetTable.sizeAbove wanted - 1 = M) (hM : MaskOk M) (hw2 : SetTable.sizeAbove wanted ≤ 128) (hn : L.length * 5 < M * 3) {Q : Unit → Shared → Prop}
    (hQ : ∀ h' L' es' ep' t', Heap.SameBut a s.heap h' → SetPR P w h' a L' es' ep' t' → L'.Perm L → Q () { s with heap := h' }) : wpAny (model P w) A (setRelay a wanted) Q E s := by
  have hsl : es.size = L.length := by
    have h := congrArg List.length hrows
    rw [Array.length_toList, rowsP_len] at h
    exact h
  obtain ⟨t', order, e, hp, T, em, el, _, ed⟩ := relaid_ok t (hs := es.map (·.1)) (wanted := wanted) hw hM (by rw [Array.size_map, hsl]; omega)
  rw [Array.size_map, hsl] at hp
  obtain ⟨L2, r1, r2, r3⟩ := rowsP_order L es order hrows hp
  rw [← r3] at T
  have hs2 : (order.filterMap (es[·]?)).size = es.size := by
    have h := congrArg List.length r1
    rw [Array.length_toList, rowsP_len, r2.length_eq] at h
    rw [h, hsl]
  rw [setRelay_eq]
  refine wpAny_bind (wpAny_setState_of ho hd (fitsP hsz hdm hfl) ?_)
  dsimp only
  refine wp_if_neg (by rw [sizeLine_eq]; omega) ?_
  try refine wpAny_bind (wpAny_pure ?_)
  rw [e]
  dsimp only
  refine wpAny_bind ?_
  refine wp_if_neg (by rw [hs2]; simp) ?_
  try refine wpAny_bind (wpAny_pure ?_)
  refine wpAny_pure ?_
  dsimp only
  refine wpAny_storeSet_of ho hd ?_ (by rw [hs2, hsl, sizeLine_eq]; omega)
  have sb : Heap.SameBut a s.heap (s.heap.update a (Obj.putSet (order.filterMap (es[·]?)) t')) := Heap.SameBut.update ..
  refine hQ _ L2 (order.filterMap (es[·]?)) (ep + 1) t' sb ?_ r2
  refine ⟨⟨_, store_at ho hd, ⟨hex.1, hex.2.1, hex.2.2⟩, rfl⟩, r1, T, fun p hpm => isQ_same (tup p (r2.mem_iff.mp hpm)) ho hd sb, by rw [el]; exact ld, ?_, by rw [r2.length_eq]; exact few⟩
  rw [r2.length_eq, em]
  exact hn
/-- one that isn't in is added -/
theorem addP (R : SetPR P w s.heap a L es ep t) {x : Addr} {p : Pr} (hx : IsQ P w s.heap p x) (hno : p ∉ L.map (·.2)) (hu : A.units < cLine) (hfew : L.length + 1 < 64) {Q : Bool → Shared → Prop}
    (hQ : ∀ b h' L' es' ep' t', Heap.SameBut a s.heap h' → SetPR P w h' a L' es' ep' t' → L'.Perm ((x, p) :: L) → Q b { s with heap := h' }) :
    wpAny (model P w) A (setAddHashed a (.ref x) (thP P w p)) Q E s := by
  obtain ⟨o, ho, hex, hd⟩ := R.ob
  have hsl := R.size
  have hroom := R.room
  unfold setAddHashed
  refine wpAny_holding ?_
  rw [show (100000 : Nat) = 99999 + 1 from rfl, setAddHashedIn_succ]
  refine wpAny_bind (wpAny_setState_of ho hd R.fits ?_)
  dsimp only
  refine wp_if_neg (by simp [byScan, Value.scannable]) ?_
  try refine wpAny_bind (wpAny_pure ?_)
  refine wpAny_bind (sP_at R hx hno hu fun K hK hb => ?_)
  dsimp only
  refine wpAny_bind (wpAny_setState_of ho hd R.fits ?_)
  dsimp only
  obtain ⟨q1, q2, q3, q4, q5, q6, q7, q8, q9⟩ := R.tab.put hK hb
  generalize hpt : t.put (way t.mask (thP P w p) K) = pt at q1 q3 q4 q5 q6 q7 q8 q9 ⊢
  obtain ⟨t1, n⟩ := pt
  dsimp only at q1 q3 q4 q5 q6 q7 q8 q9 ⊢
  subst q1
  have hin : (SetTable.insertAt es (SetTable.below t.place (way t.mask (thP P w p) K)) (thP P w p, Value.ref x)).toList = rowsP P w (L.take (SetTable.below t.place (way t.mask (thP P w p) K)) ++ (x, p) :: L.drop (SetTable.below t.place (way t.mask (thP P w p) K))) := by
    rw [SetTable.toList_insertAt, rowsP_put, R.rows]
  generalize SetTable.below t.place (way t.mask (thP P w p) K) = n at q2 q3 hin ⊢
  have pm := put_perm L n (x, p)
  have hlen : (L.take n ++ (x, p) :: L.drop n).length = L.length + 1 := pm.length_eq
  have hhs : (L.take n ++ (x, p) :: L.drop n).map (fun p => thP P w p.2) = (L.map fun p => thP P w p.2).take n ++ thP P w p :: (L.map fun p => thP P w p.2).drop n := by
    rw [List.map_append, List.map_cons, List.map_take, List.map_drop]
  rw [← hhs] at q3
  have hes : (SetTable.insertAt es n (thP P w p, Value.ref x)).size = L.length + 1 := by
    have h := congrArg List.length hin
    rw [Array.length_toList, rowsP_len, hlen] at h
    exact h
  generalize SetTable.insertAt es n (thP P w p, Value.ref x) = es1 at hin hes ⊢
  generalize L.take n ++ (x, p) :: L.drop n = L1 at pm hlen q3 hin
  -- by whatever is found of the hash
  have main : ∀ t2 : SetTable, TabOk t2 (L1.map fun p => thP P w p.2) → t2.mask = t.mask → t2.led = t.led → t2.place.size = t1.place.size → t2.tooFull = t1.tooFull → wpAny (model P w) A (do
        storeSet a es1 t2
        if (!false && t2.tooFull) = true then setRelay a (SetTable.grown (es.size + 1))
        return true) Q E s := fun t2 T2 m2 l2 z2 f2 => by
    refine wpAny_bind (wpAny_storeSet_of ho hd ?_ (by rw [hes, sizeLine_eq]; omega))
    have sb : Heap.SameBut a s.heap (s.heap.update a (Obj.putSet es1 t2)) := Heap.SameBut.update ..
    have ho1 := store_at (es' := es1) (t' := t2) ho hd
    generalize s.heap.update a (Obj.putSet es1 t2) = h1 at sb ho1 ⊢
    have tup1 : ∀ p ∈ L1, IsQ P w h1 p.2 p.1 := fun p hp => by
      rcases List.mem_cons.mp (pm.mem_iff.mp hp) with e | hp
      · rw [e]; exact isQ_same hx ho hd sb
      · exact isQ_same (R.tup p hp) ho hd sb
    have ld1 : w.params.followText "set-order" = true ∨ t2.led = true := by rw [l2]; exact R.led
    by_cases hf : t2.tooFull = true
    · first
        | (refine wpAny_bind ?_; refine wp_if_pos (by simp [hf]) ?_)
        | (refine wp_if_pos (by simp [hf]) ?_; refine wpAny_bind ?_)
      have hfull : (L.length + 1) * 5 ≥ t.mask * 3 := by
        have h := hf
        rw [f2] at h
        unfold SetTable.tooFull at h
        rw [decide_eq_true_eq, q9, List.length_map, q4] at h
        exact h
      rw [hsl]
      have hsz1 : t2.place.size = es1.size := by
        have h := T2.sz
        rw [List.length_map, hlen] at h
        rw [h, hes]
      have cases2 : (t.mask = 7 ∧ L.length = 4) ∨ (t.mask = 31 ∧ L.length = 18) := by
        rcases R.tab.mok with e | e | e
        · left; rw [e] at hfull hroom; exact ⟨e, by omega⟩
        · right; rw [e] at hfull hroom; exact ⟨e, by omega⟩
        · exfalso; rw [e] at hfull; omega
      have go : ∀ M, SetTable.sizeAbove (SetTable.grown (L.length + 1)) - 1 = M → MaskOk M → SetTable.sizeAbove (SetTable.grown (L.length + 1)) ≤ 128 → (L.length + 1) * 5 < M * 3 →
          wpAny (model P w) A (setRelay a (SetTable.grown (L.length + 1))) (fun _ s' => wpAny (model P w) A (pure true) Q E s') E { s with heap := h1 } := fun M h1' h2' h3' h4' => by
        refine relayP (s := { s with heap := h1 }) ho1 ⟨hex.1, hex.2.1, hex.2.2⟩ rfl hin hsz1 T2.dm (by rw [hes, m2]; rcases cases2 with ⟨e, e2⟩ | ⟨e, e2⟩ <;> omega) tup1 ld1 (by rw [hlen]; exact hfew) h1' h2' h3' (by rw [hlen]; exact h4') ?_
        intro h2 L2 es2 ep2 t3 sb2 R2 pm2
        exact wpAny_pure (hQ true h2 L2 es2 ep2 t3 (sb.trans sb2) R2 (pm2.trans pm))
      rcases cases2 with ⟨_, e2⟩ | ⟨_, e2⟩
      · refine go 31 (by rw [e2, size_20]) (.inr (.inl rfl)) (by rw [e2, size_20]; decide) (by omega)
      · refine go 127 (by rw [e2, size_76]) (.inr (.inr rfl)) (by rw [e2, size_76]; decide) (by omega)
    · first
        | refine wp_if_neg (by simp [hf]) ?_
        | (refine wpAny_bind ?_; refine wp_if_neg (by simp [hf]) ?_; refine wpAny_pure ?_)
      refine wpAny_pure (hQ true h1 L1 es1 (ep + 1) t2 sb ⟨⟨_, ho1, ⟨hex.1, hex.2.1, hex.2.2⟩, rfl⟩, hin, T2, tup1, ld1, ?_, by rw [hlen]; exact hfew⟩ pm)
      have h := hf
      rw [f2] at h
      unfold SetTable.tooFull at h
      rw [decide_eq_true_eq, q9, List.length_map, q4] at h
      rw [hlen, m2]
      omega
  have two : ∀ c : Bool, wpAny (model P w) A (do
        storeSet a es1 (if c = true then t1 else { t1 with plain := false })
        if (!false && (if c = true then t1 else { t1 with plain := false }).tooFull) = true then setRelay a (SetTable.grown (es.size + 1))
        return true) Q E s := fun c => by
    cases c with
    | true => exact main t1 q3 q4 q5 rfl rfl
    | false => exact main { t1 with plain := false } ⟨q3.ris, q3.dm, q3.sz, q3.mok, q3.bd, q3.reach⟩ q4 q5 rfl rfl
  by_cases hpl : t1.plain = true
  · first
      | (refine wpAny_bind ?_; refine wp_if_pos hpl ?_; exact hashBy_mix hx two)
      | exact wp_if_pos hpl (wpAny_bind (hashBy_mix hx two))
  · first
      | (refine wpAny_bind ?_; refine wp_if_neg hpl ?_; exact wpAny_pure (two true))
      | exact wp_if_neg hpl (wpAny_bind (wpAny_pure (two true)))
end
end Pn
/-! #### Fnd14 -/
namespace Pn
open PySem PySem.Spec PyProof.Rows L2
open PySem.W (EachIs SortsAt AllAlike Sortable dataLe dataLt dataKind)
section
variable {P : Program} {w : World} {A : Around} {E : Value → Shared → Prop} {s : Shared}
theorem SetPR.keep {h h' : Heap} {a : Addr} {L : List (Addr × Pr)} {es : Array (Int × Value)} {ep : Nat} {t : SetTable} (R : SetPR P w h a L es ep t) (ha : ∀ o, h.get? a = some o → h'.get? a = some o) (ht : ∀ p ∈ L, IsQ P w h' p.2 p.1) : SetPR P w h' a L es ep t := by
  obtain ⟨o, ho, r⟩ := R.ob
  exact ⟨⟨o, ha o ho, r⟩, R.rows, R.tab, ht, R.led, R.room, R.few⟩
theorem setPR_fresh {h : Heap} {a : Addr} (ho : h.get? a = some { cls := .type "set", dict := none, data := .set #[] 0 (.fresh 0 0 (!w.params.followText "set-order")) }) : SetPR P w h a [] #[] 0 (.fresh 0 0 (!w.params.followText "set-order")) where
  ob := ⟨_, ho, ⟨rfl, rfl, rfl⟩, rfl⟩
  rows := rfl
  tab := ⟨List.Pairwise.nil, rfl, rfl, .inl rfl, fun x hx => (by cases hx), fun i h j hi => (by simp at hi)⟩
  tup := fun p hp => (by cases hp)
  led := by
    show _ ∨ (!w.params.followText "set-order") = true
    cases w.params.followText "set-order"
    · exact .inr rfl
    · exact .inl rfl
  room := by
    show 0 * 5 < 7 * 3
    decide
  few := by
    show 0 < 64
    decide
/-- set.update's loop over unlike pairs -/
theorem updP {I : Addr} {fp wr : List Addr} {G : Array GenState → Array GenState → Prop} {n : Nat} {Pv : Nat → Value → Prop} {St : Nat → Shared → Prop} {R : Result → Shared → Prop}
    (W : WalksS P w A.in1 I fp wr G n Pv St) (S : Addr) (hSf : S ∉ fp) (ks : List (Addr × Pr)) (hn : n = ks.length) (hfew : ks.length < 64) (hnd : (ks.map (·.2)).Nodup) (hval : ∀ i v, Pv i v → ∃ p, ks[i]? = some p ∧ v = .ref p.1)
    (h0 : Heap) (hk : ∀ p ∈ ks, IsQ P w h0 p.2 p.1) (hS0 : h0.get? S = none) (hw0 : ∀ b ∈ wr, h0.get? b = none) (hu : A.in1.units < cLine) :
    ∀ (k i : Nat) (s : Shared), n - i = k → i ≤ n → St i s → (∀ b o, h0.get? b = some o → s.heap.get? b = some o) → (∃ L es ep t, SetPR P w s.heap S L es ep t ∧ L.Perm (ks.take i)) →
      (∀ s' L es ep t, Moved (S :: wr) G s s' → SetPR P w s'.heap S L es ep t → L.Perm ks → (∀ b o, h0.get? b = some o → s'.heap.get? b = some o) → R (.ok (.ret .none)) s') →
      codeAny (model P w) A (.builtin "set.update.loop" ⟨[.ref S, .ref I], []⟩) R s := by
  have hSw : S ∉ wr := fun h => hSf (W.sub _ h)
  have hsub : ∀ b ∈ wr, b ∈ S :: wr := fun b hb => List.mem_cons_of_mem _ hb
  have keepM : ∀ {s s' : Shared}, Moved wr G s s' → (∀ b o, h0.get? b = some o → s.heap.get? b = some o) → ∀ b o, h0.get? b = some o → s'.heap.get? b = some o := fun hm hkp b o e =>
    hm.heap b o (fun hb => by rw [hw0 b hb] at e; cases e) (hkp b o e)
  intro k
  induction k with
  | zero =>
    intro i s hk' hi hst hkp ⟨L, es, ep, t, hS, g⟩ hR
    have hin : i = n := by omega
    subst hin
    refine codeAny_builtin F.entry_set_update_loop ?_
    rw [Around.under_plainId F.plain_set_update_loop _]
    show wpAny _ A.in1 (pyNext (.ref I) >>= _) _ _ s
    refine wpAny_bind (W.done s _ _ hst fun s' hm => ?_)
    show wpAny _ A.in1 (ret Value.none) _ _ s'
    have hkp' := keepM hm hkp
    rw [hn, List.take_length] at g
    exact wpAny_pure (hR s' L es ep t (hm.mono hsub) (hS.keep (fun o e => hm.heap S o hSw e) fun p hp => isQ_keep (hk p (g.mem_iff.mp hp)) hkp') g hkp')
  | succ k ih =>
    intro i s hk' hi hst hkp ⟨L, es, ep, t, hS, g⟩ hR
    have hlt : i < n := by omega
    refine codeAny_builtin F.entry_set_update_loop ?_
    rw [Around.under_plainId F.plain_set_update_loop _]
    show wpAny _ A.in1 (pyNext (.ref I) >>= _) _ _ s
    refine wpAny_bind (W.item i s _ _ hlt hst fun v s' hP hst' hm => ?_)
    obtain ⟨p, hp, rfl⟩ := hval i v hP
    have hkp' := keepM hm hkp
    have hS' : SetPR P w s'.heap S L es ep t := hS.keep (fun o e => hm.heap S o hSw e) fun q hq => isQ_keep (hk q (List.mem_of_mem_take (g.mem_iff.mp hq))) hkp'
    have hx : IsQ P w s'.heap p.2 p.1 := isQ_keep (hk p (List.mem_of_getElem? hp)) hkp'
    have htk := take_next hp
    have hno : p.2 ∉ L.map (·.2) := fun z => by
      have z2 : p.2 ∈ (ks.take i).map (·.2) := (g.map (·.2)).mem_iff.mp z
      have nd := hnd
      rw [← List.take_append_drop i ks, List.map_append] at nd
      refine (List.nodup_append.mp nd).2.2 p.2 z2 p.2 ?_ rfl
      refine List.mem_map.mpr ⟨p, List.mem_iff_getElem?.mpr ⟨0, ?_⟩, rfl⟩
      rw [List.getElem?_drop, Nat.add_zero]
      exact hp
    have hLl : L.length ≤ i := by rw [g.length_eq, List.length_take]; omega
    show wpAny _ A.in1 (holding [Value.ref p.1] (setAdd S (.ref p.1)) >>= _) _ _ s'
    refine wpAny_bind (wpAny_holding ?_)
    unfold setAdd
    refine wpAny_holding ?_
    refine wpAny_bind (wpAny_pyHash_tuple hu hx ?_)
    refine addP (s := { s' with toks := s'.toks + ((kP p.2).length + 1) }) hS' hx hno hu (by omega) fun b h' L' es' ep' t' hsb hS2 c2 => ?_
    have g' : L'.Perm (ks.take (i + 1)) := by
      rw [htk]
      exact c2.trans ((List.Perm.cons _ g).trans (List.perm_append_singleton _ _).symm)
    have hkp2 : ∀ b o, h0.get? b = some o → h'.get? b = some o := fun b o e => (hsb.2 b (fun z => by rw [z, hS0] at e; cases e)).trans (hkp' b o e)
    refine wpAny_pure ⟨plainId_quiet F.plain_set_update_loop _, ih (i + 1) _ (by omega) hlt (W.frame _ s' _ _ hst' (Nat.le_add_right _ _) fun b hb o e => ?_) hkp2 ⟨L', es', ep', t', hS2, g'⟩ fun s'' L2 es2 ep2 t2 hm'' hS'' g'' hkp'' => ?_⟩
    · rw [hsb.2 b (fun h : b = S => hSf (by rw [← h]; exact hb))]; exact e
    · refine hR s'' L2 es2 ep2 t2 (Moved.trans W.gtrans ((hm.mono hsub).then_heap (Nat.le_add_right _ _) fun b o hb e => ?_) hm'') hS'' g'' hkp''
      rw [hsb.2 b (fun h : b = S => hb (by rw [h]; exact List.mem_cons_self))]; exact e
/-- set(xs) -/
theorem call_setP {l : Addr} {items : Array Value} (ks : List (Addr × Pr)) {Q : Value → Shared → Prop} (hh : A.handled = none) (hl : s.heap.IsList l items) (hit : items.toList = ks.map fun p => Value.ref p.1)
    (hk : ∀ p ∈ ks, IsQ P w s.heap p.2 p.1) (hnd : (ks.map (·.2)).Nodup) (hfew : ks.length < 64) (hu : A.units + 3 < cLine)
    (h : ∀ (h' : Heap) (tk : Nat) L es ep t, SetPR P w h' s.heap.objs.size L es ep t → L.Perm ks → (∀ b o, s.heap.get? b = some o → h'.get? b = some o) → Q (.ref s.heap.objs.size) { s with heap := h', toks := tk }) :
    wpAny (model P w) A (call (.type "set") [.ref l]) Q E s := by
  have hisz : items.size = ks.length := by
    have q := congrArg List.length hit
    rw [Array.length_toList, List.length_map] at q
    exact q
  obtain ⟨c, tl, hmro⟩ := F.called_set.mro
  have hmade := F.called_set.made
  have hsub := F.called_set.sub
  refine wpAny_call (codeAny_of_tree ?_)
  show wpAny _ _ (callAny (.type "set") _) _ _ _
  refine wpAny_pure ⟨Code.quiet_builtin _ (by decide +kernel), codeAny_builtin F.entry_type_call ?_⟩
  rw [Around.under_plain (weight_type_call_type "set" [.ref l] []) rfl]
  have h1 := F.called_set.notType
  have h2 := F.called_set.canCreate
  have hct := F.typeCall_set_1 (.ref l)
  repeat (any_goals (first | assumption | wp_step))
  refine codeAny_mono (code_set_led1 (.ref l) (E := E) (Q₁ := fun obj s₁ => obj = .ref s.heap.objs.size ∧ s₁ = { s with heap := s.heap.push { cls := .type "set", dict := none, data := .set #[] 0 (.fresh 0 0 (!w.params.followText "set-order")) } }) ⟨rfl, rfl⟩) fun r s₁ hr => ?_
  cases r with
  | error e => exact hr
  | ok fl =>
    cases fl with
    | ret obj =>
      obtain ⟨rfl, rfl⟩ := hr
      have hS : (s.heap.push { cls := .type "set", dict := none, data := .set #[] 0 (.fresh 0 0 (!w.params.followText "set-order")) }).get? s.heap.objs.size = some { cls := .type "set", dict := none, data := .set #[] 0 (.fresh 0 0 (!w.params.followText "set-order")) } := Heap.get?_push_size _ rfl
      have hT : Shared.TypeIs { s with heap := s.heap.push { cls := .type "set", dict := none, data := .set #[] 0 (.fresh 0 0 (!w.params.followText "set-order")) } } (.ref s.heap.objs.size) "set" := ⟨_, hS, rfl⟩
      have hli := F.called_set.init.lookup
      have hbi := F.called_set.init.bind (.ref s.heap.objs.size)
      repeat (any_goals (first | assumption | wp_step))
      refine codeAny_mono (codeAny_call_builtin (R := wants (fun r s₂ => r = .none ∧ ∃ h' tk L es ep t, s₂ = { s with heap := h', toks := tk } ∧ SetPR P w h' s.heap.objs.size L es ep t ∧ L.Perm ks ∧
          (∀ b o, s.heap.get? b = some o → h'.get? b = some o)) E) F.called_set.init.plain F.entry_set_init (check_set_init_1 hT ?_)) fun r₂ s₂ hr₂ => ?_
      · obtain ⟨ol, hol, hcl, nl, hdl⟩ := hl
        obtain ⟨ocls, odict, odata, oslots⟩ := ol
        simp only at hcl hdl
        subst hcl; subst hdl
        have hol' : (s.heap.push { cls := .type "set", dict := none, data := .set #[] 0 (.fresh 0 0 (!w.params.followText "set-order")) }).get? l = some { cls := .type "list", dict := odict, data := .seq items nl, slots := oslots } := Heap.get?_push_of_some _ hol
        have hsls := F.sub_list_set
        have hslf := F.sub_list_frozenset
        have hne : (Value.type "list" == Value.type "dict") = false := by decide
        have hl1 : (s.heap.push { cls := .type "set", dict := none, data := .set #[] 0 (.fresh 0 0 (!w.params.followText "set-order")) }).IsList l items := ⟨_, hol', rfl, nl, rfl⟩
        unfold Builtin.«set.__init__» noKeywords Builtin.Frozenset.updateFrom
        generalize hPI : pyIter = PI
        wp_walk
        subst hPI
        refine wpAny_pyIter_list hl1 ?_
        refine wpAny_bind (wpAny_runValue ?_)
        have hlS : l < s.heap.objs.size := Heap.lt_size hol
        have hh3 : A.in1.in1.in1.handled = none := by simp [hh]
        have hneI : l ≠ (s.heap.push { cls := .type "set", dict := none, data := .set #[] 0 (.fresh 0 0 (!w.params.followText "set-order")) }).objs.size := by
          rw [Heap.size_push]; exact Nat.ne_of_lt (Nat.lt_succ_of_lt hlS)
        have hSf : s.heap.objs.size ∉ [(s.heap.push { cls := .type "set", dict := none, data := .set #[] 0 (.fresh 0 0 (!w.params.followText "set-order")) }).objs.size, l] := by
          rw [Heap.size_push]; simp only [List.mem_cons, List.mem_singleton, List.not_mem_nil, or_false, not_or]
          exact ⟨Nat.ne_of_lt (Nat.lt_succ_self _), Nat.ne_of_gt hlS⟩
        have hval : ∀ (i : Nat) (v : Value), items[i]? = some v → ∃ p, ks[i]? = some p ∧ v = .ref p.1 := fun i v hv => by
          have q : items.toList[i]? = some v := by rw [Array.getElem?_toList]; exact hv
          rw [hit, List.getElem?_map] at q
          cases hq : ks[i]? with
          | none => rw [hq] at q; cases q
          | some p =>
            rw [hq] at q
            exact ⟨p, rfl, (Option.some.inj q).symm⟩
        have none_of : ∀ b, s.heap.objs.size ≤ b → s.heap.get? b = none := fun b hb => by
          cases q : s.heap.get? b with
          | none => rfl
          | some o => exact absurd (Nat.lt_of_lt_of_le (Heap.lt_size q) hb) (Nat.lt_irrefl _)
        refine updP ((Walks.list hh3 _ l hneI items).toS) s.heap.objs.size
          hSf ks hisz hfew hnd hval s.heap hk (none_of _ (Nat.le_refl _)) (fun b hb => none_of b (by
            rw [List.mem_singleton.mp hb, Heap.size_push]
            exact Nat.le_succ _)) hu (items.size - 0) 0 _ (by omega) (Nat.zero_le _)
          ⟨⟨_, Heap.get?_push_size _ rfl, rfl, rfl⟩, (hl1.push _)⟩ (fun b o e => Heap.get?_push_of_some _ (Heap.get?_push_of_some _ e)) ?hS0 ?hR
        case hS0 =>
          have hget : ((s.heap.push { cls := .type "set", dict := none, data := .set #[] 0 (.fresh 0 0 (!w.params.followText "set-order")) }).push { cls := .type "list_iterator", data := .fields #[.ref l, .int 0 0] }).get? s.heap.objs.size
              = some { cls := .type "set", dict := none, data := .set #[] 0 (.fresh 0 0 (!w.params.followText "set-order")) } := Heap.get?_push_of_some _ hS
          exact ⟨[], #[], 0, _, setPR_fresh hget, .refl _⟩
        case hR =>
          intro s' L es ep t hm hS' g' hkp
          obtain ⟨h', g2, d', tk', os'⟩ := s'
          have eg : g2 = s.gens := hm.gens
          have ed : d' = s.drawn := hm.drawn
          have eo : os' = s.os := hm.os
          subst eg; subst ed; subst eo
          show wpAny _ _ _ _ _ _
          refine wpAny_pure ?_
          show wpAny _ _ (ret Value.none) _ _ _
          exact wpAny_pure ⟨rfl, h', tk', L, es, ep, t, rfl, hS', g', hkp⟩
      · cases r₂ with
        | error e => exact hr₂
        | ok fl₂ =>
          cases fl₂ with
          | ret r =>
            obtain ⟨rfl, h', tk, L, es, ep, t, rfl, hS', g', hk'⟩ := hr₂
            repeat (any_goals (first | assumption | wp_step))
            exact h _ _ _ _ _ _ hS' g' hk'
          | _ => exact hr₂.elim
    | _ => exact hr.elim
end
end Pn
/-! #### Fnd15 -/
namespace Pn
open PySem PySem.Spec PyProof.Rows L2
open PySem.W (EachIs SortsAt AllAlike Sortable dataLe dataLt dataKind)
theorem perm_map_inv {α β : Type} (f : α → β) : ∀ {l : List β} {m : List α}, l.Perm (m.map f) → ∃ m' : List α, m'.Perm m ∧ l = m'.map f
  | [], m, h => by
    have : m.map f = [] := List.Perm.nil_eq h ▸ rfl
    have : m = [] := List.map_eq_nil_iff.mp this
    exact ⟨[], by rw [this], rfl⟩
  | b :: l, m, h => by
    have hb : b ∈ m.map f := h.mem_iff.mp List.mem_cons_self
    obtain ⟨x, hx, rfl⟩ := List.mem_map.mp hb
    obtain ⟨s, t, rfl⟩ := List.append_of_mem hx
    have h2 : (f x :: l).Perm (f x :: (s ++ t).map f) := by
      refine h.trans ?_
      rw [List.map_append, List.map_cons, List.map_append]
      exact List.perm_middle
    obtain ⟨m', hm, rfl⟩ := perm_map_inv f (List.Perm.cons_inv h2)
    exact ⟨x :: m', (List.Perm.cons x hm).trans List.perm_middle.symm, rfl⟩
/-- the set at a, without the tuples themselves -/
structure SetP0 (P : Program) (w : World) (h : Heap) (a : Addr) (L : List (Addr × Pr)) : Prop where
  ex : ∃ (es : Array (Int × Value)) (ep : Nat) (t : SetTable), (∃ o, h.get? a = some o ∧ o.ExactSet ∧ o.data = .set es ep t) ∧ es.toList = rowsP P w L ∧ TabOk t (L.map fun p => thP P w p.2) ∧
    (w.params.followText "set-order" = true ∨ t.led = true) ∧ L.length * 5 < t.mask * 3 ∧ L.length < 64
def SetPO (P : Program) (w : World) (a : Addr) (L : List (Addr × Pr)) : HO := .ext fun h => SetP0 P w h a L
theorem SetPR.p0 {P : Program} {w : World} {h : Heap} {a : Addr} {L : List (Addr × Pr)} {es : Array (Int × Value)} {ep : Nat} {t : SetTable} (R : SetPR P w h a L es ep t) : SetP0 P w h a L :=
  ⟨es, ep, t, R.ob, R.rows, R.tab, R.led, R.room, R.few⟩
theorem setPO_new {P : Program} {w : World} {H : Hp} {h : Heap} {a : Addr} {L : List (Addr × Pr)} (R : SetP0 P w h a L) : ObjOk P w H h a (SetPO P w a L) := by
  have ⟨es, ep, t, ⟨o, ho, r⟩, q⟩ := R.ex
  refine ⟨R, ⟨o, ho⟩, fun h1 h2 p k => ?_⟩
  have ⟨es', ep', t', ⟨o', ho', r'⟩, q'⟩ := SetP0.ex p
  exact ⟨es', ep', t', ⟨o', k o' ho', r'⟩, q'⟩
theorem refsP : ∀ {ks : List (Addr × Pr)} {us : List Value}, Vals (ks.map fun p => V.ref p.1) us → us = ks.map fun p => Value.ref p.1
  | [], _, .nil => rfl
  | p :: ks, _, .cons r t => by
    cases r
    rw [refsP t]
    rfl
theorem isPs_ks {H : Hp} : ∀ {vs : List V} {ps : List Pr}, IsPs H vs ps → ∃ ks : List (Addr × Pr), vs = ks.map (fun p => V.ref p.1) ∧ ps = ks.map (·.2) ∧ ∀ p ∈ ks, H p.1 = some (.tup (vP p.2))
  | _, _, .nil => ⟨[], rfl, rfl, by simp⟩
  | _, _, .cons (b := p) ⟨a, e, ha⟩ t => by
    obtain ⟨ks, e1, e2, h⟩ := isPs_ks t
    refine ⟨(a, p) :: ks, by rw [e, e1]; rfl, by rw [e2]; rfl, fun q hq => ?_⟩
    rcases List.mem_cons.mp hq with z | z
    · rw [z]; exact ha
    · exact h q z
section
variable {X : Cx}
/-- set(xs), xs a list of unlike pairs of texts -/
def rSetP (K : PySem.W.Frag) (P : Program) (w : World) : List V → Hp → VK → Prop := fun xs H Q => ∃ (l : Addr) (vs : List V) (ps : List Pr), xs = [V.ref l] ∧ SqL K H l vs ∧ IsPs H vs ps ∧ ps.Nodup ∧ ps.length < 64 ∧
  ∀ a L, H a = none → (L.map (·.2)).Perm ps → (∀ p ∈ L, H p.1 = some (.tup (vP p.2))) → Q (.ref a) (upd H a (SetPO P w a L))
theorem cr_setP (hc : X.calm = true) (hu : X.A.units + 64 < cLine) : CallR X (.type "set") (rSetP X.K X.prog X.w) := by
  intro pins s σ H xs us Q I r h
  obtain ⟨l, vs, ps, rfl, hl, hps, hnd, hf, q⟩ := h
  rw [Vals.ref1 r]
  obtain ⟨ks, rfl, rfl, hk⟩ := isPs_ks hps
  obtain ⟨its, rv, pl, hz⟩ := I.list hl
  have hn : H s.heap.objs.size = none := I.hok.fresh (Nat.le_refl _)
  rw [List.length_map] at hf
  refine call_setP (P := X.prog) (w := X.w) ks (I.ok.hd hc) pl.isList (by simpa using refsP rv) (fun p hp => key_of I.hok (hk p hp)) hnd hf (by omega) fun h' tk L es ep t R g k => ?_
  exact ⟨.ref s.heap.objs.size, upd H s.heap.objs.size (SetPO X.prog X.w s.heap.objs.size L), I.laid (t' := tk) k (Nat.le_refl _) (setPO_new R.p0), rfl, q _ L hn (g.map _) fun p hp => hk p (g.mem_iff.mp hp)⟩
def rSortedSetP (P : Program) (w : World) : List V → Hp → VK → Prop := fun vs H Q => ∃ (a : Addr) (L : List (Addr × Pr)), vs = [.ref a] ∧ H a = some (SetPO P w a L) ∧ (∀ p ∈ L, H p.1 = some (.tup (vP p.2))) ∧
  ∀ (ys : List V) (sd : List Pr) (p : Addr), IsPs H ys sd → sd.Perm (L.map (·.2)) → sd.Pairwise (fun x y => prLe x y = true) → H p = none → Q (.ref p) (upd H p (.lst ys))
theorem cr_sortedSetP {k : Nat} (hc : X.calm = true) (hr : Room k X.A) : CallR X (.builtin "sorted") (rSortedSetP X.prog X.w) := by
  intro pins s σ H vs us Q I r h
  obtain ⟨a, L, rfl, hs, hL, q⟩ := h
  rw [Vals.ref1 r]
  have R0 : SetP0 X.prog X.w s.heap a L := (I.hok a _ hs).1
  obtain ⟨es, ep, t, ⟨o, ho, hex, hd⟩, hrows, htab, hled, hroom, hfew⟩ := R0.ex
  have hz : es.size = L.length := by
    have h := congrArg List.length hrows
    rw [Array.length_toList, rowsP_len] at h
    exact h
  have hfit : t.fits es.size = true := by
    have h1 := htab.sz
    rw [List.length_map] at h1
    exact fitsP (by rw [h1, hz]) htab.dm (by omega)
  refine sorted_by (args_sorted1 _) (fun _ => args_list_sort _) fun E' => collect_set (A := X.A.in1) (I.ok.hd hc) ⟨o, ho, hex.1, hd⟩ hfit (by unfold scanBound; omega) htab.ris hled fun s1 out k1 hz1 g1 o1 pm => ?_
  have hes : es.toList.map (·.2) = L.map fun q => Value.ref q.1 := by
    rw [hrows]
    unfold rowsP
    rw [List.map_map]
    rfl
  rw [hes] at pm
  obtain ⟨L1, hL1, rfl⟩ := perm_map_inv _ pm
  have ol : (L1.map fun q => Value.ref q.1).length = L.length := by rw [List.length_map, hL1.length_eq]
  have I1 : Inv X pins σ H s1 := I.call' (ch := []) o1 (Un.kept k1) (I.hok.kept k1) (by rw [g1]; exact I.bare) (fun _ z => nomatch z)
  have e0 : EachIs (fun u p => ∃ x, RelV x u ∧ IsP H x p) (L1.map fun q => Value.ref q.1) (L1.map (·.2)) := by
    have gen : ∀ M : List (Addr × Pr), (∀ p ∈ M, H p.1 = some (.tup (vP p.2))) → EachIs (fun u p => ∃ x, RelV x u ∧ IsP H x p) (M.map fun q => Value.ref q.1) (M.map (·.2)) := by
      intro M
      induction M with
      | nil => intro _; exact .nil
      | cons z M ih => intro hM; exact .cons ⟨.ref z.1, rfl, z.1, rfl, hM z List.mem_cons_self⟩ (ih fun p hp => hM p (List.mem_cons_of_mem _ hp))
    exact gen L1 fun p hp => hL p (hL1.mem_iff.mp hp)
  have hsz : (L1.map fun q => Value.ref q.1).length ≤ sizeLine := by rw [ol]; exact Nat.le_of_lt (small1000 (by omega))
  refine ⟨hsz, fun E'' => ?_⟩
  refine sort_data (s := s1) (bs := L1.map (·.2)) (enc := prD2) e0 (e0.mono fun u p ⟨x, rx, hx⟩ => Dp.reads I1 _ _ _ (IsP.dp hx) rx) (AllAlike.of fun b b' => by simp [prD2, PySem.W.alike, PySem.W.alikeAll]) (Sortable.tuples fun b => ⟨_, _, rfl⟩) (by rw [List.length_map, hL1.length_eq]; exact Nat.le_of_lt (small1000 (by omega)))
    (fun b _ => by rw [prD2_depth]; have := hr.units; show X.A.units + 1 + 1 + 1 < cLine; omega) fun res c h' kk hg hlo heach => ?_
  obtain ⟨ys, rv2, hp2⟩ := vals_each heach
  have hly : ys.length ≤ sizeLine := by
    rw [Paired.length hp2, List.length_mergeSort, List.length_map, hL1.length_eq]; exact Nat.le_of_lt (small1000 (by omega))
  have hfr := I1.hok.fresh (Nat.le_refl s1.heap.objs.size)
  have hperm : (L1.map (·.2)).Perm (L.map (·.2)) := hL1.map _
  exact ⟨.ref _, upd H s1.heap.objs.size (.lst ys), I1.laid (t' := s1.toks) kk (Nat.le_refl _) ⟨hly, res, c, rv2, hg⟩, rfl, q ys _ _ hp2 ((List.mergeSort_perm _ _).trans hperm) (List.pairwise_mergeSort (le := prLe) (fun a b c => prLe_trans a b c) (fun a b => prLe_total a b) _) hfr⟩
end
end Pn
/-! #### W20 -/
namespace Pn
open PySem PySem.Spec PyProof.Rows L2
/-! ### the law's own draws -/
def BagAt (H : Hp) (b : Addr) : Prop := ∃ i j : Int, H b = some (.lst [.int i, .int j])
/-- lists of two whole numbers may change -/
def ExB : Ex := fun _ o => ∃ i j : Int, o = .lst [.int i, .int j]
theorem BagAt.fr {H H' : Hp} {b : Addr} (f : Fr ExB H H') (h : BagAt H b) : BagAt H' b := by
  obtain ⟨i, j, h⟩ := h
  obtain ⟨o, ⟨i', j', rfl⟩, h'⟩ := (f b _ h).1 ⟨i, j, rfl⟩
  exact ⟨i', j', h'⟩
theorem Kps.b : Kps ExB := ⟨fun _ _ z => (by obtain ⟨_, _, z⟩ := z; cases z), fun _ _ _ _ z => (by obtain ⟨_, _, z⟩ := z; cases z)⟩
theorem exB_strs {q : Addr} (xs : List Str) : ¬ ExB q (.lst (xs.map V.str)) := fun z => by
  obtain ⟨i, j, z⟩ := z
  match xs, z with
  | [], z => cases z
  | [_], z => cases z
  | [_, _], z => cases z
  | _ :: _ :: _ :: _, z => cases z
theorem TxL.frB {H H' : Hp} {a : Addr} {xs : List Str} (f : Fr ExB H H') (h : TxL H a xs) : TxL H' a xs := f.get h (exB_strs xs)
theorem divW_small {i j : Int} (h0 : 0 < j) (h1 : j ≤ 4000000000) : CDivW i j := by
  refine ⟨h0, ?_⟩
  have h2 : j.natAbs < 2 ^ 32 := by omega
  have h3 : j.natAbs ≠ 0 := by omega
  have := (Nat.log2_lt h3).mpr h2
  omega
structure Tl (P : Program) (K : PySem.W.Frag) (mg : Str → Option Value) (base : Heap) (tP : Addr) : Prop where
  tj : Tj P K mg base tP
  take : DefAt K mg "_law_take" s_law_take
  of : DefAt K mg "_law_of" s_law_of
  price : DefAt K mg "_law_price" s_law_price
  bag : DefAt K mg "_law_bag" s_law_bag
  names : DefAt K mg "_law_names" s_law_names
  note : DefAt K mg "_law_note" s_law_note
  deed : DefAt K mg "_law_deed" s_law_deed
  data : DefAt K mg "_law_data" s_law_data
  note_of : DefAt K mg "_law_note_of" s_law_note_of
  deed_of : DefAt K mg "_law_deed_of" s_law_deed_of
  book : DefAt K mg "_law_book" s_law_book
  columns : DefAt K mg "_law_columns" s_law_columns
  reached : DefAt K mg "_law_reached" s_law_reached
  successions : DefAt K mg "_law_successions" s_law_successions
  sides : DefAt K mg "_law_sides" s_law_sides
  both : DefAt K mg "_law_both" s_law_both
  tells : DefAt K mg "_law_tells" s_law_tells
  priced : DefAt K mg "_law_priced" s_law_priced
  loads : DefAt K mg "_law_loads" s_law_loads
  is_cover : DefAt K mg "_law_is_cover" s_law_is_cover
  is_packing : DefAt K mg "_law_is_packing" s_law_is_packing
  is_right : DefAt K mg "_law_is_right" s_law_is_right
section
variable {P : Program} {w : World} {K : PySem.W.Frag} {mg : Str → Option Value} {base : Heap} {tP : Addr}
def sp_law_take : Sp := fun vs H Q _ => ∃ (b : Addr) (many : Int), vs = [.ref b, .int many] ∧ BagAt H b ∧ 1 ≤ many ∧ many ≤ 2000000000 ∧ ∀ H' d, Fr ExB H H' → 0 ≤ d → d < many → Q (.int d) H'
theorem ok_law_take (T : Tl P K mg base tP) : Kf P w K mg base 1 "_law_take" p_law_take sp_law_take := by
  refine Kf.of T.take sc_law_take ((fun _ _ _ _ _ _ us hl => match us, hl with | [_, _], _ => rfl)) (fun vs H Q E ⟨_, _, e, _⟩ => by rw [e]; rfl) fun f cdv A outer s H vs Q E hr ⟨b, many, e, hb, h1, h2, k⟩ => ?_
  subst e
  have B := T.tj.ti.th.tg.tf.tb.te.td.tc.tw.bt
  refine ⟨_, (pss_cons (ps_if (pt_cmpR op_gt (pe_ix (ix_listK K) (pv 0) pe_int (fun _ _ => rfl)) pe_int (nomark _)) (pss_cons (sset 2 sc_law_take.nd (pe_op op_mod (cT call_int1 B.int bb_int (pa_cons (pe_ix (ix_listK K) (pv 0) pe_int (fun _ _ => rfl)) pa_nil)) (pv 1))) (pss_cons (ps_asg (pe_op op_fdivW (pe_ix (ix_listK K) (pv 0) pe_int (fun _ _ => rfl)) (pv 1)) (pg_sub (pv 0) pe_int set_list)) (pss_one (ps_ret (pv 2))))) pss_nil) (pss_cons (ps_asg (pe_op op_mod (cT call_int1 B.int bb_int (pa_cons (pe_op op_add (pe_op op_mul (pe_ix (ix_listK K) (pv 0) pe_int (fun _ _ => rfl)) pe_int) pe_int) pa_nil)) pe_int) (pg_sub (pv 0) pe_int set_list)) (pss_one (ps_ret (pe_op op_mod (pe_op op_fdivW (pe_op op_mod (cT call_int1 B.int bb_int (pa_cons (pe_op op_mul (pe_op op_fdivW (pe_ix (ix_listK K) (pv 0) pe_int (fun _ _ => rfl)) pe_int) pe_int) pa_nil)) pe_int) pe_int) (pv 1)))))), ?_⟩
  obtain ⟨i, j, hb⟩ := hb
  have f1 : ∀ i' j', Fr ExB H (upd H b (.lst [.int i', .int j'])) := fun i' j' => (Fr.refl _ _).set hb ⟨i, j, rfl⟩ ⟨i', j', rfl⟩
  refine ⟨_, rfl, b, _, 0, _, rfl, rfl, .inl (.inl hb), rfl, _, _, rfl, rfl, _, rfl, ite2 (fun z => ?_) (fun z => ?_)⟩
  · refine ⟨_, rfl, b, _, 0, _, rfl, rfl, .inl (.inl hb), rfl, .inl ⟨i, rfl, _, rfl, i, many, rfl, rfl, by omega, ?_⟩⟩
    refine ⟨_, rfl, b, _, 0, _, rfl, rfl, .inl (.inl hb), rfl, _, rfl, i, many, rfl, rfl, divW_small (by omega) (by omega), _, rfl, b, _, 0, 0, rfl, rfl, hb, rfl, ?_⟩
    exact ⟨_, rfl, k _ _ (f1 _ _) (Int.emod_nonneg _ (by omega)) (Int.emod_lt_of_pos _ (by omega))⟩
  · refine ⟨_, rfl, b, _, 1, _, rfl, rfl, .inl (.inl hb), rfl, j, 45991, rfl, rfl, .inr (by decide), _, _, rfl, rfl, .inl ⟨_, rfl, _, _, rfl, rfl, (show (0 : Int) < 2147483543 by decide), _, rfl, b, _, 1, 1, rfl, rfl, hb, rfl, ?_⟩⟩
    generalize hx : upd H b _ = H2
    have f2 : Fr ExB H H2 := by rw [← hx]; exact f1 _ _
    obtain ⟨j2, hb2⟩ : ∃ j2 : Int, H2 b = some (.lst [.int i, .int j2]) := by rw [← hx]; exact ⟨_, upd_same⟩
    refine ⟨_, rfl, b, _, 1, _, rfl, rfl, .inl (.inl hb2), rfl, j2, 17, rfl, rfl, divW_small (by decide) (by decide), _, _, rfl, rfl, .inr (by decide), .inl ⟨_, rfl, _, _, rfl, rfl, (show (0 : Int) < 2147483477 by decide), _, _, rfl, rfl, divW_small (by decide) (by decide), _, rfl, _, many, rfl, rfl, by omega, ?_⟩⟩
    exact k _ _ f2 (Int.emod_nonneg _ (by omega)) (Int.emod_lt_of_pos _ (by omega))
def sp_law_of : Sp := fun vs H Q _ => ∃ (b l : Addr) (xs : List V), vs = [.ref b, .ref l] ∧ BagAt H b ∧ H l = some (.lst xs) ∧ (∀ i j, xs ≠ [.int i, .int j]) ∧ 1 ≤ xs.length ∧ xs.length ≤ 1000 ∧ ∀ H' x, Fr ExB H H' → x ∈ xs → Q x H'
theorem ok_law_of (T : Tl P K mg base tP) : Kf P w K mg base 2 "_law_of" p_law_of sp_law_of := by
  refine Kf.of T.of sc_law_of ((fun _ _ _ _ _ _ us hl => match us, hl with | [_, _], _ => rfl)) (fun vs H Q E ⟨_, _, _, e, _⟩ => by rw [e]; rfl) fun f cdv A outer s H vs Q E hr ⟨b, l, xs, e, hb, hl, hne, h1, h2, k⟩ => ?_
  subst e
  have B := T.tj.ti.th.tg.tf.tb.te.td.tc.tw.bt
  have c_law_take := ok_law_take (P := P) (w := w) T
  refine ⟨_, (pss_one (ps_ret (pe_ix (ix_listK K) (pv 1) (pe_k c_law_take hr (by decide) rfl (pa_cons (pv 0) (pa_cons (cB (len_seqK K) B.len bb_len (pa_cons (pv 1) pa_nil)) pa_nil))) (fun _ _ => rfl)))), ?_⟩
  refine ⟨_, rfl, _, rfl, _, rfl, l, xs, rfl, .inl (.inl (.inl hl)), b, _, rfl, hb, by omega, by omega, fun H' d f d0 d1 => ?_⟩
  have hl' : H' l = some (.lst xs) := f.get hl fun ⟨i, j, z⟩ => hne i j (by cases z; rfl)
  obtain ⟨n, rfl⟩ : ∃ n : Nat, d = n := ⟨d.toNat, by omega⟩
  have hn : n < xs.length := by omega
  have hx : xs[n]? = some xs[n] := List.getElem?_eq_getElem hn
  exact ⟨l, xs, n, _, rfl, rfl, .inl (.inl hl'), atI_nat hx, k _ _ f (List.mem_of_getElem? hx)⟩
def sp_law_price : Sp := fun vs H Q _ => ∃ b : Addr, vs = [.ref b] ∧ BagAt H b ∧ ∀ H' i, Fr ExB H H' → 1 ≤ i → i ≤ 1000000000 → Q (.int i) H'
theorem ok_law_price (T : Tl P K mg base tP) : Kf P w K mg base 3 "_law_price" p_law_price sp_law_price := by
  refine Kf.of T.price sc_law_price ((fun _ _ _ _ _ _ us hl => match us, hl with | [_], _ => rfl)) (fun vs H Q E ⟨_, e, _⟩ => by rw [e]; rfl) fun f cdv A outer s H vs Q E hr ⟨b, e, hb, k⟩ => ?_
  subst e
  have B := T.tj.ti.th.tg.tf.tb.te.td.tc.tw.bt
  have c_law_take := ok_law_take (P := P) (w := w) T
  have c_law_of := ok_law_of (P := P) (w := w) T
  refine ⟨_, (pss_one (ps_ret (pe_k c_law_of hr (by decide) rfl (pa_cons (pv 0) (pa_cons (pe_lst (pa_cons pe_int (pa_cons pe_int (pa_cons pe_int (pa_cons pe_int (pa_cons pe_int (pa_cons (pe_op op_add pe_int (pe_k c_law_take hr (by decide) rfl (pa_cons (pv 0) (pa_cons pe_int pa_nil)))) (pa_cons (pe_op op_pow pe_int pe_int) (pa_cons (pe_op op_add pe_int (pe_k c_law_take hr (by decide) rfl (pa_cons (pv 0) (pa_cons (pe_op op_pow pe_int pe_int) pa_nil)))) pa_nil))))))))) pa_nil))))), ?_⟩
  refine ⟨_, rfl, _, rfl, b, 10, rfl, hb, by decide, by decide, fun H1 d1 f1 a1 b1 => ?_⟩
  refine ⟨_, _, rfl, rfl, ?_⟩
  refine ⟨10, 9, rfl, rfl, ⟨by decide, by decide, by decide⟩, _, rfl, 10, 9, rfl, rfl, ⟨by decide, by decide, by decide⟩, b, _, rfl, hb.fr f1, by decide, by decide, fun H2 d2 f2 a2 b2 => ?_⟩
  refine ⟨_, _, rfl, rfl, (by show 8 ≤ sizeLine; decide), fun l hl => ?_⟩
  have b2' : d2 < 1000000000 := b2
  have f3 : Fr ExB H2 (upd H2 l (.lst [.int 1, .int 1, .int 2, .int 3, .int 5, .int (1 + d1), .int (10 ^ 9), .int (1 + d2)])) := Fr.new hl
  refine ⟨b, l, _, rfl, ((hb.fr f1).fr f2).fr f3, upd_same, (fun i j z => by cases z), by show 1 ≤ 8; decide, by show 8 ≤ 1000; decide, fun H' x f hx => ?_⟩
  have fa := ((f1.trans f2).trans f3).trans f
  have hp : (10 : Int) ^ 9 = 1000000000 := by decide
  have hx : x ∈ [V.int 1, .int 1, .int 2, .int 3, .int 5, .int (1 + d1), .int (10 ^ 9), .int (1 + d2)] := hx
  simp only [List.mem_cons, List.not_mem_nil, or_false] at hx
  rcases hx with rfl | rfl | rfl | rfl | rfl | rfl | rfl | rfl
  · exact k _ _ fa (by decide) (by decide)
  · exact k _ _ fa (by decide) (by decide)
  · exact k _ _ fa (by decide) (by decide)
  · exact k _ _ fa (by decide) (by decide)
  · exact k _ _ fa (by decide) (by decide)
  · exact k _ _ fa (by omega) (by omega)
  · exact k _ _ fa (by rw [hp]; decide) (by rw [hp]; decide)
  · exact k _ _ fa (by omega) (by omega)
end
end Pn
/-! #### W21 -/
namespace Pn
open PySem PySem.Spec PyProof.Rows L2
/-! ### the law's names -/
def sg (c : Nat) : Str := ⟨#[c]⟩
/-- one of the letters, alone -/
def Sg (x : Str) : Prop := ∃ c ∈ letters.cps.toList, x = sg c
theorem Sg.nm {x : Str} (h : Sg x) : Nm x := by
  obtain ⟨c, hc, rfl⟩ := h
  exact ⟨by show 1 ≤ (#[c] : Array Nat).size; simp, by show (#[c] : Array Nat).size ≤ 8; simp, fun d hd => by
    have : d = c := by simpa [sg] using hd
    rw [this]; exact hc⟩
theorem joinL_nil : ∀ l : List (List Nat), TL.joinL [] l = l.flatten
  | [] => rfl
  | [p] => by show p = _; simp
  | p :: q :: r => by
    show p ++ ([] ++ TL.joinL [] (q :: r)) = _
    rw [joinL_nil (q :: r)]
    simp
theorem join_nm {ys : List Str} (h : ∀ y ∈ ys, Sg y) (h1 : 1 ≤ ys.length) (h8 : ys.length ≤ 8) : Nm (Txt.join "" ys) := by
  have e : (Txt.join "" ys).cps.toList = (ys.map fun y => y.cps.toList).flatten := by
    rw [TL.join_eq]
    have := TL.tl_join "" ys
    rw [show TL.tl ("" : Str) = [] from rfl, joinL_nil] at this
    exact this
  have el : ((ys.map fun y => y.cps.toList).flatten).length = ys.length := by
    clear h1 h8 e
    induction ys with
    | nil => rfl
    | cons y ys ih =>
      obtain ⟨c, _, rfl⟩ := h y List.mem_cons_self
      rw [List.map_cons, List.flatten_cons, List.length_append, ih fun z hz => h z (List.mem_cons_of_mem _ hz)]
      simp [sg]
      omega
  have hz : (Txt.join "" ys).length = ys.length := by
    show (Txt.join "" ys).cps.size = _
    rw [← Array.length_toList, e, el]
  refine ⟨by rw [hz]; exact h1, by rw [hz]; exact h8, fun c hc => ?_⟩
  rw [e] at hc
  obtain ⟨l, hl, hcl⟩ := List.mem_flatten.mp hc
  obtain ⟨y, hy, rfl⟩ := List.mem_map.mp hl
  obtain ⟨d, hd, rfl⟩ := h y hy
  have : c = d := by simpa [sg] using hcl
  rw [this]; exact hd
theorem letters_nd : letters.cps.toList.Nodup := by decide +kernel
theorem letters_len : letters.cps.toList.length = 26 := by decide +kernel
/-- a letter that isn't among few words -/
theorem free_letter {l : List Str} (h : l.length ≤ 12) : ∃ c ∈ letters.cps.toList, sg c ∉ l := by
  rcases Classical.em (∃ c ∈ letters.cps.toList, sg c ∉ l) with z | z
  · exact z
  · exfalso
    have h1 : ∀ x ∈ letters.cps.toList.map sg, x ∈ l := fun x hx => by
      obtain ⟨c, hc, rfl⟩ := List.mem_map.mp hx
      rcases Classical.em (sg c ∈ l) with y | y
      · exact y
      · exact absurd ⟨c, hc, y⟩ z
    have nd : (letters.cps.toList.map sg).Nodup := map_nd (f := id) (fun a b e => by
      have := congrArg (fun x : Str => x.cps.toList) e
      simpa [sg] using this) (by rw [List.map_id]; exact letters_nd)
    have := nodup_len nd h1
    rw [List.length_map, letters_len] at this
    omega
section
variable {P : Program} {w : World} {K : PySem.W.Frag} {mg : Str → Option Value} {base : Heap} {tP : Addr}
def sp_law_names : Sp := fun vs H Q _ => ∃ (b bn : Addr) (many : Nat) (ban : List Str), vs = [.ref b, .int many, .ref bn] ∧ BagAt H b ∧ many ≤ 7 ∧ TxL H bn ban ∧ ban.length ≤ 3 ∧
  ∀ H' r ns, Fr ExB H H' → H r = none → TxL H' r ns → ns.Nodup → ns.length = many → (∀ x ∈ ns, Nm x ∧ x ∉ ban) → Q (.ref r) H'
set_option maxHeartbeats 8000000 in
theorem ok_law_names (T : Tl P K mg base tP) : Kf P w K mg base 3 "_law_names" p_law_names sp_law_names := by
  refine Kf.of T.names sc_law_names ((fun _ _ _ _ _ _ us hl => match us, hl with | [_, _, _], _ => rfl)) (fun vs H Q E ⟨_, _, _, _, e, _⟩ => by rw [e]; rfl) fun f cdv A outer s H vs Q E hr ⟨b, bn, many, ban, e, hb, hm, hbn, hbl, k⟩ => ?_
  subst e
  have B := T.tj.ti.th.tg.tf.tb.te.td.tc.tw.bt
  have c_law_take := ok_law_take (P := P) (w := w) T
  have c_law_of := ok_law_of (P := P) (w := w) T
  refine ⟨_, (pss_cons (ps_asg (pe_tup (pa_cons pe_str (pa_cons (pe_lst pa_nil) pa_nil))) (pg_tupK K (n := 2) rfl (pgs_cons (gnm 3 sc_law_names.nd) (pgs_cons (gnm 4 sc_law_names.nd) pgs_nil)))) (pss_cons (ps_for PassesOwn.never rfl (pi_range1 rfl B.range (pa_cons (pv 1) pa_nil)) (gnm 5 sc_law_names.nd) (pss_cons (sset 6 sc_law_names.nd (pe_bm PySem.F.plainAttrs_str PySem.F.slot_str_join PySem.F.type_str_join mt_join pe_str (pa_cons (pe_lc (own := [("_law_k", 7)]) rfl sc_law_names.nd (pi_range1 rfl B.range (pa_cons (pe_k c_law_of hr (by decide) rfl (pa_cons (pv 0) (pa_cons (pe_lst (pa_cons pe_int (pa_cons pe_int (pa_cons pe_int (pa_cons pe_int (pa_cons pe_int pa_nil)))))) pa_nil))) pa_nil)) (blkOk_by (N := n_law_names) (sc := defScope s_law_names) (by decide +kernel)) (fun _ _ _ _ _ => (gnm 7 sc_law_names.nd)) (fun _ _ _ _ _ => pts_nil) (fun _ _ _ _ _ => (pe_ix ix_str (pv 3) (pe_k c_law_take hr (by decide) rfl (pa_cons (pv 0) (pa_cons pe_int pa_nil))) (fun _ _ => rfl)))) pa_nil))) (pss_cons (ps_if (PW.pt (pw_or (pt_cmpR (op_in_seqK K) (pv 6) (pv 4) (by with_unfolding_all rfl)) (pw_or1 (pt_cmpR (op_in_seqK K) (pv 6) (pv 2) (by with_unfolding_all rfl))))) (pss_one (sset 6 sc_law_names.nd (pe_ix (ix_listK K) (pe_lc (own := [("_law_letter", 8)]) rfl sc_law_names.nd (pi_str (pv 3)) (blkOk_by (N := n_law_names) (sc := defScope s_law_names) (by decide +kernel)) (fun _ _ _ _ _ => (gnm 8 sc_law_names.nd)) (fun _ _ _ _ _ => pts_one (PW.pt (pw_and (pt_cmpR (op_notIn_seqK K) (pv 8) (pv 4) (by with_unfolding_all rfl)) (pw_and1 (pt_cmpR (op_notIn_seqK K) (pv 8) (pv 2) (by with_unfolding_all rfl)))))) (fun _ _ _ _ _ => (pv 8))) pe_int (fun _ _ => rfl)))) pss_nil) (pss_one (ps_expr (pe_bm PySem.F.plainAttrs_list PySem.F.slot_list_append PySem.F.type_list_append mt_append (pv 4) (pa_cons (pv 6) pa_nil))))))) (pss_one (ps_ret (pv 4))))), ?_⟩
  refine ⟨Nat.zero_le _, fun fd hfd => ⟨(by show 2 ≤ sizeLine; decide), fun t ht => ⟨t, _, rfl, .inl (.inl upd_same), rfl, _, _, rfl, _, _, rfl, rfl, ?_⟩⟩⟩
  have nft : fd ≠ t := ne_of_none upd_same ht
  have f0 : Fr ExB H (upd (upd H fd (.lst [])) t (.tup [.str letters, .ref fd])) := (Fr.new hfd).new' ht
  have hfd0 : upd (upd H fd (.lst [])) t (.tup [.str letters, .ref fd]) fd = some (.lst []) := by rw [upd_ne nft]; exact upd_same
  show tSeq _ _ _ _ (upd (upd H fd (.lst [])) t (.tup [.str letters, .ref fd]))
  revert f0 hfd0
  generalize upd (upd H fd (.lst [])) t (.tup [.str letters, .ref fd]) = H0
  intro f0 hfd0
  let Pv : Nat → L2.St → Hp → Prop := fun i σ H' => (∃ o5 o6, σ = [some (.ref b), some (.int many), some (.ref bn), some (.str letters), some (.ref fd), o5, o6, none, none]) ∧ Fr ExB H H' ∧ ∃ ns : List Str, TxL H' fd ns ∧ ns.Nodup ∧ ns.length = i ∧ ∀ x ∈ ns, Nm x ∧ x ∉ ban
  refine ⟨_, rfl, many, rfl, by omega, by omega, for_it walk_range Pv ⟨⟨_, _, rfl⟩, f0, [], hfd0, by simp, rfl, by simp⟩ (fun _ _ _ _ _ => trivial) ?_ ?_⟩
  · rintro i x σ H1 H2 hi ⟨⟨o5, o6, rfl⟩, f1, ns, hns, nd, nl, hnm⟩ ⟨rfl, rfl⟩
    have hi7 : i < 7 := by omega
    refine ⟨rfl, ?_⟩
    refine ⟨_, rfl, (by show 5 ≤ sizeLine; decide), fun l hl => ?_⟩
    have f2 : Fr ExB H (upd H2 l (.lst [.int 1, .int 1, .int 2, .int 3, .int 8])) := f1.new' hl
    have hns2 : TxL (upd H2 l (.lst [.int 1, .int 1, .int 2, .int 3, .int 8])) fd ns := hns.same (Fr.new (E := Ex0) hl).same
    refine ⟨b, l, _, rfl, hb.fr f2, upd_same, (fun i j z => by cases z), by show 1 ≤ 5; decide, by show 5 ≤ 1000; decide, fun H3 x f3 hx => ?_⟩
    obtain ⟨n, rfl, hn1, hn8⟩ : ∃ n : Nat, x = .int n ∧ 1 ≤ n ∧ n ≤ 8 := by
      have hx : x ∈ [V.int 1, .int 1, .int 2, .int 3, .int 8] := hx
      simp only [List.mem_cons, List.not_mem_nil, or_false] at hx
      rcases hx with rfl | rfl | rfl | rfl | rfl
      · exact ⟨1, rfl, by decide, by decide⟩
      · exact ⟨1, rfl, by decide, by decide⟩
      · exact ⟨2, rfl, by decide, by decide⟩
      · exact ⟨3, rfl, by decide, by decide⟩
      · exact ⟨8, rfl, by decide, by decide⟩
    have f3' := f2.trans f3
    have hns3 := hns2.frB f3
    refine ⟨n, rfl, by omega, by omega, fun D hD => ?_⟩
    refine lc_gen (E := ExB) walk_range (B := Str) (fun _ v b => v = .str b) (fun i bs => bs.length = i ∧ ∀ x ∈ bs, Sg x) hD (by omega) (fun _ _ => trivial) (fun i H x H' y => by rw [y.1]; exact Fr.refl _ _) (Sta.eq V.str) (fun H ys bs r => by rw [Paired.str (H := H) r]; exact exB_strs bs) ⟨rfl, by simp⟩ ?_ ?_
    · rintro j x H4 H5 bs Ky Kn hj ⟨hbl, hbs⟩ fr ⟨rfl, rfl⟩ hy hk
      refine ⟨rfl, yes_of ?_⟩
      refine ⟨_, rfl, _, rfl, b, 26, rfl, (hb.fr f3').fr fr, by decide, by decide, fun H6 d f6 d0 d26 => ?_⟩
      obtain ⟨m, rfl⟩ : ∃ m : Nat, d = m := ⟨d.toNat, by omega⟩
      have hm26 : m < letters.cps.toList.length := by rw [letters_len]; omega
      have hx : letters.cps.toList[m]? = some letters.cps.toList[m] := List.getElem?_eq_getElem hm26
      refine ⟨letters, m, _, rfl, rfl, by decide, atI_nat hx, hy _ _ _ f6 rfl ⟨by rw [List.length_append, hbl]; rfl, fun z hz => ?_⟩⟩
      rcases List.mem_append.mp hz with y | y
      · exact hbs z y
      · have : z = sg letters.cps.toList[m] := List.mem_singleton.mp y
        exact ⟨_, List.mem_of_getElem? hx, this⟩
    · intro H4 ys bs fr hD4 r ⟨hbl, hbs⟩
      have hz := Paired.str (H := H4) r
      rw [hz] at hD4
      have hbl' : bs.length = n := by omega
      have hsum : (bs.map (·.length)).sum ≤ 8 := by
        have : ∀ l : List Str, (∀ x ∈ l, Sg x) → (l.map (·.length)).sum = l.length := by
          intro l
          induction l with
          | nil => intro _; rfl
          | cons y l ih =>
            intro h
            obtain ⟨c, _, rfl⟩ := h y List.mem_cons_self
            rw [List.map_cons, List.sum_cons, ih fun z hz => h z (List.mem_cons_of_mem _ hz)]
            show (#[c] : Array Nat).size + l.length = _
            simp
            omega
        rw [this bs hbs]
        omega
      have hjn := join_nm hbs (by omega) (by omega)
      have f4 := f3'.trans fr
      have hns4 := hns3.frB fr
      have hbn4 := hbn.frB f4
      refine ⟨"", D, bs, rfl, rfl, .inl (.inl (.inl hD4)), by rw [show ("" : Str).length = 0 from rfl]; omega, ?_⟩
      generalize hnw : Txt.join "" bs = nw0 at hjn
      -- the name is put
      have put : ∀ (o6 : V) (z : Str) (H5 : Hp), o6 = .str z → Nm z → z ∉ ns → z ∉ ban → Fr ExB H H5 → TxL H5 fd ns →
          tDrop (tBM K "list" rAppend (tVar 4) (tCons (tVar 6) tNil)) { nx := Pv (i + 1), rt := Q, bk := fun _ _ => False, ct := Pv (i + 1) } [some (.ref b), some (.int many), some (.ref bn), some (.str letters), some (.ref fd), some (.int (0 + (i : Int))), some o6, none, none] H5 := by
        rintro _ z H5 rfl hz1 hz2 hz3 f5 hns5
        refine ⟨_, rfl, .inl ⟨rfl, _, .inl (.inl hns5)⟩, _, rfl, fd, _, _, rfl, rfl, hns5, small1000 (by rw [List.length_map]; omega), ⟨_, _, rfl⟩, f5.put hfd, ns ++ [z], ?_, ?_, by rw [List.length_append, nl]; rfl, fun y hy => ?_⟩
        · show upd H5 fd _ fd = _
          rw [upd_same, List.map_append]; rfl
        · exact List.nodup_append.mpr ⟨nd, by simp, fun a ha b hb => by
            have : b = z := by simpa using hb
            rw [this]
            exact fun e => hz2 (e ▸ ha)⟩
        · rcases List.mem_append.mp hy with e | e
          · exact hnm y e
          · have : y = z := by simpa using e
            rw [this]; exact ⟨hz1, hz3⟩
      have seq : ∀ {x : Str} {xs : List Str} {H' : Hp} {a : Addr} {Q : VK}, TxL H' a xs → Q (.bl (decide (x ∈ xs))) H' → rIn K false (.str x) (.ref a) H' Q := fun {x xs H' a Q} ha h => ⟨a, _, rfl, .inl ha.l, rfl, flat_strs _, by rw [inV_strs]; exact h⟩
      have nseq : ∀ {x : Str} {xs : List Str} {H' : Hp} {a : Addr} {Q : VK}, TxL H' a xs → Q (.bl (!decide (x ∈ xs))) H' → rIn K true (.str x) (.ref a) H' Q := fun {x xs H' a Q} ha h => ⟨a, _, rfl, .inl ha.l, rfl, flat_strs _, by rw [inV_strs]; exact h⟩
      -- another one, if it is there
      have alt : (nw0 ∈ ns ∨ nw0 ∈ ban) → tAsg (tOp (rIxL K) (tLc (iStr (tVar 3)) (gName 8) (tAnd (tTest (tOp (rIn K true) (tVar 8) (tVar 4))) (tTest (tOp (rIn K true) (tVar 8) (tVar 2)))) (tVar 8) [8]) (tC (.int 0))) (gName 6)
          { nx := fun σ' H' => tDrop (tBM K "list" rAppend (tVar 4) (tCons (tVar 6) tNil)) { nx := Pv (i + 1), rt := Q, bk := fun _ _ => False, ct := Pv (i + 1) } σ' H', rt := Q, bk := fun _ _ => False, ct := Pv (i + 1) } [some (.ref b), some (.int many), some (.ref bn), some (.str letters), some (.ref fd), some (.int (0 + (i : Int))), some (.str nw0), none, none] H4 := by
        intro _
        refine ⟨_, rfl, letters, rfl, fun D2 hD2 => ?_⟩
        refine lc_map (E := Ex0) (walk_str (z := letters)) (B := Str) (letters.cps.toList.map sg) (fun x => !decide (x ∈ ns) && !decide (x ∈ ban)) id (fun _ v b => v = .str b) (by rw [List.length_map, letters_len]; decide +kernel) hD2 (by decide +kernel) (fun _ _ => trivial) (fun i H x H' y => by rw [y.1]; exact Fr.refl _ _) (Sta.eq V.str) (fun _ _ _ _ z => z) ?_ ?_
        · rintro j x H5 H6 a Ky Kn ha fr5 ⟨rfl, c, hc, rfl⟩ hy hk
          have ea : a = sg c := by
            rw [List.getElem?_map, Array.getElem?_toList, hc] at ha
            exact (Option.some.inj ha).symm
          subst ea
          refine ⟨rfl, _, rfl, _, rfl, nseq (hns4.same fr5.same) ⟨_, rfl, ite2 (fun z => ?_) (fun z => ?_)⟩⟩
          · have z : (!decide (sg c ∈ ns)) = true := z
            refine ⟨_, rfl, _, rfl, nseq (hbn4.same fr5.same) ⟨_, rfl, ite2 (fun z2 => ?_) (fun z2 => ?_)⟩⟩
            · have z2 : (!decide (sg c ∈ ban)) = true := z2
              exact ⟨_, rfl, hy _ _ (by rw [z, z2]; rfl) (Fr.refl _ _) rfl⟩
            · have z2 : ¬ (!decide (sg c ∈ ban)) = true := z2
              exact hk _ (by rw [z]; simpa using z2) (Fr.refl _ _)
          · have z : ¬ (!decide (sg c ∈ ns)) = true := z
            exact hk _ (by
              have : (!decide (sg c ∈ ns)) = false := by simpa using z
              rw [this]; rfl) (Fr.refl _ _)
        · intro H5 ys5 fr5 hD5 r5
          have hz5 := Paired.str (H := H5) r5
          rw [List.map_id] at hz5
          obtain ⟨c, hc, hcn⟩ := free_letter (l := ns ++ ban) (by rw [List.length_append]; omega)
          have hcm : sg c ∈ (letters.cps.toList.map sg).filter (fun x => !decide (x ∈ ns) && !decide (x ∈ ban)) := by
            refine List.mem_filter.mpr ⟨List.mem_map.mpr ⟨c, hc, rfl⟩, ?_⟩
            rw [List.mem_append, not_or] at hcn
            simp [hcn.1, hcn.2]
          cases hfl : (letters.cps.toList.map sg).filter (fun x => !decide (x ∈ ns) && !decide (x ∈ ban)) with
          | nil => rw [hfl] at hcm; cases hcm
          | cons z rest =>
            rw [hfl] at hz5
            have hzm : z ∈ (letters.cps.toList.map sg).filter (fun x => !decide (x ∈ ns) && !decide (x ∈ ban)) := by rw [hfl]; exact List.mem_cons_self
            obtain ⟨hz1, hz2⟩ := List.mem_filter.mp hzm
            obtain ⟨d, hd, rfl⟩ := List.mem_map.mp hz1
            have hz3 : sg d ∉ ns ∧ sg d ∉ ban := by simpa using hz2
            refine ⟨D2, ys5, 0, _, rfl, rfl, .inl (.inl hD5), atI_nat (j := 0) (by rw [hz5]; rfl), put _ (sg d) H5 rfl (Sg.nm ⟨d, hd, rfl⟩) hz3.1 hz3.2 (f4.trans (Fr.of fr5.same)) (hns4.same fr5.same)⟩
      refine ⟨_, rfl, _, rfl, seq hns4 ⟨_, rfl, ite2 (fun z => ?_) (fun z => ?_)⟩⟩
      · exact iteT (alt (.inl (of_decide_eq_true z)))
      · refine ⟨_, rfl, _, rfl, seq hbn4 ⟨_, rfl, ite2 (fun z2 => ?_) (fun z2 => ?_)⟩⟩
        · exact alt (.inr (of_decide_eq_true z2))
        · exact put _ nw0 H4 rfl hjn (fun y => z (decide_eq_true y)) (fun y => z2 (decide_eq_true y)) f4 hns4
  · rintro σ H1 ⟨⟨o5, o6, rfl⟩, f1, ns, hns, nd, nl, hnm⟩
    exact ⟨_, rfl, k H1 fd ns f1 hfd hns nd (by simpa using nl) hnm⟩
end
end Pn
/-! #### W22 -/
namespace Pn
open PySem PySem.Spec PyProof.Rows L2
/-! ### the law's rows -/
abbrev Told := Option (List Str × List Str × Bool × Bool)
structure Ld where
  kd : Kd
  name : Str
  moves : List Pr
  own : List Str
  told : Told
def LnAt (N : Addr → Prop) (H : Hp) (v : V) : Told → Prop
  | none => v = .non
  | some (o, n, a, c) => ∃ q oa na, v = .ref q ∧ H q = some (.tup [.ref oa, .ref na, .bl a, .bl c]) ∧ TxL H oa o ∧ TxL H na n ∧ N oa ∧ N na
theorem LnAt.frB {N : Addr → Prop} {H H' : Hp} {v : V} {t : Told} (f : Fr ExB H H') (h : LnAt N H v t) : LnAt N H' v t := by
  cases t with
  | none => exact h
  | some x =>
    obtain ⟨o, n, a, c⟩ := x
    obtain ⟨q, oa, na, rfl, h1, h2, h3, h4, h5⟩ := h
    exact ⟨q, oa, na, rfl, f.get h1 (Kps.b.tup _ _), h2.frB f, h3.frB f, h4, h5⟩
theorem LnAt.wide {N N' : Addr → Prop} {H : Hp} {v : V} {t : Told} (w : ∀ a, N a → N' a) (h : LnAt N H v t) : LnAt N' H v t := by
  cases t with
  | none => exact h
  | some x =>
    obtain ⟨o, n, a, c⟩ := x
    obtain ⟨q, oa, na, rfl, h1, h2, h3, h4, h5⟩ := h
    exact ⟨q, oa, na, rfl, h1, h2, h3, w _ h4, w _ h5⟩
def ToldOk (ws : List Str) (t : Told) : Prop := ∀ o n a c, t = some (o, n, a, c) → o.Sublist ws ∧ n.Sublist ws
section
variable {P : Program} {w : World} {K : PySem.W.Frag} {mg : Str → Option Value} {base : Heap} {tP : Addr}
def sp_law_note : Sp := fun vs H Q _ => ∃ (b wl : Addr) (ws : List Str), vs = [.ref b, .ref wl] ∧ BagAt H b ∧ TxL H wl ws ∧ ws.length ≤ 10 ∧ ∀ H' v t, Fr ExB H H' → LnAt (fun a => H a = none) H' v t → ToldOk ws t → Q v H'
theorem ok_law_note (T : Tl P K mg base tP) : Kf P w K mg base 3 "_law_note" p_law_note sp_law_note := by
  refine Kf.of T.note sc_law_note ((fun _ _ _ _ _ _ us hl => match us, hl with | [_, _], _ => rfl)) (fun vs H Q E ⟨_, _, _, e, _⟩ => by rw [e]; rfl) fun f cdv A outer s H vs Q E hr ⟨b, wl, ws, e, hb, hw, hl, k⟩ => ?_
  subst e
  have B := T.tj.ti.th.tg.tf.tb.te.td.tc.tw.bt
  have c_law_take := ok_law_take (P := P) (w := w) T
  refine ⟨_, (pss_cons (ps_if (pt_cmpR op_eq (pe_k c_law_take hr (by decide) rfl (pa_cons (pv 0) (pa_cons pe_int pa_nil))) pe_int (nomark _)) (pss_one (ps_ret pe_non)) pss_nil) (pss_cons (ps_setLc (i := 2) (own := [("_law_word", 3)]) rfl sc_law_note.nd rfl rfl (sw_true rfl rfl rfl (by decide +kernel)) (pi_listK K (pv 1)) (blkOk_by (N := n_law_note) (sc := defScope s_law_note) (by decide +kernel)) (fun _ _ _ _ _ => (gnm 3 sc_law_note.nd)) (fun _ _ _ _ _ => pts_one (pt_cmpR op_eq (pe_k c_law_take hr (by decide) rfl (pa_cons (pv 0) (pa_cons pe_int pa_nil))) pe_int (nomark _))) (fun _ _ _ _ _ => (pv 3))) (pss_cons (ps_setLc (i := 4) (own := [("_law_word", 3)]) rfl sc_law_note.nd rfl rfl (sw_true rfl rfl rfl (by decide +kernel)) (pi_listK K (pv 1)) (blkOk_by (N := n_law_note) (sc := defScope s_law_note) (by decide +kernel)) (fun _ _ _ _ _ => (gnm 3 sc_law_note.nd)) (fun _ _ _ _ _ => pts_one (pt_cmpR op_eq (pe_k c_law_take hr (by decide) rfl (pa_cons (pv 0) (pa_cons pe_int pa_nil))) pe_int (nomark _))) (fun _ _ _ _ _ => (pv 3))) (pss_one (ps_ret (pe_tup (pa_cons (pv 2) (pa_cons (pv 4) (pa_cons (pe_cmpR op_eq (pe_k c_law_take hr (by decide) rfl (pa_cons (pv 0) (pa_cons pe_int pa_nil))) pe_int (nomark _)) (pa_cons (pe_cmpR op_eq (pe_k c_law_take hr (by decide) rfl (pa_cons (pv 0) (pa_cons pe_int pa_nil))) pe_int (nomark _)) pa_nil)))))))))), ?_⟩
  have pick : ∀ (H1 : Hp) (o : Option V) (Q1 : VK), Fr ExB H H1 → (∀ H2 D os, Fr ExB H1 H2 → H1 D = none → TxL H2 D os → os.Sublist ws → Q1 (.ref D) H2) →
      tLc (iList K (tVar 1)) (gName 3) (tTest (tOp rEq (tCall sp_law_take [] E0 (tCons (tVar 0) (tCons (tC (.int 2)) tNil))) (tC (.int 0)))) (tVar 3) [3] [some (.ref b), some (.ref wl), o, none, none] H1 Q1 := by
    intro H1 o Q1 f1 hq
    have hw1 := hw.frB f1
    refine ⟨_, rfl, wl, rfl, ⟨_, hw1.l⟩, fun D hD => ?_⟩
    refine lc_gen (E := ExB) (walk_list (xs := ws.map V.str)) (B := Str) (fun _ v b => v = .str b) (fun i bs => bs.Sublist (ws.take i)) hD (by rw [List.length_map]; omega) (fun H' f => (hw1.frB f).l) (fun i H x H' y => by rw [y.1]; exact Fr.refl _ _) (Sta.eq V.str) (fun H ys bs r => by rw [Paired.str (H := H) r]; exact exB_strs bs) (List.Sublist.refl _) ?_ ?_
    · rintro j x H4 H5 bs Ky Kn hj hbs fr ⟨rfl, hx⟩ hy hk
      obtain ⟨z, hz, rfl⟩ := map_at hx
      have hjl : j < ws.length := (List.getElem?_eq_some_iff.mp hz).1
      have htk : ws.take (j + 1) = ws.take j ++ [z] := by
        rw [List.take_succ_eq_append_getElem hjl, (List.getElem?_eq_some_iff.mp hz).2]
      refine ⟨rfl, _, rfl, b, 2, rfl, (hb.fr f1).fr fr, by decide, by decide, fun H6 d f6 d0 d2 => ⟨rfl, _, rfl, ite2 (fun _ => ?_) (fun _ => ?_)⟩⟩
      · exact ⟨_, rfl, hy _ _ z f6 rfl (by rw [htk]; exact List.Sublist.append hbs (List.Sublist.refl _))⟩
      · exact hk _ f6 (by rw [htk]; exact hbs.trans (List.sublist_append_left _ _))
    · intro H4 ys bs fr hD4 r hbs
      have hz := Paired.str (H := H4) r
      rw [hz] at hD4
      rw [List.length_map, List.take_length] at hbs
      exact hq H4 D bs fr hD hD4 hbs
  refine ⟨_, rfl, b, 4, rfl, hb, by decide, by decide, fun H1 d f1 d0 d4 => ⟨rfl, _, rfl, ite2 (fun _ => ?_) (fun _ => ?_)⟩⟩
  · exact k H1 .non none f1 rfl (fun _ _ _ _ z => by cases z)
  · dsimp only [tNext, tSeq, tAsg]
    refine pick H1 none _ f1 fun H2 D2 os f2 hD2 hos hsub => ?_
    have f02 := f1.trans f2
    dsimp only [gName, tSeq, tAsg]
    refine pick H2 (some (.ref D2)) _ f02 fun H3 D3 ns f3 hD3 hns hsub3 => ?_
    have f03 := f02.trans f3
    refine ⟨_, rfl, _, rfl, _, rfl, b, 2, rfl, hb.fr f03, by decide, by decide, fun H4 d2 f4 _ _ => ⟨rfl, _, rfl, b, 3, rfl, (hb.fr f03).fr f4, by decide, by decide, fun H5 d3 f5 _ _ => ⟨rfl, (by show 4 ≤ sizeLine; decide), fun q hq => ?_⟩⟩⟩
    have f05 := (f03.trans f4).trans f5
    have f56 : Fr ExB H5 (upd H5 q (.tup [.ref D2, .ref D3, .bl (decide (V.int d2 = V.int 0)), .bl (decide (V.int d3 = V.int 0))])) := Fr.new hq
    refine k _ _ (some (os, ns, decide (V.int d2 = V.int 0), decide (V.int d3 = V.int 0))) (f05.trans f56) ⟨q, D2, D3, rfl, upd_same, ((hos.frB f3).frB (f4.trans f5)).frB f56, (hns.frB (f4.trans f5)).frB f56, f1.free hD2, f02.free hD3⟩ fun o n a c z => ?_
    cases z
    exact ⟨hsub, hsub3⟩
end
end Pn
/-! #### W23 -/
namespace Pn
open PySem PySem.Spec PyProof.Rows L2
/-! ### the law's deeds -/
def kS : Kd → Str
  | .mk => "make"
  | .ch => "change"
  | .en => "end"
def LdAt (N : Addr → Prop) (H : Hp) (v : V) (d : Ld) : Prop := ∃ q ma oa nv ms, v = .ref q ∧ H q = some (.tup [.str (kS d.kd), .str d.name, .ref ma, .ref oa, nv]) ∧ H ma = some (.lst ms) ∧ IsPs H ms d.moves ∧ TxL H oa d.own ∧ LnAt N H nv d.told ∧ N ma ∧ N oa
theorem exB_prs {q : Addr} {H : Hp} {ms : List V} {ps : List Pr} (h : IsPs H ms ps) : ¬ ExB q (.lst ms) := fun z => by
  obtain ⟨i, j, z⟩ := z
  cases z
  cases h with
  | cons h1 _ => obtain ⟨a, e, _⟩ := h1; cases e
theorem IsPs.frB {H H' : Hp} {vs : List V} {ps : List Pr} (f : Fr ExB H H') (h : IsPs H vs ps) : IsPs H' vs ps := Paired.mono (fun _ _ ⟨a, e, ha⟩ => ⟨a, e, f.get ha (Kps.b.tup _ _)⟩) h
theorem LdAt.frB {N : Addr → Prop} {H H' : Hp} {v : V} {d : Ld} (f : Fr ExB H H') (h : LdAt N H v d) : LdAt N H' v d := by
  obtain ⟨q, ma, oa, nv, ms, rfl, h1, h2, h3, h4, h5, h6, h7⟩ := h
  exact ⟨q, ma, oa, nv, ms, rfl, f.get h1 (Kps.b.tup _ _), f.get h2 (exB_prs h3), h3.frB f, h4.frB f, h5.frB f, h6, h7⟩
theorem LdAt.wide {N N' : Addr → Prop} {H : Hp} {v : V} {d : Ld} (w : ∀ a, N a → N' a) (h : LdAt N H v d) : LdAt N' H v d := by
  obtain ⟨q, ma, oa, nv, ms, rfl, h1, h2, h3, h4, h5, h6, h7⟩ := h
  exact ⟨q, ma, oa, nv, ms, rfl, h1, h2, h3, h4, h5.wide w, w _ h6, w _ h7⟩
/-- what a drawn deed is: by the book's columns and states -/
structure LdOk (cols sts : List Str) (d : Ld) : Prop where
  make : d.kd = .mk → ∃ s ∈ sts, d.moves = [(("" : Str), s)]
  chg : d.kd = .ch → (∀ m ∈ d.moves, m.1 ∈ sts ∧ m.2 ∈ sts) ∧ (d.moves.map Prod.fst).Sublist sts ∧ d.own.Sublist cols
  end_ : d.kd = .en → (∀ m ∈ d.moves, m.1 ∈ sts ∧ m.2 = "") ∧ (d.moves.map Prod.fst).Sublist sts
  own : d.kd ≠ .ch → d.own = []
  told : ToldOk ("state" :: (if d.kd = .ch then d.own else cols)) d.told
section
variable {P : Program} {w : World} {K : PySem.W.Frag} {mg : Str → Option Value} {base : Heap} {tP : Addr}
def sp_law_deed : Sp := fun vs H Q _ => ∃ (b wa sa : Addr) (kd : Kd) (name : Str) (cols sts : List Str), vs = [.ref b, .str (kS kd), .str name, .ref wa, .ref sa] ∧ BagAt H b ∧ TxL H wa cols ∧ TxL H sa sts ∧ cols.length ≤ 3 ∧ sts.length ≤ 4 ∧ 1 ≤ sts.length ∧
  ∀ H' v d, Fr ExB H H' → LdAt (fun a => H a = none) H' v d → d.kd = kd → d.name = name → LdOk cols sts d → Q v H'
set_option maxHeartbeats 8000000 in
theorem ok_law_deed (T : Tl P K mg base tP) : Kf P w K mg base 4 "_law_deed" p_law_deed sp_law_deed := by
  refine Kf.of T.deed sc_law_deed ((fun _ _ _ _ _ _ us hl => match us, hl with | [_, _, _, _, _], _ => rfl)) (fun vs H Q E ⟨_, _, _, _, _, _, _, e, _⟩ => by rw [e]; rfl) fun f cdv A outer s H vs Q E hr ⟨b, wa, sa, kd, name, cols, sts, e, hb, hw, hst, hwl, hsl, hs1, k⟩ => ?_
  subst e
  have B := T.tj.ti.th.tg.tf.tb.te.td.tc.tw.bt
  have c_law_take := ok_law_take (P := P) (w := w) T
  have c_law_of := ok_law_of (P := P) (w := w) T
  have c_law_note := ok_law_note (P := P) (w := w) T
  refine ⟨_, (pss_cons (ps_par (i := 5) (j := 6) rfl sc_law_deed.nd rfl rfl (by decide) rfl rfl (pa_cons (pe_lst (pa_cons (pe_tup (pa_cons pe_str (pa_cons (pe_k c_law_of hr (by decide) rfl (pa_cons (pv 0) (pa_cons (pv 4) pa_nil))) pa_nil))) pa_nil)) (pa_cons (pe_lst pa_nil) pa_nil)) rfl) (pss_cutP (ps_if (pt_cmpR op_eq (pv 1) pe_str (nomark _)) (pss_one (ps_setLc (i := 5) (own := [("_law_state_here", 7)]) rfl sc_law_deed.nd rfl rfl (sw_true rfl rfl rfl (by decide +kernel)) (pi_listK K (pv 4)) (blkOk_by (N := n_law_deed) (sc := defScope s_law_deed) (by decide +kernel)) (fun _ _ _ _ _ => (gnm 7 sc_law_deed.nd)) (fun _ _ _ _ _ => pts_one (pt_cmpR op_gt (pe_k c_law_take hr (by decide) rfl (pa_cons (pv 0) (pa_cons pe_int pa_nil))) pe_int (nomark _))) (fun _ _ _ _ _ => (pe_tup (pa_cons (pv 7) (pa_cons pe_str pa_nil)))))) pss_nil) (pss_cutP (ps_if (pt_cmpR op_eq (pv 1) pe_str (nomark _)) (pss_cons (ps_setLc (i := 5) (own := [("_law_state_here", 7)]) rfl sc_law_deed.nd rfl rfl (sw_true rfl rfl rfl (by decide +kernel)) (pi_listK K (pv 4)) (blkOk_by (N := n_law_deed) (sc := defScope s_law_deed) (by decide +kernel)) (fun _ _ _ _ _ => (gnm 7 sc_law_deed.nd)) (fun _ _ _ _ _ => pts_one (pt_cmpR op_gt (pe_k c_law_take hr (by decide) rfl (pa_cons (pv 0) (pa_cons pe_int pa_nil))) pe_int (nomark _))) (fun _ _ _ _ _ => (pe_tup (pa_cons (pv 7) (pa_cons (pe_k c_law_of hr (by decide) rfl (pa_cons (pv 0) (pa_cons (pv 4) pa_nil))) pa_nil))))) (pss_one (ps_setLc (i := 6) (own := [("_law_column", 8)]) rfl sc_law_deed.nd rfl rfl (sw_true rfl rfl rfl (by decide +kernel)) (pi_listK K (pv 3)) (blkOk_by (N := n_law_deed) (sc := defScope s_law_deed) (by decide +kernel)) (fun _ _ _ _ _ => (gnm 8 sc_law_deed.nd)) (fun _ _ _ _ _ => pts_one (pt_cmpR op_gt (pe_k c_law_take hr (by decide) rfl (pa_cons (pv 0) (pa_cons pe_int pa_nil))) pe_int (nomark _))) (fun _ _ _ _ _ => (pv 8))))) pss_nil) (pss_cons (sset 9 sc_law_deed.nd (pe_op op_cat (pe_lst (pa_cons pe_str pa_nil)) (pe_ifExp (pt_cmpR op_eq (pv 1) pe_str (nomark _)) (pv 6) (pv 3)))) (pss_one (ps_ret (pe_tup (pa_cons (pv 1) (pa_cons (pv 2) (pa_cons (pv 5) (pa_cons (pv 6) (pa_cons (pe_k c_law_note hr (by decide) rfl (pa_cons (pv 0) (pa_cons (pv 9) pa_nil))) pa_nil)))))))))))), ?_⟩
  have kinj : ∀ j : Kd, decide (V.str (kS kd) = V.str (kS j)) = decide (kd = j) := fun j => by
    rw [decide_eq_decide]
    refine ⟨fun h => ?_, fun h => by rw [h]⟩
    have h := V.str.inj h
    cases kd <;> cases j <;> first | rfl | exact absurd h (by decide)
  have of_st : ∀ (H1 : Hp) (Q1 : VK), Fr ExB H H1 → (∀ H2 s, Fr ExB H1 H2 → s ∈ sts → Q1 (.str s) H2) → sp_law_of ([.ref b, .ref sa] ++ []) H1 Q1 E0 := fun H1 Q1 f1 hq =>
    ⟨b, sa, _, rfl, hb.fr f1, hst.frB f1, (fun i j z => by
      have : ¬ ExB sa (.lst (sts.map V.str)) := exB_strs sts
      exact this ⟨i, j, by rw [z]⟩), by rw [List.length_map]; exact hs1, by rw [List.length_map]; omega, fun H2 x f2 hx => by
        obtain ⟨s, hs, rfl⟩ := List.mem_map.mp hx
        exact hq H2 s f2 hs⟩
  refine ⟨_, rfl, _, rfl, of_st H _ (Fr.refl _ _) fun H1 s1 f1 hs1' => ⟨(by show 2 ≤ sizeLine; decide), fun t ht => ⟨(by show 1 ≤ sizeLine; decide), fun ma hma => ⟨Nat.zero_le _, fun oa hoa => ⟨_, _, rfl, ?_⟩⟩⟩⟩⟩
  have ft : Fr ExB H1 (upd H1 t (.tup [.str "", .str s1])) := Fr.new ht
  have fm : Fr ExB H1 (upd (upd H1 t (.tup [.str "", .str s1])) ma (.lst [.ref t])) := ft.new' hma
  have fo : Fr ExB H1 (upd (upd (upd H1 t (.tup [.str "", .str s1])) ma (.lst [.ref t])) oa (.lst [])) := fm.new' hoa
  have ntm : t ≠ ma := ne_of_none upd_same hma
  have nto : t ≠ oa := ne_of_none (by rw [upd_ne ntm]; exact upd_same) hoa
  have nmo : ma ≠ oa := ne_of_none upd_same hoa
  have hps : IsPs (upd (upd (upd H1 t (.tup [.str "", .str s1])) ma (.lst [.ref t])) oa (.lst [])) [.ref t] [(("" : Str), s1)] := .cons ⟨t, rfl, by rw [upd_ne nto, upd_ne ntm]; exact upd_same⟩ .nil
  have hml : upd (upd (upd H1 t (.tup [.str "", .str s1])) ma (.lst [.ref t])) oa (.lst []) ma = some (.lst [.ref t]) := by rw [upd_ne nmo]; exact upd_same
  have hol : TxL (upd (upd (upd H1 t (.tup [.str "", .str s1])) ma (.lst [.ref t])) oa (.lst [])) oa [] := upd_same
  have Nma : H ma = none := (f1.trans ft).free hma
  have Noa : H oa = none := (f1.trans fm).free hoa
  have f0 := f1.trans fo
  let M1 : L2.St → Hp → Prop := fun σ H' => ∃ ma ms ps, σ = [some (.ref b), some (.str (kS kd)), some (.str name), some (.ref wa), some (.ref sa), some (.ref ma), some (.ref oa), none, none, none] ∧ Fr ExB H H' ∧ TxL H' oa [] ∧ H' ma = some (.lst ms) ∧ IsPs H' ms ps ∧ H ma = none ∧
    (kd = .mk → ∃ s ∈ sts, ps = [(("" : Str), s)]) ∧ (kd = .en → (∀ m ∈ ps, m.1 ∈ sts ∧ m.2 = "") ∧ (ps.map Prod.fst).Sublist sts)
  -- a choice among the states, and what is laid for it
  refine ⟨M1, ?_, ?_⟩
  · refine ⟨_, rfl, rfl, _, rfl, ?_⟩
    rw [show decide (V.str (kS kd) = V.str "end") = decide (kd = .en) from kinj .en]
    refine ite2 (fun z => ?_) (fun z => ?_)
    · have hen := of_decide_eq_true z
      have hst0 := hst.frB f0
      refine ⟨_, rfl, sa, rfl, ⟨_, hst0.l⟩, fun D hD => ?_⟩
      refine lc_gen (E := ExB) (walk_list (xs := sts.map V.str)) (B := Pr) IsP (fun i bs => (bs.map Prod.fst).Sublist (sts.take i) ∧ ∀ m ∈ bs, m.1 ∈ sts ∧ m.2 = "") hD (by rw [List.length_map]; omega) (fun H' f => (hst0.frB f).l) (fun i H x H' y => by rw [y.1]; exact Fr.refl _ _) (Sta.isP' Kps.b) (fun H ys bs r => exB_prs r) ⟨List.Sublist.refl _, by simp⟩ ?_ ?_
      · rintro j x H4 H5 bs Ky Kn hj ⟨hbs, hbm⟩ fr ⟨rfl, hx⟩ hy hk
        obtain ⟨z, hz, rfl⟩ := map_at hx
        have hjl : j < sts.length := (List.getElem?_eq_some_iff.mp hz).1
        have htk : sts.take (j + 1) = sts.take j ++ [z] := by
          rw [List.take_succ_eq_append_getElem hjl, (List.getElem?_eq_some_iff.mp hz).2]
        refine ⟨rfl, _, rfl, b, 4, rfl, (hb.fr f0).fr fr, by decide, by decide, fun H6 d f6 d0 d2 => ⟨_, _, rfl, rfl, _, rfl, ite2 (fun _ => ?_) (fun _ => ?_)⟩⟩
        · refine ⟨_, rfl, (by show 2 ≤ sizeLine; decide), fun q hq => hy _ _ (z, "") (f6.new' hq) ⟨q, rfl, upd_same⟩ ⟨?_, fun m hm => ?_⟩⟩
          · rw [htk, List.map_append]; exact List.Sublist.append hbs (List.Sublist.refl _)
          · rcases List.mem_append.mp hm with y | y
            · exact hbm m y
            · have : m = (z, ("" : Str)) := List.mem_singleton.mp y
              rw [this]; exact ⟨List.mem_of_getElem? hz, rfl⟩
        · exact hk _ f6 ⟨by rw [htk]; exact hbs.trans (List.sublist_append_left _ _), hbm⟩
      · intro H4 ys bs fr hD4 r ⟨hbs, hbm⟩
        rw [List.length_map, List.take_length] at hbs
        exact ⟨D, ys, bs, rfl, f0.trans fr, hol.frB fr, hD4, r, f0.free hD, (fun y => by rw [hen] at y; cases y), fun _ => ⟨hbm, hbs⟩⟩
    · exact ⟨ma, _, _, rfl, f0, hol, hml, hps, Nma, fun _ => ⟨s1, hs1', rfl⟩, fun y => absurd (decide_eq_true y) z⟩
  · rintro σ H2 ⟨ma, ms, ps, rfl, f2, ho2, hm2, hp2, Nma2, hmk, hen⟩
    let M2 : L2.St → Hp → Prop := fun σ H' => ∃ (ma oa : Addr) (ms : List V) (ps : List Pr) (own : List Str), σ = [some (.ref b), some (.str (kS kd)), some (.str name), some (.ref wa), some (.ref sa), some (.ref ma), some (.ref oa), none, none, none] ∧ Fr ExB H H' ∧ TxL H' oa own ∧ H oa = none ∧ H' ma = some (.lst ms) ∧ IsPs H' ms ps ∧ H ma = none ∧
      (kd = .mk → ∃ s ∈ sts, ps = [(("" : Str), s)]) ∧ (kd = .ch → (∀ m ∈ ps, m.1 ∈ sts ∧ m.2 ∈ sts) ∧ (ps.map Prod.fst).Sublist sts ∧ own.Sublist cols) ∧ (kd = .en → (∀ m ∈ ps, m.1 ∈ sts ∧ m.2 = "") ∧ (ps.map Prod.fst).Sublist sts) ∧ (kd ≠ .ch → own = [])
    refine ⟨M2, ?_, ?_⟩
    · refine ⟨_, rfl, rfl, _, rfl, ?_⟩
      rw [show decide (V.str (kS kd) = V.str "change") = decide (kd = .ch) from kinj .ch]
      refine ite2 (fun z => ?_) (fun z => ?_)
      · have hch := of_decide_eq_true z
        have hst0 := hst.frB f2
        refine ⟨_, rfl, sa, rfl, ⟨_, hst0.l⟩, fun D hD => ?_⟩
        refine lc_gen (E := ExB) (walk_list (xs := sts.map V.str)) (B := Pr) IsP (fun i bs => (bs.map Prod.fst).Sublist (sts.take i) ∧ ∀ m ∈ bs, m.1 ∈ sts ∧ m.2 ∈ sts) hD (by rw [List.length_map]; omega) (fun H' f => (hst0.frB f).l) (fun i H x H' y => by rw [y.1]; exact Fr.refl _ _) (Sta.isP' Kps.b) (fun H ys bs r => exB_prs r) ⟨List.Sublist.refl _, by simp⟩ ?_ ?_
        · rintro j x H4 H5 bs Ky Kn hj ⟨hbs, hbm⟩ fr ⟨rfl, hx⟩ hy hk
          obtain ⟨z, hz, rfl⟩ := map_at hx
          have hjl : j < sts.length := (List.getElem?_eq_some_iff.mp hz).1
          have htk : sts.take (j + 1) = sts.take j ++ [z] := by
            rw [List.take_succ_eq_append_getElem hjl, (List.getElem?_eq_some_iff.mp hz).2]
          refine ⟨rfl, _, rfl, b, 4, rfl, (hb.fr f2).fr fr, by decide, by decide, fun H6 d f6 d0 d2 => ⟨_, _, rfl, rfl, _, rfl, ite2 (fun _ => ?_) (fun _ => ?_)⟩⟩
          · refine ⟨_, rfl, _, rfl, _, rfl, of_st H6 _ ((f2.trans fr).trans f6) fun H7 s7 f7 hs7 => ⟨(by show 2 ≤ sizeLine; decide), fun q hq => hy _ _ (z, s7) ((f6.trans f7).new' hq) ⟨q, rfl, upd_same⟩ ⟨?_, fun m hm => ?_⟩⟩⟩
            · rw [htk, List.map_append]; exact List.Sublist.append hbs (List.Sublist.refl _)
            · rcases List.mem_append.mp hm with y | y
              · exact hbm m y
              · have : m = (z, s7) := List.mem_singleton.mp y
                rw [this]; exact ⟨List.mem_of_getElem? hz, hs7⟩
          · exact hk _ f6 ⟨by rw [htk]; exact hbs.trans (List.sublist_append_left _ _), hbm⟩
        · intro H4 ys bs fr hD4 r ⟨hbs, hbm⟩
          rw [List.length_map, List.take_length] at hbs
          have f4 := f2.trans fr
          have hw4 := hw.frB f4
          refine ⟨_, rfl, wa, rfl, ⟨_, hw4.l⟩, fun D2 hD2 => ?_⟩
          refine lc_gen (E := ExB) (walk_list (xs := cols.map V.str)) (B := Str) (fun _ v b => v = .str b) (fun i bs => bs.Sublist (cols.take i)) hD2 (by rw [List.length_map]; omega) (fun H' f => (hw4.frB f).l) (fun i H x H' y => by rw [y.1]; exact Fr.refl _ _) (Sta.eq V.str) (fun H ys bs r => by rw [Paired.str (H := H) r]; exact exB_strs bs) (List.Sublist.refl _) ?_ ?_
          · rintro j x H5 H6 cs Ky Kn hj hcs fr5 ⟨rfl, hx⟩ hy hk
            obtain ⟨z, hz, rfl⟩ := map_at hx
            have hjl : j < cols.length := (List.getElem?_eq_some_iff.mp hz).1
            have htk : cols.take (j + 1) = cols.take j ++ [z] := by
              rw [List.take_succ_eq_append_getElem hjl, (List.getElem?_eq_some_iff.mp hz).2]
            refine ⟨rfl, _, rfl, b, 3, rfl, (hb.fr f4).fr fr5, by decide, by decide, fun H7 d f7 d0 d2 => ⟨_, _, rfl, rfl, _, rfl, ite2 (fun _ => ?_) (fun _ => ?_)⟩⟩
            · exact ⟨_, rfl, hy _ _ z f7 rfl (by rw [htk]; exact List.Sublist.append hcs (List.Sublist.refl _))⟩
            · exact hk _ f7 (by rw [htk]; exact hcs.trans (List.sublist_append_left _ _))
          · intro H5 ys5 cs fr5 hD5 r5 hcs
            have hz := Paired.str (H := H5) r5
            rw [hz] at hD5
            rw [List.length_map, List.take_length] at hcs
            refine ⟨D, D2, ys, bs, cs, rfl, f4.trans fr5, hD5, f4.free hD2, fr5.get hD4 (exB_prs r), IsPs.frB fr5 r, f2.free hD, (fun y => by rw [hch] at y; cases y), (fun _ => ⟨hbm, hbs, hcs⟩), (fun y => by rw [hch] at y; cases y), fun y => absurd hch y⟩
      · exact ⟨ma, oa, ms, ps, [], rfl, f2, ho2, Noa, hm2, hp2, Nma2, hmk, (fun y => absurd (decide_eq_true y) z), hen, fun _ => rfl⟩
    · rintro σ H3 ⟨ma, oa, ms, ps, own, rfl, f3, ho3, No3, hm3, hp3, Nm3, hmk, hch, hen, hno⟩
      have fin : ∀ (wl : Addr) (ws : List Str) (H4 : Hp), Fr ExB H3 H4 → TxL H4 wl ("state" :: ws) → ws.length ≤ 3 → ws = (if kd = .ch then own else cols) →
          tRet (tTup (tCons (tVar 1) (tCons (tVar 2) (tCons (tVar 5) (tCons (tVar 6) (tCons (tCall sp_law_note [] E0 (tCons (tVar 0) (tCons (tVar 9) tNil))) tNil))))))
            { nx := fun _ H' => Q .non H', rt := Q } [some (.ref b), some (.str (kS kd)), some (.str name), some (.ref wa), some (.ref sa), some (.ref ma), some (.ref oa), none, none, some (.ref wl)] H4 := by
        intro wl ws H4 f4 hwl hwsl hwe
        have f04 := f3.trans f4
        refine ⟨_, rfl, _, rfl, _, rfl, _, rfl, _, rfl, _, rfl, b, wl, _, rfl, hb.fr f04, hwl, by rw [List.length_cons]; omega, fun H5 v td f5 hv htd => ⟨(by show 5 ≤ sizeLine; decide), fun q hq => ?_⟩⟩
        have f05 := f04.trans f5
        have f6 : Fr ExB H5 (upd H5 q (.tup [.str (kS kd), .str name, .ref ma, .ref oa, v])) := Fr.new hq
        have f36 := (f4.trans f5).trans f6
        refine k _ _ ⟨kd, name, ps, own, td⟩ (f05.trans f6) ⟨q, ma, oa, v, ms, rfl, upd_same, f36.get hm3 (exB_prs hp3), IsPs.frB f36 hp3, ho3.frB f36, (hv.frB f6).wide (fun a ha => f04.free ha), Nm3, No3⟩ rfl rfl ⟨hmk, hch, hen, hno, ?_⟩
        show ToldOk ("state" :: (if kd = .ch then own else cols)) td
        rw [← hwe]
        exact htd
      refine ⟨(by show 1 ≤ sizeLine; decide), fun l hl => ⟨_, rfl, rfl, _, rfl, ?_⟩⟩
      rw [show decide (V.str (kS kd) = V.str "change") = decide (kd = .ch) from kinj .ch]
      have fl : Fr ExB H3 (upd H3 l (.lst [.str "state"])) := Fr.new hl
      have hll : upd H3 l (.lst [.str "state"]) l = some (.lst [.str "state"]) := upd_same
      have hsz : sizeLine ≥ 1000 := by decide
      refine ite2 (fun z => ?_) (fun z => ?_)
      · have hk := of_decide_eq_true z
        have hol := (hch hk).2.2.length_le
        refine ⟨_, rfl, l, oa, _, _, rfl, rfl, hll, ho3.frB fl, by rw [List.length_map]; show 1 + own.length ≤ sizeLine; omega, fun wl hwl => ?_⟩
        exact fin wl own _ (fl.new' hwl) upd_same (by omega) (by rw [if_pos hk])
      · have hk : ¬ kd = .ch := fun y => z (decide_eq_true y)
        refine ⟨_, rfl, l, wa, _, _, rfl, rfl, hll, (hw.frB f3).frB fl, by rw [List.length_map]; show 1 + cols.length ≤ sizeLine; omega, fun wl hwl => ?_⟩
        exact fin wl cols _ (fl.new' hwl) upd_same (by omega) (by rw [if_neg hk])
end
end Pn
/-! #### W24 -/
namespace Pn
open PySem PySem.Spec PyProof.Rows L2
/-! ### the law's data -/
theorem TxL.upd {H : Hp} {a f : Addr} {xs : List Str} {o : HO} (h : TxL H a xs) (n : a ≠ f) : TxL (upd H f o) a xs := by
  show L2.upd H f o a = _
  rw [upd_ne n]; exact h
theorem LnAt.upd {N : Addr → Prop} {H : Hp} {v : V} {t : Told} {f : Addr} {ys : List V} {o : HO} (h : LnAt N H v t) (e : H f = some (.lst ys)) (n : ¬ N f) : LnAt N (upd H f o) v t := by
  cases t with
  | none => exact h
  | some x =>
    obtain ⟨ol, nl, a, c⟩ := x
    obtain ⟨q, oa, na, rfl, h1, h2, h3, h4, h5⟩ := h
    exact ⟨q, oa, na, rfl, by rw [upd_ne (ne_of h1 e (by intro z; cases z))]; exact h1, h2.upd (fun z => n (z ▸ h4)), h3.upd (fun z => n (z ▸ h5)), h4, h5⟩
theorem LdAt.upd {N : Addr → Prop} {H : Hp} {v : V} {d : Ld} {f : Addr} {ys : List V} {o : HO} (h : LdAt N H v d) (e : H f = some (.lst ys)) (n : ¬ N f) : LdAt N (upd H f o) v d := by
  obtain ⟨q, ma, oa, nv, ms, rfl, h1, h2, h3, h4, h5, h6, h7⟩ := h
  exact ⟨q, ma, oa, nv, ms, rfl, by rw [upd_ne (ne_of h1 e (by intro z; cases z))]; exact h1, by rw [upd_ne (fun z : ma = f => n (by rw [← z]; exact h6))]; exact h2, IsPs.at e (by intro xs z; cases z) h3, h4.upd (fun z => n (z ▸ h7)), h5.upd e n, h6, h7⟩
theorem exB_lds {N : Addr → Prop} {q : Addr} {H : Hp} {vs : List V} {ds : List Ld} (h : Paired (LdAt N H) vs ds) : ¬ ExB q (.lst vs) := fun z => by
  obtain ⟨i, j, z⟩ := z
  cases z
  cases h with
  | cons h1 _ => obtain ⟨q, _, _, _, _, e, _⟩ := h1; cases e
/-- drawn data -/
def LDat (H : Hp) (v : V) (cols : List Str) (ds : List Ld) (kv : V) : Prop := ∃ q wa fa vs, v = .ref q ∧ H q = some (.tup [.ref wa, .ref fa, kv]) ∧ TxL H wa cols ∧ H fa = some (.lst vs) ∧ Paired (LdAt (fun _ => True) H) vs ds
theorem LDat.frB {H H' : Hp} {v kv : V} {cols : List Str} {ds : List Ld} (f : Fr ExB H H') (h : LDat H v cols ds kv) : LDat H' v cols ds kv := by
  obtain ⟨q, wa, fa, vs, rfl, h1, h2, h3, h4⟩ := h
  exact ⟨q, wa, fa, vs, rfl, f.get h1 (Kps.b.tup _ _), h2.frB f, f.get h3 (exB_lds h4), Paired.mono (fun _ _ z => LdAt.frB f z) h4⟩
structure LOk (cols : List Str) (ds : List Ld) (kv : V) : Prop where
  cnm : ∀ x ∈ cols, Nm x ∧ x ∉ (["state", "row", "deed"] : List Str)
  cnd : cols.Nodup
  cfew : cols.length ≤ 2
  dnm : ∀ d ∈ ds, Nm d.name
  dnd : (ds.map Ld.name).Nodup
  dfew : ds.length ≤ 7
  st : ∃ sts : List Str, sts.length ≤ 3 ∧ (∀ x ∈ sts, Nm x) ∧ sts.Nodup ∧ ∀ d ∈ ds, LdOk cols sts d
  keep : KeepOk kv
section
variable {P : Program} {w : World} {K : PySem.W.Frag} {mg : Str → Option Value} {base : Heap} {tP : Addr}
def sp_law_data : Sp := fun vs H Q _ => ∃ b : Addr, vs = [.ref b, .int 2, .int 3, .int 7] ∧ BagAt H b ∧ ∀ H' v cols ds kv, Fr ExB H H' → LDat H' v cols ds kv → LOk cols ds kv → Q v H'
set_option maxHeartbeats 8000000 in
theorem ok_law_data (T : Tl P K mg base tP) : Kf P w K mg base 5 "_law_data" p_law_data sp_law_data := by
  refine Kf.of T.data sc_law_data ((fun _ _ _ _ _ _ us hl => match us, hl with | [_, _, _, _], _ => rfl)) (fun vs H Q E ⟨_, e, _⟩ => by rw [e]; rfl) fun f cdv A outer s H vs Q E hr ⟨b, e, hb, k⟩ => ?_
  subst e
  have B := T.tj.ti.th.tg.tf.tb.te.td.tc.tw.bt
  have c_law_take := ok_law_take (P := P) (w := w) T
  have c_law_of := ok_law_of (P := P) (w := w) T
  have c_law_names := ok_law_names (P := P) (w := w) T
  have c_law_deed := ok_law_deed (P := P) (w := w) T
  refine ⟨_, (pss_cons (sset 4 sc_law_data.nd (pe_k c_law_names hr (by decide) rfl (pa_cons (pv 0) (pa_cons (pe_k c_law_take hr (by decide) rfl (pa_cons (pv 0) (pa_cons (pe_op op_add (pv 1) pe_int) pa_nil))) (pa_cons (pe_lst (pa_cons pe_str (pa_cons pe_str (pa_cons pe_str pa_nil)))) pa_nil))))) (pss_cons (sset 5 sc_law_data.nd (pe_k c_law_names hr (by decide) rfl (pa_cons (pv 0) (pa_cons (pe_op op_add pe_int (pe_k c_law_take hr (by decide) rfl (pa_cons (pv 0) (pa_cons (pv 2) pa_nil)))) (pa_cons (pe_lst pa_nil) pa_nil))))) (pss_cons (sset 6 sc_law_data.nd (pe_lst pa_nil)) (pss_cons (ps_for PassesOwn.never rfl (pi_enum rfl B.enumerate (pa_cons (pe_k c_law_names hr (by decide) rfl (pa_cons (pv 0) (pa_cons (pe_op op_add pe_int (pe_k c_law_take hr (by decide) rfl (pa_cons (pv 0) (pa_cons (pe_op op_sub (pv 3) pe_int) pa_nil)))) (pa_cons (pe_lst pa_nil) pa_nil)))) pa_nil)) (pg_tupK K (n := 2) rfl (pgs_cons (gnm 7 sc_law_data.nd) (pgs_cons (gnm 8 sc_law_data.nd) pgs_nil))) (pss_cons (sset 9 sc_law_data.nd (pe_ifExp (pt_cmpR op_lt (pv 7) pe_int (nomark _)) (pe_ix (ix_listK K) (pe_lst (pa_cons pe_str (pa_cons pe_str (pa_cons pe_str pa_nil)))) (pv 7) (fun _ _ => rfl)) (pe_k c_law_of hr (by decide) rfl (pa_cons (pv 0) (pa_cons (pe_lst (pa_cons pe_str (pa_cons pe_str (pa_cons pe_str (pa_cons pe_str pa_nil))))) pa_nil))))) (pss_one (ps_expr (pe_bm PySem.F.plainAttrs_list PySem.F.slot_list_append PySem.F.type_list_append mt_append (pv 6) (pa_cons (pe_k c_law_deed hr (by decide) rfl (pa_cons (pv 0) (pa_cons (pv 9) (pa_cons (pv 8) (pa_cons (pv 4) (pa_cons (pv 5) pa_nil)))))) pa_nil)))))) (pss_one (ps_ret (pe_tup (pa_cons (pv 4) (pa_cons (pv 6) (pa_cons (pe_k c_law_of hr (by decide) rfl (pa_cons (pv 0) (pa_cons (pe_lst (pa_cons pe_non (pa_cons pe_non (pa_cons pe_int (pa_cons pe_int (pa_cons pe_int pa_nil)))))) pa_nil))) pa_nil)))))))))), ?_⟩
  -- words
  refine ⟨_, rfl, _, rfl, _, rfl, _, _, rfl, rfl, b, _, rfl, hb, by decide, by decide, fun H1 d1 f1 a1 b1 => ⟨(by show 3 ≤ sizeLine; decide), fun l1 hl1 => ?_⟩⟩
  obtain ⟨n1, rfl⟩ : ∃ n : Nat, d1 = n := ⟨d1.toNat, by omega⟩
  have f2 : Fr ExB H (upd H1 l1 (.lst [.str "state", .str "row", .str "deed"])) := f1.new' hl1
  refine ⟨b, l1, n1, ["state", "row", "deed"], rfl, hb.fr f2, by have : (n1 : Int) < 2 + 1 := b1; omega, upd_same, by decide, fun H3 wa cols f3 hwa0 hwa cnd cl cnm => ?_⟩
  have f03 := f2.trans f3
  -- marks
  refine ⟨_, rfl, _, rfl, _, rfl, b, 3, rfl, hb.fr f03, by decide, by decide, fun H4 d2 f4 a2 b2 => ⟨_, _, rfl, rfl, Nat.zero_le _, fun l2 hl2 => ?_⟩⟩
  obtain ⟨n2, rfl⟩ : ∃ n : Nat, d2 = n := ⟨d2.toNat, by omega⟩
  have f5 : Fr ExB H (upd H4 l2 (.lst [])) := (f03.trans f4).new' hl2
  have b2' : (n2 : Int) < 3 := b2
  refine ⟨b, l2, n2 + 1, [], by show [V.ref b, V.int (1 + (n2 : Int)), V.ref l2] ++ [] = _; rw [List.append_nil]; push_cast; rw [Int.add_comm], hb.fr f5, by omega, upd_same, by decide, fun H6 sa sts f6 hsa0 hsa snd sl snm => ?_⟩
  have f06 := f5.trans f6
  refine ⟨Nat.zero_le _, fun fd hfd => ?_⟩
  have hfdH : H fd = none := f06.free hfd
  have f7 : Fr ExB H6 (upd H6 fd (.lst [])) := Fr.new hfd
  have hfd7 : upd H6 fd (.lst []) fd = some (.lst []) := upd_same
  have wa7 := (((hwa.frB f4).frB (Fr.new (E := ExB) hl2)).frB f6).frB f7
  have sa7 := hsa.frB f7
  have f07 := f06.trans f7
  show tSeq _ _ _ _ (upd H6 fd (.lst []))
  generalize upd H6 fd (.lst []) = Hb at f7 hfd7 wa7 sa7 f07
  refine ⟨_, rfl, _, rfl, _, rfl, _, _, rfl, rfl, b, _, rfl, hb.fr f07, by decide, by decide, fun H8 d3 f8 a3 b3 => ⟨_, _, rfl, rfl, Nat.zero_le _, fun l3 hl3 => ?_⟩⟩
  obtain ⟨n3, rfl⟩ : ∃ n : Nat, d3 = n := ⟨d3.toNat, by omega⟩
  have b3' : (n3 : Int) < 7 - 2 := b3
  have f9 : Fr ExB Hb (upd H8 l3 (.lst [])) := f8.new' hl3
  refine ⟨b, l3, n3 + 3, [], by show [V.ref b, V.int (3 + (n3 : Int)), V.ref l3] ++ [] = _; rw [List.append_nil, show ((n3 + 3 : Nat) : Int) = 3 + (n3 : Int) from by omega], hb.fr (f07.trans f9), by omega, upd_same, by decide, fun H10 r3 ns f10 hr30 hr3 nsnd nsl nsnm => ?_⟩
  have fb10 := f9.trans f10
  let N : Addr → Prop := fun a => Hb a = none
  have nfd : ¬ N fd := fun z => by
    have z : Hb fd = none := z
    rw [hfd7] at z; cases z
  have hfd10 : H10 fd = some (.lst []) := fb10.get hfd7 fun z => by obtain ⟨_, _, z⟩ := z; cases z
  have nrf : r3 ≠ fd := fun z => by
    have : upd H8 l3 (.lst []) fd = some (.lst []) := f9.get hfd7 fun z => by obtain ⟨_, _, z⟩ := z; cases z
    rw [z, this] at hr30; cases hr30
  have nwf : wa ≠ fd := fun z => by
    have h : TxL H6 wa cols := ((hwa.frB f4).frB (Fr.new (E := ExB) hl2)).frB f6
    rw [z] at h
    have h : H6 fd = some _ := h
    rw [hfd] at h; cases h
  have nsf : sa ≠ fd := fun z => by
    have h := hsa
    rw [z] at h
    have h : H6 fd = some _ := h
    rw [hfd] at h; cases h
  let Pv : Nat → L2.St → Hp → Prop := fun i σ H' => (∃ o7 o8 o9, σ = [some (.ref b), some (.int 2), some (.int 3), some (.int 7), some (.ref wa), some (.ref sa), some (.ref fd), o7, o8, o9]) ∧ Fr ExB H H' ∧ (∀ a, H' a = none → N a) ∧ TxL H' wa cols ∧ TxL H' sa sts ∧ TxL H' r3 ns ∧ ∃ vs ds, H' fd = some (.lst vs) ∧ Paired (LdAt N H') vs ds ∧ ds.map Ld.name = ns.take i ∧ ∀ d ∈ ds, LdOk cols sts d
  refine ⟨r3, ns.map V.str, rfl, hr3.l, for_it (walk_enum (xs := ns.map V.str)) Pv ⟨⟨_, _, _, rfl⟩, f07.trans fb10, fun a ha => fb10.free ha, wa7.frB fb10, sa7.frB fb10, hr3, [], [], hfd10, .nil, rfl, by simp⟩ (fun i σ H' _ p => p.2.2.2.2.2.1.l) ?_ ?_⟩
  · rintro i x σ H11 H12 hi ⟨⟨o7, o8, o9, rfl⟩, f11, hN, hw11, hs11, hr11, vs, ds, hv11, hd11, hnm, hok⟩ ⟨t, x1, y, rfl, ht, rfl, ex, ey⟩
    cases ex
    obtain ⟨z, hz, rfl⟩ := map_at ey
    have hil : i < ns.length := (List.getElem?_eq_some_iff.mp hz).1
    have htk : ns.take (i + 1) = ns.take i ++ [z] := by
      rw [List.take_succ_eq_append_getElem hil, (List.getElem?_eq_some_iff.mp hz).2]
    have ft : Fr ExB H11 (upd H11 t (.tup [.int (i : Nat), .str z])) := Fr.new ht
    have ht12 : upd H11 t (.tup [.int (i : Nat), .str z]) t = some (.tup [.int (i : Nat), .str z]) := upd_same
    revert ft ht12
    generalize upd H11 t (.tup [.int (i : Nat), .str z]) = H12
    intro ft ht12
    refine ⟨t, _, rfl, .inl (.inl ht12), rfl, _, _, rfl, _, _, rfl, rfl, ?_⟩
    have hdl : ds.length = i := by
      have := congrArg List.length hnm
      rw [List.length_map, List.length_take] at this
      omega
    -- with the kind: the deed, and it is put
    have tail : ∀ (H13 : Hp) (kd : Kd) (D : Ends), Fr ExB H12 H13 → (∀ σ H', Pv (i + 1) σ H' → D.nx σ H') → tDrop (tBM K "list" rAppend (tVar 6) (tCons (tCall sp_law_deed [] E0 (tCons (tVar 0) (tCons (tVar 9) (tCons (tVar 8) (tCons (tVar 4) (tCons (tVar 5) tNil)))))) tNil))
        D [some (.ref b), some (.int 2), some (.int 3), some (.int 7), some (.ref wa), some (.ref sa), some (.ref fd), some (.int (i : Nat)), some (.str z), some (.str (kS kd))] H13 := by
      intro H13 kd D f13 hD
      have f1113 := ft.trans f13
      have hv13 := f1113.get hv11 (exB_lds hd11)
      refine ⟨_, rfl, .inl ⟨rfl, _, .inl (.inl hv13)⟩, _, rfl, _, rfl, _, rfl, _, rfl, _, rfl, b, wa, sa, kd, z, cols, sts, rfl, hb.fr (f11.trans f1113), hw11.frB f1113, hs11.frB f1113, by omega, by omega, by omega, fun H14 v d f14 hd hdk hdn hdo => ?_⟩
      have fA := f1113.trans f14
      have hv14 := f14.get hv13 (exB_lds (Paired.mono (fun _ _ y => LdAt.frB f1113 y) hd11))
      have hd14 : Paired (LdAt N H14) vs ds := Paired.mono (fun _ _ y => LdAt.frB fA y) hd11
      have hdN : LdAt N H14 v d := hd.wide fun a ha => hN a (f1113.free ha)
      have hvl : vs.length = ds.length := Paired.length hd11
      refine ⟨fd, vs, _, rfl, rfl, hv14, small1000 (by omega), hD _ _ ⟨⟨_, _, _, rfl⟩, (f11.trans fA).put hfdH, fun a ha => ?_, (hw11.frB fA).upd nwf, (hs11.frB fA).upd nsf, (hr11.frB fA).upd nrf, vs ++ [v], ds ++ [d], upd_same, ?_, ?_, fun e he => ?_⟩⟩
      · by_cases y : a = fd
        · rw [y, upd_same] at ha; cases ha
        · rw [upd_ne y] at ha; exact hN a (fA.free ha)
      · exact Paired.mono (fun _ _ y => LdAt.upd y hv14 nfd) (Paired.app hd14 (.cons hdN .nil))
      · rw [List.map_append, hnm, htk, List.map_cons, List.map_nil, hdn]
      · rcases List.mem_append.mp he with y | y
        · exact hok e y
        · have : e = d := List.mem_singleton.mp y
          rw [this]; exact hdo
    refine ⟨_, rfl, _, _, rfl, rfl, _, rfl, ite2 (fun y => ?_) (fun _ => ?_)⟩
    · have hi3 : i < 3 := by have := of_decide_eq_true y; omega
      refine ⟨(by show 3 ≤ sizeLine; decide), fun l hl => ?_⟩
      obtain ⟨kd, hkd⟩ : ∃ kd : Kd, ([V.str "make", V.str "change", V.str "end"] : List V)[i]? = some (.str (kS kd)) := by
        match i, hi3 with
        | 0, _ => exact ⟨.mk, rfl⟩
        | 1, _ => exact ⟨.ch, rfl⟩
        | 2, _ => exact ⟨.en, rfl⟩
      exact ⟨_, rfl, l, _, i, _, rfl, rfl, .inl (.inl upd_same), atI_nat hkd, tail _ kd _ (Fr.new hl) fun _ _ h => h⟩
    · refine ⟨_, rfl, (by show 4 ≤ sizeLine; decide), fun l hl => ?_⟩
      refine ⟨b, l, _, rfl, ((hb.fr f11).fr ft).fr (Fr.new hl), upd_same, (fun i j z => by cases z), by show 1 ≤ 4; decide, by show 4 ≤ 1000; decide, fun H13 x f13 hx => ?_⟩
      obtain ⟨kd, rfl⟩ : ∃ kd : Kd, x = .str (kS kd) := by
        have hx : x ∈ [V.str "change", .str "change", .str "end", .str "make"] := hx
        simp only [List.mem_cons, List.not_mem_nil, or_false] at hx
        rcases hx with rfl | rfl | rfl | rfl
        · exact ⟨.ch, rfl⟩
        · exact ⟨.ch, rfl⟩
        · exact ⟨.en, rfl⟩
        · exact ⟨.mk, rfl⟩
      exact tail _ kd _ ((Fr.new hl).trans f13) fun _ _ h => h
  · rintro σ H11 ⟨⟨o7, o8, o9, rfl⟩, f11, hN, hw11, hs11, hr11, vs, ds, hv11, hd11, hnm, hok⟩
    rw [List.length_map, List.take_length] at hnm
    refine ⟨_, rfl, _, rfl, _, rfl, (by show 5 ≤ sizeLine; decide), fun l hl => ?_⟩
    refine ⟨b, l, _, rfl, (hb.fr f11).fr (Fr.new hl), upd_same, (fun i j z => by cases z), by show 1 ≤ 5; decide, by show 5 ≤ 1000; decide, fun H13 kv f13 hx => ⟨(by show 3 ≤ sizeLine; decide), fun q hq => ?_⟩⟩
    have fl : Fr ExB H11 (upd H11 l (.lst [.non, .non, .int 1, .int 2, .int 3])) := Fr.new hl
    have fq : Fr ExB H13 (upd H13 q (.tup [.ref wa, .ref fd, kv])) := Fr.new hq
    have fA := (fl.trans f13).trans fq
    have hdl : ds.length = ns.length := by
      have := congrArg List.length hnm
      rw [List.length_map] at this
      exact this
    refine k _ _ cols ds kv (f11.trans fA) ⟨q, wa, fd, vs, rfl, upd_same, hw11.frB fA, fA.get hv11 (exB_lds hd11), Paired.mono (fun _ _ y => (LdAt.frB fA y).wide fun _ _ => trivial) hd11⟩ ⟨cnm, cnd, by omega, fun d hd => ?_, by rw [hnm]; exact nsnd, by omega, ⟨sts, by omega, fun x hx => (snm x hx).1, snd, hok⟩, ?_⟩
    · have : d.name ∈ ns := by rw [← hnm]; exact List.mem_map.mpr ⟨d, hd, rfl⟩
      exact (nsnm _ this).1
    · have hx : kv ∈ [V.non, .non, .int 1, .int 2, .int 3] := hx
      simp only [List.mem_cons, List.not_mem_nil, or_false] at hx
      rcases hx with rfl | rfl | rfl | rfl | rfl
      · exact .inl rfl
      · exact .inl rfl
      · exact .inr ⟨1, rfl, by decide, by decide⟩
      · exact .inr ⟨2, rfl, by decide, by decide⟩
      · exact .inr ⟨3, rfl, by decide, by decide⟩
end
end Pn
/-! #### W25 -/
namespace Pn
open PySem PySem.Spec PyProof.Rows L2
/-! ### notes and deeds of rows -/
def WsOf : Told → Ws → Prop
  | none, ws => ws = none
  | some (o, n, _, _), ws => ∃ ys zs, ws = some (ys, zs) ∧ Sorted ys o ∧ Sorted zs n
def TwOk (t : Told) : Prop := ∀ o n a c, t = some (o, n, a, c) → ((∀ x ∈ o, Nm x) ∧ o.Nodup ∧ o.length ≤ 4) ∧ (∀ x ∈ n, Nm x) ∧ n.Nodup ∧ n.length ≤ 4
section
variable {P : Program} {w : World} {K : PySem.W.Frag} {mg : Str → Option Value} {base : Heap} {tP : Addr}
def sp_law_note_of (K : PySem.W.Frag) : Sp := fun vs H Q _ => ∃ (v : V) (N : Addr → Prop) (t : Told), vs = [v] ∧ LnAt N H v t ∧ TwOk t ∧ ∀ H' nv ws, Same H H' → NoteAt K H' nv ws → WsOf t ws → Q nv H'
theorem ok_law_note_of (T : Tl P K mg base tP) : Kf P w K mg base 6 "_law_note_of" p_law_note_of (sp_law_note_of K) := by
  refine Kf.of T.note_of sc_law_note_of ((fun _ _ _ _ _ _ us hl => match us, hl with | [_], _ => rfl)) (fun vs H Q E ⟨_, _, _, e, _⟩ => by rw [e]; rfl) fun f cdv A outer s H vs Q E hr ⟨v, N, t, e, hv, hok, k⟩ => ?_
  subst e
  have TC := T.tj.ti.th.tg.tf.tb.te.td.tc
  have B := TC.tw.bt
  obtain ⟨fn, fdn, Mn, Fn, bn⟩ := ok_note_init (P := P) (w := w) (base := base) TC
  refine ⟨_, (pss_cons (ps_if (pt_cmpR op_isN (pv 0) pe_non (nomark _)) (pss_one (ps_ret pe_non)) pss_nil) (pss_one (ps_ret (pe_makeK0 Mn Fn (hr.mono (by decide)) rfl TC.note.g bn pass0 (pk_cons (cT call_list_of B.list bb_list (pa_cons (pe_ix (ix_tupK K) (pv 0) pe_int (fun _ _ => rfl)) pa_nil)) (pk_cons (cT call_list_of B.list bb_list (pa_cons (pe_ix (ix_tupK K) (pv 0) pe_int (fun _ _ => rfl)) pa_nil)) (pk_cons (pe_ix (ix_tupK K) (pv 0) pe_int (fun _ _ => rfl)) (pk_cons (pe_ix (ix_tupK K) (pv 0) pe_int (fun _ _ => rfl)) pk_nil)))))))), ?_⟩
  cases t with
  | none =>
    have hv : v = .non := hv
    subst hv
    refine ⟨_, rfl, rfl, _, rfl, ?_⟩
    rw [decide_eq_true rfl]
    exact iteT (k H .non none (Same.refl _) rfl rfl)
  | some x =>
    obtain ⟨o, n, a, c⟩ := x
    obtain ⟨q, oa, na, rfl, h1, h2, h3, _, _⟩ := hv
    obtain ⟨⟨on_, ond, ol⟩, nn_, nnd, nl⟩ := hok o n a c rfl
    refine ⟨_, rfl, rfl, _, rfl, ?_⟩
    rw [decide_eq_false (by intro z; cases z)]
    refine iteF ?_
    refine ⟨_, rfl, q, _, 0, _, rfl, rfl, .inl (.inl h1), rfl, oa, _, rfl, .inl h2.l, fun l1 hl1 => ?_⟩
    have s1 : Same H (upd H l1 (.lst (o.map V.str))) := (Fr.new (E := Ex0) hl1).same
    have g1 : TxL (upd H l1 (.lst (o.map V.str))) l1 o := upd_same
    revert s1 g1
    generalize upd H l1 (.lst (o.map V.str)) = H1
    intro s1 g1
    refine ⟨_, rfl, q, _, 1, _, rfl, rfl, .inl (.inl (s1 _ _ h1)), rfl, na, _, rfl, .inl (h3.same s1).l, fun l2 hl2 => ?_⟩
    have s2 : Same H1 (upd H1 l2 (.lst (n.map V.str))) := (Fr.new (E := Ex0) hl2).same
    have g2 : TxL (upd H1 l2 (.lst (n.map V.str))) l2 n := upd_same
    revert s2 g2
    generalize upd H1 l2 (.lst (n.map V.str)) = H2
    intro s2 g2
    have s02 := s1.trans s2
    refine ⟨_, rfl, q, _, 2, _, rfl, rfl, .inl (.inl (s02 _ _ h1)), rfl, _, rfl, q, _, 3, _, rfl, rfl, .inl (.inl (s02 _ _ h1)), rfl, rfl, rfl, fun x dx hx hdx hne => ?_⟩
    have s3 : Same H2 (upd (upd H2 dx (.own x)) x (.ins (cA K "Note") dx [])) := (((Fr.refl Ex0 H2).put hdx).put hx).same
    refine ⟨H2, x, dx, l1, l2, a, c, o, n, rfl, s3, hx, upd_same, (g1.same s2).same s3, on_, ond, ol, g2.same s3, nn_, nnd, nl, fun H' ys zs s4 hy hz hn => ⟨rfl, k H' _ _ (s02.trans s4) hn ⟨ys, zs, rfl, hy, hz⟩⟩⟩
end
end Pn
/-! #### W26 -/
namespace Pn
open PySem PySem.Spec PyProof.Rows L2
/-! ### the deed of a row -/
section
variable {X : Cx} {C f : Addr} {k : Nat} {ks : List Str} {sp : List V → List V → Hp → VK → Prop}
/-- C(a, .., k = v ..), C by its name -/
theorem pe_makeG0 {x : Str} {p pos : Pos} {e : Expr} {es : List Expr} {kws : List Keyword} {t tk : TA} (M : Mk X.K C f) (F : FnG X.prog X.w X.K X.mg X.base k f ks sp) (hr : Room (k + 1) X.A) (hg : Gl X x) (hm : X.mg x = some (.ref C))
    (ha : PA X (e :: es) t) (hkw : PK X kws tk) (hall : (backToKw pos (keywordEach kws X.env)).all (·.1.isSome) = true := by rfl) (hks : (backToKw pos (keywordEach kws X.env)).filterMap (·.1) = ks := by rfl) (hdb : (x == ("__debug__" : Str)) = false := by decide)
    (he : starEach (e :: es) X.env = (false, eval e X.env) :: starEach es X.env := by rfl) (hpl : ((backTo pos (starEach (e :: es) X.env)).any (·.1) || (backToKw pos (keywordEach kws X.env)).any (·.1.isNone)) = false := by rfl) :
    PE X (.Call (.Name x p) (e :: es) kws pos) (tMakeG C sp ks.length (tC (.ref C)) t tk) := by
  refine ⟨fun pins s σ H Q I h => ?_⟩
  obtain ⟨_, q0⟩ := h
  refine wpAny_Call_Name_kw (ld_glob I hg hm ?_ hdb)
  refine PySem.W.callWith_KW (h₀ := X.base) I.ok.mod.kin M.kp hall (thn (ha.run pos pins s σ H _ I q0) fun us s1 ⟨vs, H1, I1, r, q⟩ => ?_) hpl he
  refine thn (hkw.run pos pins s1 σ H1 _ I1 q) fun ws s2 ⟨zs, H2, I2, rz, l2, q2⟩ => ⟨I2.kIn, ?_⟩
  rw [hks]
  exact run_makeG M F hr I2 r rz l2 q2
end
theorem kS_dec (a j : Kd) : decide (V.str (kS a) = V.str (kS j)) = decide (a = j) := by
  rw [decide_eq_decide]
  refine ⟨fun h => ?_, fun h => by rw [h]⟩
  have h := V.str.inj h
  cases a <;> cases j <;> first | rfl | exact absurd h (by decide)
/-- what a row's deed is -/
structure DdOf (d : Ld) (e : Dd) : Prop where
  kd : e.kd = d.kd
  name : e.name = d.name
  moves : e.moves.Perm d.moves
  cols : e.cols.Perm d.own
  ws : WsOf d.told e.words
section
variable {P : Program} {w : World} {K : PySem.W.Frag} {mg : Str → Option Value} {base : Heap} {tP : Addr}
def sp_law_deed_of (K : PySem.W.Frag) : Sp := fun vs H Q _ => ∃ (v : V) (N : Addr → Prop) (d : Ld) (cols sts : List Str), vs = [v] ∧ LdAt N H v d ∧ LdOk cols sts d ∧ Nm d.name ∧ (∀ x ∈ cols, Nm x) ∧ cols.Nodup ∧ cols.length ≤ 3 ∧ (∀ x ∈ sts, Nm x) ∧ sts.Nodup ∧ sts.length ≤ 4 ∧ TwOk d.told ∧
  ∀ H' u e, Same H H' → DeedAt K H' u e → DdOf d e → Q u H'
set_option maxHeartbeats 8000000 in
theorem ok_law_deed_of (T : Tl P K mg base tP) : Kf P w K mg base 8 "_law_deed_of" p_law_deed_of (sp_law_deed_of K) := by
  refine Kf.of T.deed_of sc_law_deed_of ((fun _ _ _ _ _ _ us hl => match us, hl with | [_], _ => rfl)) (fun vs H Q E ⟨_, _, _, _, _, e, _⟩ => by rw [e]; rfl) fun f cdv A outer s H vs Q E hr ⟨v, N, d, cols, sts, e, hv, hok, hnm, hcn, hcd, hcl, hsn, hsd, hsl, htw, k⟩ => ?_
  subst e
  have TE := T.tj.ti.th.tg.tf.tb.te
  have TC := TE.td.tc
  have B := TC.tw.bt
  have c_law_note_of := ok_law_note_of (P := P) (w := w) T
  have c_end_of := ok_end_of (P := P) (w := w) (base := base) TE
  have c_change_of := ok_change_of (P := P) (w := w) (base := base) TE
  obtain ⟨fm, Mm, Fm⟩ := ok_make_init (P := P) (w := w) (base := base) TE.td
  refine ⟨_, (pss_cons (ps_asg (pv 0) (pg_tupK K (n := 5) rfl (pgs_cons (gnm 1 sc_law_deed_of.nd) (pgs_cons (gnm 2 sc_law_deed_of.nd) (pgs_cons (gnm 3 sc_law_deed_of.nd) (pgs_cons (gnm 4 sc_law_deed_of.nd) (pgs_cons (gnm 5 sc_law_deed_of.nd) pgs_nil))))))) (pss_cons (ps_if (pt_cmpR op_eq (pv 1) pe_str (nomark _)) (pss_one (ps_ret (pe_makeG0 Mm Fm (hr.mono (by decide)) rfl TC.make.g (pa_cons (pv 2) (pa_cons (pe_ix (ix_tupK K) (pe_ix (ix_listK K) (pv 3) pe_int (fun _ _ => rfl)) pe_int (fun _ _ => rfl)) pa_nil)) (pk_cons (pe_k c_law_note_of hr (by decide) rfl (pa_cons (pv 5) pa_nil)) pk_nil)))) pss_nil) (pss_cons (ps_if (pt_cmpR op_eq (pv 1) pe_str (nomark _)) (pss_one (ps_ret (pe_cm c_end_of hr (by decide) (pe_own TC.end_.v) (pa_cons (pv 2) (pa_cons (pe_lc (own := [("_law_move", 6)]) rfl sc_law_deed_of.nd (pi_listK K (pv 3)) (blkOk_by (N := n_law_deed_of) (sc := defScope s_law_deed_of) (by decide +kernel)) (fun _ _ _ _ _ => (gnm 6 sc_law_deed_of.nd)) (fun _ _ _ _ _ => pts_nil) (fun _ _ _ _ _ => (pe_ix (ix_tupK K) (pv 6) pe_int (fun _ _ => rfl)))) pa_nil)) (pk_cons (pe_k c_law_note_of hr (by decide) rfl (pa_cons (pv 5) pa_nil)) pk_nil)))) pss_nil) (pss_one (ps_ret (pe_cm c_change_of hr (by decide) (pe_own TC.change.v) (pa_cons (pv 2) (pa_cons (cT call_list_of B.list bb_list (pa_cons (pv 3) pa_nil)) pa_nil)) (pk_cons (cT call_list_of B.list bb_list (pa_cons (pv 4) pa_nil)) (pk_cons (pe_k c_law_note_of hr (by decide) rfl (pa_cons (pv 5) pa_nil)) pk_nil)))))))), ?_⟩
  obtain ⟨kd, name, moves, own, told⟩ := d
  obtain ⟨q, ma, oa, nv, ms, rfl, h1, h2, h3, h4, h5, _, _⟩ := hv
  refine ⟨_, rfl, q, _, rfl, .inl (.inl h1), rfl, _, _, rfl, _, _, rfl, _, _, rfl, _, _, rfl, _, _, rfl, rfl, ?_⟩
  refine ⟨_, rfl, rfl, _, rfl, ?_⟩
  rw [show decide (V.str (kS kd) = V.str "make") = decide (kd = .mk) from kS_dec kd .mk]
  have hmsl : ms.length = moves.length := Paired.length h3
  cases kd with
  | mk =>
    obtain ⟨s1, hs1, hmv⟩ := hok.make rfl
    have hmv : moves = [(("" : Str), s1)] := hmv
    subst hmv
    obtain ⟨u, rfl, a, rfl, ha⟩ : ∃ u, ms = [u] ∧ IsP H u (("" : Str), s1) := by
      cases h3 with
      | cons h t => cases t; exact ⟨_, rfl, h⟩
    refine iteT ⟨rfl, _, rfl, _, rfl, ma, _, 0, _, rfl, rfl, .inl (.inl h2), rfl, a, _, 1, _, rfl, rfl, .inl (.inl ha), at1 _, _, rfl, nv, N, told, rfl, h5, htw, fun H1 nn ws s1' hnn hws => ⟨rfl, fun x dx hx hdx hne => ?_⟩⟩
    have s2 : Same H1 (upd (upd H1 dx (.own x)) x (.ins (Kd.mk.cls K) dx [])) := (((Fr.refl Ex0 H1).put hdx).put hx).same
    have hown : own = [] := hok.own (by intro z; cases z)
    exact ⟨H1, x, dx, name, s1, nn, ws, rfl, rfl, s2, hx, upd_same, hnm, hsn s1 hs1, hnn.fr .e0 (Fr.of s2), fun H' sH hd => ⟨rfl, k _ _ _ (s1'.trans sH) hd ⟨rfl, rfl, .refl _, by show ([] : List Str).Perm own; rw [hown], hws⟩⟩⟩
  | en =>
    rw [show decide (Kd.en = Kd.mk) = false from rfl]
    refine iteF ⟨_, rfl, rfl, _, rfl, ?_⟩
    rw [show decide (V.str (kS .en) = V.str "end") = true from kS_dec .en .en]
    obtain ⟨hm1, hm2⟩ := hok.end_ rfl
    refine iteT ⟨rfl, _, rfl, _, rfl, ma, rfl, ⟨ms, .inl (.inl h2)⟩, fun D hD => ?_⟩
    refine lc_map (E := Ex0) (walk_list (xs := ms)) (B := Str) moves (fun _ => true) Prod.fst (fun _ v b => v = .str b) hmsl.symm hD (by have := hm2.length_le; rw [List.length_map] at this; have : moves.length ≤ sts.length := this; omega) (fun H' f => .inl (.inl (f.same _ _ h2))) (fun i H x H' y => by rw [y.1]; exact Fr.refl _ _) (Sta.eq V.str) (fun _ _ _ _ z => z) ?_ ?_
    · rintro i x H1 H2 a Ky Kn ha fr ⟨rfl, hx⟩ hy hk
      obtain ⟨u, rfl, hu⟩ := Paired.at h3 hx ha
      exact ⟨rfl, yes_of ⟨_, rfl, u, _, 0, _, rfl, rfl, .inl (.inl (fr.same _ _ hu)), at0 a, hy _ _ rfl (Fr.refl _ _) rfl⟩⟩
    · intro H1 ys fr hD1 r
      have hz := Paired.mapEq (f := V.str) r
      rw [List.filter_eq_self.mpr (fun _ _ => rfl)] at hz
      rw [hz] at hD1
      have hown : own = [] := hok.own (by intro z; cases z)
      have hm2 : (moves.map Prod.fst).Sublist sts := hm2
      have hml := hm2.length_le
      refine ⟨_, rfl, nv, N, told, rfl, h5.frB (Fr.of fr.same), htw, fun H2 nn ws s2 hnn hws => ⟨rfl, D, name, moves.map Prod.fst, nn, ws, rfl, rfl, hnm, (show TxL H1 D _ from hD1).same s2, fun x hx => ?_, hm2.nodup hsd, by omega, hnn, fun u H3 s3 hd => k _ _ _ ((fr.same.trans s2).trans s3) hd ⟨rfl, rfl, ?_, by show ([] : List Str).Perm own; rw [hown], hws⟩⟩⟩
      · exact hsn x (hm2.subset hx)
      · refine (List.mergeSort_perm _ _).trans ?_
        have e : ((moves.map Prod.fst).map fun x => ((x, "") : Pr)) = moves := by
          rw [List.map_map]
          have : moves.map ((fun x => ((x, "") : Pr)) ∘ Prod.fst) = moves.map id := List.map_congr_left fun m hm => by
            have := (hm1 m hm).2
            show ((m.1, "") : Pr) = m
            exact Prod.ext rfl this.symm
          rw [this, List.map_id]
        rw [e]
  | ch =>
    rw [show decide (Kd.ch = Kd.mk) = false from rfl]
    refine iteF ⟨_, rfl, rfl, _, rfl, ?_⟩
    rw [show decide (V.str (kS .ch) = V.str "end") = false from kS_dec .ch .en]
    obtain ⟨hm1, hm2, hm3⟩ := hok.chg rfl
    refine iteF ⟨rfl, _, rfl, _, rfl, ma, ms, rfl, .inl (.inl (.inl h2)), fun l1 hl1 => ?_⟩
    have s1 : Same H (upd H l1 (.lst ms)) := (Fr.new (E := Ex0) hl1).same
    have g1 : upd H l1 (.lst ms) l1 = some (.lst ms) := upd_same
    revert s1 g1
    generalize upd H l1 (.lst ms) = H1
    intro s1 g1
    refine ⟨_, rfl, oa, _, rfl, .inl (h4.same s1).l, fun l2 hl2 => ?_⟩
    have s2 : Same H1 (upd H1 l2 (.lst (own.map V.str))) := (Fr.new (E := Ex0) hl2).same
    have g2 : TxL (upd H1 l2 (.lst (own.map V.str))) l2 own := upd_same
    revert s2 g2
    generalize upd H1 l2 (.lst (own.map V.str)) = H2
    intro s2 g2
    have s02 := s1.trans s2
    have hm2 : (moves.map Prod.fst).Sublist sts := hm2
    have hm3 : own.Sublist cols := hm3
    have hml := hm2.length_le
    rw [List.length_map] at hml
    have hol := hm3.length_le
    refine ⟨_, rfl, nv, N, told, rfl, h5.frB (Fr.of s02), htw, fun H3 nn ws s3 hnn hws => ⟨rfl, l1, l2, name, ms, moves, own, nn, ws, rfl, rfl, hnm, s3 _ _ (s2 _ _ g1), h3.mono (s02.trans s3), ⟨fun m hm => ⟨hsn _ (hm1 m hm).1, hsn _ (hm1 m hm).2⟩, hm2.nodup hsd, by omega⟩, g2.same s3, fun x hx => hcn x (hm3.subset hx), hm3.nodup hcd, by omega, hnn, fun u H4 cs s4 hcs hd => k _ _ _ ((s02.trans s3).trans s4) hd ⟨rfl, rfl, List.mergeSort_perm _ _, hcs.1, hws⟩⟩⟩
end
end Pn
/-! #### W27 -/
namespace Pn
open PySem PySem.Spec PyProof.Rows L2
/-! ### the book of the data -/
theorem nm_state : Nm "state" := ⟨by decide +kernel, by decide +kernel, by decide +kernel⟩
theorem sub_state {ws X : List Str} (h : ws.Sublist ("state" :: X)) (hx : ∀ x ∈ X, Nm x) (nd : X.Nodup) (hs : ("state" : Str) ∉ X) (hl : X.length ≤ 3) : (∀ x ∈ ws, Nm x) ∧ ws.Nodup ∧ ws.length ≤ 4 := by
  refine ⟨fun x hxw => ?_, h.nodup (List.nodup_cons.mpr ⟨hs, nd⟩), ?_⟩
  · rcases List.mem_cons.mp (h.subset hxw) with e | e
    · rw [e]; exact nm_state
    · exact hx x e
  · have := h.length_le
    rw [List.length_cons] at this
    omega
theorem LOk.two {cols : List Str} {ds : List Ld} {kv : V} (h : LOk cols ds kv) {sts : List Str} {d : Ld} (hd : LdOk cols sts d) : TwOk d.told := fun o n a c e => by
  have ht := hd.told o n a c e
  have hc : ∀ x ∈ cols, Nm x := fun x hx => (h.cnm x hx).1
  have hns : ("state" : Str) ∉ cols := fun z => (h.cnm _ z).2 (by simp)
  have hcl := h.cfew
  by_cases hk : d.kd = .ch
  · rw [if_pos hk] at ht
    have hs := (hd.chg hk).2.2
    have hx : ∀ x ∈ d.own, Nm x := fun x hx => hc x (hs.subset hx)
    have hl := hs.length_le
    exact ⟨sub_state ht.1 hx (hs.nodup h.cnd) (fun z => hns (hs.subset z)) (by omega), sub_state ht.2 hx (hs.nodup h.cnd) (fun z => hns (hs.subset z)) (by omega)⟩
  · rw [if_neg hk] at ht
    exact ⟨sub_state ht.1 hc h.cnd hns (by omega), sub_state ht.2 hc h.cnd hns (by omega)⟩
theorem DdOf.in_ {cols : List Str} {ds : List Ld} {kv : V} (h : LOk cols ds kv) {es : List Dd} (he : Paired (fun e d => DdOf d e) es ds) : DsIn cols es ∧ (∀ e ∈ es, Nm e.name) ∧ ∀ e ∈ es, e.cols.length ≤ 2 := by
  have hn : es.map Dd.name = ds.map Ld.name := by
    clear h
    induction he with
    | nil => rfl
    | cons h1 _ ih => rw [List.map_cons, List.map_cons, ih, h1.name]
  have hlen : es.length = ds.length := Paired.length he
  obtain ⟨sts, hs3, hsn, hsd, hok⟩ := h.st
  have hf := h.dfew
  have hcl := h.cfew
  have each : ∀ e ∈ es, ∃ d ∈ ds, DdOf d e := fun e hem => Paired.left he e hem
  have mvl : ∀ e ∈ es, e.moves.length ≤ 4 := fun e hem => by
    obtain ⟨d, hd, hde⟩ := each e hem
    rw [hde.moves.length_eq]
    have ho := hok d hd
    rcases hk : d.kd with _ | _ | _
    · obtain ⟨s, _, e2⟩ := ho.make hk
      rw [e2]; show 1 ≤ 4; decide
    · have := (ho.chg hk).2.1.length_le
      rw [List.length_map] at this; omega
    · have := (ho.end_ hk).2.length_le
      rw [List.length_map] at this; omega
  have mvs : ∀ e ∈ es, ∀ m ∈ e.moves, (m.1 = "" ∨ m.1 ∈ sts) ∧ (m.2 = "" ∨ m.2 ∈ sts) := fun e hem m hm => by
    obtain ⟨d, hd, hde⟩ := each e hem
    have hm := hde.moves.mem_iff.mp hm
    have ho := hok d hd
    rcases hk : d.kd with _ | _ | _
    · obtain ⟨s, hs, e2⟩ := ho.make hk
      rw [e2] at hm
      have : m = ((("" : Str)), s) := List.mem_singleton.mp hm
      rw [this]; exact ⟨.inl rfl, .inr hs⟩
    · have := (ho.chg hk).1 m hm
      exact ⟨.inr this.1, .inr this.2⟩
    · have := (ho.end_ hk).1 m hm
      exact ⟨.inr this.1, .inl this.2⟩
  have ownc : ∀ d ∈ ds, d.own.Sublist cols := fun d hd => by
    have ho := hok d hd
    by_cases hk : d.kd = .ch
    · exact (ho.chg hk).2.2
    · rw [ho.own hk]; exact List.nil_sublist _
  refine ⟨⟨by omega, by rw [hn]; exact h.dnd, mvl, ⟨sts, by omega, mvs⟩, fun e hem => ?_⟩, fun e hem => ?_, fun e hem => ?_⟩
  · obtain ⟨d, hd, hde⟩ := each e hem
    have ho := hok d hd
    have htw := h.two ho
    have hws := hde.ws
    have key : e.ws.length ≤ 8 ∧ ∀ x ∈ e.ws, x = "state" ∨ (x ∈ cols ∧ (d.kd = .ch → x ∈ d.own)) := by
      cases ht : d.told with
      | none =>
        rw [ht] at hws
        have hws : e.words = none := hws
        have : e.ws = [] := by unfold Dd.ws; rw [hws]
        rw [this]; simp
      | some t =>
        obtain ⟨o, n, a, c⟩ := t
        rw [ht] at hws
        obtain ⟨ys, zs, e1, hy, hz⟩ := hws
        have : e.ws = ys ++ zs := by unfold Dd.ws; rw [e1]
        obtain ⟨⟨_, _, ol⟩, _, _, nl⟩ := htw o n a c ht
        obtain ⟨so, sn⟩ := ho.told o n a c ht
        refine ⟨by rw [this, List.length_append, hy.1.length_eq, hz.1.length_eq]; omega, fun x hx => ?_⟩
        have hx2 : x ∈ ("state" :: (if d.kd = .ch then d.own else cols) : List Str) := by
          rw [this] at hx
          rcases List.mem_append.mp hx with y | y
          · exact so.subset (hy.1.mem_iff.mp y)
          · exact sn.subset (hz.1.mem_iff.mp y)
        rcases List.mem_cons.mp hx2 with y | y
        · exact .inl y
        · by_cases hk : d.kd = .ch
          · rw [if_pos hk] at y
            exact .inr ⟨(ownc d hd).subset y, fun _ => y⟩
          · rw [if_neg hk] at y
            exact .inr ⟨y, fun z => absurd z hk⟩
    refine ⟨fun x hx => (ownc d hd).subset (hde.cols.mem_iff.mp hx), by omega, fun x hx => (key.2 x hx).imp id fun y => ⟨y.1, fun hk => hde.cols.mem_iff.mpr (y.2 (by rw [← hde.kd]; exact hk))⟩⟩
  · obtain ⟨d, hd, hde⟩ := each e hem
    rw [hde.name]; exact h.dnm d hd
  · obtain ⟨d, hd, hde⟩ := each e hem
    rw [hde.cols.length_eq]
    have := (ownc d hd).length_le
    omega
end Pn
/-! #### W28 -/
namespace Pn
open PySem PySem.Spec PyProof.Rows L2 LamX
/-! ### the law's book -/
/-- the book es of the rows ds -/
structure BkOf (cols : List Str) (ds : List Ld) (cs : List Str) (es : List Dd) : Prop where
  scs : Sorted cs cols
  ex : ∃ es0, Paired (fun e d => DdOf d e) es0 ds ∧ es.Perm es0
  srt : es.Pairwise fun d e => nmLe d e = true
  ok : BkOk cs es
section
variable {P : Program} {w : World} {K : PySem.W.Frag} {mg : Str → Option Value} {base : Heap} {tP : Addr}
def sp_law_book (K : PySem.W.Frag) (tP : Addr) : Sp := fun vs H Q _ => ∃ (v : V) (cols : List Str) (ds : List Ld) (kv : V), vs = [v] ∧ LDat H v cols ds kv ∧ LOk cols ds kv ∧ Tabs [(tP, lamQ)] H ∧
  ∀ H' u cs es, ExtN H H' → Tabs [(tP, lamQ)] H' → BookAt K H' u cs es → BkOf cols ds cs es → Q u H'
theorem ok_law_book (T : Tl P K mg base tP) : Kf P w K mg base 9 "_law_book" p_law_book (sp_law_book K tP) := by
  refine Kf.of T.book sc_law_book ((fun _ _ _ _ _ _ us hl => match us, hl with | [_], _ => rfl)) (fun vs H Q E ⟨_, _, _, _, e, _⟩ => by rw [e]; rfl) fun f cdv A outer s H vs Q E hr ⟨v, cols, ds, kv, e, hv, hok, hT, k⟩ => ?_
  subst e
  have TB := T.tj.ti.th.tg.tf.tb
  have B := TB.te.td.tc.tw.bt
  have c_law_deed_of := ok_law_deed_of (P := P) (w := w) T
  have c_book_of := ok_book_of (P := P) (w := w) T.tj
  refine ⟨_, (pss_one (ps_ret (pe_cm c_book_of hr (by decide) (pe_own TB.book.v) (pa_cons (cT call_list_of B.list bb_list (pa_cons (pe_ix (ix_tupK K) (pv 0) pe_int (fun _ _ => rfl)) pa_nil)) (pa_cons (pe_lc (own := [("_law_row_here", 1)]) rfl sc_law_book.nd (pi_listK K (pe_ix (ix_tupK K) (pv 0) pe_int (fun _ _ => rfl))) (blkOk_by (N := n_law_book) (sc := defScope s_law_book) (by decide +kernel)) (fun _ _ _ _ _ => (gnm 1 sc_law_book.nd)) (fun _ _ _ _ _ => pts_nil) (fun _ _ _ _ _ => (pe_k c_law_deed_of hr (by decide) rfl (pa_cons (pv 1) pa_nil)))) pa_nil)) (pk_cons (pe_ix (ix_tupK K) (pv 0) pe_int (fun _ _ => rfl)) pk_nil)))), ?_⟩
  obtain ⟨q, wa, fa, us, rfl, h1, h2, h3, h4⟩ := hv
  obtain ⟨sts, hs3, hsn, hsd, hld⟩ := hok.st
  have hul : us.length = ds.length := Paired.length h4
  have hdf := hok.dfew
  have hcf := hok.cfew
  refine ⟨rfl, _, rfl, q, _, 0, _, rfl, rfl, .inl (.inl h1), rfl, wa, _, rfl, .inl h2.l, fun l1 hl1 => ?_⟩
  have s1 : Same H (upd H l1 (.lst (cols.map V.str))) := (Fr.new (E := Ex0) hl1).same
  have g1 : TxL (upd H l1 (.lst (cols.map V.str))) l1 cols := upd_same
  revert s1 g1
  generalize upd H l1 (.lst (cols.map V.str)) = H1
  intro s1 g1
  refine ⟨_, rfl, q, _, 1, _, rfl, rfl, .inl (.inl (s1 _ _ h1)), rfl, fa, rfl, ⟨us, .inl (.inl (s1 _ _ h3))⟩, fun D hD => ?_⟩
  refine lc_gen (E := Ex0) (walk_list (xs := us)) (B := Dd) (DeedAt K) (fun i es => Paired (fun e d => DdOf d e) es (ds.take i)) hD (by omega) (fun H' f => .inl (.inl (f.same _ _ (s1 _ _ h3)))) (fun i H x H' y => by rw [y.1]; exact Fr.refl _ _) (Sta.deed .e0) (fun _ _ _ _ z => z) .nil ?_ ?_
  · rintro i x H2 H3 es Ky Kn hi hes fr ⟨rfl, hx⟩ hy hk
    obtain ⟨d, hd, hda⟩ := Paired.get h4 hx
    have hdm := List.mem_of_getElem? hd
    have hdi : i < ds.length := (List.getElem?_eq_some_iff.mp hd).1
    have htk : ds.take (i + 1) = ds.take i ++ [d] := by
      rw [List.take_succ_eq_append_getElem hdi, (List.getElem?_eq_some_iff.mp hd).2]
    refine ⟨rfl, yes_of ?_⟩
    refine ⟨_, rfl, x, fun _ => True, d, cols, sts, rfl, LdAt.frB (Fr.of (s1.trans fr.same)) hda, hld d hdm, hok.dnm d hdm, fun y hy => (hok.cnm y hy).1, hok.cnd, by omega, hsn, hsd, by omega, hok.two (hld d hdm), fun H4 u e s4 hu he => hy _ _ e (Fr.of s4) hu ?_⟩
    rw [htk]
    exact Paired.app hes (.cons he .nil)
  · intro H2 ys es fr hD2 r hes
    rw [hul, List.take_length] at hes
    obtain ⟨hin, hnm, hcl⟩ := DdOf.in_ hok hes
    have s02 := s1.trans fr.same
    refine ⟨_, rfl, q, _, 2, _, rfl, rfl, .inl (.inl (s02 _ _ h1)), rfl, rfl, l1, D, cols, ys, es, kv, rfl, rfl, g1.same fr.same, hok.cnm, hok.cnd, by omega, hD2, r, hin, hok.keep, hT.ext s02, fun u H' cs es' hx ht hcs hp hs hb => ?_⟩
    refine k H' u cs es' ((ExtN.of s02).trans hx) ht hb ⟨hcs, ⟨es, hes, hp⟩, hs, ?_⟩
    exact ⟨by rw [hp.length_eq]; exact hin.few, fun d hd => hin.mv d (hp.mem_iff.mp hd), (hp.map _).nodup_iff.mpr hin.nd, by rw [hcs.1.length_eq]; omega, fun d hd => by have := hcl d (hp.mem_iff.mp hd); omega, fun d hd => hnm d (hp.mem_iff.mp hd)⟩
end
end Pn
/-! #### W29 -/
namespace Pn
open PySem PySem.Spec PyProof.Rows L2
/-! ### small helpers of the law -/
def lwr (cols : List Str) (d : Ld) : List Str := if d.kd = .mk then cols else d.own
section
variable {P : Program} {w : World} {K : PySem.W.Frag} {mg : Str → Option Value} {base : Heap} {tP : Addr}
def sp_law_columns : Sp := fun vs H Q _ => ∃ (v u : V) (cols : List Str) (ds : List Ld) (kv : V) (N : Addr → Prop) (d : Ld), vs = [v, u] ∧ LDat H v cols ds kv ∧ LdAt N H u d ∧ ∀ a, TxL H a (lwr cols d) → Q (.ref a) H
theorem ok_law_columns (T : Tl P K mg base tP) : Kf P w K mg base 1 "_law_columns" p_law_columns sp_law_columns := by
  refine Kf.of T.columns sc_law_columns ((fun _ _ _ _ _ _ us hl => match us, hl with | [_, _], _ => rfl)) (fun vs H Q E ⟨_, _, _, _, _, _, _, e, _⟩ => by rw [e]; rfl) fun f cdv A outer s H vs Q E hr ⟨v, u, cols, ds, kv, N, d, e, hv, hu, k⟩ => ?_
  subst e
  refine ⟨_, (pss_one (ps_ret (pe_ifExp (pt_cmpR op_eq (pe_ix (ix_tupK K) (pv 1) pe_int (fun _ _ => rfl)) pe_str (nomark _)) (pe_ix (ix_tupK K) (pv 0) pe_int (fun _ _ => rfl)) (pe_ix (ix_tupK K) (pv 1) pe_int (fun _ _ => rfl))))), ?_⟩
  obtain ⟨q, wa, fa, us, rfl, h1, h2, _, _⟩ := hv
  obtain ⟨q2, ma, oa, nv, ms, rfl, g1, _, _, g4, _, _, _⟩ := hu
  refine ⟨_, rfl, q2, _, 0, _, rfl, rfl, .inl (.inl g1), rfl, rfl, _, rfl, ?_⟩
  rw [show decide (V.str (kS d.kd) = V.str "make") = decide (d.kd = .mk) from kS_dec d.kd .mk]
  refine ite2 (fun z => ?_) (fun z => ?_)
  · have hk := of_decide_eq_true z
    exact ⟨_, rfl, q, _, 0, _, rfl, rfl, .inl (.inl h1), rfl, k wa (by unfold lwr; rw [if_pos hk]; exact h2)⟩
  · have hk : ¬ d.kd = .mk := fun y => z (decide_eq_true y)
    exact ⟨_, rfl, q2, _, 3, _, rfl, rfl, .inl (.inl g1), rfl, k oa (by unfold lwr; rw [if_neg hk]; exact g4)⟩
def sp_law_both : Sp := fun vs H Q _ => ∃ (v : V) (p : Pr), vs = [v] ∧ IsP H v p ∧ ∀ r H', Same H H' → PrsNew H H' r [nw p, od p] → Q (.ref r) H'
theorem ok_law_both (T : Tl P K mg base tP) : Kf P w K mg base 1 "_law_both" p_law_both sp_law_both := by
  refine Kf.of T.both sc_law_both ((fun _ _ _ _ _ _ us hl => match us, hl with | [_], _ => rfl)) (fun vs H Q E ⟨_, _, e, _⟩ => by rw [e]; rfl) fun f cdv A outer s H vs Q E hr ⟨v, p, e, hp, k⟩ => ?_
  subst e
  refine ⟨_, (pss_one (ps_ret (pe_lst (pa_cons (pe_tup (pa_cons pe_str (pa_cons (pe_ix (ix_tupK K) (pv 0) pe_int (fun _ _ => rfl)) pa_nil))) (pa_cons (pe_tup (pa_cons pe_str (pa_cons (pe_ix (ix_tupK K) (pv 0) pe_int (fun _ _ => rfl)) pa_nil))) pa_nil))))), ?_⟩
  obtain ⟨a, rfl, ha⟩ := hp
  refine ⟨_, rfl, a, _, 0, _, rfl, rfl, .inl (.inl ha), at0 p, (by show 2 ≤ sizeLine; decide), fun q hq => ?_⟩
  have s1 : Same H (upd H q (.tup [.str "new", .str p.1])) := (Fr.new (E := Ex0) hq).same
  refine ⟨_, rfl, a, _, 1, _, rfl, rfl, .inl (.inl (s1 _ _ ha)), at1 p, (by show 2 ≤ sizeLine; decide), fun q2 hq2 => ⟨(by show 2 ≤ sizeLine; decide), fun t ht => ?_⟩⟩
  have s2 : Same H (upd (upd (upd H q (.tup [.str "new", .str p.1])) q2 (.tup [.str "old", .str p.2])) t (.lst [.ref q, .ref q2])) := (((Fr.of (E := Ex0) s1).new' hq2).new' ht).same
  have n1 : q ≠ q2 := ne_of_none upd_same hq2
  have n2 : q ≠ t := ne_of_none (by rw [upd_ne n1]; exact upd_same) ht
  have n3 : q2 ≠ t := ne_of_none upd_same ht
  refine k t _ s2 ⟨((Fr.of (E := Ex0) s1).new' hq2).free ht, [.ref q, .ref q2], upd_same, .cons ⟨q, rfl, by rw [upd_ne n2, upd_ne n1]; exact upd_same⟩ (.cons ⟨q2, rfl, by rw [upd_ne n3]; exact upd_same⟩ .nil)⟩
end
end Pn
/-! #### W30 -/
namespace Pn
open PySem PySem.Spec PyProof.Rows L2
/-! ### sides, tells -/
/-- x in t, t a tuple of data -/
def rInDT (K : PySem.W.Frag) : R2 := fun x y H Q => ∃ d ds, Dp K H x d ∧ Dp K H y (.tuple ds) ∧ SeqAt.shaped d = true ∧ SeqAt.shaped (.list ds) = true ∧ Q (.bl (ds.any fun z => PyData.eqv z d)) H
theorem op_inDT {X : Cx} (K : PySem.W.Frag) (hu : X.A.units + 65 < cLine) (hK : X.K = K := by rfl) : OpR X (compareOp .In) (rInDT K) := by
  subst hK
  intro pins s σ H x y v u Q I rx ry h
  obtain ⟨d, ds, hd, he, sd, se, q⟩ := h
  obtain ⟨as, r1⟩ := Dp.reads I d x v hd rx
  obtain ⟨bs, r2⟩ := Dp.reads I (.tuple ds) y u he ry
  exact SeqAt.in_tuple_reads r2 r1 (SeqAt.canLay_of_shaped se) (SeqAt.canLay_of_shaped sd) (room_in_shaped sd hu) ⟨.bl _, H, I, rfl, q⟩
theorem inPT {K : PySem.W.Frag} {H : Hp} {b l : Addr} {p : Pr} {vs : List V} {ps : List Pr} {Q : VK} (hb : H b = some (.tup (vP p))) (hl : H l = some (.tup vs)) (hp : IsPs H vs ps) (sp : SkP p) (sq : ∀ z ∈ ps, SkP z) (k : Q (.bl (decide (p ∈ ps))) H) : rInDT K (.ref b) (.ref l) H Q :=
  ⟨prD2 p, ps.map prD2, IsP.dp ⟨b, rfl, hb⟩, .tup (.inl (.inl hl)) hp.dpAll, prD2_shaped sp, prDs2_shaped sq, by rw [prDs2_any]; exact k⟩
def lsidesIn (cols : List Str) (col : Str) (d : Ld) : List Pr := (if col ∈ lwr cols d then [(("new" : Str), d.name)] else []) ++ (if d.kd = .en ∨ (d.kd = .ch ∧ col ∈ d.own) then [(("old" : Str), d.name)] else [])
def lsides (cols : List Str) (ds : List Ld) (col : Str) : List Pr := ds.flatMap (lsidesIn cols col)
section
variable {P : Program} {w : World} {K : PySem.W.Frag} {mg : Str → Option Value} {base : Heap} {tP : Addr}
def sp_law_tells : Sp := fun vs H Q _ => ∃ (pa sa : Addr) (pv sv : List V) (ps sd : List Pr), vs = [.ref pa, .ref sa] ∧ H pa = some (.lst pv) ∧ IsPs H pv ps ∧ H sa = some (.tup sv) ∧ IsPs H sv sd ∧ (∀ z ∈ sd, SkP z) ∧ (∀ p ∈ ps, Nm p.1 ∧ Nm p.2) ∧ ps.length ≤ 1000 ∧
  (∀ p ∈ ps, nw p ∈ sd ∨ od p ∈ sd) ∧ ∀ H', Same H H' → Q (.bl true) H'
theorem ok_law_tells (T : Tl P K mg base tP) : Kf P w K mg base 3 "_law_tells" p_law_tells sp_law_tells := by
  refine Kf.of T.tells sc_law_tells ((fun _ _ _ _ _ _ us hl => match us, hl with | [_, _], _ => rfl)) (fun vs H Q E ⟨_, _, _, _, _, _, e, _⟩ => by rw [e]; rfl) fun f cdv A outer s H vs Q E hr ⟨pa, sa, pv', sv, ps, sd, e, hpa, hpp, hsa, hss, hsk, hnm, hl, hc, k⟩ => ?_
  subst e
  have B := T.tj.ti.th.tg.tf.tb.te.td.tc.tw.bt
  have c_law_both := ok_law_both (P := P) (w := w) T
  refine ⟨_, (pss_one (ps_ret (cB (allK K rfl) B.all bb_all (pa_cons (pe_lc (own := [("_law_pair", 3)]) rfl sc_law_tells.nd (pi_listK K (pv 0)) (blkOk_by (N := n_law_tells) (sc := defScope s_law_tells) (by decide +kernel)) (fun _ _ _ _ _ => (gnm 3 sc_law_tells.nd)) (fun _ _ _ _ _ => pts_nil) (fun _ _ _ _ _ => (pe_cmpR (op_neDK K (hu64 hr)) (pe_lc (own := [("_law_side", 2)]) rfl sc_law_tells.nd (pi_listK K (pe_k c_law_both hr (by decide) rfl (pa_cons (pv 3) pa_nil))) (blkOk_by (by kernel_rfl)) (fun _ _ _ _ _ => (gnm 2 sc_law_tells.nd)) (fun _ _ _ _ _ => pts_one (pt_cmpR (op_inDT K (hu65 hr)) (pv 2) (pv 1) (by with_unfolding_all rfl))) (fun _ _ _ _ _ => (pv 2))) (pe_lst pa_nil) (nomark _)))) pa_nil)))), ?_⟩
  have hpl : pv'.length = ps.length := Paired.length hpp
  refine ⟨_, rfl, pa, rfl, ⟨pv', .inl (.inl hpa)⟩, fun D hD => ?_⟩
  refine lc_map (E := Ex0) (walk_list (xs := pv')) (B := Bool) ps (fun _ => true) (fun _ => true) (fun _ v b => v = .bl b) hpl.symm hD (by omega) (fun H' f => .inl (.inl (f.same _ _ hpa))) (fun i H x H' y => by rw [y.1]; exact Fr.refl _ _) (Sta.eq V.bl) (fun _ _ _ _ z => z) ?_ ?_
  · rintro i x H1 H2 q Ky Kn hq fr ⟨rfl, hx⟩ hy hk
    have hqp := (Paired.at hpp hx hq).mono fr.same
    have hqm := List.mem_of_getElem? hq
    have hnq := hnm q hqm
    refine ⟨rfl, yes_of ⟨_, rfl, x, q, rfl, hqp, fun r H3 s3 ⟨_, us, hr3, hus⟩ => ⟨r, rfl, ⟨us, .inl (.inl hr3)⟩, fun D2 hD2 => ?_⟩⟩⟩
    have hul : us.length = 2 := Paired.length hus
    have s13 := fr.same.trans s3
    have hsk2 : ∀ e ∈ ([nw q, od q] : List Pr), SkP e := fun e he => by
      rcases List.mem_cons.mp he with z | z
      · subst z; exact ⟨sk_new, hnq.1.sk⟩
      · have : e = od q := List.mem_singleton.mp z
        subst this; exact ⟨sk_old, hnq.2.sk⟩
    refine lc_map (E := Ex0) (walk_list (xs := us)) (B := Pr) [nw q, od q] (fun e => decide (e ∈ sd)) id IsP hul.symm hD2 (by omega) (fun H' f => .inl (.inl (f.same _ _ hr3))) (fun i H x H' y => by rw [y.1]; exact Fr.refl _ _) (Sta.isP' .e0) (fun _ _ _ _ z => z) ?_ ?_
    · rintro j y H4 H5 e Ky2 Kn2 he fr2 ⟨rfl, hye⟩ hy2 hk2
      obtain ⟨c, rfl, hc'⟩ := Paired.at hus hye he
      have hc5 := fr2.same _ _ hc'
      have s15 := s13.trans fr2.same
      refine ⟨rfl, _, rfl, _, rfl, inPT hc5 (s15 _ _ hsa) (hss.mono s15) (hsk2 e (List.mem_of_getElem? he)) hsk ⟨_, rfl, ite2 (fun z => ?_) (fun z => ?_)⟩⟩
      · exact ⟨_, rfl, hy2 _ _ z (Fr.refl _ _) ⟨c, rfl, hc5⟩⟩
      · exact hk2 _ (by simpa using z) (Fr.refl _ _)
    · intro H4 zs fr2 hD4 rz
      rw [List.map_id] at rz
      refine ⟨Nat.zero_le _, fun t ht => ?_⟩
      have s5 : Same H4 (upd H4 t (.lst [])) := (Fr.new (E := Ex0) ht).same
      refine ⟨.list (([nw q, od q].filter fun e => decide (e ∈ sd)).map prD2), .list [], (IsPs.mono s5 rz).dp (s5 _ _ hD4), .lst (.inl (.inl upd_same)) .nil, prDs2_shaped fun z hz => hsk2 z (List.mem_filter.mp hz).1, by decide, ?_⟩
      rw [eqv_empty]
      refine hy _ _ rfl (Fr.of (s3.trans (fr2.same.trans s5))) ?_
      show V.bl _ = V.bl true
      congr 1
      rcases hc q hqm with z | z
      · rw [List.filter_cons_of_pos (by simpa using z)]; rfl
      · cases hfl : [nw q, od q].filter (fun e => decide (e ∈ sd)) with
        | nil =>
          have : od q ∈ [nw q, od q].filter (fun e => decide (e ∈ sd)) := List.mem_filter.mpr ⟨by simp, decide_eq_true z⟩
          rw [hfl] at this; cases this
        | cons _ _ => rfl
  · intro H1 zs fr hD1 rz
    have hz := Paired.mapEq (f := V.bl) rz
    rw [List.filter_eq_self.mpr (fun _ _ => rfl)] at hz
    refine ⟨D, _, rfl, .inl (.inl (hz ▸ hD1)), ?_⟩
    have e : ((ps.map fun _ => true).all id) = true := by simp
    rw [e]
    exact k _ fr.same
end
end Pn
/-! #### W31 -/
namespace Pn
open PySem PySem.Spec PyProof.Rows L2
/-! ### the law's sides -/
section
variable {P : Program} {w : World} {K : PySem.W.Frag} {mg : Str → Option Value} {base : Heap} {tP : Addr}
def sp_law_sides : Sp := fun vs H Q _ => ∃ (v : V) (col : Str) (cols : List Str) (ds : List Ld) (kv : V), vs = [v, .str col] ∧ LDat H v cols ds kv ∧ ds.length ≤ 7 ∧ ∀ r H', Same H H' → PrsNew H H' r ((lsides cols ds col).mergeSort prLe) → Q (.ref r) H'
theorem ok_law_sides (T : Tl P K mg base tP) : Kf P w K mg base 3 "_law_sides" p_law_sides sp_law_sides := by
  refine Kf.of T.sides sc_law_sides ((fun _ _ _ _ _ _ us hl => match us, hl with | [_, _], _ => rfl)) (fun vs H Q E ⟨_, _, _, _, _, e, _⟩ => by rw [e]; rfl) fun f cdv A outer s H vs Q E hr ⟨v, col, cols, ds, kv, e, hv, hdf, k⟩ => ?_
  subst e
  have B := T.tj.ti.th.tg.tf.tb.te.td.tc.tw.bt
  have c_law_columns := ok_law_columns (P := P) (w := w) T
  refine ⟨_, (pss_cons (sset 2 sc_law_sides.nd (pe_lst pa_nil)) (pss_cons (ps_for PassesOwn.never rfl (pi_listK K (pe_ix (ix_tupK K) (pv 0) pe_int (fun _ _ => rfl))) (gnm 3 sc_law_sides.nd) (pss_cutP (ps_if (pt_cmpR (op_in_seqK K) (pv 1) (pe_k c_law_columns hr (by decide) rfl (pa_cons (pv 0) (pa_cons (pv 3) pa_nil))) (by with_unfolding_all rfl)) (pss_one (ps_expr (pe_bm PySem.F.plainAttrs_list PySem.F.slot_list_append PySem.F.type_list_append mt_append (pv 2) (pa_cons (pe_tup (pa_cons pe_str (pa_cons (pe_ix (ix_tupK K) (pv 3) pe_int (fun _ _ => rfl)) pa_nil))) pa_nil)))) pss_nil) (pss_one (ps_if (PW.pt (pw_or (pt_cmpR op_eq (pe_ix (ix_tupK K) (pv 3) pe_int (fun _ _ => rfl)) pe_str (nomark _)) (pw_or1 (PW.pt (pw_and (pt_cmpR op_eq (pe_ix (ix_tupK K) (pv 3) pe_int (fun _ _ => rfl)) pe_str (nomark _)) (pw_and1 (pt_cmpR (op_in_seqK K) (pv 1) (pe_ix (ix_tupK K) (pv 3) pe_int (fun _ _ => rfl)) (by with_unfolding_all rfl)))))))) (pss_one (ps_expr (pe_bm PySem.F.plainAttrs_list PySem.F.slot_list_append PySem.F.type_list_append mt_append (pv 2) (pa_cons (pe_tup (pa_cons pe_str (pa_cons (pe_ix (ix_tupK K) (pv 3) pe_int (fun _ _ => rfl)) pa_nil))) pa_nil)))) pss_nil)))) (pss_one (ps_ret (cB (cr_sortedPr hr) B.sorted bb_sorted (pa_cons (pv 2) pa_nil)))))), ?_⟩
  obtain ⟨q, wa, fa, us, rfl, h1, h2, h3, h4⟩ := id hv
  have hul : us.length = ds.length := Paired.length h4
  have seq : ∀ {x : Str} {xs : List Str} {H' : Hp} {a : Addr} {Q : VK}, TxL H' a xs → Q (.bl (decide (x ∈ xs))) H' → rIn K false (.str x) (.ref a) H' Q := fun {x xs H' a Q} ha h => ⟨a, _, rfl, .inl ha.l, rfl, flat_strs _, by rw [inV_strs]; exact h⟩
  refine ⟨Nat.zero_le _, fun fo hfo => ?_⟩
  have s0 : Same H (upd H fo (.lst [])) := (Fr.new (E := Ex0) hfo).same
  let Pv : Nat → L2.St → Hp → Prop := fun i σ H' => (∃ o, σ = [some (.ref q), some (.str col), some (.ref fo), o]) ∧ Same H H' ∧ ∃ ys, H' fo = some (.lst ys) ∧ IsPs H' ys ((ds.take i).flatMap (lsidesIn cols col))
  have lin : ∀ d : Ld, (lsidesIn cols col d).length ≤ 2 := fun d => by unfold lsidesIn; split <;> split <;> simp
  refine ⟨_, rfl, q, _, 1, _, rfl, rfl, .inl (.inl (s0 _ _ h1)), rfl, fa, rfl, ⟨us, .inl (.inl (s0 _ _ h3))⟩, for_it (walk_list (xs := us)) Pv ⟨⟨_, rfl⟩, s0, [], upd_same, .nil⟩ (fun i σ H' _ p => .inl (.inl (p.2.1 _ _ h3))) ?_ ?_⟩
  · rintro i x σ H3 H4 hi ⟨⟨o, rfl⟩, s3, ys, hf3, hys3⟩ ⟨rfl, hx⟩
    obtain ⟨d, hd, hda⟩ := Paired.get h4 hx
    have hdi : i < ds.length := (List.getElem?_eq_some_iff.mp hd).1
    have htk : ds.take (i + 1) = ds.take i ++ [d] := by
      rw [List.take_succ_eq_append_getElem hdi, (List.getElem?_eq_some_iff.mp hd).2]
    have e7 : (ds.take (i + 1)).flatMap (lsidesIn cols col) = (ds.take i).flatMap (lsidesIn cols col) ++ lsidesIn cols col d := by
      rw [htk, List.flatMap_append, List.flatMap_cons, List.flatMap_nil, List.append_nil]
    obtain ⟨u, ma, oa, nv, ms, rfl, g1, g2, g3, g4, g5, _, _⟩ := id hda
    have l1 : ys.length ≤ 14 := by
      rw [Paired.length hys3]
      have := flatMap_len (lsidesIn cols col) 2 (ds.take i) fun d _ => lin d
      have h2 : (ds.take i).length ≤ ds.length := by rw [List.length_take]; omega
      omega
    let first : List Pr := if col ∈ lwr cols d then [(("new" : Str), d.name)] else []
    have app : ∀ (H5 : Hp) (zs : List V) (L : List Pr) (tag : Str) (D : Ends), Same H H5 → H5 fo = some (.lst zs) → IsPs H5 zs L → zs.length ≤ 100 → (∀ H6 zs', Same H H6 → H6 fo = some (.lst zs') → IsPs H6 zs' (L ++ [(tag, d.name)]) → D.nx [some (.ref q), some (.str col), some (.ref fo), some (.ref u)] H6) →
        tDrop (tBM K "list" rAppend (tVar 2) (tCons (tTup (tCons (tC (.str tag)) (tCons (tOp (rIxT K) (tVar 3) (tC (.int 1))) tNil))) tNil)) D [some (.ref q), some (.str col), some (.ref fo), some (.ref u)] H5 := by
      intro H5 zs L tag D s5 hf5 hz5 hl5 hn
      refine ⟨_, rfl, .inl ⟨rfl, _, .inl (.inl hf5)⟩, _, rfl, u, _, 1, _, rfl, rfl, .inl (.inl (s5 _ _ g1)), rfl, (by show 2 ≤ sizeLine; decide), fun t ht => ?_⟩
      have st : Same H5 (upd H5 t (.tup [.str tag, .str d.name])) := (Fr.new (E := Ex0) ht).same
      have nft : fo ≠ t := ne_of_none hf5 ht
      refine ⟨fo, _, _, rfl, rfl, st _ _ hf5, small1000 (by omega), hn _ _ ((Fr.of (E := Ex0) (s5.trans st)).put hfo).same upd_same ?_⟩
      exact Paired.app (IsPs.at (st _ _ hf5) (by intro xs z; cases z) (hz5.mono st)) (.cons ⟨t, rfl, by rw [upd_ne nft.symm]; exact upd_same⟩ .nil)
    refine ⟨fun σ H' => σ = [some (.ref q), some (.str col), some (.ref fo), some (.ref u)] ∧ Same H H' ∧ ∃ zs, H' fo = some (.lst zs) ∧ zs.length ≤ 50 ∧ IsPs H' zs ((ds.take i).flatMap (lsidesIn cols col) ++ first), ?_, ?_⟩
    · refine ⟨_, rfl, _, rfl, _, rfl, .ref q, .ref u, cols, ds, kv, _, d, rfl, LDat.frB (Fr.of s3) hv, LdAt.frB (Fr.of s3) hda, fun a ha => seq ha ⟨_, rfl, ite2 (fun z => ?_) (fun z => ?_)⟩⟩
      · refine app H4 ys _ "new" _ s3 hf3 hys3 (by omega) fun H6 zs' s6 hf6 hz6 => ⟨rfl, s6, zs', hf6, by rw [Paired.length hz6, List.length_append, ← Paired.length hys3]; simp; omega, ?_⟩
        show IsPs _ _ (_ ++ (if col ∈ lwr cols d then _ else _))
        rw [if_pos (of_decide_eq_true z)]; exact hz6
      · refine ⟨rfl, s3, ys, hf3, by omega, ?_⟩
        show IsPs _ _ (_ ++ (if col ∈ lwr cols d then _ else _))
        rw [if_neg (fun y => z (decide_eq_true y)), List.append_nil]; exact hys3
    · rintro σ H5 ⟨rfl, s5, zs, hf5, hzl, hz5⟩
      have yes : (d.kd = .en ∨ (d.kd = .ch ∧ col ∈ d.own)) → tDrop (tBM K "list" rAppend (tVar 2) (tCons (tTup (tCons (tC (.str "old")) (tCons (tOp (rIxT K) (tVar 3) (tC (.int 1))) tNil))) tNil)) { nx := Pv (i + 1), rt := Q, bk := fun _ _ => False, ct := Pv (i + 1) } [some (.ref q), some (.str col), some (.ref fo), some (.ref u)] H5 := fun hc =>
        app H5 zs _ "old" _ s5 hf5 hz5 (by omega) fun H6 zs' s6 hf6 hz6 => ⟨⟨_, rfl⟩, s6, zs', hf6, by
          have e9 : lsidesIn cols col d = first ++ [(("old" : Str), d.name)] := by
            show (if col ∈ lwr cols d then _ else _) ++ (if _ then _ else _) = _
            rw [if_pos hc]
          rw [e7, e9, ← List.append_assoc]; exact hz6⟩
      have no : ¬ (d.kd = .en ∨ (d.kd = .ch ∧ col ∈ d.own)) → Pv (i + 1) [some (.ref q), some (.str col), some (.ref fo), some (.ref u)] H5 := fun hc => ⟨⟨_, rfl⟩, s5, zs, hf5, by
          have e9 : lsidesIn cols col d = first := by
            show (if col ∈ lwr cols d then _ else _) ++ (if _ then _ else _) = _
            rw [if_neg hc, List.append_nil]
          rw [e7, e9]; exact hz5⟩
      refine ⟨_, rfl, u, _, 0, _, rfl, rfl, .inl (.inl (s5 _ _ g1)), rfl, rfl, _, rfl, ?_⟩
      rw [show decide (V.str (kS d.kd) = V.str "end") = decide (d.kd = .en) from kS_dec d.kd .en]
      refine ite2 (fun z => iteT (yes (.inl (of_decide_eq_true z)))) (fun z => ?_)
      refine ⟨_, rfl, u, _, 0, _, rfl, rfl, .inl (.inl (s5 _ _ g1)), rfl, rfl, _, rfl, ?_⟩
      rw [show decide (V.str (kS d.kd) = V.str "change") = decide (d.kd = .ch) from kS_dec d.kd .ch]
      refine ite2 (fun z2 => ?_) (fun z2 => iteF (no fun h => h.elim (fun h => z (decide_eq_true h)) fun h => z2 (decide_eq_true h.1)))
      refine ⟨_, rfl, _, rfl, u, _, 3, _, rfl, rfl, .inl (.inl (s5 _ _ g1)), rfl, seq (g4.same s5) ⟨_, rfl, ite2 (fun z3 => yes (.inr ⟨of_decide_eq_true z2, of_decide_eq_true z3⟩)) (fun z3 => no fun h => h.elim (fun h => z (decide_eq_true h)) fun h => z3 (decide_eq_true h.2))⟩⟩
  · rintro σ H3 ⟨⟨o, rfl⟩, s3, ys, hf3, hys3⟩
    rw [hul, List.take_length] at hys3
    have hll : (lsides cols ds col).length ≤ 14 := by
      have := flatMap_len (lsidesIn cols col) 2 ds fun d _ => lin d
      unfold lsides
      omega
    refine ⟨_, rfl, fo, ys, lsides cols ds col, rfl, .inl (.inl (.inl hf3)), hys3, by omega, fun zs p hz hp => k p _ (s3.trans (Fr.new (E := Ex0) hp).same) ⟨(Fr.of (E := Ex0) s3).free hp, zs, upd_same, hz.mono (Fr.new (E := Ex0) hp).same⟩⟩
end
end Pn
/-! #### W32 -/
namespace Pn
open PySem PySem.Spec PyProof.Rows L2
/-! ### reaching, as the law has it -/
inductive LReach (E : Pr → Prop) (S : Str → Prop) : Str → Prop
  | base {s : Str} : S s → LReach E S s
  | step {s t : Str} : LReach E S s → E (s, t) → LReach E S t
/-- the edges of the deeds that are chosen -/
def Edge (ds : List Ld) (p : Ld → Bool) (m : Pr) : Prop := ∃ d ∈ ds, p d = true ∧ m ∈ d.moves
def Closed (E : Pr → Prop) (xs : List Str) : Prop := ∀ m, E m → m.1 ∈ xs → m.2 ∈ xs
/-- in the k-th round: nw the new ones -/
structure Rnd (E : Pr → Prop) (V starts nw : List Str) : Prop where
  nd : nw.Nodup
  sub : ∀ x ∈ nw, x ∈ V
  rch : ∀ x ∈ starts ++ nw, LReach E (fun s => s ∈ starts) x
theorem Rnd.add {E : Pr → Prop} {V starts nw : List Str} (h : Rnd E V starts nw) {m : Pr} (e : E m) (hV : m.2 ∈ V) (h1 : m.1 ∈ starts ++ nw) (h2 : m.2 ∉ starts ++ nw) : Rnd E V starts (nw ++ [m.2]) := by
  rw [List.mem_append, not_or] at h2
  refine ⟨List.nodup_append.mpr ⟨h.nd, by simp, fun a ha b hb => by
    have : b = m.2 := List.mem_singleton.mp hb
    rw [this]; exact fun z => h2.2 (z ▸ ha)⟩, fun x hx => ?_, fun x hx => ?_⟩
  · rcases List.mem_append.mp hx with y | y
    · exact h.sub x y
    · rw [List.mem_singleton.mp y]; exact hV
  · rw [← List.append_assoc] at hx
    rcases List.mem_append.mp hx with y | y
    · exact h.rch x y
    · rw [List.mem_singleton.mp y]
      exact .step (h.rch _ h1) e
theorem Rnd.end_ {E : Pr → Prop} {V starts nw : List Str} (h : Rnd E V starts nw) (hc : Closed E (starts ++ nw)) (t : Str) : t ∈ starts ++ nw ↔ LReach E (fun s => s ∈ starts) t := by
  refine ⟨h.rch t, fun z => ?_⟩
  induction z with
  | base hs => exact List.mem_append_left _ hs
  | step _ e ih => exact hc _ e ih
section
variable {P : Program} {w : World} {K : PySem.W.Frag} {mg : Str → Option Value} {base : Heap} {tP : Addr}
def lch (any : Bool) (col : Str) (d : Ld) : Bool := any || (decide (d.kd = .ch) && !decide (col ∈ d.own))
def sp_law_reached : Sp := fun vs H Q _ => ∃ (v : V) (sa : Addr) (starts : List Str) (any : Bool) (col : Str) (cols : List Str) (ds : List Ld) (kv : V) (U : List Str), vs = [v, .ref sa, .bl any, .str col] ∧ LDat H v cols ds kv ∧ TxL H sa starts ∧ starts.length ≤ 100 ∧ U.length ≤ 4 ∧ (∀ d ∈ ds, ∀ m ∈ d.moves, m.2 ∈ U) ∧
  ∀ r H' xs, Same H H' → H r = none → TxL H' r xs → (∀ t, t ∈ xs ↔ LReach (Edge ds (lch any col)) (fun s => s ∈ starts) t) → xs.length ≤ 104 → Q (.ref r) H'
theorem ok_law_reached (T : Tl P K mg base tP) : Kf P w K mg base 1 "_law_reached" p_law_reached sp_law_reached := by
  refine Kf.of T.reached sc_law_reached ((fun _ _ _ _ _ _ us hl => match us, hl with | [_, _, _, _], _ => rfl)) (fun vs H Q E ⟨_, _, _, _, _, _, _, _, _, e, _⟩ => by rw [e]; rfl) fun f cdv A outer s H vs Q E hr ⟨v, sa, starts, any, col, cols, ds, kv, U, e, hv, hst, hsl, hUl, hU, k⟩ => ?_
  subst e
  have B := T.tj.ti.th.tg.tf.tb.te.td.tc.tw.bt
  refine ⟨_, (pss_cons (sset 4 sc_law_reached.nd (cT call_list_of B.list bb_list (pa_cons (pv 1) pa_nil))) (pss_cons (ps_for PassesOwn.never rfl (pi_range1 rfl B.range (pa_cons pe_int pa_nil)) (gnm 5 sc_law_reached.nd) (pss_one (ps_for PassesOwn.never rfl (pi_listK K (pe_ix (ix_tupK K) (pv 0) pe_int (fun _ _ => rfl))) (gnm 6 sc_law_reached.nd) (pss_one (ps_if (PW.pt (pw_or (pt_val (pv 2)) (pw_or1 (PW.pt (pw_and (pt_cmpR op_eq (pe_ix (ix_tupK K) (pv 6) pe_int (fun _ _ => rfl)) pe_str (nomark _)) (pw_and1 (pt_cmpR (op_notIn_seqK K) (pv 3) (pe_ix (ix_tupK K) (pv 6) pe_int (fun _ _ => rfl)) (by with_unfolding_all rfl)))))))) (pss_one (ps_for PassesOwn.never rfl (pi_listK K (pe_ix (ix_tupK K) (pv 6) pe_int (fun _ _ => rfl))) (pg_tupK K (n := 2) rfl (pgs_cons (gnm 7 sc_law_reached.nd) (pgs_cons (gnm 8 sc_law_reached.nd) pgs_nil))) (pss_one (ps_if (PW.pt (pw_and (pt_cmpR (op_in_seqK K) (pv 7) (pv 4) (by with_unfolding_all rfl)) (pw_and1 (pt_cmpR (op_notIn_seqK K) (pv 8) (pv 4) (by with_unfolding_all rfl))))) (pss_one (ps_expr (pe_bm PySem.F.plainAttrs_list PySem.F.slot_list_append PySem.F.type_list_append mt_append (pv 4) (pa_cons (pv 8) pa_nil)))) pss_nil)))) pss_nil))))) (pss_one (ps_ret (pv 4))))), ?_⟩
  obtain ⟨q, wa, fa, us, rfl, h1, h2, h3, h4⟩ := id hv
  have hul : us.length = ds.length := Paired.length h4
  have seq : ∀ {x : Str} {xs : List Str} {H' : Hp} {a : Addr} {Q : VK}, TxL H' a xs → Q (.bl (decide (x ∈ xs))) H' → rIn K false (.str x) (.ref a) H' Q := fun {x xs H' a Q} ha h => ⟨a, _, rfl, .inl ha.l, rfl, flat_strs _, by rw [inV_strs]; exact h⟩
  have nseq : ∀ {x : Str} {xs : List Str} {H' : Hp} {a : Addr} {Q : VK}, TxL H' a xs → Q (.bl (!decide (x ∈ xs))) H' → rIn K true (.str x) (.ref a) H' Q := fun {x xs H' a Q} ha h => ⟨a, _, rfl, .inl ha.l, rfl, flat_strs _, by rw [inV_strs]; exact h⟩
  let Ed : Pr → Prop := Edge ds (lch any col)
  have hV : ∀ m, Ed m → m.2 ∈ U := fun m ⟨d, hd, _, hm⟩ => hU d hd m hm
  have nl : ∀ nw, Rnd Ed U starts nw → nw.length ≤ 4 := fun nw h => Nat.le_trans (nodup_len h.nd h.sub) hUl
  refine ⟨_, rfl, sa, _, rfl, .inl hst.l, fun r hr0 => ?_⟩
  have s0 : Same H (upd H r (.lst (starts.map V.str))) := (Fr.new (E := Ex0) hr0).same
  have g0 : TxL (upd H r (.lst (starts.map V.str))) r (starts ++ []) := by rw [List.append_nil]; exact upd_same
  show tSeq _ _ _ _ (upd H r (.lst (starts.map V.str)))
  revert s0 g0
  generalize upd H r (.lst (starts.map V.str)) = H0
  intro s0 g0
  let P1 : Nat → L2.St → Hp → Prop := fun i σ H' => (∃ o5 o6 o7 o8, σ = [some (.ref q), some (.ref sa), some (.bl any), some (.str col), some (.ref r), o5, o6, o7, o8]) ∧ Same H H' ∧ ∃ nw, TxL H' r (starts ++ nw) ∧ Rnd Ed U starts nw ∧ (Closed Ed (starts ++ nw) ∨ i ≤ nw.length)
  refine ⟨5, rfl, by decide, by decide, for_it walk_range P1 ⟨⟨_, _, _, _, rfl⟩, s0, [], g0, ⟨List.nodup_nil, by simp, fun x hx => .base (by simpa using hx)⟩, .inr (Nat.le_refl _)⟩ (fun _ _ _ _ _ => trivial) ?_ ?_⟩
  · rintro i x σ H1 H2 hi ⟨⟨o5, o6, o7, o8, rfl⟩, s1, nw0, hf1, hr1, hc1⟩ ⟨rfl, rfl⟩
    -- within a round: what is added, and what was looked at
    let P2 : (Pr → Prop) → Hp → Prop := fun seen H' => Same H H' ∧ ∃ more, TxL H' r (starts ++ (nw0 ++ more)) ∧ Rnd Ed U starts (nw0 ++ more) ∧ (Closed Ed (starts ++ nw0) → more = []) ∧ (more = [] → ∀ m, seen m → m.1 ∈ starts ++ nw0 → m.2 ∈ starts ++ nw0)
    let S3 : Nat → Pr → Prop := fun i' m => ∃ (j : Nat) (d : Ld), j < i' ∧ ds[j]? = some d ∧ lch any col d = true ∧ m ∈ d.moves
    let σ3 : L2.St → Prop := fun σ => ∃ o6 o7 o8, σ = [some (.ref q), some (.ref sa), some (.bl any), some (.str col), some (.ref r), some (.int (0 + (i : Nat))), o6, o7, o8]
    let P3 : Nat → L2.St → Hp → Prop := fun i' σ H' => σ3 σ ∧ P2 (S3 i') H'
    refine ⟨_, rfl, q, _, 1, _, rfl, rfl, .inl (.inl (s1 _ _ h1)), rfl, fa, rfl, ⟨us, .inl (.inl (s1 _ _ h3))⟩, for_it (walk_list (xs := us)) P3 ⟨⟨_, _, _, rfl⟩, s1, [], by rw [List.append_nil]; exact hf1, by rw [List.append_nil]; exact hr1, fun _ => rfl, fun _ m ⟨j, d, hj, _⟩ => absurd hj (Nat.not_lt_zero _)⟩ (fun i' σ H' _ p => .inl (.inl (p.2.1 _ _ h3))) ?_ ?_⟩
    · rintro i' x σ H2 H3 hi' ⟨⟨o6, o7, o8, rfl⟩, s2, more, hf2, hr2, hm2, hn2⟩ ⟨rfl, hx⟩
      obtain ⟨d, hd, hda⟩ := Paired.get h4 hx
      have hdm := List.mem_of_getElem? hd
      obtain ⟨u, ma, oa, nv, ms, rfl, g1, g2, g3, g4, g5, _, _⟩ := id hda
      have hml : ms.length = d.moves.length := Paired.length g3
      have no : lch any col d = false → P3 (i' + 1) [some (.ref q), some (.ref sa), some (.bl any), some (.str col), some (.ref r), some (.int (0 + (i : Nat))), some (.ref u), o7, o8] H3 := fun hz => ⟨⟨_, _, _, rfl⟩, s2, more, hf2, hr2, hm2, fun e m ⟨j, d', hj, hd', hl, hmm⟩ => by
        by_cases hji : j = i'
        · subst hji
          rw [hd] at hd'; cases hd'
          rw [hz] at hl; cases hl
        · exact hn2 e m ⟨j, d', by omega, hd', hl, hmm⟩⟩
      have test : ∀ (Qb : Bool → Hp → Prop), Qb (lch any col d) H3 → tOr (tB (tVar 2)) (tAnd (tTest (tOp rEq (tOp (rIxT K) (tVar 6) (tC (V.int 0))) (tC (V.str "change")))) (tTest (tOp (rIn K true) (tVar 3) (tOp (rIxT K) (tVar 6) (tC (V.int 3))))))
          [some (.ref q), some (.ref sa), some (.bl any), some (.str col), some (.ref r), some (.int (0 + (i : Nat))), some (.ref u), o7, o8] H3 Qb := by
        intro Qb hq
        refine ⟨_, rfl, any, rfl, ite2 (fun z => ?_) (fun z => ?_)⟩
        · have : lch any col d = true := by unfold lch; rw [z]; rfl
          rw [this] at hq; exact hq
        · have hz : any = false := by simpa using z
          refine ⟨_, rfl, u, _, 0, _, rfl, rfl, .inl (.inl (s2 _ _ g1)), rfl, rfl, _, rfl, ?_⟩
          rw [show decide (V.str (kS d.kd) = V.str "change") = decide (d.kd = .ch) from kS_dec d.kd .ch]
          have e9 : lch any col d = (decide (d.kd = .ch) && !decide (col ∈ d.own)) := by unfold lch; rw [hz]; rfl
          refine ite2 (fun z2 => ?_) (fun z2 => ?_)
          · refine ⟨_, rfl, _, rfl, u, _, 3, _, rfl, rfl, .inl (.inl (s2 _ _ g1)), rfl, nseq (g4.same s2) ⟨_, rfl, ?_⟩⟩
            rw [e9, z2] at hq; exact hq
          · have z2 : decide (d.kd = .ch) = false := by simpa using z2
            rw [e9, z2] at hq; exact hq
      refine test _ (ite2 (fun z => ?_) (fun z => no (by simpa using z)))
      let P4 : Nat → L2.St → Hp → Prop := fun j' σ H' => (∃ o7 o8, σ = [some (.ref q), some (.ref sa), some (.bl any), some (.str col), some (.ref r), some (.int (0 + (i : Nat))), some (.ref u), o7, o8]) ∧ P2 (fun m => S3 i' m ∨ ∃ j, j < j' ∧ d.moves[j]? = some m) H'
      refine ⟨_, rfl, u, _, 2, _, rfl, rfl, .inl (.inl (s2 _ _ g1)), rfl, ma, rfl, ⟨ms, .inl (.inl (s2 _ _ g2))⟩, for_it (walk_list (xs := ms)) P4 ⟨⟨_, _, rfl⟩, s2, more, hf2, hr2, hm2, fun e m hs => hn2 e m (hs.elim id fun ⟨j, hj, _⟩ => absurd hj (Nat.not_lt_zero _))⟩ (fun i' σ H' _ p => .inl (.inl (p.2.1 _ _ g2))) ?_ ?_⟩
      · rintro j' y σ H4 H5 hj' ⟨⟨o7, o8, rfl⟩, s4, more, hf4, hr4, hm4, hn4⟩ ⟨rfl, hy⟩
        obtain ⟨m, hm, t, rfl, ht⟩ := Paired.get g3 hy
        have hEd : Ed m := ⟨d, hdm, z, List.mem_of_getElem? hm⟩
        have keep : (m.1 ∈ starts ++ (nw0 ++ more) → m.2 ∈ starts ++ (nw0 ++ more)) → P4 (j' + 1) [some (.ref q), some (.ref sa), some (.bl any), some (.str col), some (.ref r), some (.int (0 + (i : Nat))), some (.ref u), some (.str m.1), some (.str m.2)] H5 := fun hk => ⟨⟨_, _, rfl⟩, s4, more, hf4, hr4, hm4, fun e m' hs => by
          rcases hs with hs | ⟨j, hj, hjm⟩
          · exact hn4 e m' (.inl hs)
          · by_cases hji : j = j'
            · subst hji
              rw [hm] at hjm; cases hjm
              rw [e, List.append_nil] at hk; exact hk
            · exact hn4 e m' (.inr ⟨j, by omega, hjm⟩)⟩
        refine ⟨t, _, rfl, .inl (.inl (s4 _ _ ht)), rfl, _, _, rfl, _, _, rfl, rfl, ?_⟩
        refine ⟨_, rfl, _, rfl, seq hf4 ⟨_, rfl, ite2 (fun y1 => ?_) (fun y1 => iteF (keep fun h => absurd (decide_eq_true h) y1))⟩⟩
        have y1 := of_decide_eq_true y1
        refine ⟨_, rfl, _, rfl, nseq hf4 ⟨_, rfl, ite2 (fun y2 => ?_) (fun y2 => keep fun _ => Classical.byContradiction fun h => y2 (by rw [decide_eq_false h]; rfl))⟩⟩
        have y2 : m.2 ∉ starts ++ (nw0 ++ more) := by simpa using y2
        have l4 := nl _ hr4
        refine ⟨_, rfl, .inl ⟨rfl, _, hf4.l⟩, _, rfl, r, _, _, rfl, rfl, hf4, small1000 (by rw [List.length_map, List.length_append]; omega), ⟨_, _, rfl⟩, ((Fr.of (E := Ex0) s4).put hr0).same, more ++ [m.2], ?_, ?_, fun hc => ?_, fun e => by simp at e⟩
        · show upd H5 r _ r = _
          rw [upd_same, show starts ++ (nw0 ++ (more ++ [m.2])) = (starts ++ (nw0 ++ more)) ++ [m.2] from by simp only [List.append_assoc]]
          exact congrArg (fun z => some (HO.lst z)) (map_snoc _ _).symm
        · rw [← List.append_assoc]; exact hr4.add hEd (hV m hEd) y1 y2
        · have e := hm4 hc
          rw [e, List.append_nil] at y1 y2
          exact absurd (hc m hEd y1) y2
      · rintro σ H4 ⟨⟨o7, o8, rfl⟩, s4, more, hf4, hr4, hm4, hn4⟩
        refine ⟨⟨_, _, _, rfl⟩, s4, more, hf4, hr4, hm4, fun e m ⟨j, d', hj, hd', hl, hmm⟩ => hn4 e m ?_⟩
        by_cases hji : j = i'
        · subst hji
          rw [hd] at hd'; cases hd'
          obtain ⟨jj, hjj⟩ := List.mem_iff_getElem?.mp hmm
          exact .inr ⟨jj, by rw [hml]; exact (List.getElem?_eq_some_iff.mp hjj).1, hjj⟩
        · exact .inl ⟨j, d', by omega, hd', hl, hmm⟩
    · rintro σ H2 ⟨⟨o6, o7, o8, rfl⟩, s2, more, hf2, hr2, hm2, hn2⟩
      refine ⟨⟨_, _, _, _, rfl⟩, s2, nw0 ++ more, hf2, hr2, ?_⟩
      by_cases hz : more = []
      · subst hz
        rw [List.append_nil]
        refine .inl fun m ⟨d, hd, hl, hm⟩ => ?_
        obtain ⟨j, hj⟩ := List.mem_iff_getElem?.mp hd
        exact hn2 rfl m ⟨j, d, by rw [hul]; exact (List.getElem?_eq_some_iff.mp hj).1, hj, hl, hm⟩
      · rcases hc1 with y | y
        · exact absurd (hm2 y) hz
        · have := List.length_pos_iff.mpr hz
          rw [List.length_append]
          exact .inr (by omega)
  · rintro σ H1 ⟨⟨o5, o6, o7, o8, rfl⟩, s1, nw, hf, hrn, hc⟩
    have hcl : Closed Ed (starts ++ nw) := hc.elim id fun h => by have := nl nw hrn; omega
    refine ⟨_, rfl, k r H1 _ s1 hr0 hf (fun t => hrn.end_ hcl t) ?_⟩
    rw [List.length_append]; have := nl nw hrn; omega
end
end Pn
/-! #### W33 -/
namespace Pn
open PySem PySem.Spec PyProof.Rows L2
/-! ### the law's successions -/
def lnext (col : Str) (e : Ld) : Bool := decide (e.kd = .en) || (decide (e.kd = .ch) && decide (col ∈ e.own))
def LBehind (ds : List Ld) (col : Str) (d : Ld) (t : Str) : Prop := ∃ m ∈ d.moves, LReach (Edge ds (lch true col)) (fun s => s ∈ ([""] : List Str)) m.1 ∧ t = m.2
def LSucc (cols : List Str) (ds : List Ld) (col : Str) (d e : Ld) : Prop := col ∈ lwr cols d ∧ lnext col e = true ∧ ∃ m ∈ e.moves, LReach (Edge ds (lch false col)) (LBehind ds col d) m.1
noncomputable def lsB (cols : List Str) (ds : List Ld) (col : Str) (d e : Ld) : Bool := @decide (LSucc cols ds col d e) (Classical.propDecidable _)
theorem lsB_iff {cols : List Str} {ds : List Ld} {col : Str} {d e : Ld} : lsB cols ds col d e = true ↔ LSucc cols ds col d e := by
  unfold lsB
  exact @decide_eq_true_iff _ (Classical.propDecidable _)
noncomputable def lsuccOf (cols : List Str) (ds : List Ld) (col : Str) (d : Ld) : List Pr := (ds.filter (lsB cols ds col d)).map fun e => (d.name, e.name)
noncomputable def lsucc (cols : List Str) (ds : List Ld) (col : Str) : List Pr := ds.flatMap (lsuccOf cols ds col)
theorem LReach.mono {E : Pr → Prop} {S S' : Str → Prop} (h : ∀ s, S s → S' s) {t : Str} (r : LReach E S t) : LReach E S' t := by
  induction r with
  | base hs => exact .base (h _ hs)
  | step _ e ih => exact .step ih e
section
variable {P : Program} {w : World} {K : PySem.W.Frag} {mg : Str → Option Value} {base : Heap} {tP : Addr}
def sp_law_successions : Sp := fun vs H Q _ => ∃ (v : V) (col : Str) (cols : List Str) (ds : List Ld) (kv : V) (U : List Str), vs = [v, .str col] ∧ LDat H v cols ds kv ∧ ds.length ≤ 7 ∧ U.length ≤ 4 ∧ (∀ d ∈ ds, ∀ m ∈ d.moves, m.2 ∈ U) ∧ (∀ d ∈ ds, d.moves.length ≤ 10) ∧ (∀ d ∈ ds, ∀ m ∈ d.moves, SkP m) ∧
  ∀ r H', Same H H' → PrsNew H H' r ((lsucc cols ds col).mergeSort prLe) → Q (.ref r) H'
set_option maxHeartbeats 8000000 in
theorem ok_law_successions (T : Tl P K mg base tP) : Kf P w K mg base 3 "_law_successions" p_law_successions sp_law_successions := by
  refine Kf.of T.successions sc_law_successions ((fun _ _ _ _ _ _ us hl => match us, hl with | [_, _], _ => rfl)) (fun vs H Q E ⟨_, _, _, _, _, _, e, _⟩ => by rw [e]; rfl) fun f cdv A outer s H vs Q E hr ⟨v, col, cols, ds, kv, U, e, hv, hdf, hUl, hU, hm10, hsk, k⟩ => ?_
  subst e
  have B := T.tj.ti.th.tg.tf.tb.te.td.tc.tw.bt
  have c_law_columns := ok_law_columns (P := P) (w := w) T
  have c_law_reached := ok_law_reached (P := P) (w := w) T
  refine ⟨_, (pss_cons (ps_asg (pe_tup (pa_cons (pe_k c_law_reached hr (by decide) rfl (pa_cons (pv 0) (pa_cons (pe_lst (pa_cons pe_str pa_nil)) (pa_cons pe_bl (pa_cons (pv 1) pa_nil))))) (pa_cons (pe_lst pa_nil) pa_nil))) (pg_tupK K (n := 2) rfl (pgs_cons (gnm 2 sc_law_successions.nd) (pgs_cons (gnm 3 sc_law_successions.nd) pgs_nil)))) (pss_cons (ps_for PassesOwn.never rfl (pi_listK K (pe_ix (ix_tupK K) (pv 0) pe_int (fun _ _ => rfl))) (gnm 4 sc_law_successions.nd) (pss_one (ps_if (pt_cmpR (op_in_seqK K) (pv 1) (pe_k c_law_columns hr (by decide) rfl (pa_cons (pv 0) (pa_cons (pv 4) pa_nil))) (by with_unfolding_all rfl)) (pss_cons (ps_setLc (i := 5) (own := [("_law_one", 6), ("_law_two", 7)]) rfl sc_law_successions.nd rfl rfl (sw_true rfl rfl rfl (by decide +kernel)) (pi_listK K (pe_ix (ix_tupK K) (pv 4) pe_int (fun _ _ => rfl))) (blkOk_by (N := n_law_successions) (sc := defScope s_law_successions) (by decide +kernel)) (fun _ _ _ _ _ => (pg_tupK K (n := 2) rfl (pgs_cons (gnm 6 sc_law_successions.nd) (pgs_cons (gnm 7 sc_law_successions.nd) pgs_nil)))) (fun _ _ _ _ _ => pts_one (pt_cmpR (op_in_seqK K) (pv 6) (pv 2) (by with_unfolding_all rfl))) (fun _ _ _ _ _ => (pv 7))) (pss_cons (sset 8 sc_law_successions.nd (pe_k c_law_reached hr (by decide) rfl (pa_cons (pv 0) (pa_cons (pv 5) (pa_cons pe_bl (pa_cons (pv 1) pa_nil)))))) (pss_one (ps_for PassesOwn.never rfl (pi_listK K (pe_ix (ix_tupK K) (pv 0) pe_int (fun _ _ => rfl))) (gnm 9 sc_law_successions.nd) (pss_cons (sset 10 sc_law_successions.nd (pe_or (pe_cmpR op_eq (pe_ix (ix_tupK K) (pv 9) pe_int (fun _ _ => rfl)) pe_str (nomark _)) (pe_one (pe_and (pe_cmpR op_eq (pe_ix (ix_tupK K) (pv 9) pe_int (fun _ _ => rfl)) pe_str (nomark _)) (pe_one (pe_cmpR (op_in_seqK K) (pv 1) (pe_ix (ix_tupK K) (pv 9) pe_int (fun _ _ => rfl)) (by with_unfolding_all rfl))))))) (pss_one (ps_if (PW.pt (pw_and (pt_val (pv 10)) (pw_and1 (pt_cmpR (op_neDK K (hu64 hr)) (pe_lc (own := [("_law_move", 11)]) rfl sc_law_successions.nd (pi_listK K (pe_ix (ix_tupK K) (pv 9) pe_int (fun _ _ => rfl))) (blkOk_by (N := n_law_successions) (sc := defScope s_law_successions) (by decide +kernel)) (fun _ _ _ _ _ => (gnm 11 sc_law_successions.nd)) (fun _ _ _ _ _ => pts_one (pt_cmpR (op_in_seqK K) (pe_ix (ix_tupK K) (pv 11) pe_int (fun _ _ => rfl)) (pv 8) (by with_unfolding_all rfl))) (fun _ _ _ _ _ => (pv 11))) (pe_lst pa_nil) (nomark _))))) (pss_one (ps_expr (pe_bm PySem.F.plainAttrs_list PySem.F.slot_list_append PySem.F.type_list_append mt_append (pv 3) (pa_cons (pe_tup (pa_cons (pe_ix (ix_tupK K) (pv 4) pe_int (fun _ _ => rfl)) (pa_cons (pe_ix (ix_tupK K) (pv 9) pe_int (fun _ _ => rfl)) pa_nil))) pa_nil)))) pss_nil))))))) pss_nil))) (pss_one (ps_ret (cB (cr_sortedPr hr) B.sorted bb_sorted (pa_cons (pv 3) pa_nil)))))), ?_⟩
  obtain ⟨q, wa, fa, us, rfl, h1, h2, h3, h4⟩ := id hv
  have hul : us.length = ds.length := Paired.length h4
  have seq : ∀ {x : Str} {xs : List Str} {H' : Hp} {a : Addr} {Q : VK}, TxL H' a xs → Q (.bl (decide (x ∈ xs))) H' → rIn K false (.str x) (.ref a) H' Q := fun {x xs H' a Q} ha h => ⟨a, _, rfl, .inl ha.l, rfl, flat_strs _, by rw [inV_strs]; exact h⟩
  have hsz : sizeLine ≥ 1000 := by decide
  refine ⟨_, rfl, (by show 1 ≤ sizeLine; omega), fun l1 hl1 => ?_⟩
  have s1 : Same H (upd H l1 (.lst [.str ""])) := (Fr.new (E := Ex0) hl1).same
  have g1 : TxL (upd H l1 (.lst [.str ""])) l1 [""] := upd_same
  revert s1 g1
  generalize upd H l1 (.lst [.str ""]) = H1
  intro s1 g1
  refine ⟨_, rfl, .ref q, l1, [""], true, col, cols, ds, kv, U, rfl, LDat.frB (Fr.of s1) hv, g1, by decide, hUl, hU, fun r1 H2 xs s2 hr1 hx1 hxs hxl => ⟨Nat.zero_le _, fun fo hfo => ⟨(by show 2 ≤ sizeLine; omega), fun t ht => ⟨t, _, rfl, .inl (.inl upd_same), rfl, _, _, rfl, _, _, rfl, rfl, ?_⟩⟩⟩⟩
  have nfr : r1 ≠ fo := ne_of_none hx1 hfo
  have nft : fo ≠ t := ne_of_none upd_same ht
  have s02 := s1.trans s2
  have hfoH : H fo = none := (Fr.of (E := Ex0) s02).free hfo
  have s3 : Same H (upd (upd H2 fo (.lst [])) t (.tup [.ref r1, .ref fo])) := (((Fr.of (E := Ex0) s02).new' hfo).new' ht).same
  have hx3 : TxL (upd (upd H2 fo (.lst [])) t (.tup [.ref r1, .ref fo])) r1 xs := TxL.upd (TxL.upd hx1 nfr) (ne_of_none (by rw [upd_ne nfr]; exact hx1) ht)
  have hf3 : upd (upd H2 fo (.lst [])) t (.tup [.ref r1, .ref fo]) fo = some (.lst []) := by rw [upd_ne nft]; exact upd_same
  show tSeq _ _ _ _ (upd (upd H2 fo (.lst [])) t (.tup [.ref r1, .ref fo]))
  revert s3 hx3 hf3
  generalize upd (upd H2 fo (.lst [])) t (.tup [.ref r1, .ref fo]) = H3
  intro s3 hx3 hf3
  let P1 : Nat → L2.St → Hp → Prop := fun i σ H' => (∃ o4 o5 o8 o9 o10, σ = [some (.ref q), some (.str col), some (.ref r1), some (.ref fo), o4, o5, none, none, o8, o9, o10, none]) ∧ Same H H' ∧ TxL H' r1 xs ∧ ∃ ys, H' fo = some (.lst ys) ∧ IsPs H' ys ((ds.take i).flatMap (lsuccOf cols ds col))
  have few : ∀ d, (lsuccOf cols ds col d).length ≤ 7 := fun d => by
    unfold lsuccOf
    rw [List.length_map]
    exact Nat.le_trans (List.length_filter_le _ _) hdf
  refine ⟨_, rfl, q, _, 1, _, rfl, rfl, .inl (.inl (s3 _ _ h1)), rfl, fa, rfl, ⟨us, .inl (.inl (s3 _ _ h3))⟩, for_it (walk_list (xs := us)) P1 ⟨⟨_, _, _, _, _, rfl⟩, s3, hx3, [], hf3, .nil⟩ (fun i σ H' _ p => .inl (.inl (p.2.1 _ _ h3))) ?_ ?_⟩
  · rintro i x σ H4 H5 hi ⟨⟨o4, o5, o8, o9, o10, rfl⟩, s4, hx4, ys, hf4, hys4⟩ ⟨rfl, hx⟩
    obtain ⟨d, hd, hda⟩ := Paired.get h4 hx
    have hdm := List.mem_of_getElem? hd
    have hdi : i < ds.length := (List.getElem?_eq_some_iff.mp hd).1
    have htk : ds.take (i + 1) = ds.take i ++ [d] := by
      rw [List.take_succ_eq_append_getElem hdi, (List.getElem?_eq_some_iff.mp hd).2]
    have e7 : (ds.take (i + 1)).flatMap (lsuccOf cols ds col) = (ds.take i).flatMap (lsuccOf cols ds col) ++ lsuccOf cols ds col d := by
      rw [htk, List.flatMap_append, List.flatMap_cons, List.flatMap_nil, List.append_nil]
    obtain ⟨u, ma, oa, nv, ms, rfl, b1, b2, b3, b4, b5, _, _⟩ := id hda
    have hml : ms.length = d.moves.length := Paired.length b3
    have l1 : ys.length ≤ 49 := by
      rw [Paired.length hys4]
      have := flatMap_len (lsuccOf cols ds col) 7 (ds.take i) fun d _ => few d
      have h2 : (ds.take i).length ≤ ds.length := by rw [List.length_take]; omega
      omega
    refine ⟨_, rfl, _, rfl, _, rfl, .ref q, .ref u, cols, ds, kv, _, d, rfl, LDat.frB (Fr.of s4) hv, LdAt.frB (Fr.of s4) hda, fun a ha => seq ha ⟨_, rfl, ite2 (fun z => ?_) (fun z => ?_)⟩⟩
    rotate_left
    · have hc : ¬ col ∈ lwr cols d := fun y => z (decide_eq_true y)
      refine ⟨⟨_, _, _, _, _, rfl⟩, s4, hx4, ys, hf4, ?_⟩
      have : lsuccOf cols ds col d = [] := by
        unfold lsuccOf
        rw [List.filter_eq_nil_iff.mpr fun e he y => hc (lsB_iff.mp y).1]; rfl
      rw [e7, this, List.append_nil]; exact hys4
    have hc := of_decide_eq_true z
    refine ⟨_, rfl, u, _, 2, _, rfl, rfl, .inl (.inl (s4 _ _ b1)), rfl, ma, rfl, ⟨ms, .inl (.inl (s4 _ _ b2))⟩, fun D hD => ?_⟩
    refine lc_map (E := Ex0) (walk_list (xs := ms)) (B := Str) d.moves (fun m => decide (m.1 ∈ xs)) Prod.snd (fun _ v b => v = .str b) hml.symm hD (by have := hm10 d hdm; omega) (fun H' f => .inl (.inl (f.same _ _ (s4 _ _ b2)))) (fun i H x H' y => by rw [y.1]; exact Fr.refl _ _) (Sta.eq V.str) (fun _ _ _ _ z => z) ?_ ?_
    · rintro j y H6 H7 m Ky Kn hm fr ⟨rfl, hy⟩ hyy hkk
      obtain ⟨t, rfl, ht⟩ := Paired.at b3 hy hm
      refine ⟨t, _, rfl, .inl (.inl (fr.same _ _ (s4 _ _ ht))), rfl, _, _, rfl, _, _, rfl, rfl, rfl, ?_⟩
      exact ⟨_, rfl, _, rfl, seq (hx4.same fr.same) ⟨_, rfl, ite2 (fun z => ⟨_, rfl, hyy _ _ z (Fr.refl _ _) rfl⟩) (fun z => hkk _ (by simpa using z) (Fr.refl _ _))⟩⟩
    intro H6 zs fr hD6 rz
    have hz := Paired.mapEq (f := V.str) rz
    rw [hz] at hD6
    have s6 := s4.trans fr.same
    let beh : List Str := (d.moves.filter fun m => decide (m.1 ∈ xs)).map Prod.snd
    have hD6 : TxL H6 D beh := hD6
    have behl : beh.length ≤ 10 := by
      show ((d.moves.filter fun m => decide (m.1 ∈ xs)).map Prod.snd).length ≤ 10
      rw [List.length_map]
      exact Nat.le_trans (List.length_filter_le _ _) (hm10 d hdm)
    have behm : ∀ t, t ∈ beh ↔ LBehind ds col d t := fun t => by
      show t ∈ (d.moves.filter fun m => decide (m.1 ∈ xs)).map Prod.snd ↔ _
      rw [List.mem_map]
      constructor
      · rintro ⟨m, hm, rfl⟩
        obtain ⟨h1, h2⟩ := List.mem_filter.mp hm
        exact ⟨m, h1, (hxs _).mp (of_decide_eq_true h2), rfl⟩
      · rintro ⟨m, h1, h2, rfl⟩
        exact ⟨m, List.mem_filter.mpr ⟨h1, decide_eq_true ((hxs _).mpr h2)⟩, rfl⟩
    refine ⟨_, rfl, _, rfl, _, rfl, .ref q, D, beh, false, col, cols, ds, kv, U, rfl, LDat.frB (Fr.of s6) hv, hD6, by omega, hUl, hU, fun r2 H7 ar s7 hr2 hx7 har harl => ?_⟩
    have s07 := s6.trans s7
    have hf6 := fr.same _ _ hf4
    have hf7 := s7 _ _ hf6
    have nf2 : r2 ≠ fo := fun z => by rw [z, hf6] at hr2; cases hr2
    have harm : ∀ t, t ∈ ar ↔ LReach (Edge ds (lch false col)) (LBehind ds col d) t := fun t => by
      rw [har t]
      exact ⟨fun h => h.mono fun s hs => (behm s).mp hs, fun h => h.mono fun s hs => (behm s).mpr hs⟩
    let P2 : Nat → L2.St → Hp → Prop := fun i' σ H' => (∃ o9 o10, σ = [some (.ref q), some (.str col), some (.ref r1), some (.ref fo), some (.ref u), some (.ref D), none, none, some (.ref r2), o9, o10, none]) ∧ Same H H' ∧ TxL H' r1 xs ∧ TxL H' r2 ar ∧ ∃ ys, H' fo = some (.lst ys) ∧ IsPs H' ys ((ds.take i).flatMap (lsuccOf cols ds col) ++ ((ds.take i').filter (lsB cols ds col d)).map fun e => (d.name, e.name))
    refine ⟨_, rfl, q, _, 1, _, rfl, rfl, .inl (.inl (s07 _ _ h1)), rfl, fa, rfl, ⟨us, .inl (.inl (s07 _ _ h3))⟩, for_it (walk_list (xs := us)) P2 ⟨⟨_, _, rfl⟩, s07, hx4.same (fr.same.trans s7), hx7, ys, hf7, by simpa using hys4.mono (fr.same.trans s7)⟩ (fun i σ H' _ p => .inl (.inl (p.2.1 _ _ h3))) ?_ ?_⟩
    · rintro i' x' σ H8 H9 hi' ⟨⟨o9, o10, rfl⟩, s8, hx8, har8, zs, hf8, hzs8⟩ ⟨rfl, hx'⟩
      obtain ⟨e, he, hea⟩ := Paired.get h4 hx'
      have hem := List.mem_of_getElem? he
      have hei : i' < ds.length := (List.getElem?_eq_some_iff.mp he).1
      have htk' : ds.take (i' + 1) = ds.take i' ++ [e] := by
        rw [List.take_succ_eq_append_getElem hei, (List.getElem?_eq_some_iff.mp he).2]
      obtain ⟨ue, mae, oae, nve, mse, rfl, c1, c2, c3, c4, c5, _, _⟩ := id hea
      have hmle : mse.length = e.moves.length := Paired.length c3
      have zl : zs.length ≤ 100 := by
        rw [Paired.length hzs8, List.length_append, List.length_map, ← Paired.length hys4]
        have h2 : ((ds.take i').filter (lsB cols ds col d)).length ≤ (ds.take i').length := List.length_filter_le _ _
        have h3 : (ds.take i').length ≤ ds.length := by rw [List.length_take]; omega
        omega
      have no : lsB cols ds col d e = false → ∀ H', Same H9 H' → P2 (i' + 1) [some (.ref q), some (.str col), some (.ref r1), some (.ref fo), some (.ref u), some (.ref D), none, none, some (.ref r2), some (.ref ue), some (.bl (lnext col e)), none] H' := fun hz H' s' => ⟨⟨_, _, rfl⟩, s8.trans s', hx8.same s', har8.same s', zs, s' _ _ hf8, by
        rw [htk', List.filter_append, List.filter_cons_of_neg (by rw [hz]; simp), List.filter_nil, List.append_nil]; exact hzs8.mono s'⟩
      have nx : ∀ (Qv : VK), Qv (.bl (lnext col e)) H9 → tOrV (tOp rEq (tOp (rIxT K) (tVar 9) (tC (V.int 0))) (tC (V.str "end"))) (tAndV (tOp rEq (tOp (rIxT K) (tVar 9) (tC (V.int 0))) (tC (V.str "change"))) (tOp (rIn K false) (tVar 1) (tOp (rIxT K) (tVar 9) (tC (V.int 3)))))
          [some (.ref q), some (.str col), some (.ref r1), some (.ref fo), some (.ref u), some (.ref D), none, none, some (.ref r2), some (.ref ue), o10, none] H9 Qv := by
        intro Qv hq
        refine ⟨_, rfl, ue, _, 0, _, rfl, rfl, .inl (.inl (s8 _ _ c1)), rfl, rfl, _, rfl, ?_⟩
        rw [show decide (V.str (kS e.kd) = V.str "end") = decide (e.kd = .en) from kS_dec e.kd .en]
        refine ite2 (fun y => ?_) (fun y => ?_)
        · have : lnext col e = true := by unfold lnext; rw [y]; rfl
          rw [this] at hq; exact hq
        · have y : decide (e.kd = .en) = false := by simpa using y
          refine ⟨_, rfl, ue, _, 0, _, rfl, rfl, .inl (.inl (s8 _ _ c1)), rfl, rfl, _, rfl, ?_⟩
          rw [show decide (V.str (kS e.kd) = V.str "change") = decide (e.kd = .ch) from kS_dec e.kd .ch]
          refine ite2 (fun y2 => ?_) (fun y2 => ?_)
          · refine ⟨_, rfl, _, rfl, ue, _, 3, _, rfl, rfl, .inl (.inl (s8 _ _ c1)), rfl, seq (c4.same s8) ?_⟩
            have : lnext col e = decide (col ∈ e.own) := by unfold lnext; rw [y, y2]; rfl
            rw [this] at hq; exact hq
          · have y2 : decide (e.kd = .ch) = false := by simpa using y2
            have : lnext col e = false := by unfold lnext; rw [y, y2]; rfl
            rw [this] at hq; exact hq
      refine nx _ ⟨_, rfl, _, rfl, ite2 (fun hn => ?_) (fun hn => iteF (no (by
        cases hb : lsB cols ds col d e with
        | false => rfl
        | true => exact absurd (lsB_iff.mp hb).2.1 hn) _ (Same.refl _)))⟩
      refine ⟨_, rfl, ue, _, 2, _, rfl, rfl, .inl (.inl (s8 _ _ c1)), rfl, mae, rfl, ⟨mse, .inl (.inl (s8 _ _ c2))⟩, fun D2 hD2 => ?_⟩
      refine lc_map (E := Ex0) (walk_list (xs := mse)) (B := Pr) e.moves (fun m => decide (m.1 ∈ ar)) id IsP hmle.symm hD2 (by have := hm10 e hem; omega) (fun H' f => .inl (.inl (f.same _ _ (s8 _ _ c2)))) (fun i H x H' y => by rw [y.1]; exact Fr.refl _ _) (Sta.isP' .e0) (fun _ _ _ _ z => z) ?_ ?_
      · rintro j y H10 H11 m Ky Kn hm fr2 ⟨rfl, hy⟩ hyy hkk
        obtain ⟨c, rfl, hc'⟩ := Paired.at c3 hy hm
        have hc11 := fr2.same _ _ (s8 _ _ hc')
        refine ⟨rfl, _, rfl, c, _, 0, _, rfl, rfl, .inl (.inl hc11), at0 m, _, rfl, seq (har8.same fr2.same) ⟨_, rfl, ite2 (fun z => ?_) (fun z => ?_)⟩⟩
        · exact ⟨_, rfl, hyy _ _ z (Fr.refl _ _) ⟨c, rfl, hc11⟩⟩
        · exact hkk _ (by simpa using z) (Fr.refl _ _)
      · intro H10 ws fr2 hD10 rz2
        rw [List.map_id] at rz2
        refine ⟨Nat.zero_le _, fun t ht => ?_⟩
        have s10 := fr2.same
        have s11 : Same H10 (upd H10 t (.lst [])) := (Fr.new (E := Ex0) ht).same
        refine ⟨.list ((e.moves.filter fun m => decide (m.1 ∈ ar)).map prD2), .list [], (IsPs.mono s11 rz2).dp (s11 _ _ hD10), .lst (.inl (.inl upd_same)) .nil, prDs2_shaped fun z hz => hsk e hem z (List.mem_filter.mp hz).1, by decide, ?_⟩
        rw [eqv_empty]
        have s81 : Same H9 (upd H10 t (.lst [])) := s10.trans s11
        revert s81
        generalize upd H10 t (.lst []) = H12
        intro s81
        have key : (!(e.moves.filter fun m => decide (m.1 ∈ ar)).isEmpty) = lsB cols ds col d e := by
          rw [Bool.eq_iff_iff, lsB_iff]
          constructor
          · intro h
            obtain ⟨m, hm⟩ : ∃ m, m ∈ e.moves.filter fun m => decide (m.1 ∈ ar) := by
              cases hq : e.moves.filter fun m => decide (m.1 ∈ ar) with
              | nil => rw [hq] at h; cases h
              | cons a l => exact ⟨a, List.mem_cons_self⟩
            obtain ⟨a, b⟩ := List.mem_filter.mp hm
            exact ⟨hc, hn, m, a, (harm _).mp (of_decide_eq_true b)⟩
          · rintro ⟨_, _, m, a, b⟩
            have : m ∈ e.moves.filter fun m => decide (m.1 ∈ ar) := List.mem_filter.mpr ⟨a, decide_eq_true ((harm _).mpr b)⟩
            cases hq : e.moves.filter fun m => decide (m.1 ∈ ar) with
            | nil => rw [hq] at this; cases this
            | cons a l => rfl
        rw [key]
        refine ⟨_, rfl, ite2 (fun z2 => ?_) (fun z2 => no (by simpa using z2) _ s81)⟩
        have s12 := s8.trans s81
        refine ⟨_, rfl, .inl ⟨rfl, _, .inl (.inl (s81 _ _ hf8))⟩, _, rfl, u, _, 1, _, rfl, rfl, .inl (.inl (s12 _ _ b1)), rfl, _, rfl, ue, _, 1, _, rfl, rfl, .inl (.inl (s12 _ _ c1)), rfl, (by show 2 ≤ sizeLine; omega), fun t2 ht2 => ?_⟩
        have st : Same H12 (upd H12 t2 (.tup [.str d.name, .str e.name])) := (Fr.new (E := Ex0) ht2).same
        have nft2 : fo ≠ t2 := ne_of_none (s81 _ _ hf8) ht2
        have s13 := s12.trans st
        have s83 := s81.trans st
        refine ⟨fo, _, _, rfl, rfl, s83 _ _ hf8, small1000 (by omega), ⟨_, _, rfl⟩, ((Fr.of (E := Ex0) s13).put hfoH).same, (hx8.same s83).upd nfr, (har8.same s83).upd nf2, _, upd_same, ?_⟩
        rw [htk', List.filter_append, List.filter_cons_of_pos z2, List.filter_nil, List.map_append, ← List.append_assoc]
        exact Paired.app (IsPs.at (s83 _ _ hf8) (by intro xs z; cases z) (hzs8.mono s83)) (.cons ⟨t2, rfl, by rw [upd_ne nft2.symm]; exact upd_same⟩ .nil)
    · rintro σ H8 ⟨⟨o9, o10, rfl⟩, s8, hx8, har8, zs, hf8, hzs8⟩
      refine ⟨⟨_, _, _, _, _, rfl⟩, s8, hx8, zs, hf8, ?_⟩
      rw [hul, List.take_length] at hzs8
      rw [e7]; exact hzs8
  · rintro σ H4 ⟨⟨o4, o5, o8, o9, o10, rfl⟩, s4, hx4, ys, hf4, hys4⟩
    rw [hul, List.take_length] at hys4
    have hll : (lsucc cols ds col).length ≤ 49 := by
      have := flatMap_len (lsuccOf cols ds col) 7 ds fun d _ => few d
      unfold lsucc
      omega
    refine ⟨_, rfl, fo, ys, lsucc cols ds col, rfl, .inl (.inl (.inl hf4)), hys4, by omega, fun zs p hz hp => k p _ (s4.trans (Fr.new (E := Ex0) hp).same) ⟨(Fr.of (E := Ex0) s4).free hp, zs, upd_same, hz.mono (Fr.new (E := Ex0) hp).same⟩⟩
end
end Pn
/-! #### W34 -/
namespace Pn
open PySem PySem.Spec PyProof.Rows L2
/-! ### the law's bag -/
section
variable {P : Program} {w : World} {K : PySem.W.Frag} {mg : Str → Option Value} {base : Heap} {tP : Addr}
def sp_law_bag (K : PySem.W.Frag) : Sp := fun vs H Q _ => ∃ (a : Addr) (xs : List Int) (i : Nat), vs = [.ref a, .int i] ∧ SqL K H a (xs.map V.int) ∧ xs.length ≤ 63 ∧ i ≤ 3 ∧ ∀ r H', Same H H' → H r = none → BagAt H' r → Q (.ref r) H'
set_option maxHeartbeats 8000000 in
theorem ok_law_bag (T : Tl P K mg base tP) : Kf P w K mg base 3 "_law_bag" p_law_bag (sp_law_bag K) := by
  refine Kf.of T.bag sc_law_bag ((fun _ _ _ _ _ _ us hl => match us, hl with | [_, _], _ => rfl)) (fun vs H Q E ⟨_, _, _, e, _⟩ => by rw [e]; rfl) fun f cdv A outer s H vs Q E hr ⟨a, xs, i, e, ha, hxl, hi, k⟩ => ?_
  subst e
  have B := T.tj.ti.th.tg.tf.tb.te.td.tc.tw.bt
  refine ⟨_, (pss_cons (sset 2 sc_law_bag.nd (pe_ifExp (pt_cmpR op_lt (pv 1) (cB (len_seqK K) B.len bb_len (pa_cons (pv 0) pa_nil)) (nomark _)) (pe_ix (ix_listK K) (pv 0) (pv 1) (fun _ _ => rfl)) pe_int)) (pss_cons (sset 3 sc_law_bag.nd (pe_op op_add (pe_op op_mul pe_int (pv 1)) pe_int)) (pss_cons (ps_for PassesOwn.never rfl (pi_enum rfl B.enumerate (pa_cons (pe_slice sl_list (pv 0) po_none (po_some pe_int)) pa_nil)) (pg_tupK K (n := 2) rfl (pgs_cons (gnm 4 sc_law_bag.nd) (pgs_cons (gnm 5 sc_law_bag.nd) pgs_nil))) (pss_one (sset 3 sc_law_bag.nd (pe_op op_mod (cT call_int1 B.int bb_int (pa_cons (pe_op op_add (pe_op op_add (pe_op op_add (pe_op op_mul (pv 3) pe_int) (pe_op op_mod (cT call_int1 B.int bb_int (pa_cons (pv 5) pa_nil)) pe_int)) (pe_op op_mul pe_int (pv 4))) pe_int) pa_nil)) pe_int)))) (pss_one (ps_ret (pe_lst (pa_cons (pe_ifExp (pt_cmpR op_ge (cB call_abs B.abs bb_abs (pa_cons (pv 2) pa_nil)) (pe_op op_pow pe_int pe_int) (nomark _)) (cB call_abs B.abs bb_abs (pa_cons (pv 2) pa_nil)) pe_int) (pa_cons (pv 3) pa_nil)))))))), ?_⟩
  have h18 : (10 : Int) ^ 18 = 1000000000000000000 := by decide
  -- the cell
  have cell : ∀ (Qv : VK), (∀ c : Int, Qv (.int c) H) → tIf (tTest (tOp (rI0 fun i j => V.bl (decide (i < j))) (tVar 1) (tCB (rLenSq K) (tCons (tVar 0) tNil)))) (tOp (rIxL K) (tVar 0) (tVar 1)) (tC (V.int 0)) [some (.ref a), some (.int i), none, none, none, none] H Qv := by
    intro Qv hq
    refine ⟨_, rfl, _, rfl, a, _, rfl, .inl ha, _, _, rfl, rfl, _, rfl, ite2 (fun z => ?_) (fun _ => hq 0)⟩
    have z := of_decide_eq_true z
    rw [List.length_map] at z
    have hl : i < xs.length := by omega
    exact ⟨_, rfl, _, rfl, a, _, i, _, rfl, rfl, ha, atI_nat (v := .int xs[i]) (by rw [List.getElem?_map, List.getElem?_eq_getElem hl]; rfl), hq _⟩
  refine cell _ fun c => ?_
  refine ⟨_, rfl, 9181, (i : Int), rfl, rfl, .inl (by decide), _, _, rfl, rfl, ?_⟩
  have hys : ∀ v ∈ cutV (xs.map V.int) Option.none (some 50), ∃ n : Int, v = .int n := fun v hv => by
    unfold cutV at hv
    obtain ⟨n, _, e⟩ := List.mem_map.mp (List.mem_of_mem_drop (List.mem_of_mem_take hv))
    exact ⟨n, e.symm⟩
  refine ⟨_, rfl, 50, rfl, a, _, rfl, ha, fun l hl => ?_⟩
  generalize cutV (xs.map V.int) Option.none (some 50) = ys at hys ⊢
  have s0 : Same H (upd H l (.lst ys)) := (Fr.new (E := Ex0) hl).same
  have g0 : upd H l (.lst ys) l = some (.lst ys) := upd_same
  generalize upd H l (.lst ys) = H0 at s0 g0
  let Pv : Nat → L2.St → Hp → Prop := fun _ σ H' => (∃ (b : Int) (o4 o5 : Option V), σ = [some (.ref a), some (.int i), some (.int c), some (.int b), o4, o5]) ∧ Same H H' ∧ H' l = some (.lst ys)
  refine ⟨l, ys, rfl, .inl (.inl g0), for_it walk_enum Pv ⟨⟨_, _, _, rfl⟩, s0, g0⟩ (fun i σ H' _ p => .inl (.inl p.2.2)) ?_ ?_⟩
  · rintro j x σ H1 H2 hj ⟨⟨b, o4, o5, rfl⟩, s1, hl1⟩ ⟨t, x1, y, rfl, ht, rfl, ex, ey⟩
    cases ex
    obtain ⟨n, rfl⟩ := hys y (List.mem_of_getElem? ey)
    have st : Same H1 (upd H1 t (.tup [.int (j : Nat), .int n])) := (Fr.new (E := Ex0) ht).same
    have hj50 : j < 1000000 ∨ True := .inr trivial
    refine ⟨t, _, rfl, .inl (.inl upd_same), rfl, _, _, rfl, _, _, rfl, rfl, ?_⟩
    refine ⟨_, rfl, b, 39373, rfl, rfl, .inr (by decide), _, rfl, .inl ⟨n, rfl, _, _, rfl, rfl, (show (0 : Int) < 2147483477 by decide), _, _, rfl, rfl, _, rfl, 61, _, rfl, rfl, .inl (by decide), _, _, rfl, rfl, _, _, rfl, rfl, .inl ⟨_, rfl, _, _, rfl, rfl, (show (0 : Int) < 2147483543 by decide), ⟨_, _, _, rfl⟩, s1.trans st, st _ _ hl1⟩⟩⟩
  · rintro σ H1 ⟨⟨b, o4, o5, rfl⟩, s1, hl1⟩
    have fin : ∀ (Qv : VK), (∀ x : Int, Qv (.int x) H1) → tIf (tTest (tOp (rI0 fun i j => V.bl (decide (j ≤ i))) (tCB (fun xs H Q => ∃ i, xs = [V.int i] ∧ Q (V.int (if i < 0 then -i else i)) H) (tCons (tVar 2) tNil)) (tOp (rI CPow fun i j => V.int (i ^ j.toNat)) (tC (V.int 10)) (tC (V.int 18)))))
        (tCB (fun xs H Q => ∃ i, xs = [V.int i] ∧ Q (V.int (if i < 0 then -i else i)) H) (tCons (tVar 2) tNil)) (tC (V.int 0)) [some (.ref a), some (.int i), some (.int c), some (.int b), o4, o5] H1 Qv := by
      intro Qv hq
      exact ⟨_, rfl, c, rfl, 10, 18, rfl, rfl, ⟨by decide, by decide, by decide⟩, _, _, rfl, rfl, _, rfl, ite2 (fun _ => ⟨_, rfl, c, rfl, hq _⟩) (fun _ => hq 0)⟩
    refine fin _ fun x => ⟨_, rfl, (by show 2 ≤ sizeLine; decide), fun r hr0 => ?_⟩
    exact k r _ (s1.trans (Fr.new (E := Ex0) hr0).same) ((Fr.of (E := Ex0) s1).free hr0) ⟨x, b, upd_same⟩
end
end Pn
/-! #### W35 -/
namespace Pn
open PySem PySem.Spec PyProof.Rows L2
/-! ### the law's prices -/
theorem Fr.other {E : Ex} {H H1 H2 : Hp} {sd : Addr} (a : Fr E H H1) (b : Fr (ExD sd) H1 H2) (n : H sd = none) : Fr E H H2 := fun q o h => by
  have nq : q ≠ sd := fun z => by rw [z, n] at h; cases h
  refine ⟨fun e => ?_, fun e => b.get ((a q o h).2 e) nq⟩
  obtain ⟨o', e', h'⟩ := (a q o h).1 e
  exact ⟨o', e', b.get h' nq⟩
def ExL (du sd : Addr) : Ex := fun q o => (∃ i j : Int, o = .lst [.int i, .int j]) ∨ ((q = du ∨ q = sd) ∧ ∃ kvs, o = .dT kvs)
theorem Fr.hide {H H1 H2 : Hp} {du sd : Addr} (a : Fr ExB H H1) (b : Fr (ExL du sd) H1 H2) (n1 : H du = none) (n2 : H sd = none) : Fr ExB H H2 := fun q o h => by
  have q1 : q ≠ du := fun z => by rw [z, n1] at h; cases h
  have q2 : q ≠ sd := fun z => by rw [z, n2] at h; cases h
  refine ⟨fun e => ?_, fun e => b.get ((a q o h).2 e) fun z => z.elim e fun z => z.1.elim q1 q2⟩
  obtain ⟨o', e', h'⟩ := (a q o h).1 e
  obtain ⟨o2, e2, h2⟩ := (b q o' h').1 (.inl e')
  exact ⟨o2, e2.elim id fun z => (z.1.elim q1 q2).elim, h2⟩
theorem Fr.exL {H H1 : Hp} {du sd : Addr} (a : Fr ExB H H1) : Fr (ExL du sd) H H1 := a.wide (fun _ _ z => .inl z) fun _ _ _ _ z _ => .inl z
theorem ExL.tup {du sd q : Addr} {xs : List V} : ¬ ExL du sd q (.tup xs) := fun z => z.elim (fun ⟨_, _, z⟩ => by cases z) fun ⟨_, _, z⟩ => by cases z
theorem ExL.ins {du sd q C dx : Addr} {xs : List (Str × V)} : ¬ ExL du sd q (.ins C dx xs) := fun z => z.elim (fun ⟨_, _, z⟩ => by cases z) fun ⟨_, _, z⟩ => by cases z
theorem ExL.prs {du sd q : Addr} {H : Hp} {vs : List V} {ps : List Pr} (h : IsPs H vs ps) : ¬ ExL du sd q (.lst vs) := fun z => z.elim (fun z => exB_prs (q := q) h z) fun ⟨_, _, z⟩ => by cases z
theorem DInt.frB {H H' : Hp} {a : Addr} {m : List (Pr × Int)} (f : Fr ExB H H') (h : DInt H a m) : DInt H' a m := f.get h fun ⟨_, _, z⟩ => by cases z
theorem lsidesIn_fst {cols : List Str} {col : Str} {d : Ld} {p : Pr} (h : p ∈ lsidesIn cols col d) : (p.1 = "old" ∨ p.1 = "new") ∧ p.2 = d.name := by
  unfold lsidesIn at h
  rcases List.mem_append.mp h with z | z
  · split at z
    · have : p = (("new" : Str), d.name) := List.mem_singleton.mp z
      rw [this]; exact ⟨.inr rfl, rfl⟩
    · cases z
  · split at z
    · have : p = (("old" : Str), d.name) := List.mem_singleton.mp z
      rw [this]; exact ⟨.inl rfl, rfl⟩
    · cases z
theorem lsidesIn_nd {cols : List Str} {col : Str} {d : Ld} : (lsidesIn cols col d).Nodup := by
  unfold lsidesIn
  have n : ¬ ((("new" : Str), d.name) : Pr) = (("old" : Str), d.name) := fun z => by
    have := congrArg Prod.fst z
    exact absurd this (show ¬ ("new" : Str) = "old" by decide)
  split <;> split <;> simp
  exact fun z => n (Prod.ext z rfl)
theorem lsides_nd {cols : List Str} {ds : List Ld} {col : Str} (nd : (ds.map Ld.name).Nodup) : (lsides cols ds col).Nodup := by
  unfold lsides
  induction ds with
  | nil => simp
  | cons d l ih =>
    have hn := List.nodup_cons.mp nd
    rw [List.flatMap_cons]
    refine List.nodup_append.mpr ⟨lsidesIn_nd, ih hn.2, fun a ha b hb => ?_⟩
    rintro rfl
    obtain ⟨d', hd', hb'⟩ := List.mem_flatMap.mp hb
    exact hn.1 (List.mem_map.mpr ⟨d', hd', (lsidesIn_fst hb').2.symm.trans (lsidesIn_fst ha).2⟩)
noncomputable def lsd (cols : List Str) (ds : List Ld) (col : Str) : List Pr := (lsides cols ds col).mergeSort prLe
theorem lsd_nd {cols : List Str} {ds : List Ld} {col : Str} (nd : (ds.map Ld.name).Nodup) : (lsd cols ds col).Nodup := (List.mergeSort_perm _ _).nodup_iff.mpr (lsides_nd nd)
theorem lsd_ok {cols : List Str} {ds : List Ld} {col : Str} (hn : ∀ d ∈ ds, Nm d.name) {p : Pr} (h : p ∈ lsd cols ds col) : SdOk p := by
  obtain ⟨d, hd, hp⟩ := List.mem_flatMap.mp ((List.mergeSort_perm _ _).mem_iff.mp h)
  obtain ⟨h1, h2⟩ := lsidesIn_fst hp
  exact ⟨h1, by rw [h2]; exact hn d hd⟩
theorem lsd_len {cols : List Str} {ds : List Ld} {col : Str} (h : ds.length ≤ 7) : (lsd cols ds col).length ≤ 14 := by
  unfold lsd
  rw [List.length_mergeSort]
  have := flatMap_len (lsidesIn cols col) 2 ds fun d _ => by unfold lsidesIn; split <;> split <;> simp
  unfold lsides
  omega
/-- what stands in the two dicts behind some sides -/
structure Dues (us : Int) (L : List Pr) (md mc : List (Pr × Int)) : Prop where
  keys : md.map Prod.fst = L
  val : ∀ k ∈ L, look md k = some (prc us mc k)
  sub : ∀ k ∈ mc.map Prod.fst, k ∈ L
  len : mc.length ≤ L.length
  lo : ∀ k, 1 ≤ prc us mc k ∧ prc us mc k ≤ 1000000000
theorem Dues.md_len {us : Int} {L : List Pr} {md mc : List (Pr × Int)} (h : Dues us L md mc) : md.length = L.length := by rw [← h.keys, List.length_map]
theorem Dues.usual {us : Int} {L : List Pr} {md mc : List (Pr × Int)} (h : Dues us L md mc) {k : Pr} (n : k ∉ L) : Dues us (L ++ [k]) (put md k us) mc := by
  refine ⟨by rw [put_keys, h.keys, if_neg n], fun x hx => ?_, fun x hx => List.mem_append_left _ (h.sub x hx), by have := h.len; rw [List.length_append]; omega, h.lo⟩
  rw [look_put]
  by_cases e : x = k
  · subst e
    rw [if_pos rfl]
    unfold prc
    rw [look_none.mpr fun z => n (h.sub _ z)]; rfl
  · rw [if_neg e]
    rcases List.mem_append.mp hx with y | y
    · exact h.val x y
    · exact absurd (List.mem_singleton.mp y) e
theorem Dues.own {us : Int} {L : List Pr} {md mc : List (Pr × Int)} (h : Dues us L md mc) {k : Pr} (n : k ∉ L) {x : Int} (hx : 1 ≤ x) (hx2 : x ≤ 1000000000) : Dues us (L ++ [k]) (put (put md k us) k x) (put mc k x) := by
  have pe : ∀ y, prc us (put mc k x) y = if y = k then x else prc us mc y := fun y => by
    unfold prc
    rw [look_put]
    split <;> rfl
  refine ⟨by rw [put_keys, put_keys, h.keys, if_neg n, if_pos (by simp)], fun y hy => ?_, fun y hy => ?_, ?_, fun y => ?_⟩
  · rw [look_put, look_put, pe]
    by_cases e : y = k
    · rw [if_pos e, if_pos e]
    · rw [if_neg e, if_neg e, if_neg e]
      rcases List.mem_append.mp hy with z | z
      · exact h.val y z
      · exact absurd (List.mem_singleton.mp z) e
  · rw [put_keys] at hy
    split at hy
    · exact List.mem_append_left _ (h.sub y hy)
    · rcases List.mem_append.mp hy with z | z
      · exact List.mem_append_left _ (h.sub y z)
      · exact List.mem_append_right _ z
  · have := put_len mc k x
    have := h.len
    rw [List.length_append, List.length_singleton]; omega
  · rw [pe]
    split
    · exact ⟨hx, hx2⟩
    · exact h.lo y
section
variable {P : Program} {w : World} {K : PySem.W.Frag} {mg : Str → Option Value} {base : Heap} {tP : Addr}
def sp_law_priced (K : PySem.W.Frag) : Sp := fun vs H Q _ => ∃ (b : Addr) (v : V) (col : Str) (cols : List Str) (ds : List Ld) (kv : V), vs = [.ref b, v, .str col] ∧ BagAt H b ∧ LDat H v cols ds kv ∧ ds.length ≤ 7 ∧ (ds.map Ld.name).Nodup ∧ (∀ d ∈ ds, Nm d.name) ∧
  ∀ H' r cv du us m, Fr ExB H H' → H' r = some (.tup [cv, .ref du]) → H du = none → PriceAt K H' cv us m → DFn H' du (lsd cols ds col) (prc us m) → (∀ s, 1 ≤ prc us m s ∧ prc us m s ≤ 1000000000) → Q (.ref r) H'
set_option maxHeartbeats 8000000 in
theorem ok_law_priced (T : Tl P K mg base tP) : Kf P w K mg base 7 "_law_priced" p_law_priced (sp_law_priced K) := by
  refine Kf.of T.priced sc_law_priced ((fun _ _ _ _ _ _ us hl => match us, hl with | [_, _, _], _ => rfl)) (fun vs H Q E ⟨_, _, _, _, _, _, e, _⟩ => by rw [e]; rfl) fun f cdv A outer s H vs Q E hr ⟨b, v, col, cols, ds, kv, e, hb, hv, hdl, hnd, hnm, k⟩ => ?_
  subst e
  have TG := T.tj.ti.th.tg
  have B := TG.tf.tb.te.td.tc.tw.bt
  have c_law_take := ok_law_take (P := P) (w := w) T
  have c_law_price := ok_law_price (P := P) (w := w) T
  have c_law_sides := ok_law_sides (P := P) (w := w) T
  obtain ⟨fp, fdp, dp, Mp, Fp, b0p, vp, bp⟩ := ok_prices_init (P := P) (w := w) (base := base) TG
  obtain ⟨gs, fds, Gs, Fs, bs⟩ := ok_prices_set (P := P) (w := w) (base := base) TG
  refine ⟨_, (pss_cons (ps_par (i := 3) (j := 4) rfl sc_law_priced.nd rfl rfl (by decide) rfl rfl (pa_cons (pe_k c_law_price hr (by decide) rfl (pa_cons (pv 0) pa_nil)) (pa_cons pe_dnewT pa_nil)) rfl) (pss_cons (sset 5 sc_law_priced.nd (pe_make Mp Fp (hr.mono (by decide)) rfl TG.prices.g b0p .nil pass0 (pa_cons (pv 3) pa_nil))) (pss_cons (ps_for PassesOwn.never rfl (pi_listK K (pe_k c_law_sides hr (by decide) rfl (pa_cons (pv 1) (pa_cons (pv 2) pa_nil)))) (pg_tupK K (n := 2) rfl (pgs_cons (gnm 6 sc_law_priced.nd) (pgs_cons (gnm 7 sc_law_priced.nd) pgs_nil))) (pss_cons (ps_dput (hu_of hr) (pv 4) (pe_tup (pa_cons (pv 6) (pa_cons (pv 7) pa_nil))) (pv 3) rfl) (pss_one (ps_if (pt_cmpR op_gt (pe_k c_law_take hr (by decide) rfl (pa_cons (pv 0) (pa_cons pe_int pa_nil))) pe_int (nomark _)) (pss_cons (ps_dput (hu_of hr) (pv 4) (pe_tup (pa_cons (pv 6) (pa_cons (pv 7) pa_nil))) (pe_k c_law_price hr (by decide) rfl (pa_cons (pv 0) pa_nil)) rfl) (pss_one (ps_asg (pe_dget (hu_of hr) (pv 4) (pe_tup (pa_cons (pv 6) (pa_cons (pv 7) pa_nil))) (fun _ _ => rfl)) (pg_sub (pv 5) (pe_tup (pa_cons (pv 6) (pa_cons (pv 7) pa_nil))) (set_own Gs Fs bs (hr.mono (by decide))))))) pss_nil)))) (pss_one (ps_ret (pe_tup (pa_cons (pv 5) (pa_cons (pv 4) pa_nil)))))))), ?_⟩
  have h2z : (2 : Nat) ≤ sizeLine := by decide
  refine ⟨_, rfl, b, rfl, hb, fun H1 us f1 u1 u2 => ?_⟩
  refine fun du hdu => ⟨_, _, rfl, ?_⟩
  have duH : H du = none := f1.free hdu
  have f2 : Fr ExB H (upd H1 du (.dT [])) := f1.new' hdu
  refine ⟨_, rfl, fun x dx hx hdx hne => ?_⟩
  have s3 : Same (upd H1 du (.dT [])) (upd (upd (upd H1 du (.dT [])) dx (.own x)) x (.ins (cA K "Prices") dx [])) := (((Fr.refl Ex0 _).put hdx).put hx).same
  refine ⟨_, x, dx, us, rfl, u1, u2, s3, hx, upd_same, fun H3 sd s4 hsd hx3 hd3 => ⟨rfl, ?_⟩⟩
  have hdu3 : DInt H3 du [] := s4 _ _ upd_same
  have f3 : Fr ExB H H3 := f2.trans (Fr.of s4)
  have sdH : H sd = none := f2.free hsd
  have ndd : du ≠ sd := ne_of_none upd_same hsd
  have ndx : du ≠ x := ne_of_none upd_same hx
  have nxs : x ≠ sd := ne_of hx3 hd3 (by intro z; cases z)
  have xH : H x = none := f2.free hx
  refine ⟨_, rfl, _, rfl, v, col, cols, ds, kv, rfl, hv.frB f3, hdl, fun r H4 s5 hr4 => ?_⟩
  obtain ⟨hr30, zs, hrl, hzs⟩ := hr4
  have f4 : Fr ExB H H4 := f3.trans (Fr.of s5)
  have hx4 := s5 _ _ hx3
  have zll : zs.length = (lsd cols ds col).length := Paired.length hzs
  have l14 := lsd_len (cols := cols) (col := col) hdl
  let Pv : Nat → L2.St → Hp → Prop := fun i σ H' => (∃ o6 o7, σ = [some (.ref b), some v, some (.str col), some (.int us), some (.ref du), some (.ref x), o6, o7]) ∧ Fr (ExL du sd) H4 H' ∧ ∃ md mc, DInt H' du md ∧ DInt H' sd mc ∧ Dues us ((lsd cols ds col).take i) md mc
  refine ⟨r, rfl, ⟨zs, .inl (.inl hrl)⟩, for_it (walk_list (xs := zs)) Pv ⟨⟨_, _, rfl⟩, Fr.refl _ _, [], [], s5 _ _ hdu3, s5 _ _ hd3, ⟨rfl, by simp, by simp, Nat.le_refl _, fun k => by show 1 ≤ us ∧ us ≤ 1000000000; exact ⟨u1, u2⟩⟩⟩ (fun i σ H' _ p => .inl (.inl (p.2.1.get hrl (ExL.prs hzs)))) ?_ ?_⟩
  · rintro i y σ H5 H6 hi ⟨⟨o6, o7, rfl⟩, f5, md, mc, hmd, hmc, D⟩ ⟨rfl, hy⟩
    obtain ⟨p, hp, t, rfl, ht⟩ := Paired.get hzs hy
    have hp : (lsd cols ds col)[i]? = some p := hp
    have hpi : i < (lsd cols ds col).length := (List.getElem?_eq_some_iff.mp hp).1
    have htk : (lsd cols ds col).take (i + 1) = (lsd cols ds col).take i ++ [p] := by
      rw [List.take_succ_eq_append_getElem hpi, (List.getElem?_eq_some_iff.mp hp).2]
    have pn : p ∉ (lsd cols ds col).take i := by
      have hn : ((lsd cols ds col).take (i + 1)).Nodup := (lsd_nd hnd).sublist (List.take_sublist _ _)
      rw [htk] at hn
      exact fun z => (List.nodup_append.mp hn).2.2 p z p (by simp) rfl
    have pok := lsd_ok hnm (List.mem_of_getElem? hp)
    have hti : ((lsd cols ds col).take i).length ≤ 14 := by rw [List.length_take]; omega
    have mdl : md.length ≤ 14 := by rw [D.md_len]; exact hti
    have mcl : mc.length ≤ 14 := by have := D.len; omega
    refine ⟨t, _, rfl, .inl (.inl (f5.get ht ExL.tup)), rfl, _, _, rfl, _, _, rfl, rfl, ?_⟩
    refine ⟨_, rfl, _, rfl, _, rfl, _, rfl, h2z, fun t1 ht1 => ?_⟩
    have s1 : Same H6 (upd H6 t1 (.tup [.str p.1, .str p.2])) := (Fr.new (E := Ex0) ht1).same
    refine ⟨du, _, rfl, DInt.put (p := p) (v := us) (s1 _ _ hmd) upd_same (by omega), ?_⟩
    generalize hH7 : upd (upd H6 t1 (.tup [.str p.1, .str p.2])) du (.dT (kvG V.int (put md p us))) = H7
    have f7 : Fr (ExL du sd) H4 H7 := by rw [← hH7]; exact (f5.trans (Fr.of s1)).set (s1 _ _ hmd) (.inr ⟨.inl rfl, _, rfl⟩) (.inr ⟨.inl rfl, _, rfl⟩)
    have md7 : DInt H7 du (put md p us) := by rw [← hH7]; exact upd_same
    have mc7 : DInt H7 sd mc := by
      rw [← hH7]
      show upd _ du _ sd = _
      rw [upd_ne ndd.symm]; exact s1 _ _ hmc
    have fH7 := f4.hide f7 duH sdH
    refine ⟨_, rfl, b, 3, rfl, hb.fr fH7, by decide, by decide, fun H8 d f8 _ _ => ⟨_, _, rfl, rfl, _, rfl, ite2 (fun _ => ?_) (fun _ => ?_)⟩⟩
    · refine ⟨_, rfl, b, rfl, (hb.fr fH7).fr f8, fun H9 pr f9 p1 p2 => ⟨_, rfl, _, rfl, _, rfl, h2z, fun t2 ht2 => ?_⟩⟩
      have f79 := f8.trans f9
      have s2 : Same H9 (upd H9 t2 (.tup [.str p.1, .str p.2])) := (Fr.new (E := Ex0) ht2).same
      have md9 := s2 _ _ (md7.frB f79)
      have l2 : (put md p us).length ≤ 15 := by have := put_len md p us; omega
      refine ⟨du, _, rfl, DInt.put (p := p) (v := pr) md9 upd_same (by omega), ?_⟩
      generalize hH10 : upd (upd H9 t2 (.tup [.str p.1, .str p.2])) du (.dT (kvG V.int (put (put md p us) p pr))) = H10
      have f10 : Fr (ExL du sd) H4 H10 := by rw [← hH10]; exact ((f7.trans f79.exL).trans (Fr.of s2)).set md9 (.inr ⟨.inl rfl, _, rfl⟩) (.inr ⟨.inl rfl, _, rfl⟩)
      have md10 : DInt H10 du (put (put md p us) p pr) := by rw [← hH10]; exact upd_same
      have mc10 : DInt H10 sd mc := by
        rw [← hH10]
        show upd _ du _ sd = _
        rw [upd_ne ndd.symm]; exact s2 _ _ (mc7.frB f79)
      refine ⟨_, rfl, _, rfl, _, rfl, h2z, fun t3 ht3 => ?_⟩
      have s3' : Same H10 (upd H10 t3 (.tup [.str p.1, .str p.2])) := (Fr.new (E := Ex0) ht3).same
      refine ⟨du, _, rfl, DInt.at (p := p) (s3' _ _ md10) upd_same (by rw [look_put, if_pos rfl]), ?_⟩
      generalize hH11 : upd H10 t3 (.tup [.str p.1, .str p.2]) = H11 at s3'
      refine ⟨_, rfl, _, rfl, _, rfl, h2z, fun t4 ht4 => ?_⟩
      have s4' : Same H11 (upd H11 t4 (.tup [.str p.1, .str p.2])) := (Fr.new (E := Ex0) ht4).same
      have s34 := s3'.trans s4'
      refine ⟨x, dx, _, rfl, s34 _ _ (f10.get hx4 ExL.ins), x, _, us, mc, p, pr, dx, sd, rfl, s34 _ _ (f10.get hx4 ExL.ins), s34 _ _ mc10, by omega, ⟨t4, rfl, upd_same⟩, pok, p1, p2, fun H12 f12 mc12 => ⟨⟨_, _, rfl⟩, ?_, _, _, f12.get (s34 _ _ md10) (fun z => ndd z), mc12, ?_⟩⟩
      · refine (f10.trans (Fr.of s34)).trans fun q o h => ?_
        by_cases hq : q = sd
        · subst hq
          have h2 := s34 _ _ mc10
          have h2 : _ = some (HO.dT (kvG V.int mc)) := h2
          rw [h] at h2; cases h2
          exact ⟨fun _ => ⟨_, .inr ⟨.inr rfl, _, rfl⟩, mc12⟩, fun n => absurd (.inr ⟨.inr rfl, _, rfl⟩) n⟩
        · exact ⟨fun e => ⟨o, e, f12.get h hq⟩, fun _ => f12.get h hq⟩
      · rw [htk]; exact D.own pn p1 p2
    · refine ⟨⟨_, _, rfl⟩, f7.trans f8.exL, _, _, md7.frB f8, mc7.frB f8, ?_⟩
      rw [htk]; exact D.usual pn
  · rintro σ H5 ⟨⟨o6, o7, rfl⟩, f5, md, mc, hmd, hmc, D⟩
    rw [zll, List.take_length] at D
    refine ⟨_, rfl, _, rfl, h2z, fun q hq => ?_⟩
    have s6 : Same H5 (upd H5 q (.tup [.ref x, .ref du])) := (Fr.new (E := Ex0) hq).same
    exact k _ q (.ref x) du us mc ((f4.hide f5 duH sdH).trans (Fr.of s6)) upd_same duH ⟨x, dx, sd, rfl, s6 _ _ (f5.get hx4 ExL.ins), s6 _ _ hmc⟩ ⟨md, s6 _ _ hmd, D.keys, D.val⟩ D.lo
end
end Pn
/-! #### W36 -/
namespace Pn
open PySem PySem.Spec PyProof.Rows L2
/-! ### what the sides bear -/
structure Lds (pk : List (Pr × Int)) (add : List Pr) (n : Int) (m : List (Pr × Int)) : Prop where
  val : ∀ e, (look m e).getD 0 = loadP pk e + (add.map (ind e)).sum * n
  sub : ∀ e ∈ m.map Prod.fst, (∃ x ∈ pk, e = nw x.1 ∨ e = od x.1) ∨ e ∈ add
  len : m.length ≤ 2 * pk.length + add.length
theorem Lds.add {pk : List (Pr × Int)} {add : List Pr} {n : Int} {m : List (Pr × Int)} (h : Lds pk add n m) (e : Pr) : Lds pk (add ++ [e]) n (put m e ((look m e).getD 0 + n)) := by
  refine ⟨fun x => ?_, fun x hx => ?_, ?_⟩
  · rw [look_put, List.map_append, List.sum_append]
    have e1 : (([e].map (ind x)).sum : Int) = ind x e := by simp
    rw [e1, Int.add_mul]
    by_cases z : x = e
    · rw [if_pos z, z]
      show (look m e).getD 0 + n = _
      rw [h.val e]
      have : ind e e = 1 := by unfold ind; rw [if_pos rfl]
      rw [this]; omega
    · rw [if_neg z, h.val x]
      have : ind x e = 0 := by unfold ind; rw [if_neg z]
      rw [this]; omega
  · rw [put_keys] at hx
    split at hx
    · exact (h.sub x hx).imp id fun y => List.mem_append_left _ y
    · rcases List.mem_append.mp hx with y | y
      · exact (h.sub x y).imp id fun y => List.mem_append_left _ y
      · exact .inr (List.mem_append_right _ y)
  · have := put_len m e ((look m e).getD 0 + n)
    have := h.len
    rw [List.length_append, List.length_singleton]; omega
theorem Lds.next {pk : List (Pr × Int)} {p : Pr} {n n' : Int} {m : List (Pr × Int)} (h : Lds pk [nw p, od p] n m) : Lds (pk ++ [(p, n)]) [] n' m := by
  refine ⟨fun e => ?_, fun e he => .inl ?_, ?_⟩
  · rw [h.val, loadP_app]
    have e1 : (([nw p, od p].map (ind e)).sum : Int) = inc e p := by unfold inc; simp
    rw [e1]; simp
  · rcases h.sub e he with ⟨x, hx, y⟩ | y
    · exact ⟨x, List.mem_append_left _ hx, y⟩
    · refine ⟨(p, n), by simp, ?_⟩
      simpa using y
  · have := h.len
    simp at this ⊢; omega
theorem Lds.any {pk : List (Pr × Int)} {n n' : Int} {m : List (Pr × Int)} (h : Lds pk [] n m) : Lds pk [] n' m := ⟨fun e => by rw [h.val]; simp, h.sub, h.len⟩
section
variable {P : Program} {w : World} {K : PySem.W.Frag} {mg : Str → Option Value} {base : Heap} {tP : Addr}
def sp_law_loads : Sp := fun vs H Q _ => ∃ (pa : Addr) (ws : List V) (pk : List (Pr × Int)), vs = [.ref pa] ∧ H pa = some (.tup ws) ∧ Paired (IsW H) ws pk ∧ pk.length ≤ 100 ∧
  ∀ r H' m, Same H H' → H r = none → DInt H' r m → (∀ e ∈ m.map Prod.fst, look m e = some (loadP pk e)) → (∀ e ∈ m.map Prod.fst, ∃ x ∈ pk, e = nw x.1 ∨ e = od x.1) → m.length ≤ 200 → Q (.ref r) H'
set_option maxHeartbeats 8000000 in
theorem ok_law_loads (T : Tl P K mg base tP) : Kf P w K mg base 3 "_law_loads" p_law_loads sp_law_loads := by
  refine Kf.of T.loads sc_law_loads ((fun _ _ _ _ _ _ us hl => match us, hl with | [_], _ => rfl)) (fun vs H Q E ⟨_, _, _, e, _⟩ => by rw [e]; rfl) fun f cdv A outer s H vs Q E hr ⟨pa, ws, pk, e, hpa, hpk, hl, k⟩ => ?_
  subst e
  have B := T.tj.ti.th.tg.tf.tb.te.td.tc.tw.bt
  have c_law_both := ok_law_both (P := P) (w := w) T
  refine ⟨_, (pss_cons (sset 1 sc_law_loads.nd pe_dnewT) (pss_cons (ps_for PassesOwn.never rfl (pi_tupK K (pv 0)) (pg_tupK K (n := 2) rfl (pgs_cons (gnm 2 sc_law_loads.nd) (pgs_cons (gnm 3 sc_law_loads.nd) pgs_nil))) (pss_one (ps_for PassesOwn.never rfl (pi_listK K (pe_k c_law_both hr (by decide) rfl (pa_cons (pv 2) pa_nil))) (gnm 4 sc_law_loads.nd) (pss_one (ps_dput (hu_of hr) (pv 1) (pv 4) (pe_op op_add (pe_dget2 (hu_of hr) (pv 1) (pv 4) pe_int ⟨rfl, rfl, rfl, rfl⟩) (pv 3)) rfl))))) (pss_one (ps_ret (pv 1))))), ?_⟩
  have hwl : ws.length = pk.length := Paired.length hpk
  intro r hr0
  show tSeq _ _ _ _ (upd H r (.dT []))
  let Pv : Nat → L2.St → Hp → Prop := fun i σ H' => (∃ o2 o3 o4, σ = [some (.ref pa), some (.ref r), o2, o3, o4]) ∧ Same H H' ∧ ∃ m, DInt H' r m ∧ Lds (pk.take i) [] 0 m
  refine ⟨_, rfl, pa, rfl, ⟨ws, .inl (.inl ((Fr.new (E := Ex0) hr0).same _ _ hpa))⟩, for_it (walk_tup (xs := ws)) Pv ⟨⟨_, _, _, rfl⟩, (Fr.new (E := Ex0) hr0).same, [], upd_same, ⟨fun e => by simp [look, loadP], by simp, by simp⟩⟩ (fun i σ H' _ p => .inl (.inl (p.2.1 _ _ hpa))) ?_ ?_⟩
  · rintro i x σ H1 H2 hi ⟨⟨o2, o3, o4, rfl⟩, s1, m, hm, L⟩ ⟨rfl, hx⟩
    obtain ⟨⟨p, n⟩, hp, t, u, rfl, ht, b, rfl, hb⟩ := Paired.get hpk hx
    have hpi : i < pk.length := (List.getElem?_eq_some_iff.mp hp).1
    have htk : pk.take (i + 1) = pk.take i ++ [(p, n)] := by
      rw [List.take_succ_eq_append_getElem hpi, (List.getElem?_eq_some_iff.mp hp).2]
    have til : (pk.take i).length ≤ 100 := by rw [List.length_take]; omega
    refine ⟨t, _, rfl, .inl (.inl (s1 _ _ ht)), rfl, _, _, rfl, _, _, rfl, rfl, ?_⟩
    refine ⟨_, rfl, .ref b, p, rfl, ⟨b, rfl, s1 _ _ hb⟩, fun r2 H3 s3 ⟨hr20, us, hr2, hus⟩ => ⟨r2, rfl, ⟨us, .inl (.inl hr2)⟩, ?_⟩⟩
    have hul : us.length = 2 := Paired.length hus
    let Pv2 : Nat → L2.St → Hp → Prop := fun j σ H' => (∃ o4, σ = [some (.ref pa), some (.ref r), some (.ref b), some (.int n), o4]) ∧ Same H H' ∧ H' r2 = some (.lst us) ∧ IsPs H' us [nw p, od p] ∧ ∃ m, DInt H' r m ∧ Lds (pk.take i) ([nw p, od p].take j) n m
    refine for_it (walk_list (xs := us)) Pv2 ⟨⟨_, rfl⟩, s1.trans s3, hr2, hus, m, s3 _ _ hm, L.any⟩ (fun j σ H' _ p => .inl (.inl p.2.2.1)) ?_ ?_
    · rintro j x σ H4 H5 hj ⟨⟨o4, rfl⟩, s5, hr5, hus5, m5, hm5, L5⟩ ⟨rfl, hx5⟩
      obtain ⟨e, he, c, rfl, hc⟩ := Paired.get hus5 hx5
      have hej : j < ([nw p, od p] : List Pr).length := (List.getElem?_eq_some_iff.mp he).1
      have htj : ([nw p, od p] : List Pr).take (j + 1) = ([nw p, od p] : List Pr).take j ++ [e] := by
        rw [List.take_succ_eq_append_getElem hej, (List.getElem?_eq_some_iff.mp he).2]
      have ml := L5.len
      have tjl : (([nw p, od p] : List Pr).take j).length ≤ 2 := by rw [List.length_take]; show min j 2 ≤ 2; omega
      refine ⟨_, rfl, r, rfl, .inr ⟨_, .inl hm5⟩, _, rfl, _, DInt.get (p := e) hm5 hc, _, rfl, (look m5 e).getD 0, n, (by cases look m5 e <;> rfl), rfl, _, rfl, _, rfl, r, _, rfl, DInt.put (p := e) hm5 hc (by omega), ?_⟩
      refine ⟨⟨_, rfl⟩, ((Fr.of (E := Ex0) s5).put hr0).same, ?_, IsPs.at hm5 (by intro xs z; cases z) hus5, _, upd_same, ?_⟩
      · rw [upd_ne (ne_of hr5 hm5 (by intro z; cases z))]; exact hr5
      · rw [htj]; exact L5.add e
    · rintro σ H4 ⟨⟨o4, rfl⟩, s5, hr5, hus5, m5, hm5, L5⟩
      rw [hul] at L5
      exact ⟨⟨_, _, _, rfl⟩, s5, m5, hm5, by rw [htk]; exact Lds.next L5⟩
  · rintro σ H1 ⟨⟨o2, o3, o4, rfl⟩, s1, m, hm, L⟩
    rw [hwl, List.take_length] at L
    have hml := L.len
    refine ⟨_, rfl, k r H1 m s1 hr0 hm (fun e he => ?_) (fun e he => (L.sub e he).elim id fun z => by cases z) (by simp at hml; omega)⟩
    have h := L.val e
    obtain ⟨v, hv⟩ := Option.isSome_iff_exists.mp (look_some.mpr he)
    rw [hv] at h ⊢
    have h : v = loadP pk e + 0 * 0 := h
    rw [h]; simp
end
end Pn
/-! #### W37 -/
namespace Pn
open PySem PySem.Spec PyProof.Rows L2
/-! ### the order of pairs, once more -/
theorem stLt_tri {x y : Str} (h1 : stLt x y = false) (h2 : stLt y x = false) : x = y := by
  have a : ¬ x.cps.toList < y.cps.toList := of_decide_eq_false h1
  have b : ¬ y.cps.toList < x.cps.toList := of_decide_eq_false h2
  have e : x.cps.toList = y.cps.toList := List.le_antisymm (List.not_lt.mp b) (List.not_lt.mp a)
  obtain ⟨⟨c⟩⟩ := x
  obtain ⟨⟨d⟩⟩ := y
  have e : c = d := e
  rw [e]
theorem prLe_anti {p q : Pr} (h1 : prLe p q = true) (h2 : prLe q p = true) : p = q := by
  rw [prLe_eq] at h1 h2
  have a : prLt q p = false := by simpa using h1
  have b : prLt p q = false := by simpa using h2
  unfold prLt at a b
  by_cases e1 : p.1 = q.1
  · rw [if_pos e1] at b
    rw [if_pos e1.symm] at a
    by_cases e2 : p.2 = q.2
    · exact Prod.ext e1 e2
    · rw [if_neg e2] at b
      rw [if_neg fun z => e2 z.symm] at a
      exact absurd (stLt_tri b a) e2
  · rw [if_neg e1] at b
    rw [if_neg fun z => e1 z.symm] at a
    exact absurd (stLt_tri b a) e1
theorem prs_same {l m : List Pr} (p : l.Perm m) (h1 : l.Pairwise fun x y => prLe x y = true) (h2 : m.Pairwise fun x y => prLe x y = true) : l = m :=
  p.eq_of_pairwise (fun _ _ _ _ a b => prLe_anti a b) h1 h2
theorem eqv_prs (zs : List Pr) : PyData.eqv (.list (zs.map prD2)) (.list (zs.map prD2)) = true := by
  show PyData.eqvAll (zs.map prD2) (zs.map prD2) = true
  induction zs with
  | nil => rfl
  | cons z zs ih =>
    show (PyData.eqv (prD2 z) (prD2 z) && PyData.eqvAll (zs.map prD2) (zs.map prD2)) = true
    rw [ih, prD2_eqv, decide_eq_true rfl]; rfl
theorem sum_bound {g : Pr → Int} (hg : ∀ s, 1 ≤ g s ∧ g s ≤ 1000000000) : ∀ l : List Pr, 0 ≤ (l.map g).sum ∧ (l.map g).sum ≤ 1000000000 * l.length
  | [] => by simp
  | x :: l => by
    have := sum_bound hg l
    have h2 := hg x
    rw [List.map_cons, List.sum_cons, List.length_cons]
    constructor
    · omega
    · push_cast; omega
theorem log_small {i : Int} (h0 : 0 ≤ i) (h1 : i < 2 ^ 60) : i.natAbs.log2 < 1920 := by
  by_cases z : i.natAbs = 0
  · rw [z]; decide
  · have : i.natAbs < 2 ^ 60 := by omega
    have := (Nat.log2_lt z).mpr this
    omega
/-! ### the law's cover -/
section
variable {P : Program} {w : World} {K : PySem.W.Frag} {mg : Str → Option Value} {base : Heap} {tP : Addr}
def sp_law_is_cover (K : PySem.W.Frag) : Sp := fun vs H Q _ => ∃ (r : Addr) (v : V) (col : Str) (cols : List Str) (ds : List Ld) (kv : V) (pa du : Addr) (pvs : List V) (ps sd : List Pr) (price : Int) (pk : List (Pr × Int)) (g : Pr → Int), vs = [.ref r, v, .str col, .ref pa, .ref du] ∧ CovAt K H r col price sd pk ∧ LDat H v cols ds kv ∧ ds.length ≤ 7 ∧ (∀ d ∈ ds, Nm d.name) ∧
  H pa = some (.lst pvs) ∧ IsPs H pvs ps ∧ (∀ p ∈ ps, Nm p.1 ∧ Nm p.2) ∧ ps.length ≤ 1000 ∧ DFn H du (lsd cols ds col) g ∧ sd.Nodup ∧ sd.Pairwise (fun x y => prLe x y = true) ∧ (∀ s ∈ sd, s ∈ lsd cols ds col) ∧ (∀ p ∈ ps, nw p ∈ sd ∨ od p ∈ sd) ∧ price = (sd.map g).sum ∧ (∀ s, 1 ≤ g s ∧ g s ≤ 1000000000) ∧
  ∀ H', Same H H' → Q (.bl true) H'
set_option maxHeartbeats 8000000 in
theorem ok_law_is_cover (T : Tl P K mg base tP) : Kf P w K mg base 5 "_law_is_cover" p_law_is_cover (sp_law_is_cover K) := by
  refine Kf.of T.is_cover sc_law_is_cover ((fun _ _ _ _ _ _ us hl => match us, hl with | [_, _, _, _, _], _ => rfl)) (fun vs H Q E ⟨_, _, _, _, _, _, _, _, _, _, _, _, _, _, e, _⟩ => by rw [e]; rfl) fun f cdv A outer s H vs Q E hr ⟨r, v, col, cols, ds, kv, pa, du, pvs, ps, sd, price, pk, g, e, hcv, hv, hdl, hnm, hpa, hpp, hpn, hpl, hdu, hsn, hso, hsk, hct, hpr, hg, k⟩ => ?_
  subst e
  have TI := T.tj.ti
  have B := TI.th.tg.tf.tb.te.td.tc.tw.bt
  have c_law_sides := ok_law_sides (P := P) (w := w) T
  have c_law_tells := ok_law_tells (P := P) (w := w) T
  refine ⟨_, (pss_cons (sset 5 sc_law_is_cover.nd (fldK K (pv 0) rfl)) (pss_cons (ps_if (PW.pt (pw_or (pt_not (pt_val (cB (isiK K) B.isinstance bb_isinstance (pa_cons (pv 5) (pa_cons (pe_tyv "tuple" B.tuple bb_tuple) pa_nil))))) (pw_or1 (pt_cmpR (op_neDK K (hu64 hr)) (cT call_list_of B.list bb_list (pa_cons (pv 5) pa_nil)) (cB (cr_sortedSetP rfl hr) B.sorted bb_sorted (pa_cons (cT (cr_setP rfl (hu64 hr)) B.set bb_set (pa_cons (cT call_list_of B.list bb_list (pa_cons (pv 5) pa_nil)) pa_nil)) pa_nil)) (nomark _))))) (pss_one (ps_ret pe_bl)) pss_nil) (pss_cons (sset 6 sc_law_is_cover.nd (pe_k c_law_sides hr (by decide) rfl (pa_cons (pv 1) (pa_cons (pv 2) pa_nil)))) (pss_cons (ps_if (PW.pt (pw_or (pt_not (pt_val (cB (allK K rfl) B.all bb_all (pa_cons (pe_lc (own := [("_law_side", 7)]) rfl sc_law_is_cover.nd (pi_tupK K (pv 5)) (blkOk_by (N := n_law_is_cover) (sc := defScope s_law_is_cover) (by decide +kernel)) (fun _ _ _ _ _ => (gnm 7 sc_law_is_cover.nd)) (fun _ _ _ _ _ => pts_nil) (fun _ _ _ _ _ => (pe_cmpR (op_inDK K (hu65 hr)) (pv 7) (pv 6) (by with_unfolding_all rfl)))) pa_nil)))) (pw_or1 (pt_not (pt_val (pe_k c_law_tells hr (by decide) rfl (pa_cons (pv 3) (pa_cons (pv 5) pa_nil)))))))) (pss_one (ps_ret pe_bl)) pss_nil) (pss_one (ps_ret (pe_and (pe_cmpR op_eq (cB SkE.call_repr_int B.repr bb_repr (pa_cons (fldK K (pv 0) rfl) pa_nil)) (cB SkE.call_repr_int B.repr bb_repr (pa_cons (cB (cr_sum rfl) B.sum bb_sum (pa_cons (pe_lc (own := [("_law_side", 7)]) rfl sc_law_is_cover.nd (pi_tupK K (pv 5)) (blkOk_by (N := n_law_is_cover) (sc := defScope s_law_is_cover) (by decide +kernel)) (fun _ _ _ _ _ => (gnm 7 sc_law_is_cover.nd)) (fun _ _ _ _ _ => pts_nil) (fun _ _ _ _ _ => (pe_dget (hu_of hr) (pv 4) (pv 7) (fun _ _ => rfl)))) pa_nil)) pa_nil)) (nomark _)) (pe_one (pe_cmpR op_eq (fldK K (pv 0) rfl) (pv 2) (nomark _)))))))))), ?_⟩
  obtain ⟨dx, sa, pka, ys, ws, hr1, hsa, hys, hpka, hpk⟩ := hcv.at_
  subst hpr
  have sdl : sd.length ≤ 14 := by
    have := nodup_len hsn hsk
    have := lsd_len (cols := cols) (col := col) hdl
    omega
  have ysl : ys.length = sd.length := Paired.length hys
  have skp : ∀ z ∈ lsd cols ds col, SkP z := fun z hz => by
    obtain ⟨h1, h2⟩ := lsd_ok hnm hz
    refine ⟨?_, h2.sk⟩
    rcases h1 with e | e
    · rw [e]; exact sk_old
    · rw [e]; exact sk_new
  have hlog : ((sd.map g).sum).natAbs.log2 < 1920 := by
    have := sum_bound hg sd
    exact log_small this.1 (by omega)
  have hC : ∀ {H' : Hp}, Same H H' → H' r = some (.ins (cA K "Cover") dx (coverF col (sd.map g).sum sa pka)) := fun s => s _ _ hr1
  refine ⟨_, rfl, r, _, dx, _, _, rfl, hr1, TI.th.cover.cl, TI.th.nC _ (by simp), (show (coverF col (sd.map g).sum sa pka).lookup ("sides" : Str) = some (.ref sa) from rfl), ?_⟩
  refine ⟨_, rfl, .ref sa, .ty "tuple", _, _, true, rfl, .ty _, .base (.tup hsa), kit_ty (by decide +kernel), true, rfl, iteF ?_⟩
  refine ⟨_, rfl, sa, ys, rfl, .inr (.inl (.inl hsa)), fun l1 hl1 => ?_⟩
  have s1 : Same H (upd H l1 (.lst ys)) := (Fr.new (E := Ex0) hl1).same
  have g1 : upd H l1 (.lst ys) l1 = some (.lst ys) := upd_same
  revert s1 g1
  generalize upd H l1 (.lst ys) = H1
  intro s1 g1
  refine ⟨_, rfl, sa, ys, rfl, .inr (.inl (.inl (s1 _ _ hsa))), fun l2 hl2 => ⟨l2, ys, sd, rfl, .inl (.inl upd_same), hys.mono (s1.trans (Fr.new (E := Ex0) hl2).same), hsn, by omega, fun a L ha hL hLp => ⟨a, L, rfl, upd_same, fun p hp => (Fr.new (E := Ex0) ha).same _ _ (hLp p hp), fun ys' sd' p hys' hpm hso' hp0 => ?_⟩⟩⟩
  have hE : sd' = sd := prs_same (hpm.trans hL) hso' hso
  rw [hE] at hys'
  have s2 : Same H1 (upd (upd (upd H1 l2 (.lst ys)) a (SetPO P w a L)) p (.lst ys')) := (((Fr.new (E := Ex0) hl2).new' ha).new' hp0).same
  have hys2 : IsPs (upd (upd (upd H1 l2 (.lst ys)) a (SetPO P w a L)) p (.lst ys')) ys' sd := hys'.mono (Fr.new (E := Ex0) hp0).same
  have g2 : upd (upd (upd H1 l2 (.lst ys)) a (SetPO P w a L)) p (.lst ys') p = some (.lst ys') := upd_same
  show rNeD K (.ref l1) (.ref p) (upd (upd (upd H1 l2 (.lst ys)) a (SetPO P w a L)) p (.lst ys')) _
  generalize upd (upd (upd H1 l2 (.lst ys)) a (SetPO P w a L)) p (.lst ys') = H2 at s2 hys2 g2 ⊢
  have s02 := s1.trans s2
  refine ⟨.list (sd.map prD2), .list (sd.map prD2), (hys.mono s02).dp (s2 _ _ g1), hys2.dp g2, prDs2_shaped fun z hz => skp z (hsk z hz), prDs2_shaped fun z hz => skp z (hsk z hz), ?_⟩
  rw [eqv_prs]
  refine ⟨_, rfl, iteF ?_⟩
  refine ⟨_, rfl, _, rfl, v, col, cols, ds, kv, rfl, hv.frB (Fr.of s02), hdl, fun r2 H3 s3 ⟨hr20, ks, hk, hks⟩ => ?_⟩
  have s03 := s02.trans s3
  refine ⟨_, rfl, sa, rfl, ⟨ys, .inl (.inl (s03 _ _ hsa))⟩, fun D hD => ?_⟩
  refine lc_map (E := Ex0) (walk_tup (xs := ys)) (B := Bool) sd (fun _ => true) (fun _ => true) (fun _ v b => v = .bl b) ysl.symm hD (by omega) (fun H' f => .inl (.inl (f.same _ _ (s03 _ _ hsa)))) (fun i H x H' y => by rw [y.1]; exact Fr.refl _ _) (Sta.eq V.bl) (fun _ _ _ _ z => z) ?_ ?_
  · rintro i x H4 H5 q Ky Kn hq fr ⟨rfl, hx⟩ hy hk'
    obtain ⟨c, rfl, hc⟩ := Paired.at hys hx hq
    have hqm := hsk q (List.mem_of_getElem? hq)
    have s5 := fr.same
    refine ⟨rfl, yes_of ⟨_, rfl, _, rfl, inP (s5 _ _ (s03 _ _ hc)) (s5 _ _ hk) (hks.mono s5) (skp q hqm) skp ?_⟩⟩
    rw [decide_eq_true (show q ∈ (lsides cols ds col).mergeSort prLe from hqm)]
    exact hy _ _ rfl (Fr.refl _ _) rfl
  intro H4 zs fr hD4 rz
  have hz := Paired.mapEq (f := V.bl) rz
  rw [List.filter_eq_self.mpr (fun _ _ => rfl)] at hz
  have s04 := s03.trans fr.same
  have e : ((sd.map fun _ => true).all id) = true := by simp
  refine ⟨D, _, rfl, .inl (.inl (hz ▸ hD4)), _, rfl, ?_⟩
  rw [e]
  refine iteF ?_
  refine ⟨_, rfl, _, rfl, pa, sa, pvs, ys, ps, sd, rfl, s04 _ _ hpa, hpp.mono s04, s04 _ _ hsa, hys.mono s04, fun z hz => skp z (hsk z hz), hpn, hpl, hct, fun H5 s5 => ⟨true, rfl, iteF ?_⟩⟩
  have s05 := s04.trans s5
  refine ⟨_, rfl, r, _, dx, _, _, rfl, hC s05, TI.th.cover.cl, TI.th.nC _ (by simp), (show (coverF col (sd.map g).sum sa pka).lookup ("price" : Str) = some (.int (sd.map g).sum) from rfl), _, rfl, hlog, ?_⟩
  refine ⟨_, rfl, sa, rfl, ⟨ys, .inl (.inl (s05 _ _ hsa))⟩, fun D2 hD2 => ?_⟩
  refine lc_map (E := Ex0) (walk_tup (xs := ys)) (B := Int) sd (fun _ => true) g (fun _ v b => v = .int b) ysl.symm hD2 (by omega) (fun H' f => .inl (.inl (f.same _ _ (s05 _ _ hsa)))) (fun i H x H' y => by rw [y.1]; exact Fr.refl _ _) (Sta.eq V.int) (fun _ _ _ _ z => z) ?_ ?_
  · rintro i x H6 H7 q Ky Kn hq fr ⟨rfl, hx⟩ hy hk'
    obtain ⟨c, rfl, hc⟩ := Paired.at hys hx hq
    have hqm := hsk q (List.mem_of_getElem? hq)
    have s7 := s05.trans fr.same
    exact ⟨rfl, yes_of ⟨_, rfl, _, rfl, du, _, rfl, (hdu.same s7).get hqm (s7 _ _ hc), hy _ _ rfl (Fr.refl _ _) rfl⟩⟩
  intro H6 zs2 fr2 hD6 rz2
  have hz2 := Paired.mapEq (f := V.int) rz2
  rw [List.filter_eq_self.mpr (fun _ _ => rfl)] at hz2
  have s06 := s05.trans fr2.same
  refine ⟨D2, _, rfl, .inl (.inl (hz2 ▸ hD6)), _, rfl, hlog, rfl, _, rfl, ?_⟩
  rw [decide_eq_true rfl]
  refine iteT ⟨_, rfl, r, _, dx, _, _, rfl, hC s06, TI.th.cover.cl, TI.th.nC _ (by simp), (show (coverF col (sd.map g).sum sa pka).lookup ("column" : Str) = some (.str col) from rfl), _, rfl, rfl, ?_⟩
  rw [decide_eq_true rfl]
  exact k _ s06
end
end Pn
/-! #### W38 -/
namespace Pn
open PySem PySem.Spec PyProof.Rows L2
/-! ### the law's packing -/
section
variable {P : Program} {w : World} {K : PySem.W.Frag} {mg : Str → Option Value} {base : Heap} {tP : Addr}
def sp_law_is_packing (K : PySem.W.Frag) : Sp := fun vs H Q _ => ∃ (r pa du : Addr) (col : Str) (price : Int) (sd : List Pr) (pk : List (Pr × Int)) (pvs : List V) (ps L : List Pr) (g : Pr → Int), vs = [.ref r, .ref pa, .ref du] ∧ CovAt K H r col price sd pk ∧
  H pa = some (.lst pvs) ∧ IsPs H pvs ps ∧ (∀ p ∈ ps, SkP p) ∧ ps.length ≤ 1000 ∧ DFn H du L g ∧ (∀ x ∈ pk, x.1 ∈ ps ∧ 1 ≤ x.2) ∧ (pk.map Prod.fst).Nodup ∧ (pk.map Prod.fst).Pairwise (fun x y => prLe x y = true) ∧ pk.length ≤ 49 ∧ (∀ p ∈ ps, nw p ∈ L ∧ od p ∈ L) ∧ (∀ e ∈ L, loadP pk e ≤ g e) ∧ (pk.map Prod.snd).sum = price ∧
  ∀ H', Same H H' → Q (.bl true) H'
set_option maxHeartbeats 8000000 in
theorem ok_law_is_packing (T : Tl P K mg base tP) : Kf P w K mg base 5 "_law_is_packing" p_law_is_packing (sp_law_is_packing K) := by
  refine Kf.of T.is_packing sc_law_is_packing ((fun _ _ _ _ _ _ us hl => match us, hl with | [_, _, _], _ => rfl)) (fun vs H Q E ⟨_, _, _, _, _, _, _, _, _, _, _, e, _⟩ => by rw [e]; rfl) fun f cdv A outer s H vs Q E hr ⟨r, pa, du, col, price, sd, pk, pvs, ps, L, g, e, hcv, hpa, hpp, hsk, hpl, hdu, hpk1, hpn, hps, hpkl, hin, hle, hsum, k⟩ => ?_
  subst e
  have TI := T.tj.ti
  have B := TI.th.tg.tf.tb.te.td.tc.tw.bt
  have c_law_loads := ok_law_loads (P := P) (w := w) T
  refine ⟨_, (pss_cons (ps_if (pt_not (pt_val (cB (isiK K) B.isinstance bb_isinstance (pa_cons (fldK K (pv 0) rfl) (pa_cons (pe_tyv "tuple" B.tuple bb_tuple) pa_nil))))) (pss_one (ps_ret pe_bl)) pss_nil) (pss_cons (ps_for PassesOwn.never rfl (pi_tupK K (fldK K (pv 0) rfl)) (gnm 3 sc_law_is_packing.nd) (pss_cons (ps_if (PW.pt (pw_or (pt_not (pt_val (cB (isiK K) B.isinstance bb_isinstance (pa_cons (pv 3) (pa_cons (pe_tyv "tuple" B.tuple bb_tuple) pa_nil))))) (pw_or (pt_cmpR op_ne (cB (len_seqK K) B.len bb_len (pa_cons (pv 3) pa_nil)) pe_int (nomark _)) (pw_or1 (pt_cmpR (op_notInDK K (hu65 hr)) (pe_ix (ix_tupK K) (pv 3) pe_int (fun _ _ => rfl)) (pv 1) (by with_unfolding_all rfl)))))) (pss_one (ps_ret pe_bl)) pss_nil) (pss_one (ps_if (PW.pt (pw_or (pt_not (pt_val (cB (isiK K) B.isinstance bb_isinstance (pa_cons (pe_ix (ix_tupK K) (pv 3) pe_int (fun _ _ => rfl)) (pa_cons (pe_tyv "int" B.int bb_int) pa_nil))))) (pw_or (pt_val (cB (isiK K) B.isinstance bb_isinstance (pa_cons (pe_ix (ix_tupK K) (pv 3) pe_int (fun _ _ => rfl)) (pa_cons (pe_tyv "bool" B.bool bb_bool) pa_nil)))) (pw_or1 (pt_cmpR op_lt (pe_ix (ix_tupK K) (pv 3) pe_int (fun _ _ => rfl)) pe_int (nomark _)))))) (pss_one (ps_ret pe_bl)) pss_nil)))) (pss_cons (ps_setLc (i := 4) (own := [("_law_part", 3)]) rfl sc_law_is_packing.nd rfl rfl (sw_true rfl rfl rfl (by decide +kernel)) (pi_tupK K (fldK K (pv 0) rfl)) (blkOk_by (N := n_law_is_packing) (sc := defScope s_law_is_packing) (by decide +kernel)) (fun _ _ _ _ _ => (gnm 3 sc_law_is_packing.nd)) (fun _ _ _ _ _ => pts_nil) (fun _ _ _ _ _ => (pe_ix (ix_tupK K) (pv 3) pe_int (fun _ _ => rfl)))) (pss_cons (ps_if (pt_cmpR (op_neDK K (hu64 hr)) (pv 4) (cB (cr_sortedSetP rfl hr) B.sorted bb_sorted (pa_cons (cT (cr_setP rfl (hu64 hr)) B.set bb_set (pa_cons (pv 4) pa_nil)) pa_nil)) (nomark _)) (pss_one (ps_ret pe_bl)) pss_nil) (pss_cons (sset 5 sc_law_is_packing.nd (pe_k c_law_loads hr (by decide) rfl (pa_cons (fldK K (pv 0) rfl) pa_nil))) (pss_cons (ps_lock (ps_if (pt_cmpR (op_neDK K (hu64 hr)) (pe_lc (own := [("_law_side", 6)]) rfl sc_law_is_packing.nd (pi_keys (pv 5)) (blkOk_by (N := n_law_is_packing) (sc := defScope s_law_is_packing) (by decide +kernel)) (fun _ _ _ _ _ => (gnm 6 sc_law_is_packing.nd)) (fun _ _ _ _ _ => pts_one (pt_cmpR op_gt (pe_dget (hu_of hr) (pv 5) (pv 6) (fun _ _ => rfl)) (pe_dget (hu_of hr) (pv 2) (pv 6) (fun _ _ => rfl)) (nomark _))) (fun _ _ _ _ _ => (pv 6))) (pe_lst pa_nil) (nomark _)) (pss_one (ps_ret pe_bl)) pss_nil)) (pss_one (ps_ret (pe_cmpR op_eq (cB (cr_sum rfl) B.sum bb_sum (pa_cons (pe_lc (own := [("_law_part", 3)]) rfl sc_law_is_packing.nd (pi_tupK K (fldK K (pv 0) rfl)) (blkOk_by (N := n_law_is_packing) (sc := defScope s_law_is_packing) (by decide +kernel)) (fun _ _ _ _ _ => (gnm 3 sc_law_is_packing.nd)) (fun _ _ _ _ _ => pts_nil) (fun _ _ _ _ _ => (pe_ix (ix_tupK K) (pv 3) pe_int (fun _ _ => rfl)))) pa_nil)) (fldK K (pv 0) rfl) (nomark _)))))))))), ?_⟩
  obtain ⟨dx, sa, pka, ys, ws, hr1, hsa, hys, hpka, hws⟩ := hcv.at_
  have wl : ws.length = pk.length := Paired.length hws
  have hC : ∀ {H' : Hp}, Same H H' → H' r = some (.ins (cA K "Cover") dx (coverF col price sa pka)) := fun s => s _ _ hr1
  have hlk : (coverF col price sa pka).lookup ("packing" : Str) = some (.ref pka) := rfl
  refine ⟨_, rfl, r, _, dx, _, _, rfl, hr1, TI.th.cover.cl, TI.th.nC _ (by simp), hlk, .ref pka, .ty "tuple", _, _, true, rfl, .ty _, .base (.tup hpka), kit_ty (by decide +kernel), true, rfl, iteF ?_⟩
  let Pv : Nat → L2.St → Hp → Prop := fun _ σ H' => (∃ o3, σ = [some (.ref r), some (.ref pa), some (.ref du), o3, none, none, none]) ∧ H' = H
  refine ⟨_, rfl, r, _, dx, _, _, rfl, hr1, TI.th.cover.cl, TI.th.nC _ (by simp), hlk, pka, rfl, ⟨ws, .inl (.inl hpka)⟩, for_it (walk_tup (xs := ws)) Pv ⟨⟨_, rfl⟩, rfl⟩ (fun i σ H' _ p => by rw [p.2]; exact .inl (.inl hpka)) ?_ ?_⟩
  · rintro i x σ H1 H2 hi ⟨⟨o3, rfl⟩, rfl⟩ ⟨rfl, hx⟩
    obtain ⟨⟨q, n⟩, hq, t, u, rfl, ht, b, rfl, hb⟩ := Paired.get hws hx
    have ht : H2 t = some (.tup [.ref b, .int n]) := ht
    obtain ⟨hq1, hn1⟩ := hpk1 _ (List.mem_of_getElem? hq)
    have hn1 : 1 ≤ n := hn1
    refine ⟨_, rfl, .ref t, .ty "tuple", _, _, true, rfl, .ty _, .base (.tup ht), kit_ty (by decide +kernel), true, rfl, iteF ?_⟩
    refine ⟨_, rfl, t, _, rfl, .inr (.inl (.inl ht)), rfl, _, rfl, iteF ?_⟩
    refine ⟨_, rfl, t, _, 0, _, rfl, rfl, .inl (.inl ht), rfl, _, rfl, notInP hb hpa hpp (hsk q hq1) hsk ⟨_, rfl, ?_⟩⟩
    rw [decide_eq_true (show (q, n).1 ∈ ps from hq1)]
    refine iteF ?_
    refine ⟨_, rfl, t, _, 1, _, rfl, rfl, .inl (.inl ht), rfl, .int n, .ty "int", _, _, true, rfl, .ty _, .base (.int n), kit_ty (by decide +kernel), true, rfl, iteF ?_⟩
    refine ⟨_, rfl, t, _, 1, _, rfl, rfl, .inl (.inl ht), rfl, .int n, .ty "bool", _, _, false, rfl, .ty _, .base (.int n), kit_ty (by decide +kernel), false, rfl, iteF ?_⟩
    refine ⟨_, rfl, t, _, 1, _, rfl, rfl, .inl (.inl ht), rfl, _, _, rfl, rfl, _, rfl, ?_⟩
    rw [decide_eq_false (by omega : ¬ n < 1)]
    exact iteF ⟨⟨_, rfl⟩, rfl⟩
  rintro σ H1 ⟨⟨o3, rfl⟩, e1⟩
  subst H1
  refine ⟨_, rfl, r, _, dx, _, _, rfl, hr1, TI.th.cover.cl, TI.th.nC _ (by simp), hlk, pka, rfl, ⟨ws, .inl (.inl hpka)⟩, fun D hD => ?_⟩
  refine lc_map (E := Ex0) (walk_tup (xs := ws)) (B := Pr) pk (fun _ => true) Prod.fst IsP wl.symm hD (by omega) (fun H' f => .inl (.inl (f.same _ _ hpka))) (fun i H x H' y => by rw [y.1]; exact Fr.refl _ _) (Sta.isP' .e0) (fun _ _ _ _ z => z) ?_ ?_
  · rintro i x H2 H3 q Ky Kn hq fr ⟨rfl, hx⟩ hy hk'
    obtain ⟨t, u, rfl, ht, b, rfl, hb⟩ := Paired.at hws hx hq
    exact ⟨rfl, yes_of ⟨_, rfl, t, _, 0, _, rfl, rfl, .inl (.inl (fr.same _ _ ht)), rfl, hy _ _ rfl (Fr.refl _ _) ⟨b, rfl, fr.same _ _ hb⟩⟩⟩
  intro H2 zs fr hD2 rz
  rw [List.filter_eq_self.mpr (fun _ _ => rfl)] at rz
  have s2 := fr.same
  have skq : ∀ z ∈ pk.map Prod.fst, SkP z := fun z hz => by
    obtain ⟨x, hx, rfl⟩ := List.mem_map.mp hz
    exact hsk _ (hpk1 x hx).1
  refine ⟨_, rfl, _, rfl, D, zs, pk.map Prod.fst, rfl, .inl (.inl hD2), rz, hpn, by rw [List.length_map]; omega, fun a L' ha hL hLp => ⟨a, L', rfl, upd_same, fun p hp => (Fr.new (E := Ex0) ha).same _ _ (hLp p hp), fun ys' sd' p hys' hpm hso' hp0 => ?_⟩⟩
  have hE : sd' = pk.map Prod.fst := prs_same (hpm.trans hL) hso' hps
  rw [hE] at hys'
  have s3 : Same H2 (upd (upd H2 a (SetPO P w a L')) p (.lst ys')) := ((Fr.new (E := Ex0) ha).new' hp0).same
  have hys3 : IsPs (upd (upd H2 a (SetPO P w a L')) p (.lst ys')) ys' (pk.map Prod.fst) := hys'.mono (Fr.new (E := Ex0) hp0).same
  have g3 : upd (upd H2 a (SetPO P w a L')) p (.lst ys') p = some (.lst ys') := upd_same
  show rNeD K (.ref D) (.ref p) (upd (upd H2 a (SetPO P w a L')) p (.lst ys')) _
  generalize upd (upd H2 a (SetPO P w a L')) p (.lst ys') = H3 at s3 hys3 g3 ⊢
  have s03 := s2.trans s3
  refine ⟨.list ((pk.map Prod.fst).map prD2), .list ((pk.map Prod.fst).map prD2), (IsPs.mono s3 rz).dp (s3 _ _ hD2), hys3.dp g3, prDs2_shaped skq, prDs2_shaped skq, ?_⟩
  rw [eqv_prs]
  refine ⟨_, rfl, iteF ?_⟩
  refine ⟨_, rfl, r, _, dx, _, _, rfl, hC s03, TI.th.cover.cl, TI.th.nC _ (by simp), hlk, pka, ws, pk, rfl, s03 _ _ hpka, Paired.mono (fun _ _ z => IsW.mono s03 z) hws, by omega, fun ld H4 m s4 hld hm hval hsub hml => ?_⟩
  have s04 := s03.trans s4
  refine ⟨ld, _, hm, True.intro, fun ob => ?_⟩
  have hldH : H ld = none := (Fr.of (E := Ex0) s03).free hld
  have hlr : (kvG V.int m).length = m.length := by unfold kvG; rw [List.length_map]
  have sL : Same H (upd H4 ld (.frz ob (.dT (kvG V.int m)))) := ((Fr.of (E := Ex0) s04).put hldH).same
  refine ⟨_, rfl, ld, ob, rfl, .inr ⟨_, upd_same, fun D2 hD2' => ?_⟩⟩
  refine lc_map (E := Ex0) (walk_keysT (d := ld) (o := ob) (kvs := kvG V.int m)) (B := Pr) (m.map Prod.fst) (fun _ => false) id IsP (by rw [List.length_map, hlr]) hD2' (by omega) (fun H' f => f.same _ _ upd_same) (fun i H x H' y => by rw [y.1]; exact Fr.refl _ _) (Sta.isP' .e0) (fun _ _ _ _ z => z) ?_ ?_
  · rintro i x H7 H8 e Ky Kn he fr ⟨rfl, k0, v0, q, hk0, rfl, hq⟩ hy hk'
    obtain ⟨e0, he0, rfl, rfl⟩ := kvG_at hk0
    have ee : e0.1 = e := by
      rw [List.getElem?_map, he0] at he
      exact Option.some.inj he
    subst ee
    have hq : H8 q = some (.tup (vP e0.1)) := hq
    have hem : e0.1 ∈ m.map Prod.fst := List.mem_map.mpr ⟨_, List.mem_of_getElem? he0, rfl⟩
    have heL : e0.1 ∈ L := by
      obtain ⟨x, hx, y⟩ := hsub _ hem
      obtain ⟨a1, a2⟩ := hin _ (hpk1 x hx).1
      rcases y with y | y <;> rw [y]
      · exact a1
      · exact a2
    have s48 := sL.trans fr.same
    refine ⟨rfl, _, rfl, _, rfl, ld, .int (loadP pk e0.1), rfl, RdInt.at (m := m) (p := e0.1) (.inr ⟨ob, fr.same _ _ upd_same⟩) hq (hval _ hem), _, rfl, _, rfl, du, _, rfl, (hdu.same s48).get heL hq, _, _, rfl, rfl, _, rfl, ?_⟩
    rw [decide_eq_false (by have := hle _ heL; omega : ¬ g e0.1 < loadP pk e0.1)]
    exact iteF (hk' _ rfl (Fr.refl _ _))
  intro H7 zs2 fr2 hD7 rz2
  have rz2 : IsPs H7 zs2 [] := by
    rw [List.filter_eq_nil_iff.mpr (fun _ _ => by simp)] at rz2; exact rz2
  refine ⟨Nat.zero_le _, fun t ht => ?_⟩
  have st : Same H7 (upd H7 t (.lst [])) := (Fr.new (E := Ex0) ht).same
  refine ⟨.list [], .list [], (IsPs.mono st rz2).dp (st _ _ hD7), .lst (.inl (.inl upd_same)) .nil, by decide, by decide, ?_⟩
  refine ⟨_, rfl, ?_⟩
  rw [show PyData.eqv (.list []) (.list []) = true from rfl]
  refine iteF ⟨st _ _ (fr2.same _ _ upd_same), ?_⟩
  have s9 : Same H (upd (upd H7 t (.lst [])) ld (.dT (kvG V.int m))) := ((Fr.of (E := Ex0) ((sL.trans fr2.same).trans st)).put hldH).same
  generalize upd (upd H7 t (.lst [])) ld (.dT (kvG V.int m)) = H9 at s9 ⊢
  refine ⟨_, rfl, r, _, dx, _, _, rfl, hC s9, TI.th.cover.cl, TI.th.nC _ (by simp), hlk, pka, rfl, ⟨ws, .inl (.inl (s9 _ _ hpka))⟩, fun D3 hD3 => ?_⟩
  refine lc_map (E := Ex0) (walk_tup (xs := ws)) (B := Int) pk (fun _ => true) Prod.snd (fun _ v b => v = .int b) wl.symm hD3 (by omega) (fun H' f => .inl (.inl (f.same _ _ (s9 _ _ hpka)))) (fun i H x H' y => by rw [y.1]; exact Fr.refl _ _) (Sta.eq V.int) (fun _ _ _ _ z => z) ?_ ?_
  · rintro i x H10 H11 q Ky Kn hq fr ⟨rfl, hx⟩ hy hk'
    obtain ⟨t, u, rfl, ht, b, rfl, hb⟩ := Paired.at hws hx hq
    exact ⟨rfl, yes_of ⟨_, rfl, t, _, 1, _, rfl, rfl, .inl (.inl (fr.same _ _ (s9 _ _ ht))), rfl, hy _ _ rfl (Fr.refl _ _) rfl⟩⟩
  intro H10 zs3 fr3 hD10 rz3
  have hz := Paired.mapEq (f := V.int) rz3
  rw [List.filter_eq_self.mpr (fun _ _ => rfl)] at hz
  have s10 := s9.trans fr3.same
  refine ⟨D3, _, rfl, .inl (.inl (hz ▸ hD10)), _, rfl, r, _, dx, _, _, rfl, hC s10, TI.th.cover.cl, TI.th.nC _ (by simp), (show (coverF col price sa pka).lookup ("price" : Str) = some (.int price) from rfl), rfl, ?_⟩
  rw [hsum, decide_eq_true rfl]
  exact k _ s10
end
end Pn
/-! #### W39 -/
namespace Pn
open PySem PySem.Spec PyProof.Rows L2
/-! ### the law's and the program's successions and sides -/
theorem Paired.right {α β : Type} {F : α → β → Prop} : ∀ {l₁ : List α} {l₂ : List β}, Paired F l₁ l₂ → ∀ b ∈ l₂, ∃ a ∈ l₁, F a b
  | _, _, .nil, b, h => by simp at h
  | _, _, .cons h t, b, m => by
    rcases List.mem_cons.mp m with rfl | m
    · exact ⟨_, List.mem_cons_self, h⟩
    · obtain ⟨a, ha, f⟩ := Paired.right t b m
      exact ⟨a, List.mem_cons_of_mem _ ha, f⟩
theorem aft_is {ms : List Pr} (nd : (ms.map Prod.fst).Nodup) {s t : Str} : (s ∈ ms.map Prod.fst ∧ t = aft ms s) ↔ (s, t) ∈ ms := by
  induction ms with
  | nil => simp
  | cons m ms ih =>
    rw [List.map_cons] at nd
    obtain ⟨hn, nd'⟩ := List.nodup_cons.mp nd
    by_cases e : m.1 = s
    · have ea : aft (m :: ms) s = m.2 := by unfold aft; rw [List.find?_cons_of_pos (by simpa using e)]; rfl
      rw [ea]
      constructor
      · rintro ⟨_, rfl⟩
        have : m = (s, m.2) := Prod.ext e rfl
        rw [← this]; exact List.mem_cons_self
      · intro h
        rcases List.mem_cons.mp h with y | y
        · exact ⟨by rw [List.map_cons, e]; exact List.mem_cons_self, congrArg Prod.snd y⟩
        · exact absurd (List.mem_map.mpr ⟨_, y, rfl⟩) (by rw [e] at hn; exact hn)
    · have ea : aft (m :: ms) s = aft ms s := by unfold aft; rw [List.find?_cons_of_neg (by simpa using e)]
      rw [ea, List.map_cons, List.mem_cons, List.mem_cons]
      constructor
      · rintro ⟨h, rfl⟩
        rcases h with y | y
        · exact absurd y.symm e
        · exact .inr ((ih nd').mp ⟨y, rfl⟩)
      · rintro (y | y)
        · exact absurd (congrArg Prod.fst y).symm e
        · obtain ⟨a, b⟩ := (ih nd').mpr y
          exact ⟨.inr a, b⟩
section
variable {cols : List Str} {ds : List Ld} {kv : V} {cs : List Str} {es : List Dd} {col : Str}
/-- each of the book's deeds is a row's, and the other way -/
structure Mir (cols : List Str) (ds : List Ld) (cs : List Str) (es : List Dd) (sts : List Str) : Prop where
  cs : ∀ x, x ∈ cs ↔ x ∈ cols
  to : ∀ e ∈ es, ∃ d ∈ ds, DdOf d e
  fro : ∀ d ∈ ds, ∃ e ∈ es, DdOf d e
  ok : ∀ d ∈ ds, LdOk cols sts d
  snm : ∀ x ∈ sts, Nm x
  snd : sts.Nodup
theorem BkOf.mir (h : BkOf cols ds cs es) (ok : LOk cols ds kv) : ∃ sts, sts.length ≤ 3 ∧ Mir cols ds cs es sts := by
  obtain ⟨sts, h3, hn, hd, hl⟩ := ok.st
  obtain ⟨es0, hp, pm⟩ := h.ex
  exact ⟨sts, h3, fun x => h.scs.1.mem_iff, fun e he => Paired.left hp e (pm.mem_iff.mp he), fun d hd' => by
    obtain ⟨e, he, q⟩ := Paired.right hp d hd'
    exact ⟨e, pm.mem_iff.mpr he, q⟩, hl, hn, hd⟩
theorem LdOk.nd {sts : List Str} {d : Ld} (h : LdOk cols sts d) (hs : sts.Nodup) : (d.moves.map Prod.fst).Nodup := by
  rcases hk : d.kd with _ | _ | _
  · obtain ⟨s, _, e⟩ := h.make hk
    rw [e]; simp
  · exact (h.chg hk).2.1.nodup hs
  · exact (h.end_ hk).2.nodup hs
variable {sts : List Str}
theorem Mir.end_nd (M : Mir cols ds cs es sts) {e : Dd} (he : e ∈ es) : (e.moves.map Prod.fst).Nodup := by
  obtain ⟨d, hd, q⟩ := M.to e he
  exact (q.moves.map _).nodup_iff.mpr ((M.ok d hd).nd M.snd)
theorem Mir.wr_iff (M : Mir cols ds cs es sts) {d : Ld} {e : Dd} (hd : d ∈ ds) (q : DdOf d e) : col ∈ wr cs e ↔ col ∈ lwr cols d := by
  unfold wr lwr
  rw [q.kd]
  by_cases h : d.kd = .mk
  · rw [if_pos h, if_pos h]; exact M.cs col
  · rw [if_neg h, if_neg h]; exact q.cols.mem_iff
theorem Mir.pass_iff (M : Mir cols ds cs es sts) (hc : col ∈ cols) {d : Ld} {e : Dd} (hd : d ∈ ds) (q : DdOf d e) : isCl cs col e = !lch false col d := by
  have hw : decide (col ∈ wr cs e) = decide (col ∈ lwr cols d) := by rw [decide_eq_decide]; exact M.wr_iff hd q
  unfold isCl lch
  rw [hw, q.kd]
  unfold lwr
  rcases hk : d.kd with _ | _ | _
  · simp [hc]
  · simp
  · simp
theorem Mir.step_iff (M : Mir cols ds cs es sts) {s t : Str} : Step es s t ↔ Edge ds (lch true col) (s, t) := by
  constructor
  · rintro ⟨e, he, hs, ht⟩
    obtain ⟨d, hd, q⟩ := M.to e he
    exact ⟨d, hd, rfl, q.moves.mem_iff.mp ((aft_is (M.end_nd he)).mp ⟨hs, ht⟩)⟩
  · rintro ⟨d, hd, _, hm⟩
    obtain ⟨e, he, q⟩ := M.fro d hd
    obtain ⟨a, b⟩ := (aft_is (M.end_nd he)).mpr (q.moves.mem_iff.mpr hm)
    exact ⟨e, he, a, b⟩
theorem Mir.pstep_iff (M : Mir cols ds cs es sts) (hc : col ∈ cols) {s t : Str} : Step (passing cs es col) s t ↔ Edge ds (lch false col) (s, t) := by
  constructor
  · rintro ⟨e, he, hs, ht⟩
    obtain ⟨he, hp⟩ := List.mem_filter.mp he
    obtain ⟨d, hd, q⟩ := M.to e he
    rw [M.pass_iff hc hd q] at hp
    exact ⟨d, hd, by simpa using hp, q.moves.mem_iff.mp ((aft_is (M.end_nd he)).mp ⟨hs, ht⟩)⟩
  · rintro ⟨d, hd, hp, hm⟩
    obtain ⟨e, he, q⟩ := M.fro d hd
    obtain ⟨a, b⟩ := (aft_is (M.end_nd he)).mpr (q.moves.mem_iff.mpr hm)
    exact ⟨e, List.mem_filter.mpr ⟨he, by rw [M.pass_iff hc hd q, hp]; rfl⟩, a, b⟩
theorem reach_iff {des : List Dd} {E : Pr → Prop} {S S' : Str → Prop} (h1 : ∀ s t, Step des s t ↔ E (s, t)) (h2 : ∀ s, S s ↔ S' s) {s : Str} : Reach des S s ↔ LReach E S' s := by
  constructor
  · intro h
    induction h with
    | base a => exact .base ((h2 _).mp a)
    | step _ b ih => exact .step ih ((h1 _ _).mp b)
  · intro h
    induction h with
    | base a => exact .base ((h2 _).mpr a)
    | step _ b ih => exact .step ih ((h1 _ _).mpr b)
theorem Mir.behind_iff (M : Mir cols ds cs es sts) {d : Ld} {e : Dd} (he : e ∈ es) (q : DdOf d e) {t : Str} : Behind es e t ↔ LBehind ds col d t := by
  have r : ∀ s, Reach es (fun x => x = "") s ↔ LReach (Edge ds (lch true col)) (fun s => s ∈ ([""] : List Str)) s := fun s => reach_iff (fun _ _ => M.step_iff) (fun s => by simp)
  constructor
  · rintro ⟨s, h1, h2, h3⟩
    exact ⟨(s, t), q.moves.mem_iff.mp ((aft_is (M.end_nd he)).mp ⟨h2, h3⟩), (r s).mp h1, rfl⟩
  · rintro ⟨m, h1, h2, rfl⟩
    obtain ⟨a, b⟩ := (aft_is (M.end_nd he) (s := m.1) (t := m.2)).mpr (q.moves.mem_iff.mpr h1)
    exact ⟨m.1, (r _).mpr h2, a, b⟩
/-- where the column is kept, one comes to named states alone -/
theorem Mir.named (M : Mir cols ds cs es sts) {d : Ld} (hd : d ∈ ds) (hw : col ∈ lwr cols d) {t : Str} (h : LReach (Edge ds (lch false col)) (LBehind ds col d) t) : t ∈ sts := by
  induction h with
  | base h =>
    obtain ⟨m, hm, _, rfl⟩ := h
    have ok := M.ok d hd
    rcases hk : d.kd with _ | _ | _
    · obtain ⟨s, hs, e⟩ := ok.make hk
      rw [e] at hm
      rw [List.mem_singleton.mp hm]; exact hs
    · exact ((ok.chg hk).1 m hm).2
    · have : lwr cols d = [] := by unfold lwr; rw [if_neg (by rw [hk]; intro z; cases z)]; exact ok.own (by rw [hk]; intro z; cases z)
      rw [this] at hw; cases hw
  | step _ e _ =>
    obtain ⟨d', hd', hl, hm⟩ := e
    have hk : d'.kd = .ch := by
      unfold lch at hl
      by_cases z : d'.kd = .ch
      · exact z
      · rw [decide_eq_false z] at hl; cases hl
    exact (((M.ok d' hd').chg hk).1 _ hm).2
theorem Mir.next_iff (M : Mir cols ds cs es sts) (hc : col ∈ cols) {d f : Ld} {e g : Dd} (hd : d ∈ ds) (he : e ∈ es) (q : DdOf d e) (hf : f ∈ ds) (hg : g ∈ es) (r : DdOf f g) : (col ∈ wr cs e ∧ NextP cs es col (Behind es e) g) ↔ LSucc cols ds col d f := by
  have hr : ∀ s, Reach (passing cs es col) (Behind es e) s ↔ LReach (Edge ds (lch false col)) (LBehind ds col d) s := fun s => reach_iff (fun _ _ => M.pstep_iff hc) (fun s => M.behind_iff he q)
  have hm : ∀ s, s ∈ g.moves.map Prod.fst ↔ ∃ m ∈ f.moves, m.1 = s := fun s => by rw [(r.moves.map _).mem_iff, List.mem_map]
  have hn : isCl cs col g = !lch false col f := M.pass_iff hc hf r
  constructor
  · rintro ⟨h1, h2, s, h3, h4⟩
    have h1 := (M.wr_iff hd q).mp h1
    obtain ⟨m, hm1, rfl⟩ := (hm s).mp h4
    have h3 := (hr _).mp h3
    refine ⟨h1, ?_, m, hm1, h3⟩
    have hs := M.named hd h1 h3
    rw [hn] at h2
    unfold lch at h2
    unfold lnext
    rcases hk : f.kd with _ | _ | _
    · obtain ⟨s, _, e2⟩ := (M.ok f hf).make hk
      rw [e2] at hm1
      have := List.mem_singleton.mp hm1
      rw [this] at hs
      exact absurd rfl (M.snm _ hs).ne_empty
    · rw [hk] at h2
      simpa using h2
    · simp
  · rintro ⟨h1, h2, m, hm1, h3⟩
    refine ⟨(M.wr_iff hd q).mpr h1, ?_, m.1, (hr _).mpr h3, (hm _).mpr ⟨m, hm1, rfl⟩⟩
    rw [hn]
    unfold lch
    unfold lnext at h2
    rcases hk : f.kd with _ | _ | _
    · rw [hk] at h2; cases h2
    · rw [hk] at h2
      simpa using h2
    · simp
theorem lsucc_mem {x y : Str} : (x, y) ∈ lsucc cols ds col ↔ ∃ d ∈ ds, ∃ e ∈ ds, d.name = x ∧ e.name = y ∧ LSucc cols ds col d e := by
  unfold lsucc lsuccOf
  rw [List.mem_flatMap]
  constructor
  · rintro ⟨d, hd, h⟩
    obtain ⟨e, he, q⟩ := List.mem_map.mp h
    obtain ⟨h1, h2⟩ := List.mem_filter.mp he
    cases q
    exact ⟨d, hd, e, h1, rfl, rfl, lsB_iff.mp h2⟩
  · rintro ⟨d, hd, e, he, rfl, rfl, h⟩
    exact ⟨d, hd, List.mem_map.mpr ⟨e, List.mem_filter.mpr ⟨he, lsB_iff.mpr h⟩, rfl⟩⟩
theorem Mir.succ_iff (M : Mir cols ds cs es sts) (hc : col ∈ cols) {p : Pr} : p ∈ succ cs es col ↔ p ∈ lsucc cols ds col := by
  obtain ⟨x, y⟩ := p
  rw [succ_mem, lsucc_mem]
  constructor
  · rintro ⟨e, he, g, hg, rfl, rfl, h1, h2⟩
    obtain ⟨d, hd, q⟩ := M.to e he
    obtain ⟨f, hf, r⟩ := M.to g hg
    exact ⟨d, hd, f, hf, q.name.symm, r.name.symm, (M.next_iff hc hd he q hf hg r).mp ⟨h1, h2⟩⟩
  · rintro ⟨d, hd, f, hf, rfl, rfl, h⟩
    obtain ⟨e, he, q⟩ := M.fro d hd
    obtain ⟨g, hg, r⟩ := M.fro f hf
    obtain ⟨h1, h2⟩ := (M.next_iff hc hd he q hf hg r).mpr h
    exact ⟨e, he, g, hg, q.name, r.name, h1, h2⟩
theorem Mir.sides_iff (M : Mir cols ds cs es sts) {p : Pr} : p ∈ sides cs es col ↔ p ∈ lsides cols ds col := by
  have one : ∀ {d : Ld} {e : Dd}, d ∈ ds → DdOf d e → sidesIn cs col e = lsidesIn cols col d := fun {d e} hd q => by
    unfold sidesIn lsidesIn
    have h1 := M.wr_iff (col := col) hd q
    have h2 : (e.kd = .en ∨ (e.kd = .ch ∧ col ∈ e.cols)) ↔ (d.kd = .en ∨ (d.kd = .ch ∧ col ∈ d.own)) := by rw [q.kd, q.cols.mem_iff]
    rw [q.name]
    simp only [h1, h2]
  unfold sides lsides
  rw [List.mem_flatMap, List.mem_flatMap]
  constructor
  · rintro ⟨e, he, h⟩
    obtain ⟨d, hd, q⟩ := M.to e he
    exact ⟨d, hd, by rw [← one hd q]; exact h⟩
  · rintro ⟨d, hd, h⟩
    obtain ⟨e, he, q⟩ := M.fro d hd
    exact ⟨e, he, by rw [one hd q]; exact h⟩
/-- the ends of a succession are sides -/
theorem lsucc_ends {p : Pr} (h : p ∈ lsucc cols ds col) : nw p ∈ lsides cols ds col ∧ od p ∈ lsides cols ds col := by
  obtain ⟨x, y⟩ := p
  obtain ⟨d, hd, e, he, rfl, rfl, h1, h2, _⟩ := lsucc_mem.mp h
  refine ⟨List.mem_flatMap.mpr ⟨d, hd, ?_⟩, List.mem_flatMap.mpr ⟨e, he, ?_⟩⟩
  · unfold lsidesIn
    rw [if_pos h1]
    exact List.mem_append_left _ (by simp [nw])
  · unfold lsidesIn
    have : e.kd = .en ∨ (e.kd = .ch ∧ col ∈ e.own) := by
      unfold lnext at h2
      simpa using h2
    rw [if_pos this]
    exact List.mem_append_right _ (by simp [od])
theorem lsucc_nm (hn : ∀ d ∈ ds, Nm d.name) {p : Pr} (h : p ∈ lsucc cols ds col) : Nm p.1 ∧ Nm p.2 := by
  obtain ⟨x, y⟩ := p
  obtain ⟨d, hd, e, he, rfl, rfl, _⟩ := lsucc_mem.mp h
  exact ⟨hn d hd, hn e he⟩
/-- the program's successions ascend -/
theorem succ_asc (hs : es.Pairwise fun d e => nmLe d e = true) (nd : (es.map Dd.name).Nodup) : (succ cs es col).Pairwise fun x y => prLe x y = true := by
  have hne : es.Pairwise fun d e => d.name ≠ e.name := List.pairwise_map.mp nd
  have lt : ∀ {d e : Dd}, nmLe d e = true → stLt e.name d.name = false := fun {d e} h => by
    rw [nmLe_eq] at h; simpa using h
  unfold succ
  rw [List.pairwise_flatMap]
  constructor
  · intro d hd
    unfold succOf
    split
    · rw [List.pairwise_map]
      refine (hs.sublist List.filter_sublist).imp fun {a b} h => ?_
      rw [prLe_eq]
      unfold prLt
      rw [if_pos rfl]
      split
      · rfl
      · rw [lt h]; rfl
    · exact .nil
  · refine (hs.and hne).imp fun {a b} h x hx y hy => ?_
    have e1 := (succOf_fst hx).1
    have e2 := (succOf_fst hy).1
    rw [prLe_eq]
    unfold prLt
    rw [e1, e2, if_neg fun z => h.2 z.symm, lt h.1]; rfl
end
end Pn
/-! #### W40 -/
namespace Pn
open PySem PySem.Spec PyProof.Rows L2
/-! ### what fewest gives is right -/
theorem KfN.kf {P : Program} {w : World} {K : PySem.W.Frag} {mg : Str → Option Value} {base : Heap} {k : Nat} {x : Str} {ps : List Str} {sp : Sp} (h : KfN P w K mg base k x ps sp) : Kf P w K mg base k x ps sp := by
  obtain ⟨f, fd, ds, F, b, _, _, m, kp⟩ := h.ex
  exact ⟨f, fd, F, b, m, kp⟩
theorem perm_sum {l m : List Int} (h : l.Perm m) : l.sum = m.sum := by
  induction h with
  | nil => rfl
  | cons x _ ih => rw [List.sum_cons, List.sum_cons, ih]
  | swap x y l => simp only [List.sum_cons]; omega
  | trans _ _ a b => exact a.trans b
theorem sum_pos {f S : Pr → Int} : ∀ {l : List Pr}, (∀ p ∈ l, S p ≤ 0 → f p = 0) → ((l.filter fun p => decide (0 < S p)).map f).sum = (l.map f).sum
  | [], _ => rfl
  | p :: l, h => by
    have ih := sum_pos (f := f) (S := S) (l := l) fun q hq => h q (List.mem_cons_of_mem _ hq)
    by_cases z : 0 < S p
    · rw [List.filter_cons_of_pos (by simpa using z), List.map_cons, List.map_cons, List.sum_cons, List.sum_cons, ih]
    · rw [List.filter_cons_of_neg (by simpa using z), List.map_cons, List.sum_cons, ih, h p List.mem_cons_self (by omega), Int.zero_add]
structure Rt (cols : List Str) (ds : List Ld) (cs : List Str) (es : List Dd) (col : Str) (pr : Pr → Int) (price : Int) (sd : List Pr) (pk : List (Pr × Int)) : Prop where
  snd : sd.Nodup
  srt : sd.Pairwise fun x y => prLe x y = true
  sin : ∀ s ∈ sd, s ∈ lsides cols ds col
  tel : ∀ p ∈ lsucc cols ds col, nw p ∈ sd ∨ od p ∈ sd
  worth : price = (sd.map pr).sum
  pin : ∀ x ∈ pk, x.1 ∈ lsucc cols ds col ∧ 1 ≤ x.2
  pnd : (pk.map Prod.fst).Nodup
  psrt : (pk.map Prod.fst).Pairwise fun x y => prLe x y = true
  bear : ∀ e, loadP pk e ≤ pr e
  sum : (pk.map Prod.snd).sum = price
theorem Fewest.rt {cols : List Str} {ds : List Ld} {kv : V} {cs : List Str} {es : List Dd} {col : Str} {pr : Pr → Int} {price : Int} {sd : List Pr} {pk : List (Pr × Int)} (h : Fewest cs es col pr price sd pk) (b : BkOf cols ds cs es) (ok : LOk cols ds kv) (hc : col ∈ cols) (h0 : ∀ e, 0 ≤ pr e) : Rt cols ds cs es col pr price sd pk := by
  obtain ⟨sts, _, M⟩ := b.mir ok
  obtain ⟨en, S, R, ks, Z, rfl, rfl⟩ := h.ex
  have hsi : ∀ {p : Pr}, p ∈ succ cs es col ↔ p ∈ lsucc cols ds col := M.succ_iff hc
  have pm : ((cov en ks).mergeSort prLe).Perm (cov en ks) := List.mergeSort_perm _ _
  have f1 : (((succ cs es col).filter fun p => decide (0 < S p)).map fun p => (p, S p)).map Prod.fst = (succ cs es col).filter fun p => decide (0 < S p) := by
    rw [List.map_map]
    have : ((Prod.fst : Pr × Int → Pr) ∘ fun p => (p, S p)) = id := rfl
    rw [this, List.map_id]
  have sz : ∀ p ∈ succ cs es col, S p ≤ 0 → S p = 0 := fun p hp z => by have := Z.F.s0 p hp; omega
  refine ⟨pm.nodup_iff.mpr (Z.nd.filter _), List.pairwise_mergeSort prLe_trans prLe_total _, fun s hs => ?_, fun p hp => ?_, h.price, fun x hx => ?_, ?_, ?_, fun e => ?_, ?_⟩
  · obtain ⟨p, hp, z⟩ := Z.only s (cov_mem.mp (pm.mem_iff.mp hs)).1
    obtain ⟨a1, a2⟩ := lsucc_ends (hsi.mp hp)
    rcases z with rfl | rfl
    · exact a1
    · exact a2
  · exact (Z.tells (hsi.mpr hp)).imp pm.mem_iff.mpr pm.mem_iff.mpr
  · obtain ⟨p, hp, rfl⟩ := List.mem_map.mp hx
    obtain ⟨h1, h2⟩ := List.mem_filter.mp hp
    exact ⟨hsi.mp h1, by have := of_decide_eq_true h2; show 1 ≤ S p; omega⟩
  · rw [f1]
    exact (succ_nd b.ok.nd).filter _
  · rw [f1]
    exact (succ_asc b.srt b.ok.nd).sublist List.filter_sublist
  · have e1 : loadP (((succ cs es col).filter fun p => decide (0 < S p)).map fun p => (p, S p)) e = load (succ cs es col) S e := by
      unfold loadP load
      rw [List.map_map]
      exact sum_pos (f := fun p => inc e p * S p) fun p hp z => by rw [sz p hp z, Int.mul_zero]
    rw [e1]
    by_cases he : e ∈ en
    · exact Z.bears he
    · have : load (succ cs es col) S e = 0 := by
        unfold load
        have gen : ∀ l : List Pr, (∀ p ∈ l, p ∈ succ cs es col) → (l.map fun p => inc e p * S p).sum = 0 := by
          intro l
          induction l with
          | nil => intro _; rfl
          | cons p l ih =>
            intro hl
            rw [List.map_cons, List.sum_cons, ih fun q hq => hl q (List.mem_cons_of_mem _ hq)]
            obtain ⟨a1, a2⟩ := Z.F.ends p (hl p List.mem_cons_self)
            have : inc e p = 0 := by
              unfold inc ind
              rw [if_neg (fun z : e = nw p => he (by rw [z]; exact a1)), if_neg (fun z : e = od p => he (by rw [z]; exact a2))]; rfl
            rw [this]; simp
        exact gen _ fun _ h => h
      rw [this]; exact h0 e
  · rw [h.price, List.map_map]
    have e1 : (((succ cs es col).filter fun p => decide (0 < S p)).map (Prod.snd ∘ fun p => (p, S p))).sum = ((succ cs es col).map S).sum := sum_pos (f := S) sz
    rw [e1, perm_sum (pm.map pr), Z.worth]
theorem lsucc_len {cols : List Str} {ds : List Ld} {col : Str} (h : ds.length ≤ 7) : (lsucc cols ds col).length ≤ 49 := by
  have := flatMap_len (lsuccOf cols ds col) 7 ds fun d _ => by
    unfold lsuccOf
    rw [List.length_map]
    exact Nat.le_trans (List.length_filter_le _ _) h
  unfold lsucc
  omega
section
variable {P : Program} {w : World} {K : PySem.W.Frag} {mg : Str → Option Value} {base : Heap} {tP : Addr}
def sp_law_is_right (K : PySem.W.Frag) : Sp := fun vs H Q _ => ∃ (r du : Addr) (v u pv : V) (col : Str) (cols cs : List Str) (ds : List Ld) (es : List Dd) (kv : V) (price d : Int) (sd : List Pr) (pk m : List (Pr × Int)), vs = [.ref r, v, u, .str col, pv, .ref du] ∧ CovAt K H r col price sd pk ∧ Fewest cs es col (prc d m) price sd pk ∧
  LDat H v cols ds kv ∧ LOk cols ds kv ∧ BookAt K H u cs es ∧ BkOf cols ds cs es ∧ col ∈ cols ∧ PrOpt K H pv d m ∧ DFn H du (lsd cols ds col) (prc d m) ∧ (∀ s, 1 ≤ prc d m s ∧ prc d m s ≤ 1000000000) ∧ ∀ H', Same H H' → Q (.bl true) H'
set_option maxHeartbeats 8000000 in
theorem ok_law_is_right (T : Tl P K mg base tP) : Kf P w K mg base 8 "_law_is_right" p_law_is_right (sp_law_is_right K) := by
  refine Kf.of T.is_right sc_law_is_right ((fun _ _ _ _ _ _ us hl => match us, hl with | [_, _, _, _, _, _], _ => rfl)) (fun vs H Q E ⟨_, _, _, _, _, _, _, _, _, _, _, _, _, _, _, _, e, _⟩ => by rw [e]; rfl) fun f cdv A outer s H vs Q E hr ⟨r, du, v, u, pw, col, cols, cs, ds, es, kv, price, d, sd, pk, m, e, hcv, hfw, hv, hok, hbk, hb, hcol, hpo, hdu, hpr, k⟩ => ?_
  subst e
  have TI := T.tj.ti
  have B := TI.th.tg.tf.tb.te.td.tc.tw.bt
  have c_law_successions := ok_law_successions (P := P) (w := w) T
  have c_law_is_cover := ok_law_is_cover (P := P) (w := w) T
  have c_law_is_packing := ok_law_is_packing (P := P) (w := w) T
  have c_is_cover := ok_is_cover (P := P) (w := w) (base := base) TI
  have c_is_packing := (ok_is_packing (P := P) (w := w) (base := base) TI).kf
  refine ⟨_, (pss_cons (sset 6 sc_law_is_right.nd (pe_k c_law_successions hr (by decide) rfl (pa_cons (pv 1) (pa_cons (pv 3) pa_nil)))) (pss_cons (ps_if (PW.pt (pw_or (pt_not (pt_val (pe_k c_law_is_cover hr (by decide) rfl (pa_cons (pv 0) (pa_cons (pv 1) (pa_cons (pv 3) (pa_cons (pv 6) (pa_cons (pv 5) pa_nil)))))))) (pw_or1 (pt_not (pt_val (pe_k c_law_is_packing hr (by decide) rfl (pa_cons (pv 0) (pa_cons (pv 6) (pa_cons (pv 5) pa_nil))))))))) (pss_one (ps_ret pe_bl)) pss_nil) (pss_one (ps_ret (pe_and (pe_k c_is_cover hr (by decide) rfl (pa_cons (pv 2) (pa_cons (pv 3) (pa_cons (fldK K (pv 0) rfl) pa_nil)))) (pe_one (pe_k c_is_packing hr (by decide) rfl (pa_cons (pv 2) (pa_cons (pv 3) (pa_cons (fldK K (pv 0) rfl) (pa_cons (pv 4) pa_nil))))))))))), ?_⟩
  have R := hfw.rt hb hok hcol fun e => by have := hpr e; omega
  obtain ⟨sts, hs3, M⟩ := hb.mir hok
  have hsi : ∀ {p : Pr}, p ∈ succ cs es col ↔ p ∈ lsucc cols ds col := M.succ_iff hcol
  have hsd : ∀ {p : Pr}, p ∈ sides cs es col ↔ p ∈ lsides cols ds col := M.sides_iff
  have hcol' : col ∈ cs := (M.cs col).mpr hcol
  have pmS : ((lsucc cols ds col).mergeSort prLe).Perm (lsucc cols ds col) := List.mergeSort_perm _ _
  have pmD : (lsd cols ds col).Perm (lsides cols ds col) := List.mergeSort_perm _ _
  have hln := lsucc_len (cols := cols) (col := col) hok.dfew
  have hps : ((lsucc cols ds col).mergeSort prLe).length ≤ 49 := by rw [pmS.length_eq]; exact hln
  have hnm : ∀ p ∈ (lsucc cols ds col).mergeSort prLe, Nm p.1 ∧ Nm p.2 := fun p hp => lsucc_nm hok.dnm (pmS.mem_iff.mp hp)
  have hmv : ∀ d ∈ ds, (∀ m ∈ d.moves, (m.1 = "" ∨ m.1 ∈ sts) ∧ (m.2 = "" ∨ m.2 ∈ sts)) ∧ d.moves.length ≤ 3 := fun d hd => by
    have ho := M.ok d hd
    rcases hk : d.kd with _ | _ | _
    · obtain ⟨s, hs, e2⟩ := ho.make hk
      rw [e2]
      refine ⟨fun m hm => ?_, by show 1 ≤ 3; decide⟩
      have : m = ((("" : Str)), s) := List.mem_singleton.mp hm
      rw [this]; exact ⟨.inl rfl, .inr hs⟩
    · refine ⟨fun m hm => ?_, ?_⟩
      · have := (ho.chg hk).1 m hm
        exact ⟨.inr this.1, .inr this.2⟩
      · have := (ho.chg hk).2.1.length_le
        rw [List.length_map] at this; omega
    · refine ⟨fun m hm => ?_, ?_⟩
      · have := (ho.end_ hk).1 m hm
        exact ⟨.inr this.1, .inl this.2⟩
      · have := (ho.end_ hk).2.length_le
        rw [List.length_map] at this; omega
  have sk0 : Sk "" := by show PyData.strOk "" = true; decide +kernel
  have skm : ∀ d ∈ ds, ∀ m ∈ d.moves, SkP m := fun d hd m hm => by
    obtain ⟨h1, h2⟩ := (hmv d hd).1 m hm
    exact ⟨h1.elim (fun e => by rw [e]; exact sk0) fun h => (M.snm _ h).sk, h2.elim (fun e => by rw [e]; exact sk0) fun h => (M.snm _ h).sk⟩
  obtain ⟨dx, sa, pka, ys, ws, hr1, hsa, hys, hpka, hws⟩ := id hcv.at_
  have hC : ∀ {H' : Hp}, Same H H' → H' r = some (.ins (cA K "Cover") dx (coverF col price sa pka)) := fun s => s _ _ hr1
  have hcvs : ∀ {H' : Hp}, Same H H' → CovAt K H' r col price sd pk := fun s => ⟨dx, sa, pka, ys, ws, s _ _ hr1, s _ _ hsa, hys.mono s, s _ _ hpka, Paired.mono (fun _ _ z => IsW.mono s z) hws⟩
  have hpos : ∀ {H' : Hp}, Same H H' → PrOpt K H' pw d m := fun s => hpo.imp id fun h => h.same s
  have hpkl : pk.length ≤ 49 := by
    have := nodup_len R.pnd (m := lsucc cols ds col) fun x hx => by
      obtain ⟨y, hy, rfl⟩ := List.mem_map.mp hx
      exact (R.pin y hy).1
    rw [List.length_map] at this
    omega
  refine ⟨_, rfl, _, rfl, v, col, cols, ds, kv, "" :: sts, rfl, hv, hok.dfew, by rw [List.length_cons]; omega, fun d hd m hm => ((hmv d hd).1 m hm).2.elim (fun e => by rw [e]; exact List.mem_cons_self) (List.mem_cons_of_mem _), fun d hd => by have := (hmv d hd).2; omega, skm, fun pl H1 s1 ⟨hpl0, pvs, hpl, hpvs⟩ => ?_⟩
  refine ⟨_, rfl, _, rfl, _, rfl, _, rfl, _, rfl, r, v, col, cols, ds, kv, pl, du, pvs, _, sd, price, pk, prc d m, rfl, hcvs s1, hv.frB (Fr.of s1), hok.dfew, hok.dnm, hpl, hpvs, hnm, by omega, hdu.same s1, R.snd, R.srt, fun s hs => pmD.mem_iff.mpr (R.sin s hs), fun p hp => R.tel p (pmS.mem_iff.mp hp), R.worth, hpr, fun H2 s2 => ⟨true, rfl, iteF ?_⟩⟩
  have s02 := s1.trans s2
  refine ⟨_, rfl, _, rfl, _, rfl, r, pl, du, col, price, sd, pk, pvs, _, lsd cols ds col, prc d m, rfl, hcvs s02, s2 _ _ hpl, hpvs.mono s2, fun p hp => ⟨(hnm p hp).1.sk, (hnm p hp).2.sk⟩, by omega, hdu.same s02, fun x hx => ⟨pmS.mem_iff.mpr (R.pin x hx).1, (R.pin x hx).2⟩, R.pnd, R.psrt, hpkl, fun p hp => ?_, fun e _ => R.bear e, R.sum, fun H3 s3 => ⟨true, rfl, iteF ?_⟩⟩
  · obtain ⟨a1, a2⟩ := lsucc_ends (pmS.mem_iff.mp hp)
    exact ⟨pmD.mem_iff.mpr a1, pmD.mem_iff.mpr a2⟩
  have s03 := s02.trans s3
  refine ⟨_, rfl, _, rfl, _, rfl, r, _, dx, _, _, rfl, hC s03, TI.th.cover.cl, TI.th.nC _ (by simp), (show (coverF col price sa pka).lookup ("sides" : Str) = some (.ref sa) from rfl), u, col, cs, es, sa, ys, sd, rfl, hbk.same s03, hb.ok, hcol', s03 _ _ hsa, hys.mono s03, fun s hs => hsd.mpr (R.sin s hs), R.snd, fun p hp => R.tel p (hsi.mp hp), fun H4 s4 => ⟨true, rfl, iteT ?_⟩⟩
  have s04 := s03.trans s4
  refine ⟨_, rfl, _, rfl, _, rfl, r, _, dx, _, _, rfl, hC s04, TI.th.cover.cl, TI.th.nC _ (by simp), (show (coverF col price sa pka).lookup ("packing" : Str) = some (.ref pka) from rfl), _, rfl, u, pw, col, cs, es, d, m, pka, ws, pk, rfl, hbk.same s04, hb.ok, hcol', hpos s04, s04 _ _ hpka, Paired.mono (fun _ _ z => IsW.mono s04 z) hws, fun x hx => ⟨hsi.mpr (R.pin x hx).1, (R.pin x hx).2⟩, R.pnd, fun p hp => ?_, fun e _ => R.bear e, fun H5 s5 => k _ (s04.trans s5)⟩
  obtain ⟨a1, a2⟩ := lsucc_ends (hsi.mp hp)
  exact ⟨hsd.mpr a1, hsd.mpr a2⟩
end
end Pn
/-! #### W41 -/
namespace Pn
open PySem PySem.Spec PyProof.Rows L2 LamX
/-! ### what stands while the law runs -/
def LFr (H H' : Hp) : Prop := ∀ q o, H q = some o → (∀ ps, o ≠ .tbl ps) → (ExB q o → ∃ o', ExB q o' ∧ H' q = some o') ∧ (¬ ExB q o → H' q = some o)
theorem exB_tbl {q : Addr} {o : HO} (h : ExB q o) (ps : Array Value) : o ≠ .tbl ps := fun z => by
  obtain ⟨i, j, e⟩ := h
  rw [e] at z; cases z
theorem LFr.trans {H H1 H2 : Hp} (a : LFr H H1) (b : LFr H1 H2) : LFr H H2 := fun q o h n => by
  refine ⟨fun e => ?_, fun e => (b q o ((a q o h n).2 e) n).2 e⟩
  obtain ⟨o', e', h'⟩ := (a q o h n).1 e
  exact (b q o' h' (exB_tbl e')).1 e'
theorem LFr.ofB {H H' : Hp} (f : Fr ExB H H') : LFr H H' := fun q o h _ => f q o h
theorem LFr.ofN {H H' : Hp} (f : ExtN H H') : LFr H H' := fun q o h n => ⟨fun e => ⟨o, e, f q o h n⟩, fun _ => f q o h n⟩
theorem LFr.ofS {H H' : Hp} (f : Same H H') : LFr H H' := .ofB (Fr.of f)
theorem LFr.refl (H : Hp) : LFr H H := .ofS (Same.refl _)
theorem LFr.get {H H' : Hp} {q : Addr} {o : HO} (f : LFr H H') (h : H q = some o) (n : ∀ ps, o ≠ .tbl ps) (e : ¬ ExB q o) : H' q = some o := (f q o h n).2 e
theorem code_exB {q : Addr} {c : Addr} {z : Str} : ¬ ExB q (CodeO c z) := fun ⟨i, j, e⟩ => by
  unfold CodeO at e
  cases e
theorem tabs_frB {T : List (Addr × Str)} {H H' : Hp} (h : Tabs T H) (f : Fr ExB H H') : Tabs T H' := fun x hx => by
  obtain ⟨ps, h1, h2, h3⟩ := h x hx
  refine ⟨ps, f.get h1 (fun z => exB_tbl z ps rfl), h2, fun pos cv hc => ?_⟩
  obtain ⟨c, e1, e2⟩ := h3 pos cv hc
  exact ⟨c, e1, f.get e2 code_exB⟩
theorem LnAt.ext {N : Addr → Prop} {H H' : Hp} {v : V} {t : Told} (e : ExtN H H') (h : LnAt N H v t) : LnAt N H' v t := by
  cases t with
  | none => exact h
  | some x =>
    obtain ⟨o, n, a, c⟩ := x
    obtain ⟨q, oa, na, rfl, h1, h2, h3, h4, h5⟩ := h
    exact ⟨q, oa, na, rfl, e _ _ h1 (fun _ z => by cases z), e _ _ h2 (fun _ z => by cases z), e _ _ h3 (fun _ z => by cases z), h4, h5⟩
theorem IsPs.ext {H H' : Hp} {vs : List V} {ps : List Pr} (e : ExtN H H') (h : IsPs H vs ps) : IsPs H' vs ps := Paired.mono (fun _ _ ⟨a, ea, ha⟩ => ⟨a, ea, e _ _ ha (fun _ z => by cases z)⟩) h
theorem LdAt.ext {N : Addr → Prop} {H H' : Hp} {v : V} {d : Ld} (e : ExtN H H') (h : LdAt N H v d) : LdAt N H' v d := by
  obtain ⟨q, ma, oa, nv, ms, rfl, h1, h2, h3, h4, h5, h6, h7⟩ := h
  exact ⟨q, ma, oa, nv, ms, rfl, e _ _ h1 (fun _ z => by cases z), e _ _ h2 (fun _ z => by cases z), IsPs.ext e h3, e _ _ h4 (fun _ z => by cases z), h5.ext e, h6, h7⟩
theorem LDat.ext {H H' : Hp} {v kv : V} {cols : List Str} {ds : List Ld} (e : ExtN H H') (h : LDat H v cols ds kv) : LDat H' v cols ds kv := by
  obtain ⟨q, wa, fa, vs, rfl, h1, h2, h3, h4⟩ := h
  exact ⟨q, wa, fa, vs, rfl, e _ _ h1 (fun _ z => by cases z), e _ _ h2 (fun _ z => by cases z), e _ _ h3 (fun _ z => by cases z), Paired.mono (fun _ _ z => LdAt.ext e z) h4⟩
theorem exB_deeds {K : PySem.W.Frag} {q : Addr} {H : Hp} {vs : List V} {ds : List Dd} (h : Paired (DeedAt K H) vs ds) : ¬ ExB q (.lst vs) := fun z => by
  obtain ⟨i, j, z⟩ := z
  cases z
  cases h with
  | cons h1 _ => obtain ⟨p, _, _, _, _, _, e, _⟩ := h1; cases e
theorem BookAt.frB {K : PySem.W.Frag} {H H' : Hp} {v : V} {cols : List Str} {ds : List Dd} (f : Fr ExB H H') (h : BookAt K H v cols ds) : BookAt K H' v cols ds := by
  obtain ⟨p, dx, c, s, l, n, kv, vs, rfl, h1, h2, h3, h4⟩ := h
  exact ⟨p, dx, c, s, l, n, kv, vs, rfl, f.get h1 (Kps.b.ins _ _ _ _), f.get h2 (Kps.b.tup _ _), f.get h3 (exB_deeds h4), Paired.mono (fun _ _ z => z.fr .b f) h4⟩
/-- a datum: its columns, its deeds, what it keeps -/
abbrev Dt := List Str × List Ld × V
def DtAt (H : Hp) (v : V) (x : Dt) : Prop := LDat H v x.1 x.2.1 x.2.2
structure Al (tP b dl : Addr) (vs : List V) (xs : List Dt) (H : Hp) : Prop where
  tabs : Tabs [(tP, lamQ)] H
  bag : BagAt H b
  lst : H dl = some (.lst vs)
  no : ¬ ExB dl (.lst vs)
  dat : Paired (DtAt H) vs xs
section
variable {tP b dl : Addr} {vs : List V} {xs : List Dt} {H H' : Hp}
theorem Al.frB (h : Al tP b dl vs xs H) (f : Fr ExB H H') : Al tP b dl vs xs H' :=
  ⟨tabs_frB h.tabs f, h.bag.fr f, f.get h.lst h.no, h.no, Paired.mono (fun _ _ z => LDat.frB f z) h.dat⟩
theorem Al.same (h : Al tP b dl vs xs H) (f : Same H H') : Al tP b dl vs xs H' := h.frB (Fr.of f)
theorem Al.ext (h : Al tP b dl vs xs H) (e : ExtN H H') (t : Tabs [(tP, lamQ)] H') : Al tP b dl vs xs H' := by
  obtain ⟨i, j, hb⟩ := h.bag
  exact ⟨t, ⟨i, j, e _ _ hb (fun _ z => by cases z)⟩, e _ _ h.lst (fun _ z => by cases z), h.no, Paired.mono (fun _ _ z => LDat.ext e z) h.dat⟩
end
end Pn
/-! #### W42 -/
namespace Pn
open PySem PySem.Spec PyProof.Rows L2 LamX
/-! ### the law -/
section
variable {P : Program} {w : World} {K : PySem.W.Frag} {mg : Str → Option Value} {base : Heap} {tP : Addr}
def sp_law (K : PySem.W.Frag) (tP : Addr) : Sp := fun vs H Q _ => ∃ (a : Addr) (ns : List Int), vs = [.ref a] ∧ SqL K H a (ns.map V.int) ∧ ns.length ≤ 63 ∧ Tabs [(tP, lamQ)] H ∧ ∀ H', Q (.bl true) H'
theorem FnOk.ofD {x : Str} {st : Stmt} {N ps : List Str} {k : Nat} {sp : Sp} {f : Addr} {fd : FuncData} (F : FunD K x x (defArgs st) (defBody st) (defScope st) [] [] f fd) (S : FnScope N ps (defScope st)) (len : ∀ vs H Q E, sp vs H Q E → vs.length = ps.length)
    (hbody : ∀ (f : Addr) (cdv : Value) (A : Around) (outer : List Env) (s : Shared) (H : Hp) (vs : List V) (Q : VK) (E : XK), Room k (A.deeper (envOfC x (defScope st) s.heap.objs.size f cdv)) → sp vs H Q E →
      ∃ t, PSs (cxOf CX0 P w K mg base N x (defScope st) f cdv A outer s H E).nox (defBody st) t ∧ t { nx := fun _ H' => Q .non H', rt := Q } (start N vs) H) : FnOk P w K mg base CX0 (k + 1) f fd ps sp :=
  F.ok S len fun cdv A outer s H vs Q E hr h => (by
    obtain ⟨t, h1, h2⟩ := hbody f cdv A outer s H vs Q E hr h
    exact ⟨t, PSs.nox h1, h2⟩)
set_option maxHeartbeats 16000000 in
theorem ok_law (T : Tl P K mg base tP) {f0 : Addr} {fd0 : FuncData} (DL : FunD K "law" "law" (defArgs s_law) (defBody s_law) (defScope s_law) [] [] f0 fd0) : FnOk P w K mg base CX0 12 f0 fd0 p_law (sp_law K tP) := by
  refine FnOk.ofD DL sc_law (fun vs H Q E ⟨_, _, e, _⟩ => by rw [e]; rfl) fun f cdv A outer s H vs Q E hr ⟨a, ns, e, hS, hnl, hT, k⟩ => ?_
  subst e
  have TI := T.tj.ti
  have B := TI.th.tg.tf.tb.te.td.tc.tw.bt
  have c_law_bag := ok_law_bag (P := P) (w := w) T
  have c_law_names := ok_law_names (P := P) (w := w) T
  have c_law_data := ok_law_data (P := P) (w := w) T
  have c_law_book := ok_law_book (P := P) (w := w) T
  have c_law_priced := ok_law_priced (P := P) (w := w) T
  have c_law_is_right := ok_law_is_right (P := P) (w := w) T
  have c_fewest := (ok_fewest (P := P) (w := w) (base := base) TI).kf
  obtain ⟨ff, fdf, dsf, Ff, _, vf, bf, mf, kf⟩ := (ok_fewest (P := P) (w := w) (base := base) TI).ex
  have core : ∃ t : TS, PS (cxOf CX0 P w K mg base n_law "law" (defScope s_law) f cdv A outer s H E).nox ((defBody s_law).getD 0 (.Pass ⟨0, 0, 0, 0⟩)) t ∧ ∀ (D : Ends) (H : Hp), (∀ H', LFr H H' → SqL K H' a (ns.map V.int)) → Tabs [(tP, lamQ)] H → (∀ σ H', LFr H H' → D.nx σ H') → t D (start n_law [.ref a]) H := by
   refine ⟨_, (ps_for PassesOwn.never rfl (pi_range1 rfl B.range (pa_cons (cB (call_max2 rfl) B.max bb_max (pa_cons pe_int (pa_cons (cB (call_min2 rfl) B.min bb_min (pa_cons pe_int (pa_cons (cB (len_seqK K) B.len bb_len (pa_cons (pv 0) pa_nil)) pa_nil))) pa_nil))) pa_nil)) (gnm 1 sc_law.nd) (pss_cons (sset 2 sc_law.nd (pe_k c_law_bag hr (by decide) rfl (pa_cons (pv 0) (pa_cons (pv 1) pa_nil)))) (pss_cons (sset 3 sc_law.nd (pe_tup (pa_cons (pe_k c_law_names hr (by decide) rfl (pa_cons (pv 2) (pa_cons pe_int (pa_cons (pe_lst (pa_cons pe_str (pa_cons pe_str (pa_cons pe_str pa_nil)))) pa_nil)))) (pa_cons (pe_lst pa_nil) (pa_cons pe_non pa_nil))))) (pss_one (ps_for PassesOwn.never rfl (pi_listK K (pe_lst (pa_cons (pe_k c_law_data hr (by decide) rfl (pa_cons (pv 2) (pa_cons pe_int (pa_cons pe_int (pa_cons pe_int pa_nil))))) (pa_cons (pe_k c_law_data hr (by decide) rfl (pa_cons (pv 2) (pa_cons pe_int (pa_cons pe_int (pa_cons pe_int pa_nil))))) (pa_cons (pv 3) pa_nil))))) (gnm 4 sc_law.nd) (pss_cons (sset 5 sc_law.nd (pe_k c_law_book hr (by decide) rfl (pa_cons (pv 4) pa_nil))) (pss_one (ps_for PassesOwn.never rfl (pi_listK K (pe_ix (ix_tupK K) (pv 4) pe_int (fun _ _ => rfl))) (gnm 6 sc_law.nd) (pss_cons (ps_asg (pe_k c_law_priced hr (by decide) rfl (pa_cons (pv 2) (pa_cons (pv 4) (pa_cons (pv 6) pa_nil)))) (pg_tupK K (n := 2) rfl (pgs_cons (gnm 7 sc_law.nd) (pgs_cons (gnm 8 sc_law.nd) pgs_nil)))) (pss_cons (sset 9 sc_law.nd pe_dnewT) (pss_cons (ps_lock (ps_for PassesOwn.never rfl (pi_keys (pv 8)) (gnm 10 sc_law.nd) (pss_one (ps_dput (hu_of hr) (pv 9) (pv 10) pe_int rfl)))) (pss_cons (ps_if (pt_not (pt_val (pe_k c_law_is_right hr (by decide) rfl (pa_cons (pe_k c_fewest hr (by decide) rfl (pa_cons (pv 5) (pa_cons (pv 6) (pa_cons (pv 7) pa_nil)))) (pa_cons (pv 4) (pa_cons (pv 5) (pa_cons (pv 6) (pa_cons (pv 7) (pa_cons (pv 8) pa_nil))))))))) (pss_one (ps_ret pe_bl)) pss_nil) (pss_one (ps_if (pt_not (pt_val (pe_k c_law_is_right hr (by decide) rfl (pa_cons (pe_call Ff (hr.mono (by decide)) rfl mf kf bf vf pass0 (pa_cons (pv 5) (pa_cons (pv 6) pa_nil))) (pa_cons (pv 4) (pa_cons (pv 5) (pa_cons (pv 6) (pa_cons pe_non (pa_cons (pv 9) pa_nil))))))))) (pss_one (ps_ret pe_bl)) pss_nil)))))))))))))), ?_⟩
   intro D H hS hT k
   have z3 : (3 : Nat) ≤ sizeLine := by decide
   obtain ⟨n, hn, hn3⟩ : ∃ n : Nat, (if (if ((ns.map V.int).length : Int) < 3 then ((ns.map V.int).length : Int) else 3) > 1 then (if ((ns.map V.int).length : Int) < 3 then ((ns.map V.int).length : Int) else 3) else 1) = (n : Int) ∧ n ≤ 3 := by
     refine ⟨(if (if ((ns.map V.int).length : Int) < 3 then ((ns.map V.int).length : Int) else 3) > 1 then (if ((ns.map V.int).length : Int) < 3 then ((ns.map V.int).length : Int) else 3) else 1).toNat, ?_, ?_⟩ <;> split <;> split <;> omega
   let P1 : Nat → L2.St → Hp → Prop := fun _ σ H' => (∃ o1 o2 o3 o4 o5 o6 o7 o8 o9 o10, σ = [some (.ref a), o1, o2, o3, o4, o5, o6, o7, o8, o9, o10]) ∧ LFr H H' ∧ Tabs [(tP, lamQ)] H'
   refine ⟨_, rfl, a, _, rfl, .inl (hS H (LFr.refl _)), 3, _, rfl, 1, _, rfl, n, (by rw [hn]), by omega, by omega, for_it walk_range P1 ⟨⟨_, _, _, _, _, _, _, _, _, _, rfl⟩, LFr.refl _, hT⟩ (fun _ _ _ _ _ => trivial) ?_ (fun σ H' p => k σ _ p.2.1)⟩
   rintro i x σ H1 H2 hi ⟨⟨o1, o2, o3, o4, o5, o6, o7, o8, o9, o10, rfl⟩, f1, t1⟩ ⟨rfl, rfl⟩
   refine ⟨_, rfl, _, rfl, a, ns, i, (by show [V.ref a, V.int (0 + (i : Int))] ++ [] = _; rw [List.append_nil, Int.zero_add]), hS _ f1, hnl, by omega, fun b H3 s3 hb0 hb3 => ?_⟩
   refine ⟨_, rfl, z3, fun l1 hl1 => ?_⟩
   have s4 : Same H3 (upd H3 l1 (.lst [.str "state", .str "row", .str "deed"])) := (Fr.new (E := Ex0) hl1).same
   refine ⟨b, l1, 2, ["state", "row", "deed"], rfl, hb3.fr (Fr.of s4), by decide, upd_same, by decide, fun H5 wa cols f5 hwa0 hwa cnd cl cnm => ⟨Nat.zero_le _, fun fa hfa => ⟨z3, fun bt hbt => ?_⟩⟩⟩
   have f35 : Fr ExB H3 H5 := (Fr.of s4).trans f5
   have nfb : fa ≠ bt := ne_of_none upd_same hbt
   have f6 : Fr ExB H5 (upd (upd H5 fa (.lst [])) bt (.tup [.ref wa, .ref fa, .non])) := (Fr.new hfa).new' hbt
   have hd3 : LDat (upd (upd H5 fa (.lst [])) bt (.tup [.ref wa, .ref fa, .non])) (.ref bt) cols [] .non := ⟨bt, wa, fa, [], rfl, upd_same, hwa.frB f6, by rw [upd_ne nfb]; exact upd_same, .nil⟩
   have ok3 : LOk cols [] .non := ⟨cnm, cnd, by omega, by simp, by simp, by simp, ⟨[], by simp, by simp, by simp, by simp⟩, .inl rfl⟩
   revert f6 hd3
   generalize upd (upd H5 fa (.lst [])) bt (.tup [.ref wa, .ref fa, .non]) = H6
   intro f6 hd3
   have f36 := f35.trans f6
   refine ⟨_, rfl, b, rfl, hb3.fr f36, fun H7 v1 cols1 ds1 kv1 f7 hd1 ok1 => ⟨_, rfl, b, rfl, (hb3.fr f36).fr f7, fun H8 v2 cols2 ds2 kv2 f8 hd2 ok2 => ⟨_, rfl, z3, fun dl hdl => ?_⟩⟩⟩
   have f9 : Fr ExB H8 (upd H8 dl (.lst [v1, v2, .ref bt])) := Fr.new hdl
   have f68 := f7.trans f8
   have A0 : Al tP b dl [v1, v2, .ref bt] [(cols1, ds1, kv1), (cols2, ds2, kv2), (cols, [], .non)] (upd H8 dl (.lst [v1, v2, .ref bt])) :=
     ⟨tabs_frB (tabs_frB (t1.ext s3) (f36.trans f68)) f9, ((hb3.fr f36).fr f68).fr f9, upd_same, (fun ⟨i, j, z⟩ => by cases z), .cons ((hd1.frB f8).frB f9) (.cons (hd2.frB f9) (.cons ((hd3.frB f68).frB f9) .nil))⟩
   have okA : ∀ x ∈ ([(cols1, ds1, kv1), (cols2, ds2, kv2), (cols, [], .non)] : List Dt), LOk x.1 x.2.1 x.2.2 := fun x hx => by
     simp only [List.mem_cons, List.not_mem_nil, or_false] at hx
     rcases hx with rfl | rfl | rfl
     · exact ok1
     · exact ok2
     · exact ok3
   have l9 : LFr H (upd H8 dl (.lst [v1, v2, .ref bt])) := ((f1.trans (.ofS s3)).trans (.ofB (f36.trans f68))).trans (.ofB f9)
   revert A0 l9
   generalize upd H8 dl (.lst [v1, v2, .ref bt]) = H9
   intro A0 l9
   generalize [v1, v2, .ref bt] = vs at A0 ⊢
   generalize ([(cols1, ds1, kv1), (cols2, ds2, kv2), (cols, [], .non)] : List Dt) = xs at A0 okA
   clear hd1 hd2 hd3 ok1 ok2 ok3 f9 f68 hdl
   let P2 : Nat → L2.St → Hp → Prop := fun _ σ H' => (∃ o4 o5 o6 o7 o8 o9 o10, σ = [some (.ref a), some (.int (0 + (i : Nat))), some (.ref b), some (.ref bt), o4, o5, o6, o7, o8, o9, o10]) ∧ LFr H H' ∧ Al tP b dl vs xs H'
   refine ⟨dl, rfl, ⟨vs, .inl (.inl A0.lst)⟩, for_it (walk_list (xs := vs)) P2 ⟨⟨_, _, _, _, _, _, _, rfl⟩, l9, A0⟩ (fun i σ H' _ p => .inl (.inl p.2.2.lst)) ?_ (fun σ H' ⟨⟨_, _, _, _, _, _, _, e⟩, l, A⟩ => ⟨⟨_, _, _, _, _, _, _, _, _, _, e⟩, l, A.tabs⟩)⟩
   clear hwa hwa0 cnm cnd cl f5 f35 f36 hn hn3 f6 f7 f8
   rintro j v σ H10 H11 hj ⟨⟨o4', o5', o6', o7', o8', o9', o10', rfl⟩, l10, A⟩ ⟨rfl, hv⟩
   obtain ⟨⟨cols, ds, kv⟩, hx, hd⟩ := Paired.get A.dat hv
   have ok : LOk cols ds kv := okA _ (List.mem_of_getElem? hx)
   have hd : LDat H11 v cols ds kv := hd
   refine ⟨_, rfl, v, cols, ds, kv, rfl, hd, ok, A.tabs, fun H12 u cs es e12 t12 hbk hbo => ?_⟩
   have A12 := A.ext e12 t12
   have l12 := l10.trans (.ofN e12)
   have hd12 := LDat.ext e12 hd
   obtain ⟨q, wa, fa, us, rfl, h1, h2, h3, h4⟩ := id hd12
   let P3 : Nat → L2.St → Hp → Prop := fun _ σ H' => (∃ o6 o7 o8 o9 o10, σ = [some (.ref a), some (.int (0 + (i : Nat))), some (.ref b), some (.ref bt), some (.ref q), some u, o6, o7, o8, o9, o10]) ∧ Fr ExB H12 H'
   refine ⟨_, rfl, q, _, 0, _, rfl, rfl, .inl (.inl h1), rfl, wa, rfl, ⟨_, h2.l⟩, for_it (walk_list (xs := cols.map V.str)) P3 ⟨⟨_, _, _, _, _, rfl⟩, Fr.refl _ _⟩ (fun i σ H' _ p => (h2.frB p.2).l) ?_ (fun σ H' ⟨⟨_, _, _, _, _, e⟩, f⟩ => ⟨⟨_, _, _, _, _, _, _, e⟩, l12.trans (.ofB f), A12.frB f⟩)⟩
   rintro k' y σ H13 H14 hk' ⟨⟨p6, p7, p8, p9, p10, rfl⟩, f13⟩ ⟨rfl, hy⟩
   obtain ⟨col, hcol, rfl⟩ := map_at hy
   have hcolm : col ∈ cols := List.mem_of_getElem? hcol
   have hcolc : col ∈ cs := hbo.scs.1.mem_iff.mpr hcolm
   refine ⟨_, rfl, _, rfl, _, rfl, b, .ref q, col, cols, ds, kv, rfl, (A12.frB f13).bag, hd12.frB f13, ok.dfew, ok.dnd, ok.dnm, fun H15 r cv du us' m f15 hr15 hduH hpr hdu hlo => ⟨r, _, rfl, .inl (.inl hr15), rfl, _, _, rfl, _, _, rfl, rfl, ?_⟩⟩
   intro on hon
   obtain ⟨md, hmd, kmd, vmd⟩ := id hdu
   have ndo : du ≠ on := ne_of_none hmd hon
   have s16 : Same H15 (upd H15 on (.dT [])) := (Fr.new (E := Ex0) hon).same
   have hmd16 := s16 _ _ hmd
   have hon16 : DInt (upd H15 on (.dT [])) on [] := upd_same
   have honH := hon
   refine ⟨du, _, hmd16, True.intro, fun ob => ?_⟩
   have hlen : md.length ≤ 14 := by
     have h1 := lsd_len (cols := cols) (col := col) ok.dfew
     rw [← kmd, List.length_map] at h1; exact h1
   have hlr : (kvG V.int md).length = md.length := by unfold kvG; rw [List.length_map]
   have hon17 : DInt (upd (upd H15 on (.dT [])) du (.frz ob (.dT (kvG V.int md)))) on [] := by
     show upd _ du _ on = _
     rw [upd_ne ndo.symm]; exact hon16
   have honL : upd H15 du (.frz ob (.dT (kvG V.int md))) on = none := by rw [upd_ne ndo.symm]; exact hon
   let P4 : Nat → L2.St → Hp → Prop := fun i' σ H' => (∃ o10, σ = [some (.ref a), some (.int (0 + (i : Nat))), some (.ref b), some (.ref bt), some (.ref q), some u, some (.str col), some cv, some (.ref du), some (.ref on), o10]) ∧ Same (upd H15 du (.frz ob (.dT (kvG V.int md)))) H' ∧ ∃ mo, DInt H' on mo ∧ mo.map Prod.fst = (md.map Prod.fst).take i' ∧ ∀ k ∈ (md.map Prod.fst).take i', look mo k = some 1
   have s17 : Same (upd H15 du (.frz ob (.dT (kvG V.int md)))) (upd (upd H15 on (.dT [])) du (.frz ob (.dT (kvG V.int md)))) := fun z o h => by
     by_cases hz : z = du
     · subst hz
       rw [upd_same] at h ⊢; exact h
     · rw [upd_ne hz] at h ⊢; exact s16 _ _ h
   refine ⟨_, rfl, du, ob, rfl, .inr ⟨_, upd_same, for_it (walk_keysT (d := du) (o := ob) (kvs := kvG V.int md)) P4 ⟨⟨_, rfl⟩, s17, [], hon17, rfl, by simp⟩ (fun i σ H' _ p => p.2.1 _ _ upd_same) ?_ ?_⟩⟩
   · rintro i' x σ Ha Hb hi' ⟨⟨o10'', rfl⟩, sa, mo, hmo, kmo, vmo⟩ ⟨rfl, k0, v0, q0, hk0, rfl, hq0⟩
     obtain ⟨e0, he0, rfl, rfl⟩ := kvG_at hk0
     have hq0 : Hb q0 = some (.tup (vP e0.1)) := hq0
     have hei : (md.map Prod.fst)[i']? = some e0.1 := by rw [List.getElem?_map, he0]; rfl
     have hil : i' < (md.map Prod.fst).length := (List.getElem?_eq_some_iff.mp hei).1
     have htk : (md.map Prod.fst).take (i' + 1) = (md.map Prod.fst).take i' ++ [e0.1] := by
       rw [List.take_succ_eq_append_getElem hil, (List.getElem?_eq_some_iff.mp hei).2]
     have mnd : (md.map Prod.fst).Nodup := by rw [kmd]; exact lsd_nd ok.dnd
     have hno : e0.1 ∉ (md.map Prod.fst).take i' := by
       have hn : ((md.map Prod.fst).take (i' + 1)).Nodup := mnd.sublist (List.take_sublist _ _)
       rw [htk] at hn
       exact fun z => (List.nodup_append.mp hn).2.2 _ z _ (by simp) rfl
     have mol : mo.length ≤ 14 := by
       have := congrArg List.length kmo
       rw [List.length_map, List.length_take, List.length_map] at this
       omega
     refine ⟨_, rfl, _, rfl, on, _, rfl, DInt.put (p := e0.1) (v := 1) hmo hq0 (by omega), ⟨_, rfl⟩, ((Fr.of (E := Ex0) sa).put honL).same, _, upd_same, ?_, fun z hz => ?_⟩
     · rw [put_keys, kmo, if_neg hno, htk]
     · rw [look_put]
       by_cases e : z = e0.1
       · rw [if_pos e]
       · rw [if_neg e]
         rw [htk] at hz
         rcases List.mem_append.mp hz with y | y
         · exact vmo z y
         · exact absurd (List.mem_singleton.mp y) e
   rintro σ Ha ⟨⟨o10'', rfl⟩, sa, mo, hmo, kmo, vmo⟩
   refine ⟨sa _ _ upd_same, ?_⟩
   have s18 : Same H15 (upd Ha du (.dT (kvG V.int md))) := same_unlock hmd sa
   have hones : DFn (upd Ha du (.dT (kvG V.int md))) on (lsd cols ds col) (prc 1 []) := by
     refine ⟨mo, ?_, ?_, fun z hz => ?_⟩
     · show upd _ du _ on = _
       rw [upd_ne ndo.symm]; exact hmo
     · rw [kmo, hlr, ← kmd, ← List.length_map (f := Prod.fst) (as := md), List.take_length]
     · refine vmo z ?_
       rw [hlr, ← List.length_map (f := Prod.fst) (as := md), List.take_length, kmd]; exact hz
   generalize upd Ha du (.dT (kvG V.int md)) = H18 at s18 hones ⊢
   have f18 : Fr ExB H12 H18 := (f13.trans f15).trans (Fr.of s18)
   have hbk18 := hbk.frB f18
   have hd18 := hd12.frB f18
   have hpo18 : PrOpt K H18 cv us' m := .inr (hpr.same s18)
   have hdu18 := hdu.same s18
   have h1p : ∀ s, prc 1 [] s = 1 := fun _ => rfl
   refine ⟨_, rfl, _, rfl, _, rfl, u, cv, col, cs, es, us', m, rfl, hbk18, hbo.ok, hcolc, hpo18, fun z => by have := hlo z; omega, fun H19 r1 price sd pk s19 hr0 hcv hfw => ⟨_, rfl, _, rfl, _, rfl, _, rfl, _, rfl, r1, du, .ref q, u, cv, col, cols, cs, ds, es, kv, price, us', sd, pk, m, rfl, hcv, hfw, hd18.frB (Fr.of s19), ok, hbk18.same s19, hbo, hcolm, .inr ((hpr.same s18).same s19), hdu18.same s19, hlo, fun H20 s20 => ⟨true, rfl, iteF ?_⟩⟩⟩
   have s18' := s19.trans s20
   refine ⟨_, rfl, _, rfl, u, .non, col, cs, es, 1, [], rfl, hbk18.same s18', hbo.ok, hcolc, .inl ⟨rfl, rfl, rfl⟩, fun z => by rw [h1p]; decide, fun H21 r2 price2 sd2 pk2 s21 hr20 hcv2 hfw2 => ⟨_, rfl, _, rfl, _, rfl, _, rfl, r2, on, .ref q, u, .non, col, cols, cs, ds, es, kv, price2, 1, sd2, pk2, [], rfl, hcv2, hfw2, hd18.frB (Fr.of (s18'.trans s21)), ok, hbk18.same (s18'.trans s21), hbo, hcolm, .inl ⟨rfl, rfl, rfl⟩, hones.same (s18'.trans s21), fun z => by rw [h1p]; decide, fun H22 s22 => ⟨true, rfl, iteF ?_⟩⟩⟩
   exact ⟨⟨_, _, _, _, _, rfl⟩, f18.trans (Fr.of ((s18'.trans s21).trans s22))⟩
  obtain ⟨t, h1, h2⟩ := core
  have fin : ∀ {t : TS}, (∀ D : Ends, (∀ σ H', D.nx σ H') → t D (start n_law [.ref a]) H) → PS (cxOf CX0 P w K mg base n_law "law" (defScope s_law) f cdv A outer s H E).nox ((defBody s_law).getD 0 (.Pass ⟨0, 0, 0, 0⟩)) t → ∃ t, PSs (cxOf CX0 P w K mg base n_law "law" (defScope s_law) f cdv A outer s H E).nox (defBody s_law) t ∧ t { nx := fun _ H' => Q .non H', rt := Q } (start n_law [.ref a]) H := fun {t} h g =>
    ⟨_, pss_cons g (pss_one (ps_ret pe_bl)), h _ fun σ H' => k H'⟩
  rcases id hS with (q | ⟨o, q⟩) | q
  · have hTl : Tabs [(tP, lamQ)] H := hT
    refine fin (t := tLock t) (fun D hD => ⟨a, _, q, True.intro, fun od => h2 _ _ (fun H' l => .inl (.inr ⟨od, l.get upd_same (fun _ z => by cases z) (fun ⟨_, _, z⟩ => by cases z)⟩)) ?_ fun σ H' l => ⟨l.get upd_same (fun _ z => by cases z) (fun ⟨_, _, z⟩ => by cases z), hD _ _⟩⟩) (ps_lock h1)
    exact tabs_upd hT q (fun _ z => by cases z) fun c x z => by unfold CodeO at z; cases z
  · exact fin (fun D hD => h2 D H (fun H' l => .inl (.inr ⟨o, l.get q (fun _ z => by cases z) (fun ⟨_, _, z⟩ => by cases z)⟩)) hT fun σ H' _ => hD σ H') h1
  · exact fin (fun D hD => h2 D H (fun H' _ => .inr q) hT fun σ H' _ => hD σ H') h1
end
end Pn
/-! #### Hs -/
namespace Pn
open PySem PySem.Spec PyProof.Rows L2
/-! ### what the head tells, structure by structure -/
section
variable {K : PySem.W.Frag} {h : Heap} {mg : Str → Option Value}
theorem ex_at (e : hex K = true) (i : Nat) {b : Bool} (hi : (hexL K)[i]? = some b) : b = true := List.all_eq_true.mp e b (List.mem_of_getElem? hi)
theorem gint_of (X : K.In h) (G : h.Ns mainGlobals mg) {x : Str} {i : Int} (c : (He.Fa.int x i).ok K = true) : GInt mg x i := by
  obtain ⟨t, e⟩ := He.int_ok X G c
  exact ⟨_, e, t, rfl⟩
theorem defAt_of (X : K.In h) (G : h.Ns mainGlobals mg) (c : SaysY hfa hfn hfy htf hex h K) {x : Str} {st : Stmt} (i j : Nat) (hd : hfn[i]? = some ⟨(x, none), x, x, defArgs st, defBody st, defScope st, [], []⟩) (hg : hfa[j]? = some (.glo x)) : DefAt K mg x st := by
  obtain ⟨fd, F⟩ := c.d.def_ i hd
  exact ⟨_, fd, F, He.glo_ok X G (c.d.fact j hg)⟩
theorem defAtN_of (X : K.In h) (G : h.Ns mainGlobals mg) (c : SaysY hfa hfn hfy htf hex h K) {x : Str} {st : Stmt} (i j : Nat) (hd : hfn[i]? = some ⟨(x, none), x, x, defArgs st, defBody st, defScope st, [.non], []⟩) (hg : hfa[j]? = some (.glo x)) : DefAtN K mg x st := by
  obtain ⟨fd, F⟩ := c.d.def_ i hd
  exact ⟨_, fd, F, He.glo_ok X G (c.d.fact j hg)⟩
theorem metAt_of (c : SaysY hfa hfn hfy htf hex h K) {C m qual : Str} {st : Stmt} (i j : Nat) (hd : hfn[i]? = some ⟨(C, some m), m, qual, defArgs st, defBody st, defScope st, [], []⟩) (hm : hfa[j]? = some (.meth C m)) : MetAt K (cA K C) m qual st := by
  obtain ⟨fd, F⟩ := c.d.def_ i hd
  exact ⟨_, fd, F, He.meth_ok (c.d.fact j hm)⟩
theorem cmAt_of (c : SaysY hfa hfn hfy htf hex h K) {C qual : Str} {st : Stmt} (i : Nat) (hy : hfy[i]? = some (cmY C qual st)) (h1 : cmB K (cA K C) "of" = true) (h2 : plainB K (cmG K (cA K C) "of") qual = true) : CmAt K (cA K C) "of" qual st :=
  ⟨_, _, _, (cmB_ok h1).1, (cmB_ok h1).2, plainB_ok (d := cmY C qual st) (c.y _ (List.mem_of_getElem? hy)) h2⟩
theorem hs_bt (X : K.In h) (G : h.Ns mainGlobals mg) (c : SaysY hfa hfn hfy htf hex h K) : Bt mg := ⟨He.free_ok X G (x := "isinstance") (c.d.fact 0 rfl), He.free_ok X G (x := "int") (c.d.fact 1 rfl), He.free_ok X G (x := "bool") (c.d.fact 2 rfl), He.free_ok X G (x := "str") (c.d.fact 3 rfl), He.free_ok X G (x := "list") (c.d.fact 4 rfl), He.free_ok X G (x := "tuple") (c.d.fact 5 rfl), He.free_ok X G (x := "len") (c.d.fact 6 rfl), He.free_ok X G (x := "all") (c.d.fact 7 rfl), He.free_ok X G (x := "any") (c.d.fact 8 rfl), He.free_ok X G (x := "enumerate") (c.d.fact 9 rfl), He.free_ok X G (x := "sorted") (c.d.fact 10 rfl), He.free_ok X G (x := "range") (c.d.fact 11 rfl), He.free_ok X G (x := "min") (c.d.fact 12 rfl), He.free_ok X G (x := "max") (c.d.fact 13 rfl), He.free_ok X G (x := "sum") (c.d.fact 14 rfl), He.free_ok X G (x := "abs") (c.d.fact 15 rfl), He.free_ok X G (x := "set") (c.d.fact 16 rfl), He.free_ok X G (x := "repr") (c.d.fact 17 rfl), He.free_ok X G (x := "iter") (c.d.fact 18 rfl), He.free_ok X G (x := "super") (c.d.fact 19 rfl)⟩
theorem hs_tw (X : K.In h) (G : h.Ns mainGlobals mg) (c : SaysY hfa hfn hfy htf hex h K) : Tw K mg where
  bt := hs_bt X G c
  g_LETTERS := by
    obtain ⟨t, e⟩ := He.str_ok X G (x := "LETTERS") (z := letters) (c.d.fact 28 rfl)
    exact ⟨_, e, t, rfl⟩
  g_MOST_LETTERS := gint_of X G (x := "MOST_LETTERS") (c.d.fact 20 rfl)
  g_MOST_WORDS := gint_of X G (x := "MOST_WORDS") (c.d.fact 21 rfl)
  g_MOST_COLUMNS := gint_of X G (x := "MOST_COLUMNS") (c.d.fact 22 rfl)
  is_integer := (defAt_of X G c 0 99 rfl rfl : DefAt K mg "is_integer" s_is_integer)
  is_name := (defAt_of X G c 1 100 rfl rfl : DefAt K mg "is_name" s_is_name)
  is_between := (defAt_of X G c 2 101 rfl rfl : DefAt K mg "is_between" s_is_between)
  check_name := (defAt_of X G c 3 102 rfl rfl : DefAt K mg "check_name" s_check_name)
  check_once := (defAt_of X G c 4 103 rfl rfl : DefAt K mg "check_once" s_check_once)
  check_names := (defAt_of X G c 5 104 rfl rfl : DefAt K mg "check_names" s_check_names)
  check_columns := (defAt_of X G c 6 105 rfl rfl : DefAt K mg "check_columns" s_check_columns)
theorem hs_tc (X : K.In h) (G : h.Ns mainGlobals mg) (c : SaysY hfa hfn hfy htf hex h K) : Tc K mg where
  tw := hs_tw X G c
  hn := He.eqO_ok (ex_at c.more 16 rfl)
  htk := of_decide_eq_true (ex_at c.more 17 rfl)
  note := ⟨He.cls_ok (x := "Note") (c.d.fact 29 rfl), He.glo_ok X G (x := "Note") (c.d.fact 30 rfl), He.eqO_ok (ex_at c.more 0 rfl), of_decide_eq_true (ex_at c.more 1 rfl)⟩
  make := ⟨He.cls_ok (x := "Make") (c.d.fact 36 rfl), He.glo_ok X G (x := "Make") (c.d.fact 37 rfl), He.eqO_ok (ex_at c.more 2 rfl), of_decide_eq_true (ex_at c.more 3 rfl)⟩
  change := ⟨He.cls_ok (x := "Change") (c.d.fact 45 rfl), He.glo_ok X G (x := "Change") (c.d.fact 46 rfl), He.eqO_ok (ex_at c.more 4 rfl), of_decide_eq_true (ex_at c.more 5 rfl)⟩
  end_ := ⟨He.cls_ok (x := "End") (c.d.fact 54 rfl), He.glo_ok X G (x := "End") (c.d.fact 55 rfl), He.eqO_ok (ex_at c.more 6 rfl), of_decide_eq_true (ex_at c.more 7 rfl)⟩
  nN := fun f hf => by
    simp only [List.mem_cons, List.not_mem_nil, or_false] at hf
    rcases hf with rfl | rfl | rfl | rfl
    · exact He.noat_ok (x := "Note") (f := "old") (c.d.fact 32 rfl)
    · exact He.noat_ok (x := "Note") (f := "new") (c.d.fact 33 rfl)
    · exact He.noat_ok (x := "Note") (f := "named") (c.d.fact 34 rfl)
    · exact He.noat_ok (x := "Note") (f := "changed") (c.d.fact 35 rfl)
  nD := fun k => by
    cases k
    · exact fun f hf => by
        simp only [List.mem_cons, List.not_mem_nil, or_false] at hf
        rcases hf with rfl | rfl | rfl | rfl
        · exact He.noat_ok (x := "Make") (f := "name") (c.d.fact 39 rfl)
        · exact He.noat_ok (x := "Make") (f := "moves") (c.d.fact 40 rfl)
        · exact He.noat_ok (x := "Make") (f := "columns") (c.d.fact 41 rfl)
        · exact He.noat_ok (x := "Make") (f := "note") (c.d.fact 42 rfl)
    · exact fun f hf => by
        simp only [List.mem_cons, List.not_mem_nil, or_false] at hf
        rcases hf with rfl | rfl | rfl | rfl
        · exact He.noat_ok (x := "Change") (f := "name") (c.d.fact 48 rfl)
        · exact He.noat_ok (x := "Change") (f := "moves") (c.d.fact 49 rfl)
        · exact He.noat_ok (x := "Change") (f := "columns") (c.d.fact 50 rfl)
        · exact He.noat_ok (x := "Change") (f := "note") (c.d.fact 51 rfl)
    · exact fun f hf => by
        simp only [List.mem_cons, List.not_mem_nil, or_false] at hf
        rcases hf with rfl | rfl | rfl | rfl
        · exact He.noat_ok (x := "End") (f := "name") (c.d.fact 57 rfl)
        · exact He.noat_ok (x := "End") (f := "moves") (c.d.fact 58 rfl)
        · exact He.noat_ok (x := "End") (f := "columns") (c.d.fact 59 rfl)
        · exact He.noat_ok (x := "End") (f := "note") (c.d.fact 60 rfl)
  kNN := of_decide_eq_true (ex_at c.more 18 rfl)
  kXN := of_decide_eq_true (ex_at c.more 19 rfl)
  kD := fun k j => by
    cases k <;> cases j
    · exact of_decide_eq_true (ex_at c.more 20 rfl)
    · exact of_decide_eq_true (ex_at c.more 21 rfl)
    · exact of_decide_eq_true (ex_at c.more 22 rfl)
    · exact of_decide_eq_true (ex_at c.more 23 rfl)
    · exact of_decide_eq_true (ex_at c.more 24 rfl)
    · exact of_decide_eq_true (ex_at c.more 25 rfl)
    · exact of_decide_eq_true (ex_at c.more 26 rfl)
    · exact of_decide_eq_true (ex_at c.more 27 rfl)
    · exact of_decide_eq_true (ex_at c.more 28 rfl)
  g_MOST_MOVES := gint_of X G (x := "MOST_MOVES") (c.d.fact 23 rfl)
  check_note := (defAt_of X G c 7 106 rfl rfl : DefAt K mg "check_note" s_check_note)
  note_init := by
    obtain ⟨fd, F⟩ := c.d.def_ 44 rfl
    exact ⟨_, He.mkr_ok (x := "Note") (c.d.fact 31 rfl), fnAt_of F⟩
  deed_init := by
    obtain ⟨fd, F⟩ := c.d.def_ 45 rfl
    exact fnAt_of F
  allowed := fun k => by
    cases k
    · exact (metAt_of c 46 43 rfl rfl : MetAt K (cA K "Make") "allowed" "Deed.allowed" s_Deed_allowed)
    · exact (metAt_of c 48 52 rfl rfl : MetAt K (cA K "Change") "allowed" "Deed.allowed" s_Deed_allowed)
    · exact (metAt_of c 50 61 rfl rfl : MetAt K (cA K "End") "allowed" "Deed.allowed" s_Deed_allowed)
  after := fun k => by
    cases k
    · exact (metAt_of c 47 44 rfl rfl : MetAt K (cA K "Make") "after" "Deed.after" s_Deed_after)
    · exact (metAt_of c 49 53 rfl rfl : MetAt K (cA K "Change") "after" "Deed.after" s_Deed_after)
    · exact (metAt_of c 51 62 rfl rfl : MetAt K (cA K "End") "after" "Deed.after" s_Deed_after)
theorem hs_td (X : K.In h) (G : h.Ns mainGlobals mg) (c : SaysY hfa hfn hfy htf hex h K) : Td Rp K mg where
  tc := hs_tc X G c
  top := by decide +kernel
  op := He.eqO_ok (ex_at c.more 29 rfl)
  make := sup_ok (k := .mk) (c.y _ (List.mem_of_getElem? (i := 0) rfl)) (ex_at c.more 31 rfl) (ex_at c.more 32 rfl) (He.mkr_ok (x := "Make") (c.d.fact 38 rfl))
  change := sup_ok (k := .ch) (c.y _ (List.mem_of_getElem? (i := 1) rfl)) (ex_at c.more 33 rfl) (ex_at c.more 34 rfl) (He.mkr_ok (x := "Change") (c.d.fact 47 rfl))
  end_ := sup_ok (k := .en) (c.y _ (List.mem_of_getElem? (i := 2) rfl)) (ex_at c.more 35 rfl) (ex_at c.more 36 rfl) (He.mkr_ok (x := "End") (c.d.fact 56 rfl))
theorem hs_te (X : K.In h) (G : h.Ns mainGlobals mg) (c : SaysY hfa hfn hfy htf hex h K) : Te Rp K mg where
  td := hs_td X G c
  change_of := cmAt_of c (C := "Change") 3 rfl (ex_at c.more 37 rfl) (ex_at c.more 38 rfl)
  end_of := cmAt_of c (C := "End") 4 rfl (ex_at c.more 39 rfl) (ex_at c.more 40 rfl)
theorem hs_tb (X : K.In h) (G : h.Ns mainGlobals mg) (c : SaysY hfa hfn hfy htf hex h K) : Tb Rp K mg where
  te := hs_te X G c
  book := ⟨He.cls_ok (x := "Book") (c.d.fact 63 rfl), He.glo_ok X G (x := "Book") (c.d.fact 64 rfl), He.eqO_ok (ex_at c.more 8 rfl), of_decide_eq_true (ex_at c.more 9 rfl)⟩
  nB := fun f hf => by
    simp only [List.mem_cons, List.not_mem_nil, or_false] at hf
    rcases hf with rfl | rfl | rfl | rfl | rfl
    · exact He.noat_ok (x := "Book") (f := "columns") (c.d.fact 66 rfl)
    · exact He.noat_ok (x := "Book") (f := "states") (c.d.fact 67 rfl)
    · exact He.noat_ok (x := "Book") (f := "deeds") (c.d.fact 68 rfl)
    · exact He.noat_ok (x := "Book") (f := "names") (c.d.fact 69 rfl)
    · exact He.noat_ok (x := "Book") (f := "keep") (c.d.fact 70 rfl)
  it := by
    obtain ⟨fd, F⟩ := c.d.def_ 53 rfl
    have M := He.meth_ok (x := "Book") (m := "__iter__") (c.d.fact 72 rfl)
    exact ⟨_, M.at_, M.fn, ⟨_, _, _, _, fd, F, sc_Book_iter, ⟨_, _, _, _, _, rfl⟩, by decide +kernel, F.bindsN fun _ _ _ _ _ _ us hl => match us, hl with | [_], _ => rfl⟩, He.cls_ok (x := "Book") (c.d.fact 63 rfl), He.noat_ok (x := "Book") (f := "deeds") (c.d.fact 68 rfl)⟩
  ln := by
    obtain ⟨fd, F⟩ := c.d.def_ 52 rfl
    have M := He.meth_ok (x := "Book") (m := "__len__") (c.d.fact 71 rfl)
    exact ⟨_, ⟨M.at_, M.fn⟩, (metAt_of c 52 71 rfl rfl : MetAt K (cA K "Book") "__len__" "Book.__len__" s_Book_len), fd, F⟩
  getitem := by
    obtain ⟨fd, F⟩ := c.d.def_ 54 rfl
    have M := He.meth_ok (x := "Book") (m := "__getitem__") (c.d.fact 73 rfl)
    exact ⟨_, fd, ⟨M.at_, M.fn, fnIn_of F⟩, F⟩
  writes := (metAt_of c 55 74 rfl rfl : MetAt K (cA K "Book") "writes" "Book.writes" s_Book_writes)
  check_column := (defAt_of X G c 8 107 rfl rfl : DefAt K mg "check_column" s_check_column)
  reached := (defAt_of X G c 9 108 rfl rfl : DefAt K mg "reached" s_reached)
  is_closing := (defAt_of X G c 10 109 rfl rfl : DefAt K mg "is_closing" s_is_closing)
  closing_after := (defAt_of X G c 11 110 rfl rfl : DefAt K mg "closing_after" s_closing_after)
  all_successions := (defAt_of X G c 12 111 rfl rfl : DefAt K mg "all_successions" s_all_successions)
theorem hs_tg (X : K.In h) (G : h.Ns mainGlobals mg) (c : SaysY hfa hfn hfy htf hex h K) : Tg Rp K mg where
  tf := ⟨hs_tb X G c, (defAt_of X G c 13 112 rfl rfl : DefAt K mg "sides_of" s_sides_of), (defAt_of X G c 14 113 rfl rfl : DefAt K mg "ends_of" s_ends_of)⟩
  prices := ⟨He.cls_ok (x := "Prices") (c.d.fact 75 rfl), He.glo_ok X G (x := "Prices") (c.d.fact 76 rfl), He.eqO_ok (ex_at c.more 10 rfl), of_decide_eq_true (ex_at c.more 11 rfl)⟩
  nP := fun f hf => by
    simp only [List.mem_cons, List.not_mem_nil, or_false] at hf
    rcases hf with rfl | rfl
    · exact He.noat_ok (x := "Prices") (f := "default") (c.d.fact 78 rfl)
    · exact He.noat_ok (x := "Prices") (f := "set_prices") (c.d.fact 79 rfl)
  g_MOST_PRICE := gint_of X G (x := "MOST_PRICE") (c.d.fact 24 rfl)
  check_price := (defAt_of X G c 15 114 rfl rfl : DefAt K mg "check_price" s_check_price)
  check_side := (defAt_of X G c 16 115 rfl rfl : DefAt K mg "check_side" s_check_side)
  prices_init := by
    obtain ⟨fd, F⟩ := c.d.def_ 57 rfl
    exact ⟨_, fd, He.mkr_ok (x := "Prices") (c.d.fact 77 rfl), F⟩
  prices_get := by
    obtain ⟨fd, F⟩ := c.d.def_ 58 rfl
    have M := He.meth_ok (x := "Prices") (m := "__getitem__") (c.d.fact 80 rfl)
    exact ⟨_, fd, ⟨M.at_, M.fn, fnIn_of F⟩, F⟩
  prices_set := by
    obtain ⟨fd, F⟩ := c.d.def_ 59 rfl
    have M := He.meth_ok (x := "Prices") (m := "__setitem__") (c.d.fact 81 rfl)
    exact ⟨_, fd, ⟨ex_at c.more 30 rfl, M.at_, M.fn⟩, F⟩
  total := (metAt_of c 60 82 rfl rfl : MetAt K (cA K "Prices") "total" "Prices.total" s_Prices_total)
theorem hs_th (X : K.In h) (G : h.Ns mainGlobals mg) (c : SaysY hfa hfn hfy htf hex h K) : Th Rp K mg where
  tg := hs_tg X G c
  flow := ⟨He.cls_ok (x := "Flow") (c.d.fact 83 rfl), He.glo_ok X G (x := "Flow") (c.d.fact 84 rfl), He.eqO_ok (ex_at c.more 12 rfl), of_decide_eq_true (ex_at c.more 13 rfl)⟩
  cover := ⟨He.cls_ok (x := "Cover") (c.d.fact 92 rfl), He.glo_ok X G (x := "Cover") (c.d.fact 93 rfl), He.eqO_ok (ex_at c.more 14 rfl), of_decide_eq_true (ex_at c.more 15 rfl)⟩
  nF := fun f hf => by
    simp only [List.mem_cons, List.not_mem_nil, or_false] at hf
    rcases hf with rfl | rfl | rfl
    · exact He.noat_ok (x := "Flow") (f := "pairs") (c.d.fact 86 rfl)
    · exact He.noat_ok (x := "Flow") (f := "sent") (c.d.fact 87 rfl)
    · exact He.noat_ok (x := "Flow") (f := "room") (c.d.fact 88 rfl)
  nC := fun f hf => by
    simp only [List.mem_cons, List.not_mem_nil, or_false] at hf
    rcases hf with rfl | rfl | rfl | rfl
    · exact He.noat_ok (x := "Cover") (f := "column") (c.d.fact 95 rfl)
    · exact He.noat_ok (x := "Cover") (f := "price") (c.d.fact 96 rfl)
    · exact He.noat_ok (x := "Cover") (f := "sides") (c.d.fact 97 rfl)
    · exact He.noat_ok (x := "Cover") (f := "packing") (c.d.fact 98 rfl)
  cover_init := by
    obtain ⟨fd, F⟩ := c.d.def_ 61 rfl
    exact ⟨_, He.mkr_ok (x := "Cover") (c.d.fact 94 rfl), fnAt_of F⟩
  flow_init := by
    obtain ⟨fd, F⟩ := c.d.def_ 62 rfl
    exact ⟨_, He.mkr_ok (x := "Flow") (c.d.fact 85 rfl), fnAt_of F⟩
  trails := (metAt_of c 63 89 rfl rfl : MetAt K (cA K "Flow") "trails" "Flow.trails" s_Flow_trails)
  grow := (metAt_of c 64 90 rfl rfl : MetAt K (cA K "Flow") "grow" "Flow.grow" s_Flow_grow)
  finish := (metAt_of c 65 91 rfl rfl : MetAt K (cA K "Flow") "finish" "Flow.finish" s_Flow_finish)
theorem hs_ti (X : K.In h) (G : h.Ns mainGlobals mg) (c : SaysY hfa hfn hfy htf hex h K) : Ti Rp K mg where
  th := hs_th X G c
  fewest := defAtN_of X G c 19 118 rfl rfl
  is_packing := defAtN_of X G c 20 119 rfl rfl
  is_cover := (defAt_of X G c 17 116 rfl rfl : DefAt K mg "is_cover" s_is_cover)
abbrev hbk : He.Defn := ("Book", some "__init__")
theorem hs_bk {base : Heap} (c : SaysY hfa hfn hfy htf hex h K) (B : LamX.TabB base mg (He.cT K hbk).1 (He.cT K hbk).2) : BkFn K mg base (He.cT K hbk).2 := by
  obtain ⟨fd, F⟩ := c.d.def_ 56 rfl
  obtain ⟨oc, od, kV, doc, pm, an, cdv, ct, osl, lk, hcd⟩ := fnAt_of (x := "__init__") (qual := "Book.__init__") (st := s_Book_init) F
  obtain ⟨cc, rfl⟩ := He.codeIn_ref hcd
  have e : (He.cT K hbk).1 = cc := He.codeOf_eq (p := hbk) lk rfl
  exact ⟨_, oc, od, kV, doc, pm, an, cc, ct, osl, He.mkr_ok (x := "Book") (c.d.fact 65 rfl), lk, hcd, by rw [← e]; exact B⟩
theorem hs_tl {base : Heap} (X : K.In h) (G : h.Ns mainGlobals mg) (c : SaysY hfa hfn hfy htf hex h K) (B : LamX.TabB base mg (He.cT K hbk).1 (He.cT K hbk).2) : Tl Rp K mg base (He.cT K hbk).2 where
  tj := ⟨hs_ti X G c, (defAt_of X G c 18 117 rfl rfl : DefAt K mg "check_words" s_check_words), hs_bk c B, cmAt_of c (C := "Book") 5 rfl (ex_at c.more 41 rfl) (ex_at c.more 42 rfl), gint_of X G (x := "MOST_DEEDS") (c.d.fact 25 rfl), gint_of X G (x := "MOST_STATES") (c.d.fact 26 rfl), gint_of X G (x := "MOST_KEPT") (c.d.fact 27 rfl)⟩
  take := (defAt_of X G c 21 120 rfl rfl : DefAt K mg "_law_take" s_law_take)
  of := (defAt_of X G c 22 121 rfl rfl : DefAt K mg "_law_of" s_law_of)
  price := (defAt_of X G c 23 122 rfl rfl : DefAt K mg "_law_price" s_law_price)
  bag := (defAt_of X G c 24 123 rfl rfl : DefAt K mg "_law_bag" s_law_bag)
  names := (defAt_of X G c 25 124 rfl rfl : DefAt K mg "_law_names" s_law_names)
  note := (defAt_of X G c 26 125 rfl rfl : DefAt K mg "_law_note" s_law_note)
  deed := (defAt_of X G c 27 126 rfl rfl : DefAt K mg "_law_deed" s_law_deed)
  data := (defAt_of X G c 28 127 rfl rfl : DefAt K mg "_law_data" s_law_data)
  note_of := (defAt_of X G c 29 128 rfl rfl : DefAt K mg "_law_note_of" s_law_note_of)
  deed_of := (defAt_of X G c 30 129 rfl rfl : DefAt K mg "_law_deed_of" s_law_deed_of)
  book := (defAt_of X G c 31 130 rfl rfl : DefAt K mg "_law_book" s_law_book)
  columns := (defAt_of X G c 32 131 rfl rfl : DefAt K mg "_law_columns" s_law_columns)
  reached := (defAt_of X G c 33 132 rfl rfl : DefAt K mg "_law_reached" s_law_reached)
  successions := (defAt_of X G c 34 133 rfl rfl : DefAt K mg "_law_successions" s_law_successions)
  sides := (defAt_of X G c 35 134 rfl rfl : DefAt K mg "_law_sides" s_law_sides)
  both := (defAt_of X G c 36 135 rfl rfl : DefAt K mg "_law_both" s_law_both)
  tells := (defAt_of X G c 37 136 rfl rfl : DefAt K mg "_law_tells" s_law_tells)
  priced := (defAt_of X G c 38 137 rfl rfl : DefAt K mg "_law_priced" s_law_priced)
  loads := (defAt_of X G c 39 138 rfl rfl : DefAt K mg "_law_loads" s_law_loads)
  is_cover := (defAt_of X G c 40 139 rfl rfl : DefAt K mg "_law_is_cover" s_law_is_cover)
  is_packing := (defAt_of X G c 41 140 rfl rfl : DefAt K mg "_law_is_packing" s_law_is_packing)
  is_right := (defAt_of X G c 42 141 rfl rfl : DefAt K mg "_law_is_right" s_law_is_right)
theorem hs_law (X : K.In h) (G : h.Ns mainGlobals mg) (c : SaysY hfa hfn hfy htf hex h K) : DefAt K mg "law" s_law := (defAt_of X G c 43 142 rfl rfl : DefAt K mg "law" s_law)
end
end Pn
/-! #### Ze -/
namespace Pn
open PySem PySem.Spec PyProof.Rows L2
theorem tabs0 {H : Hp} {p : Addr} (h : H p = some (.tbl #[])) : LamX.Tabs [(p, lamQ)] H := fun x hx => by
  have e : x = (p, lamQ) := List.mem_singleton.mp hx
  subst e
  refine ⟨#[], h, ?_, fun pos cv hc => ?_⟩
  · trivial
  · cases hc
theorem law_at {K : PySem.W.Frag} {h : Heap} {mg : Str → Option Value} {w : World} {fa : Addr} (X : K.In h) (G : h.Ns mainGlobals mg) (c : SaysY hfa hfn hfy htf hex h K) (hfa' : mg ("law" : Str) = some (.ref fa)) : LamX.LawAtS PySem.Challenge.rw_pastnotes_k58_whole_fewest_notes w K CX0 12 63 "_law_script" mg fa h := by
  obtain ⟨f, fd, F, hf⟩ := hs_law X G c
  have ef : f = fa := by rw [hf] at hfa'; exact Value.ref.inj (Option.some.inj hfa')
  subst ef
  have hm : hbk ∈ htf := by simp [htf, hbk]
  refine ⟨fd, [He.cT K hbk], sp_law K (He.cT K hbk).2, ?_, ?_, ?_, ?_, ?_, ?_⟩
  · intro p hp
    rw [List.mem_singleton.mp hp]; exact c.empty _ hm
  · intro p hp
    rw [List.mem_singleton.mp hp]; exact c.out _ hm
  · intro p hp
    rw [List.mem_singleton.mp hp]; exact PySem.W.codeHd_of_K X (c.hd _ hm)
  · have b := FunD.bindsA (ps := ["_law_script"]) F fun _ _ _ _ _ _ us hl => match us, hl with | [_], _ => rfl
    exact fun s v => b s [v] rfl
  · intro H a ns hl _ hH hS
    exact ⟨a, ns, rfl, hS, hl, tabs0 (hH _ (by simp)), fun _ => rfl⟩
  · intro base Xb Gb hB
    have T := hs_tl (base := base) X G c (hB _ (by simp))
    exact ok_law (P := Rp) (w := w) (base := base) T F
end Pn
open PySem PySem.W PySem.Calls PyProof.Rows
theorem PySem.Challenge.cw_pastnotes_k58_whole_fewest_notes_holds : PySem.Challenge.rw_pastnotes_k58_whole_fewest_notes.Holds := by
  w_on; o_law
  refine HandSHeadRun.head_any (r := OpenLaw.row PySem.Challenge.rw_pastnotes_k58_whole_fewest_notes) (q := view (OpenLaw.row PySem.Challenge.rw_pastnotes_k58_whole_fewest_notes).prog [92]) (H := Pn.hk) (ob := Pn.hob) (M := 20000) (loose := Pn.hloose) (d := HandSHeadRun.topDef (OpenLaw.row PySem.Challenge.rw_pastnotes_k58_whole_fewest_notes).prog 92) (kwd := []) Pn.hob_eq
    (by kernel_rfl) (fun s => by kernel_rfl) Pn.hrun (by kernel_rfl) (by kernel_rfl) (by kernel_rfl) (by rfl) (by first | assumption | decide +kernel) (by decide +kernel) ⟨rfl, rfl, rfl, rfl, rfl, by decide +kernel⟩ ?hw ?hc
  case hw => w_witness2
  case hc =>
    refine LamX.walk_ofTsE (l := PySem.Challenge.rw_pastnotes_k58_whole_fewest_notes) (n := 63) (k := 12) (x := "_law_script") (CX := fun _ => L2.CX0) rfl (by decide) (by kernel_rfl) ⟨rfl, by decide, by decide⟩ ?F (fun _ _ _ _ _ z => z)
    intro w mg fa h Y G hmg0
    obtain ⟨K, KX, c⟩ := Y
    have hmg : mg ("law" : PySem.Str) = some (.ref fa) := by
      have e : (HandSHeadRun.topDef (OpenLaw.row PySem.Challenge.rw_pastnotes_k58_whole_fewest_notes).prog 92).name = ("law" : PySem.Str) := by kernel_rfl
      rw [← e]
      exact hmg0
    exact ⟨K, KX, Pn.law_at KX G c hmg⟩
