import PyProof.Rows.All
import Wide.All
import OpenK.AllK
import Wide.FinOn
import HandS.ForMost
import HandS.Star
import HandS.ClsMeth
import HandS.Defaults
import HandS.MakeKwOnly
import HandS.MakeKw
import HandS.Words
import PyProof.ReprRoads
import HandS.Wide
import HandS.Evl
import HandS.Walk
import HandS.IsInst
import HandS.DictComp
import HandS.More
import HandS.Set
import HandS.SetFor
import HandS.SetKeys
import PyProof.SetRoads
import PyProof.TupleOfSeq
import HandS.OwnEq
import PyProof.InstNe
import KE.KCallOwn
import HandS.Deep
import KE.SortData
import KE.Datum
import KE.DatumMore
import KE.DatumOrd
import KE.DatumMoreOrd
import HandS.Keys
import HandS.TupLen
import KE.KDictKeyed
import HandS.Dict
import HandS.List
import HandS.Conv
import KE.KMinKey
import KE.KDictSum
import PyProof.Rows.CallKwBuiltin
import HandS.Exc
import HandS.TryOnly
import HandS.ExcOwn
import HandS.WordsExc
import HandS.ExcInit
import HandS.ExcValue
import HandS.ExcIs
import HandS.ExcField
import KE.KExcIs
import PyProof.Conv_bool
import PyProof.Rows.Range3
import HandS.DeepEq
import HandS.Iter
import KE.KEqDict
import KE.KEqNest
import HandS.Style
import HandS.DictTup
import HandS.ListItems
import HandS.Comp
import HandS.RaiseMore
import HandS.Property
import HandS.FStr
import HandS.WordsDict
import HandS.Finally
import PySem.Challenge.RW_keptshapes_k02_webs_built_and_read
set_option Elab.async false
set_option linter.all false
set_option maxRecDepth 100000
set_option maxHeartbeats 4000000
/-! Calls with stars and keywords at once: what a def with a star parameter and keyword-only parameters promises, and the calls of it (a class in a local name, a classmethod, a method). -/
namespace PySem.W
open PySem PySem.Calls PyProof.Rows
section
variable {M : Model} {A : Around} {E : Value → Shared → Prop} {s : Shared}
theorem ks_callK {f : Value} {first : List Value} {pos : Pos} {Q : Value → Shared → Prop} {P : Heap → Prop} {args : List (Bool × Sem Value)} {keywords : List (Option Str × Sem Value)} (hst : args.any (·.1) = true)
    (hk : ∀ h, P h → ∃ k, (k = Keeper.frame ∨ k = Keeper.machine ∨ k = Keeper.boundFrame) ∧ Looks M h (keeperOf f) k)
    (h : wpAny M A (evalArgs f true args keywords) (fun a s₁ => P s₁.heap ∧ wpAny M A (call f (first ++ a.pos) a.kw) Q E s₁) E s) : wpAny M A (callWith pos f first args keywords) Q E s := by
  unfold callWith
  refine wpAny_bind (wpAny_holding (wpAny_mono h (fun a s₁ h₁ => wpAny_bind (wpAny_standAt ?_)) fun _ _ x => x))
  obtain ⟨k, hk', L⟩ := hk _ h₁.1
  simp only [hst, Bool.true_or]
  refine wpAny_bind (L.here ?_)
  have tail : ∀ {t : Sem Value}, wpAny M A t Q E s₁ → wpAny M A (t >>= fun r => holding [r] point >>= fun _ => pure r) Q E s₁ :=
    fun ht => wpAny_bind (wpAny_mono ht (fun r s₂ hr => wpAny_bind (wpAny_holding (wpAny_point (wpAny_pure hr)))) fun _ _ x => x)
  have marked (mk : Value) : wpAny M A (callMarked mk f (first ++ a.pos) a.kw) Q E s₁ := by unfold callMarked; exact Calls.wpAny_keep h₁.2
  rcases hk' with rfl | rfl | rfl <;> dsimp only <;> first | exact tail (marked _) | exact tail (wpAny_operating h₁.2)
end
end PySem.W
namespace Kw
open PySem PySem.Spec PyProof.Rows L2
abbrev Sp2 := List V → List V → Hp → VK → XK → Prop
/-- what the def at f promises of values vs and keyword values zs (named ks) -/
def FnA (P : Program) (w : World) (K : PySem.W.Frag) (mg : Str → Option Value) (base : Heap) (CX : CXT) (k : Nat) (f : Addr) (ks : List Str) (sp : Sp2) : Prop :=
  ∀ (A : Around) (outer : List Env) (s : Shared) (H : Hp) (us ws : List Value) (vs zs : List V) (Q : VK) (E : XK), Room k A → Env0 P w K mg base A outer s H → Vals vs us → Vals zs ws → zs.length = ks.length → sp vs zs H Q E →
    codeAny (model P w) A (.call (.ref f) ⟨us, ks.zip ws⟩) (CR CX outer P w H s Q E) s
section
variable {P : Program} {w : World} {K : PySem.W.Frag} {mg : Str → Option Value} {base : Heap} {CX : CXT} {j k : Nat} {f : Addr} {ks : List Str} {sp : Sp2}
theorem FnA.r (F : FnA P w K mg base CX k f [] sp) : FnR P w K mg base CX k f (fun vs H Q E => sp vs [] H Q E) := fun A outer s H us vs Q E hr e0 r h => F A outer s H us [] vs [] Q E hr e0 r .nil rfl h
theorem FnA.mono (F : FnA P w K mg base CX j f ks sp) (h : j ≤ k) : FnA P w K mg base CX k f ks sp := fun A outer s H us ws vs zs Q E hr => F A outer s H us ws vs zs Q E (hr.mono h)
theorem FnA.imp {sp' : Sp2} (F : FnA P w K mg base CX k f ks sp) (h : ∀ vs zs H Q E, sp' vs zs H Q E → sp vs zs H Q E) : FnA P w K mg base CX k f ks sp' := fun A outer s H us ws vs zs Q E hr e0 r rz hl q => F A outer s H us ws vs zs Q E hr e0 r rz hl (h _ _ _ _ _ q)
theorem fnA_of {fd : FuncData} {ps : List Str} {sp : Sp} {n : Nat} {g : List Value → List Value → List Value} {gV : List V → List V → List V} (F : FnOk P w K mg base CX k f fd ps sp) (hb : KBn K fd ps n ks g gV) :
    FnA P w K mg base CX k f ks (fun vs zs H Q E => vs.length = n ∧ sp (gV vs zs) H Q E) := fun A outer s H us ws vs zs Q E hr e0 r rz hl ⟨h1, h2⟩ =>
  F.run A outer s H _ _ _ Q E hr e0 (hb.to s us ws (e0.mod.kin.keeps fun b o e => (e0.bs b o e).1) (r.length.symm.trans h1) (rz.length.symm.trans hl)) (hb.rel r rz) h2
end
section
variable {CX : CXT} {P : Program} {w : World} {K : PySem.W.Frag} {mg : Str → Option Value} {base : Heap} {k : Nat} {f : Addr} {name qual : Str} {params : Arguments} {body : List Stmt} {scope : Scope} {dV kV doc pm cdv ct oc : Value} {an od : Option Addr}
  {osl : Array (Option Value)} {N ps qs ks : List Str} {sp : Sp} {pv : Str} {dz : List V} {dw : List Value}
/-- what bindArgs does: looks the lacking keyword-only ones up, lays the tuple of what is left over -/
def StarB (K : PySem.W.Frag) (fd : FuncData) (ps qs ks : List Str) (pv : Str) (dw : List Value) : Prop := ∀ us rest ws : List Value, us.length = ps.length → ws.length = ks.length →
  ∃ (α : Type) (t : Sem α) (r : α) (c : α → Sem (List (Str × Value))), bindArgs fd ⟨us ++ rest, ks.zip ws⟩ = t >>= c ∧ (∀ M h, K.In h → PySem.W.Looks M h t r) ∧ c r = (newTuple rest >>= fun tp => pure (ps.zip us ++ (qs.zip (ws ++ dw) ++ [(pv, tp)])))
/-- def f(a, .., *v, k = d) -/
theorem fn_starB (lk : K.lookup f = some ⟨oc, od, .func (PySem.W.fnOf name qual params body scope dV kV doc pm an cdv ct), osl⟩) (hcd : PySem.W.codeIn K cdv qual = true) (S : FnScope N (ps ++ (qs ++ [pv])) scope) (hCX : StX.CXUp CX) (hdz : Vals dz dw) (hq : ks.length + dz.length = qs.length)
    (hb : StarB K (PySem.W.fnOf name qual params body scope dV kV doc pm an cdv ct) ps qs ks pv dw)
    (hbody : ∀ (A : Around) (outer : List Env) (s : Shared) (H : Hp) (vs : List V) (Q : VK) (E : XK), Room k (A.deeper (envOfC qual scope s.heap.objs.size f cdv)) → sp vs H Q E →
      ∃ t, PSs (cxOf CX P w K mg base N qual scope f cdv A outer s H E) body t ∧ t { nx := fun _ H' => Q .non H', rt := Q } (start N vs) H) :
    FnA P w K mg base CX (k + 1) f ks (fun vs zs H Q E => ∃ ws rest, vs = ws ++ rest ∧ ws.length = ps.length ∧ rest.length ≤ sizeLine ∧ ∀ p, H p = Option.none → sp (ws ++ ((zs ++ dz) ++ [V.ref p])) (upd H p (.tup rest)) Q E) := by
  intro A outer s H us kw vs zs Q E hr e0 r rz hkl hsp
  obtain ⟨ws, rest, ev, hl, hz, hq2⟩ := hsp
  subst ev
  obtain ⟨u1, u2, eu, r1, r2⟩ := StX.vals_split r
  subst eu
  have hn : H s.heap.objs.size = Option.none := e0.hok.fresh (Nat.le_refl _)
  have hl1 : u1.length = ps.length := by rw [← r1.length]; exact hl
  have hl2 : u2.length ≤ sizeLine := by rw [← r2.length]; exact hz
  have hkw : kw.length = ks.length := by rw [← rz.length]; exact hkl
  refine StX.run_bnd lk hcd S hr e0 (G := fun xs H2 => ∃ p, H p = Option.none ∧ xs = ws ++ ((zs ++ dz) ++ [V.ref p]) ∧ H2 = upd H p (.tup rest)) (fun A' Ex Q' h => ?_) fun s2 H2 xs ⟨p, hp, ex, eH⟩ hr' => ?_
  · obtain ⟨α, t, rr, c, e1, e2, e3⟩ := hb u1 u2 kw hl1 hkw
    have KX : K.In s.heap := e0.mod.kin.keeps fun b o e => (e0.bs b o e).1
    rw [e1]
    refine wpAny_bind ((e2 _ _ KX).here ?_)
    rw [e3]
    refine wpAny_bind (wpAny_newTuple (wpAny_pure ?_) hl2)
    have new : ObjOk P w (upd H s.heap.objs.size (.tup rest)) (s.heap.push ({ cls := .type "tuple", data := .seq u2.toArray } : Obj)) s.heap.objs.size (.tup rest) := ⟨hz, u2, r2, ⟨_, Heap.get?_push_size _ rfl, rfl, _, rfl⟩⟩
    have un := StX.un_laid (fs := frs outer) (s := s) (o := ({ cls := .type "tuple", data := .seq u2.toArray } : Obj)) (u := .tup rest) hn
    have z := h _ _ (ws ++ ((zs ++ dz) ++ [V.ref s.heap.objs.size])) (u1 ++ ((kw ++ dw) ++ [Value.ref s.heap.objs.size])) (StX.env0_laid e0 new) un rfl (fun e s' => hCX outer s H _ _ E e s' un (fun b o q => Heap.get?_push_of_some _ q) rfl) (r1.append ((rz.append hdz).append (.cons rfl .nil)))
      (by rw [List.length_append, List.length_append, List.length_append, List.length_append, List.length_append, hl, hkl, hq] <;> rfl) ⟨_, hn, rfl, rfl⟩
    rw [List.zip_append hl1.symm, List.zip_append (by rw [List.length_append, hkw, ← hdz.length, hq])] at z
    exact z
  · subst ex eH
    exact hbody A outer s2 _ _ Q E hr' (hq2 p hp)
end
section
variable {K : PySem.W.Frag} {fd : FuncData} {ps qs ks : List Str} {pv : Str}
/-- every keyword-only parameter is written (or there is none) -/
theorem starB_all (h : ∀ us rest ws : List Value, us.length = ps.length → ws.length = ks.length → bindArgs fd ⟨us ++ rest, ks.zip ws⟩ = (newTuple rest >>= fun tp => pure (ps.zip us ++ (qs.zip ws ++ [(pv, tp)])))) : StarB K fd ps qs ks pv [] := fun us rest ws h1 h2 =>
  ⟨Unit, pure (), (), fun _ => bindArgs fd ⟨us ++ rest, ks.zip ws⟩, by rw [pure_bind], fun M hp _ => PySem.W.Looks.of_pure rfl, by rw [List.append_nil]; exact h us rest ws h1 h2⟩
/-- one keyword-only parameter, which lacks -/
theorem starB_one {D : Addr} {n : Str} {u : Value} (hn : PySem.W.nsIn K D n = some (some u))
    (h : ∀ us rest : List Value, us.length = ps.length → ∃ (β γ : Type) (k1 : Option Value → Sem β) (k2 : β → Sem γ) (k3 : γ → Sem (List (Str × Value))) (a : β),
      bindArgs fd ⟨us ++ rest, []⟩ = ((nsGet D n >>= k1) >>= k2) >>= k3 ∧ k1 (some u) = pure a ∧ (k2 a >>= k3) = (newTuple rest >>= fun tp => pure (ps.zip us ++ (qs.zip [u] ++ [(pv, tp)])))) : StarB K fd ps qs [] pv [u] := fun us rest ws h1 h2 => by
  obtain ⟨β, γ, k1, k2, k3, a, e1, e2, e3⟩ := h us rest h1
  have ew : ws = [] := List.length_eq_zero_iff.mp h2
  subst ew
  refine ⟨β, nsGet D n >>= k1, a, fun b => k2 b >>= k3, ?_, fun M hp X => (PySem.W.looks_nsIn X hn).andThen (PySem.W.Looks.of_pure e2), e3⟩
  rw [← bind_assoc]
  exact e1
variable {P : Program} {w : World} {mg : Str → Option Value} {base : Heap} {x qual : Str} {params : Arguments} {body : List Stmt} {scope : Scope} {dvs dz : List V} {kws : List (Str × V)} {f : Addr} {N : List Str} {k : Nat} {sp : Sp} {dw : List Value}
/-- THE RULE for a def with a star parameter -/
theorem star_ok (F : FunD K x qual params body scope dvs kws f fd) (S : FnScope N (ps ++ (qs ++ [pv])) scope) (hdz : Vals dz dw) (hq : ks.length + dz.length = qs.length) (hb : StarB K fd ps qs ks pv dw)
    (hbody : ∀ (cdv : Value) (A : Around) (outer : List Env) (s : Shared) (H : Hp) (vs : List V) (Q : VK) (E : XK), Room k (A.deeper (envOfC qual scope s.heap.objs.size f cdv)) → sp vs H Q E →
      ∃ t, PSs (cxOf CX0 P w K mg base N qual scope f cdv A outer s H E).nox body t ∧ t { nx := fun _ H' => Q .non H', rt := Q } (start N vs) H) :
    FnA P w K mg base CX0 (k + 1) f ks (fun vs zs H Q E => ∃ ws rest, vs = ws ++ rest ∧ ws.length = ps.length ∧ rest.length ≤ sizeLine ∧ ∀ p, H p = Option.none → sp (ws ++ ((zs ++ dz) ++ [V.ref p])) (upd H p (.tup rest)) Q E) := by
  obtain ⟨oc, od, dV, kV, doc, pm, an, cdv, ct, osl, rfl, lk, hcd, _, _⟩ := F.ex
  refine fn_starB lk hcd S StX.cxUp_none hdz hq hb fun A outer s H vs Q E hr hsp => ?_
  obtain ⟨t, h, q⟩ := hbody cdv A outer s H vs Q E hr hsp
  exact ⟨t, h.nox, q⟩
end
/-! ### the calls -/
section
variable {X : Cx} {CX : CXT} {k i : Nat} {f C p g : Addr} {mc : Value} {ks : List Str} {sp : Sp2} {E : XK} {x m : Str} {o e : Expr} {es : List Expr} {kws : List Keyword} {te ta tf : TE} {t tk : TA} {np pos apos : Pos} {pl : Sem Bool}
theorem run_fnA {pins : List (Addr × Obj)} {σ : L2.St} {H : Hp} {s : Shared} {Q : VK} {us ws : List Value} {vs zs : List V} (F : FnA X.prog X.w X.K X.mg X.base CX k f ks sp) (hr : Room k X.A) (hx : Passes CX X E) (I : Inv X pins σ H s) (r : Vals vs us) (rz : Vals zs ws) (hl : zs.length = ks.length) (h : sp vs zs H Q E) :
    codeAny (model X.prog X.w) X.A (.call (.ref f) ⟨us, ks.zip ws⟩) (fun r s' => match r with | .ok (.ret v) => EP X pins σ Q v s' | .ok _ => False | .error e => X.xe e s') s := by
  refine codeAny_mono (F X.A X.stack s H us ws vs zs Q E hr I.env0 r rz hl h) fun r s' hq => ?_
  cases r with
  | error e => exact hx pins σ H s e s' I hq
  | ok fl =>
    cases fl with
    | ret u => exact I.after hq
    | next => exact False.elim hq
    | brk => exact False.elim hq
    | cont => exact False.elim hq
theorem run_makeA {pins : List (Addr × Obj)} {σ : L2.St} {H : Hp} {s : Shared} {Q : VK} {us ws : List Value} {vs zs : List V} (M : Mk X.K C f) (F : FnA X.prog X.w X.K X.mg X.base CX k f ks sp) (hr : Room (k + 1) X.A) (hx : Passes CX X E) (I : Inv X pins σ H s) (r : Vals vs us) (rz : Vals zs ws) (hl : zs.length = ks.length)
    (h : ∀ x dx, H x = Option.none → H dx = Option.none → dx ≠ x → sp (V.ref x :: vs) zs (upd (upd H dx (.own x)) x (.ins C dx [])) (fun v H2 => v = .non ∧ Q (.ref x) H2) E) :
    wpAny (model X.prog X.w) X.A (call (.ref C) us (ks.zip ws)) (EP X pins σ Q) X.xe s := by
  have hq := h (s.heap.objs.size + 1) s.heap.objs.size (I.hok.fresh (Nat.le_succ _)) (I.hok.fresh (Nat.le_refl _)) (Nat.ne_of_lt (Nat.lt_succ_self _))
  have I2 := Inv.made (C := C) I
  have r2 : Vals (V.ref (s.heap.objs.size + 1) :: vs) (Value.ref (s.heap.objs.size + 1) :: us) := .cons rfl r
  refine wpAny_call (make_map (f := f) I.kIn M.makes M.init (beq_iff_eq.mp M.fn) (codeAny_mono (F _ X.stack _ _ (Value.ref (s.heap.objs.size + 1) :: us) ws _ _ _ E (hr.make C us (ks.zip ws)) (I2.env0.make C us (ks.zip ws)) r2 rz hl hq) fun r s' hq' => ?_))
  cases r with
  | error e => exact hx pins σ _ _ e s' I2 hq'
  | ok fl =>
    cases fl with
    | ret u =>
      obtain ⟨v, H', I3, rv, ev, q3⟩ := I2.after hq'
      subst ev
      exact ⟨rv, ⟨V.ref (s.heap.objs.size + 1), H', I3, rfl, q3⟩⟩
    | next => exact False.elim hq'
    | brk => exact False.elim hq'
    | cont => exact False.elim hq'
def tMakeA (C : Addr) (m : Nat) (sp : Sp2) (E : XK) (tf : TE) (t tk : TA) : TE := fun σ H Q => tf σ H fun c H0 => c = V.ref C ∧ t σ H0 fun vs H1 => tk σ H1 fun zs H2 => zs.length = m ∧ ∀ x dx, H2 x = Option.none → H2 dx = Option.none → dx ≠ x →
  sp (V.ref x :: vs) zs (upd (upd H2 dx (.own x)) x (.ins C dx [])) (fun v H3 => v = .non ∧ Q (.ref x) H3) E
/-- c(e, .., *y, k = v): the callee's reading gives the class at C -/
theorem pe_makeSK (M : Mk X.K C f) (F : FnA X.prog X.w X.K X.mg X.base CX k f ks sp) (hr : Room (k + 1) X.A) (hx : Passes CX X E) (hf : PE X (.Name x np) tf) (ha : PA X (e :: es) t) (hkw : PK X kws tk)
    (hall : (backToKw pos (keywordEach kws X.env)).all (·.1.isSome) = true := by rfl) (hks : (backToKw pos (keywordEach kws X.env)).filterMap (·.1) = ks := by rfl)
    (he : starEach (e :: es) X.env = (false, eval e X.env) :: starEach es X.env := by rfl) (hst : (backTo pos (starEach (e :: es) X.env)).any (·.1) = true := by rfl) : PE X (.Call (.Name x np) (e :: es) kws pos) (tMakeA C ks.length sp E tf t tk) := by
  refine ⟨fun pins s σ H Q I h => ?_⟩
  refine wpAny_Call_Name_kw (thn (hf.run pins s σ H _ I h) fun u s1 ⟨c, H1, I1, rc, ec, q1⟩ => ?_)
  subst ec
  obtain rfl : u = Value.ref C := rc
  refine PySem.W.ks_callK hst (PySem.W.keeps_K M.kp) (evalArgs_kw2 hall (thn (ha.run pos pins s1 σ H1 _ I1 q1) fun us s2 ⟨vs, H2, I2, r, q2⟩ => ?_) he)
  refine thn (hkw.run pos pins s2 σ H2 _ I2 q2) fun ws s3 ⟨zs, H3, I3, rz, hl, q3⟩ => ⟨I3.kIn, ?_⟩
  rw [hks]
  exact run_makeA M F hr hx I3 r rz hl q3
def tCMethA (C : Addr) (m : Nat) (sp : Sp2) (E : XK) (ta : TE) (t tk : TA) : TE := fun σ H Q => ta σ H fun x H1 => x = .ref C ∧ t σ H1 fun vs H2 => tk σ H2 fun zs H3 => zs.length = m ∧ sp (.ref C :: vs) zs H3 Q E
/-- C.m(e, .., k = v), m a classmethod -/
theorem pe_cmethK (he : PE X o ta) (r : ClX.CRead X.K C mc) (c : ClX.CMet X.K C mc m p g) (F : FnA X.prog X.w X.K X.mg X.base CX k g ks sp) (hr : Room k X.A) (hx : Passes CX X E) (ha : PA X (e :: es) t) (hkw : PK X kws tk)
    (hall : (backToKw pos (keywordEach kws X.env)).all (·.1.isSome) = true := by rfl) (hks : (backToKw pos (keywordEach kws X.env)).filterMap (·.1) = ks := by rfl)
    (hst : starEach (e :: es) X.env = (false, eval e X.env) :: starEach es X.env := by rfl) (hpl : ((backTo pos (starEach (e :: es) X.env)).any (·.1) || (backToKw pos (keywordEach kws X.env)).any (·.1.isNone)) = false := by rfl)
    (ht : eval (.Call (.Attribute o m apos) (e :: es) kws pos) X.env = (do
      let ov ← eval o X.env
      standAt apos.atName
      let (f, first) ← holding [ov] (getMethod ov m pl)
      callWith pos f first (backTo pos (starEach (e :: es) X.env)) (backToKw pos (keywordEach kws X.env))) := by rfl) :
    PE X (.Call (.Attribute o m apos) (e :: es) kws pos) (tCMethA C ks.length sp E ta t tk) := by
  refine ⟨fun pins s σ H Q I h => ?_⟩
  refine PySem.W.methodCall_KW (pl := pl) (thn (he.run pins s σ H _ I h) fun u s1 ⟨x, H1, I1, rx, ex, q⟩ => ?_) ht
  subst ex
  obtain rfl : u = Value.ref C := rx
  refine ClX.getmethcm_ok I1 r c fun s2 I2 => ?_
  refine PySem.W.callWith_of (P := PySem.W.MethP X.K s1.heap.objs.size g (.ref C)) hpl (PySem.W.keeps_M c.fi) (evalArgs_kw2 hall (thn (ha.run pos _ s2 σ H1 _ I2 q) fun us s3 ⟨vs, H2, I3, rv, q2⟩ => ?_) hst)
  refine thn (hkw.run pos _ s3 σ H2 _ I3 q2) fun ws s4 ⟨zs, H3, I4, rz, hl, q3⟩ => ⟨⟨ClX.pin_at I4, I4.kIn⟩, ?_⟩
  rw [hks]
  have z : wpAny (model X.prog X.w) X.A (call (.ref s1.heap.objs.size) us (ks.zip ws)) (EP X ((s1.heap.objs.size, PySem.W.methodObj (.ref g) (.ref C)) :: pins) σ Q) X.xe s4 :=
    wpAny_call (PySem.W.method_call (ClX.pin_at I4) (run_fnA (us := .ref C :: us) (vs := .ref C :: vs) F hr hx I4 (.cons rfl rv) rz hl q3))
  exact thn z fun _ _ y => ClX.unpinE y
def tMethR (C : Addr) (m : Str) (sp : Sp) (E : XK) (ta : TE) (t : TA) : TE := fun σ H Q => ta σ H fun x H1 => ∃ a dx fs, x = .ref a ∧ H1 a = some (.ins C dx fs) ∧ fs.lookup m = none ∧ t σ H1 fun vs H2 => sp (.ref a :: vs) H2 Q E
variable {spR : Sp}
/-- o.m(e, ..), m promised by its values alone -/
theorem pe_methR (he : PE X o ta) (c : Cls X.K C) (hm : Meth X.K C m f) (F : FnR X.prog X.w X.K X.mg X.base CX k f spR) (hr : Room k X.A) (hx : Passes CX X E) (ha : PA X (e :: es) t)
    (hst : starEach (e :: es) X.env = (false, eval e X.env) :: starEach es X.env := by rfl) (hpl : (backTo pos (starEach es X.env)).any (·.1) = false := by rfl)
    (ht : eval (.Call (.Attribute o m apos) (e :: es) [] pos) X.env = (do
      let ov ← eval o X.env
      standAt apos.atName
      let (f, first) ← holding [ov] (getMethod ov m pl)
      callWith pos f first (backTo pos (starEach (e :: es) X.env)) (backToKw pos (keywordEach [] X.env))) := by rfl) :
    PE X (.Call (.Attribute o m apos) (e :: es) [] pos) (tMethR C m spR E ta t) := by
  refine ⟨fun pins s σ H Q I h => ?_⟩
  refine PySem.W.methodCall_KW (pl := pl) (thn (he.run pins s σ H _ I h) fun u s1 ⟨x, H1, I1, rx, a, dx, fs, ex, ea, l, q⟩ => ?_) ht
  subst ex
  obtain rfl : u = Value.ref a := rx
  refine getmeth_ok I1 ea c hm l ?_
  refine PySem.W.callWith_K (first := [.ref a]) (h₀ := X.base) I.ok.mod.kin hm.kp (thn (ha.run pos pins s1 σ H1 _ I1 q) fun us s2 ⟨vs, H2, I2, r, q2⟩ => ⟨I2.kIn, ?_⟩) hst hpl
  exact wpAny_call (run_fnR (us := .ref a :: us) (vs := .ref a :: vs) F hr hx I2 (.cons rfl r) q2)
theorem pe_methR0 (he : PE X o ta) (c : Cls X.K C) (hm : Meth X.K C m f) (F : FnR X.prog X.w X.K X.mg X.base CX k f spR) (hr : Room k X.A) (hx : Passes CX X E)
    (ht : eval (.Call (.Attribute o m apos) [] [] pos) X.env = (do
      let ov ← eval o X.env
      standAt apos.atName
      let (f, first) ← holding [ov] (getMethod ov m pl)
      callWith pos f first (backTo pos (starEach [] X.env)) (backToKw pos (keywordEach [] X.env))) := by rfl) :
    PE X (.Call (.Attribute o m apos) [] [] pos) (tMethR C m spR E ta tNil) := by
  refine ⟨fun pins s σ H Q I h => ?_⟩
  refine PySem.W.methodCall_KW (pl := pl) (thn (he.run pins s σ H _ I h) fun u s1 ⟨x, H1, I1, rx, a, dx, fs, ex, ea, l, q⟩ => ?_) ht
  subst ex
  obtain rfl : u = Value.ref a := rx
  refine getmeth_ok I1 ea c hm l ?_
  exact PySem.W.callWith_K0 (first := [.ref a]) I1.kIn hm.kp (wpAny_call (run_fnR (us := [.ref a]) (vs := [.ref a]) F hr hx I1 (.cons rfl .nil) q))
end
end Kw
/-! C(e, .., k = v), C's __init__ with a star parameter and keyword-only ones -/
namespace Kw
open PySem PySem.Calls PyProof.Rows L2
section
variable {X : Cx} {CX : CXT} {k i : Nat} {f C : Addr} {ks : List Str} {sp : Sp2} {E : XK} {x : Str} {e : Expr} {es : List Expr} {kws : List Keyword} {t tk : TA} {p pos : Pos}
def tMakeN (C : Addr) (m : Nat) (sp : Sp2) (E : XK) (t tk : TA) : TE := fun σ H Q => t σ H fun vs H1 => tk σ H1 fun zs H2 => zs.length = m ∧ ∀ x dx, H2 x = Option.none → H2 dx = Option.none → dx ≠ x →
  sp (V.ref x :: vs) zs (upd (upd H2 dx (.own x)) x (.ins C dx [])) (fun v H3 => v = .non ∧ Q (.ref x) H3) E
theorem pe_makeNK (M : Mk X.K C f) (F : FnA X.prog X.w X.K X.mg X.base CX k f ks sp) (hr : Room (k + 1) X.A) (hg : Gl X x) (hm : X.mg x = some (.ref C)) (hx : Passes CX X E) (ha : PA X (e :: es) t) (hkw : PK X kws tk)
    (hall : (backToKw pos (keywordEach kws X.env)).all (·.1.isSome) = true := by rfl) (hks : (backToKw pos (keywordEach kws X.env)).filterMap (·.1) = ks := by rfl) (hdb : (x == ("__debug__" : Str)) = false := by decide)
    (he : starEach (e :: es) X.env = (false, eval e X.env) :: starEach es X.env := by rfl) (hpl : ((backTo pos (starEach (e :: es) X.env)).any (·.1) || (backToKw pos (keywordEach kws X.env)).any (·.1.isNone)) = false := by rfl) :
    PE X (.Call (.Name x p) (e :: es) kws pos) (tMakeN C ks.length sp E t tk) := by
  refine ⟨fun pins s σ H Q I h => ?_⟩
  refine wpAny_Call_Name_kw (ld_glob I hg hm ?_ hdb)
  refine PySem.W.callWith_KW (h₀ := X.base) I.ok.mod.kin M.kp hall (thn (ha.run pos pins s σ H _ I h) fun us s1 ⟨vs, H1, I1, r, q⟩ => ?_) hpl he
  refine thn (hkw.run pos pins s1 σ H1 _ I1 q) fun ws s2 ⟨zs, H2, I2, rz, hl, q2⟩ => ⟨I2.kIn, ?_⟩
  rw [hks]
  exact run_makeA M F hr hx I2 r rz hl q2
end
end Kw
/-! Defs whose run knows that nothing is being shown (repr) around them. -/
namespace L2
open PySem PySem.Spec PyProof.Rows
/-- the promise, where no container is being shown around -/
structure FnG (P : Program) (w : World) (K : PySem.W.Frag) (mg : Str → Option Value) (base : Heap) (k : Nat) (f : Addr) (fd : FuncData) (ps : List Str) (sp : Sp) : Prop where
  len : ∀ vs H Q E, sp vs H Q E → vs.length = ps.length
  run : ∀ (A : Around) (outer : List Env) (s : Shared) (H : Hp) (args : Args) (us : List Value) (vs : List V) (Q : VK) (E : XK), A.guards = some [] → Room k A → Env0 P w K mg base A outer s H → BindsTo s fd args (ps.zip us) → Vals vs us → sp vs H Q E →
    codeAny (model P w) A (.call (.ref f) args) (CR CX0 outer P w H s Q E) s
section
variable {P : Program} {w : World} {K : PySem.W.Frag} {mg : Str → Option Value} {base : Heap}
theorem FnOk.g {k : Nat} {f : Addr} {fd : FuncData} {ps : List Str} {sp : Sp} (F : FnOk P w K mg base CX0 k f fd ps sp) : FnG P w K mg base k f fd ps sp :=
  ⟨F.len, fun A outer s H args us vs Q E _ => F.run A outer s H args us vs Q E⟩
theorem fnG_of {x qual : Str} {st : Stmt} {f : Addr} {fd : FuncData} {N ps : List Str} {k : Nat} {sp : Sp} (F : Fun K x qual st f fd) (S : FnScope N ps (defScope st)) (len : ∀ vs H Q E, sp vs H Q E → vs.length = ps.length)
    (hbody : ∀ (cdv : Value) (A : Around) (outer : List Env) (s : Shared) (H : Hp) (vs : List V) (Q : VK) (E : XK), A.guards = some [] → Room k (A.deeper (envOfC qual (defScope st) s.heap.objs.size f cdv)) → sp vs H Q E →
      ∃ t, PSs (cxOf CX0 P w K mg base N qual (defScope st) f cdv A outer s H E).nox (defBody st) t ∧ t { nx := fun _ H' => Q .non H', rt := Q } (start N vs) H) : FnG P w K mg base (k + 1) f fd ps sp := by
  refine ⟨len, fun A outer s H args us vs Q E hG hr e0 hb r hsp => ?_⟩
  obtain ⟨oc, od, kV, doc, pm, an, cdv, ct, osl, efd, lk, hcd⟩ := F.ex
  subst efd
  have kin : K.In s.heap := e0.mod.kin.keeps fun c q z => (e0.bs c q z).1
  have nl : s.heap.NoLimit := e0.mod.nolimit.keeps fun c q z => (e0.bs c q z).1
  have par : ∀ y ∈ ps.zip us, (defScope st).names.lookup y.1 = some .local ∨ ((defScope st).names.lookup y.1 = some .cell ∧ ((cellsFrom (s.heap.objs.size + 1) (defScope st).names []).lookup y.1).isSome = true) := by
    rintro ⟨z, v⟩ hz
    exact (S.par z (List.of_mem_zip hz).1).elim .inl fun q => .inr ⟨q, PySem.W.cellsFrom_some _ _ _ (.inl q)⟩
  refine codeAny_call_function hr.depth (kin _ _ lk) rfl S.co S.gen rfl (PySem.W.codeRec_of kin hcd) (hb _ _ _ _ (wpAny_newFunctionEnv_cells S.kind par fun env he s1 x => ?_))
  subst he
  refine ⟨nl.keeps x.toInCall.keep, codeAny_func ?_⟩
  obtain ⟨t, ht, hq⟩ := hbody cdv A outer s H vs Q E hG (hr.deeper _) hsp
  have J := inv_start (CX := CX0) (E := E) S hr.hd e0 (len _ _ _ _ hsp) r x
  refine wpAny_mono (ht.nox.run [] s1 (start N vs) H _ J hq) (fun fl s' hs => ?_) fun e s' hs => hs
  cases fl with
  | ret u => obtain ⟨v, σ', H', J', rv, q⟩ := hs; exact ⟨v, H', J'.os, J'.bare, J'.base, J'.hok, rv, q⟩
  | next => obtain ⟨σ', H', J', q⟩ := hs; exact ⟨V.non, H', J'.os, J'.bare, J'.base, J'.hok, rfl, q⟩
  | brk => obtain ⟨_, _, _, q⟩ := hs; exact q.elim
  | cont => obtain ⟨_, _, _, q⟩ := hs; exact q.elim
end
section
variable {X : Cx} {x : Str} {p pos : Pos} {e : Expr} {es : List Expr} {t : TA} {k : Nat} {f : Addr} {fd : FuncData} {ps : List Str} {sp : Sp}
/-- f(e, ..) of such a def -/
theorem pe_callG (F : FnG X.prog X.w X.K X.mg X.base k f fd ps sp) (hG : X.A.guards = some []) (hr : Room k X.A) (hg : Gl X x) (hm : X.mg x = some (.ref f)) (hk : PySem.W.keepIn X.K (.ref f) = true) (hb : Binds X.K fd ps []) (ha : PA X (e :: es) t)
    (hdb : (x == ("__debug__" : Str)) = false := by decide) (he : starEach (e :: es) X.env = (false, eval e X.env) :: starEach es X.env := by rfl) (hpl : (backTo pos (starEach es X.env)).any (·.1) = false := by rfl) :
    PE X (.Call (.Name x p) (e :: es) [] pos) (tCall sp [] E0 t) := by
  refine ⟨fun pins s σ H Q I h => wpAny_Call_Name_kw (ld_glob I hg hm (PySem.W.callWith_K (h₀ := X.base) I.ok.mod.kin hk (thn (ha.run pos pins s σ H _ I h) fun us s1 ⟨vs, H1, I1, r, q⟩ => ⟨I1.kIn, ?_⟩) he hpl) hdb)⟩
  have q' : sp vs H1 Q E0 := by simpa using q
  have hlu : us.length = ps.length := by rw [← r.length]; exact F.len _ _ _ _ q'
  refine wpAny_call (codeAny_mono (F.run X.A X.stack s1 H1 ⟨us, []⟩ us vs Q E0 hG hr I1.env0 (by simpa using hb s1 us I1.kIn (by simpa using hlu)) r q') fun r' s' hq => ?_)
  cases r' with
  | error z => exact hq.elim
  | ok fl =>
    cases fl with
    | ret w => exact I1.after hq
    | next => exact hq.elim
    | brk => exact hq.elim
    | cont => exact hq.elim
mutual
theorem noDict {K : PySem.W.Frag} {H : Hp} : ∀ (d : PyData) (v : V), Dp K H v d → d.hasDict = false
  | .none, _, _ => rfl
  | .bool _, _, _ => rfl
  | .int _, _, _ => rfl
  | .str _, _, _ => rfl
  | .list ds, _, h => by cases h with | lst _ ha => exact noDicts ds _ ha
  | .tuple ds, _, h => by cases h with | tup _ ha => exact noDicts ds _ ha
  | .dict _, _, h => by cases h
theorem noDicts {K : PySem.W.Frag} {H : Hp} : ∀ (ds : List PyData) (vs : List V), DpAll K H vs ds → PyData.hasDictAll ds = false
  | [], _, _ => rfl
  | d :: ds, _, h => by
    cases h with
    | cons h1 h2 =>
      show (d.hasDict || PyData.hasDictAll ds) = false
      rw [noDict d _ h1, noDicts ds _ h2]
      rfl
end
/-- repr(x), x a list, a tuple or a scalar -/
def rReprD (K : PySem.W.Frag) : List V → Hp → VK → Prop := fun xs H Q => ∃ v d, xs = [v] ∧ Dp K H v d ∧ d.showable = true ∧ d.depth ≤ 40 ∧ d.shown.length ≤ sizeLine ∧ Q (.str d.shown) H
theorem call_reprD (hG : X.A.guards = some []) (hu : X.A.units + 64 < cLine) : CallR X (.builtin "repr") (rReprD X.K) := by
  intro pins s σ H xs us Q I r ⟨v, d, ex, hd, hs, hdp, hz, q⟩
  subst ex
  obtain ⟨u, rfl, ru⟩ := r.one
  obtain ⟨as, hr⟩ := Dp.reads I d v u hd ru
  have hnd : d.hasDict = true → sysModules ∉ as := fun z => by rw [noDict d v hd] at z; cases z
  have big : ∀ (a : Addr), u = .ref a → wpAny (model X.prog X.w) X.A (call (.builtin "repr") [u]) (EP X pins σ Q) X.xe s := by
    intro a ea
    subst ea
    exact repr_of_reads' hr hs hnd hG (by omega) (fun _ _ z => z) (fun h' t tk k => ⟨.str d.shown, H, I.kept (t' := tk) k, ⟨t, rfl⟩, q⟩) hz
  cases hd with
  | non => cases ru; exact PySem.P.repr_of_none ⟨.str _, H, I.tok _, ⟨_, rfl⟩, q⟩
  | bl b => cases ru; exact PySem.P.repr_of_bool ⟨.str _, H, I.tok _, ⟨_, rfl⟩, q⟩
  | int i =>
    obtain ⟨t, rfl⟩ := ru
    exact PySem.P.repr_of_int (of_decide_eq_true hs) ⟨.str _, H, I.tok _, ⟨_, rfl⟩, q⟩
  | str z =>
    obtain ⟨t, rfl⟩ := ru
    exact PySem.P.repr_of_str ⟨.str _, H, I.tok _, ⟨_, rfl⟩, q⟩ hz
  | lst _ _ => exact big _ ru
  | tup _ _ => exact big _ ru
end
end L2
namespace L2
open PySem PySem.Spec PyProof.Rows
/-- what is known of the heap at the law's entry: the script alone, or nothing -/
structure AtEntry (P : Program) (w : World) (K : PySem.W.Frag) (h : Heap) (a : Addr) (ns : List Int) (H : Hp) : Prop where
  only : Only H
  sq : SqL K H a (ns.map V.int)
  ok : HOk P w H h
  here : ∀ b, H b ≠ none → b = a
  out : H a ≠ none → K.lookup a = none
theorem atEntry {P : Program} {w : World} {K : PySem.W.Frag} {h : Heap} {a : Addr} {vs : List Value} {ns : List Int} (KX : K.In h) (ha : h.get? a = some { cls := .type "list", data := .seq vs.toArray }) (hi : IntsAre vs ns) (hl : ns.length ≤ sizeLine) :
    ∃ H, AtEntry P w K h a ns H := by
  have rv := vals_ints hi
  cases hk : K.lookup a with
  | some o =>
    have e := (KX a o hk).symm.trans ha
    cases e
    refine ⟨fun _ => none, fun _ => .inl rfl, .inr ⟨_, vs.toArray, _, hk, rfl, rfl, rfl, ?_, by simpa using rv⟩, fun b u z => ?_, fun b z => absurd rfl z, fun z => absurd rfl z⟩
    · have n1 := hi.length
      rw [List.size_toArray]
      omega
    · have z1 : (none : Option HO) = some u := z
      cases z1
  | none =>
    have at_ : ∀ b u, (if b = a then some (HO.frz { cls := .type "list", data := .seq vs.toArray } (.lst (ns.map V.int))) else none) = some u → b = a ∧ u = .frz { cls := .type "list", data := .seq vs.toArray } (.lst (ns.map V.int)) := by
      intro b u z
      by_cases hb : b = a
      · rw [if_pos hb] at z; exact ⟨hb, (Option.some.inj z).symm⟩
      · rw [if_neg hb] at z; cases z
    refine ⟨fun b => if b = a then some (.frz { cls := .type "list", data := .seq vs.toArray } (.lst (ns.map V.int))) else none, fun b => ?_, .inl (.inr ⟨_, if_pos rfl⟩), fun b u z => ?_, fun b z => ?_, fun _ => hk⟩
    · by_cases hb : b = a
      · exact .inr ⟨_, _, if_pos hb⟩
      · exact .inl (if_neg hb)
    · obtain ⟨e1, e2⟩ := at_ b u z
      subst e1 e2
      exact ⟨ha, by rw [List.length_map]; exact hl, vs, _, rv, ha⟩
    · by_cases hb : b = a
      · exact hb
      · exact absurd (if_neg hb) z
theorem walk_ofG {l : PySem.W.OpenLaw} {n k : Nat} {q : Program} {loose : List Str} {XP : (Str → Option Value) → Heap → Prop} {YP : World → Heap → Prop} {d : DefRec} {K : Params → PySem.W.Frag} {sp : World → Sp} {x : Str}
    (hn : l.most = some n) (hn2 : n ≤ sizeLine) (hdf : d.params.defaults = []) (hr : Room k callerA) (hY : ∀ (w : World) (h : Heap), YP w h → (K w.params).In h)
    (F : ∀ (w : World) (mg : Str → Option Value) (fa : Addr) (h : Heap), (K w.params).In h → h.Ns mainGlobals mg → mg d.name = some (.ref fa) →
      ∃ fd : FuncData, (∀ (s : Shared) (u : Value), BindsTo s fd ⟨[u], []⟩ [(x, u)]) ∧ ∀ base : Heap, (K w.params).In base → base.Ns mainGlobals mg → FnG l.prog w (K w.params) mg base k fa fd [x] (sp w))
    (hsp : ∀ (w : World) (H : Hp) (a : Addr) (ns : List Int), ns.length ≤ n → SqL (K w.params) H a (ns.map V.int) → sp w [.ref a] H (fun v _ => v = .bl true) fun _ _ _ => False) :
    PySem.W.WalkO q loose XP YP l.row.toRowW d [] (fun f vs => PySem.call f vs) := by
  refine Att.attach_call hn hdf fun w s₀ s₁ mg mb fa o pm cd doc a vs ns G Y ho hd hcd hmg hobj hints hlen hg => ?_
  have kin := hY w _ Y
  obtain ⟨fd, hbind, hF⟩ := F w mg fa _ kin G.T.g hmg
  obtain ⟨H, S⟩ := atEntry (P := l.prog) (w := w) (K := K w.params) kin hobj hints (Nat.le_trans hlen hn2)
  -- no dict is tracked
  have noD : ∀ {b : Addr} {u : Obj} {es : Array DictEntry} {ep : Nat}, s₁.heap.get? b = some u → u.data = .dict es ep → H b = none := by
    intro b u es ep e1 e2
    cases z : H b with
    | none => rfl
    | some y =>
      have e3 : b = a := S.here b (by rw [z]; exact fun q => nomatch q)
      rw [e3, hobj] at e1
      cases e1
      cases e2
  have ns_ : ∀ {b : Addr} {m : Str → Option Value}, s₁.heap.Ns b m → (hidT s₁.heap H).Ns b m := by
    intro b m ⟨u, es, ep, e1, e2, e3⟩
    exact ⟨u, es, ep, hidT_get e1 (noD e1 e2), e2, e3⟩
  have kb : (K w.params).In (hidT s₁.heap H) := by
    intro b u e
    refine hidT_get (kin b u e) ?_
    cases z : H b with
    | none => rfl
    | some y =>
      have e3 : b = a := S.here b (by rw [z]; exact fun q => nomatch q)
      have e4 := S.out (by rw [← e3, z]; exact fun q => nomatch q)
      rw [e3, e4] at e
      cases e
  have md : Mod (K w.params) mg (hidT s₁.heap H) := ⟨kb, ns_ G.T.g, ⟨mb, ns_ G.T.b, G.T.builtins⟩, G.T.nolimit.elim fun c z => ⟨c, ns_ z.1, z.2⟩⟩
  have en : Env0 l.prog w (K w.params) mg (hidT s₁.heap H) callerA [] s₁ H := by
    refine ⟨rfl, md, fun b u e => of_hidT e, Nat.le_of_eq (hidT_size _ _), trivial, fun b hb => ?_, S.ok, .of_eq hg⟩
    have hb' : b ∈ ([] : List Addr) := hb
    cases hb'
  refine codeAny_mono ((hF _ kb (ns_ G.T.g)).run callerA [] s₁ H ⟨[.ref a], []⟩ [.ref a] [.ref a] _ _ rfl hr en (hbind s₁ (.ref a)) (.cons rfl .nil) (hsp w H a ns hlen S.sq)) fun r s' h => ?_
  cases r with
  | error e => exact h.elim
  | ok fl =>
    cases fl with
    | next => exact h.elim
    | brk => exact h.elim
    | cont => exact h.elim
    | ret u =>
      obtain ⟨v, H', os, bare, un, ok', rv, ev⟩ := h
      have ev' : v = .bl true := ev
      subst ev'
      cases rv
      refine ⟨rfl, OldK.of_keep fun b y e => ?_, os, bare⟩
      rcases S.only b with z | ⟨ob, xs, z⟩
      · exact un.keep b y e z (fun m => nomatch (show b ∈ ([] : List Addr) from m)) (fun m => nomatch m)
      · obtain ⟨e1, _⟩ := S.ok b _ z
        obtain ⟨e2, _⟩ := ok' b _ (un.frzs b ob _ z)
        exact e2.trans (e1.symm.trans e)
end L2
/-! The dice of the laws: a list of three ints of which nothing else is told. -/
namespace Kd
open PySem L2
theorem if_t {c : Bool} {A B : Prop} (h : c = true) (a : A) : if c = true then A else B := by rw [if_pos h]; exact a
theorem if_f {c : Bool} {A B : Prop} (h : c = false) (b : B) : if c = true then A else B := by rw [if_neg (by rw [h]; exact Bool.false_ne_true)]; exact b
/-- a list of three ints, whichever -/
def diceO (a : Addr) : HO := .ext fun h => ∃ (x y z : Int) (its : List Value) (n : Nat), Vals [.int x, .int y, .int z] its ∧ h.get? a = some { cls := .type "list", data := .seq its.toArray n }
theorem upd_back {H : Hp} {a : Addr} {o u : HO} (e : H a = some o) : upd (upd H a u) a o = H := by
  rw [upd_upd]
  funext b
  unfold upd
  split
  · rename_i h
    rw [h, e]
  · rfl
section
variable {X : Cx} {pins : List (Addr × Obj)} {σ : St} {H : Hp} {s : Shared} {a : Addr}
theorem open_dice (I : Inv X pins σ H s) (e : H a = some (diceO a)) : ∃ x y z : Int, Inv X pins σ (upd H a (.lst [.int x, .int y, .int z])) s := by
  obtain ⟨⟨x, y, z, its, n, r, ho⟩, _, _⟩ := I.hok a _ e
  refine ⟨x, y, z, ?_⟩
  have mu : Mut (H a) := by rw [e]; exact True.intro
  have hk : HOk X.prog X.w (upd H a (.lst [.int x, .int y, .int z])) s.heap :=
    I.hok.write (e := a) mu (.inl rfl) (fun _ _ _ q => q) ⟨_, ho⟩ ⟨by show 3 ≤ sizeLine; decide, its, n, r, ho⟩
  exact I.un (h' := s.heap) (t' := s.toks) (Un.write mu (.inl rfl) (fun _ _ _ q => q) ⟨_, ho⟩) hk
theorem shut_dice {x y z : Int} (I : Inv X pins σ H s) (e : H a = some (.lst [.int x, .int y, .int z])) : Inv X pins σ (upd H a (diceO a)) s := by
  obtain ⟨_, its, n, r, ho⟩ := I.hok a _ e
  have mu : Mut (H a) := by rw [e]; exact True.intro
  have hk : HOk X.prog X.w (upd H a (diceO a)) s.heap :=
    I.hok.write (e := a) mu (.inl rfl) (fun _ _ _ q => q) ⟨_, ho⟩ ⟨⟨x, y, z, its, n, r, ho⟩, ⟨_, ho⟩, fun h1 h2 ⟨x, y, z, its, n, r, q⟩ k => ⟨x, y, z, its, n, r, k _ q⟩⟩
  exact I.un (h' := s.heap) (t' := s.toks) (Un.write mu (.inl rfl) (fun _ _ _ q => q) ⟨_, ho⟩) hk
end
def rIxDice : R2 := fun x y H Q => ∃ (p : Addr) (k : Int), x = .ref p ∧ y = .int k ∧ H p = some (diceO p) ∧ (k = 0 ∨ k = 1 ∨ k = 2) ∧ ∀ i : Int, Q (.int i) H
theorem ix_dice {X : Cx} : IxR X rIxDice := by
  intro value slice pins s σ H x y v u Q I rx ry h hs
  obtain ⟨p, k, rfl, rfl, hp, hk, q⟩ := h
  obtain ⟨x, y, z, I'⟩ := open_dice I hp
  have key : ∃ i : Int, atI [V.int x, V.int y, V.int z] k = some (.int i) := by
    rcases hk with rfl | rfl | rfl
    · exact ⟨x, rfl⟩
    · exact ⟨y, rfl⟩
    · exact ⟨z, rfl⟩
  obtain ⟨i, hi⟩ := key
  refine thn (ix_list value slice pins s σ _ _ _ v u (fun v' H' => v' = .int i ∧ H' = upd H p (.lst [.int x, .int y, .int z])) I' rx ry ⟨p, _, k, _, rfl, rfl, SqL.of upd_same, hi, rfl, rfl⟩ hs) fun u s' h => ?_
  obtain ⟨v', H', I2, r2, rfl, rfl⟩ := h
  refine ⟨_, H, ?_, r2, q i⟩
  have J := shut_dice (a := p) I2 upd_same
  rw [upd_back hp] at J
  exact J
def rSetDice : TSet := fun o i v H Q => ∃ (p : Addr) (k j : Int), o = .ref p ∧ i = .int k ∧ v = .int j ∧ H p = some (diceO p) ∧ (k = 0 ∨ k = 1 ∨ k = 2) ∧ Q H
theorem set_dice {X : Cx} : PSet X rSetDice := by
  intro pins s σ H o i v ov iv u Q I ro ri rv h
  obtain ⟨p, k, j, rfl, rfl, rfl, hp, hk, q⟩ := h
  obtain ⟨x, y, z, I'⟩ := open_dice I hp
  have key : ∃ (n : Nat) (x' y' z' : Int), ixN 3 k = some n ∧ [V.int x, V.int y, V.int z].set n (.int j) = [.int x', .int y', .int z'] := by
    rcases hk with rfl | rfl | rfl
    · exact ⟨0, j, y, z, rfl, rfl⟩
    · exact ⟨1, x, j, z, rfl, rfl⟩
    · exact ⟨2, x, y, j, rfl, rfl⟩
  obtain ⟨n, x', y', z', hn, hs⟩ := key
  refine thn (set_list pins s σ _ _ _ _ ov iv u (fun H' => H' = upd H p (.lst [.int x', .int y', .int z'])) I' ro ri rv ⟨p, _, k, n, rfl, rfl, upd_same, hn, ?_⟩) fun u s' h => ?_
  · rw [upd_upd, hs]
  · obtain ⟨H', I2, rfl⟩ := h
    refine ⟨H, ?_, q⟩
    have J := shut_dice (a := p) I2 upd_same
    rw [upd_back hp] at J
    exact J
def CPowW (i j : Int) : Prop := 0 ≤ j ∧ (Builtin.Int.intBits i : Int) * j ≤ 2 ^ 27
theorem op_powW {X : Cx} : OpR X (binaryOp .Pow) (rI CPowW fun i j => .int (i ^ j.toNat)) := opI fun _ _ _ _ _ _ _ hc q => PyProof.Rows.pow_int hc.1 hc.2 q
/-- a new list of three ints is taken as a dice -/
def tShut (te : TE) : TE := fun σ H Q => te σ H fun v H1 => ∃ (p : Addr) (x y z : Int), v = .ref p ∧ H1 p = some (.lst [.int x, .int y, .int z]) ∧ Q v (upd H1 p (diceO p))
theorem pe_shut {X : Cx} {e : Expr} {te : TE} (h : PE X e te) : PE X e (tShut te) := ⟨fun pins s σ H Q I q => thn (h.run pins s σ H _ I q) fun u s1 ⟨v, H1, I1, r, p, x, y, z, ev, hp, q1⟩ => ⟨v, _, shut_dice I1 hp, r, q1⟩⟩
end Kd
namespace Kd
open PySem L2 Evl
/-- the type's name of a datum -/
def tyN : PyData → String
  | .none => "NoneType" | .bool _ => "bool" | .int _ => "int" | .str _ => "str" | .list _ => "list" | .tuple _ => "tuple" | .dict _ => "dict"
/-- data, dicts without their content -/
def Dv (K : PySem.W.Frag) (H : Hp) (v : V) (d : PyData) : Prop := Dp K H v d ∨ (∃ a kvs, v = .ref a ∧ H a = some (.dK kvs) ∧ d = .dict [])
theorem tyX_of {K : PySem.W.Frag} {H : Hp} {v : V} {d : PyData} (h : Dv K H v d) : TyX K H v (.type (tyN d)) := by
  rcases h with h | ⟨a, kvs, rfl, e, rfl⟩
  · cases h with
    | non => exact .base .non
    | bl b => exact .base (.bl b)
    | int i => exact .base (.int i)
    | str x => exact .base (.str x)
    | lst hs _ =>
      rcases hs with (e | ⟨o, e⟩) | ⟨o, its, n, e, c, _⟩
      · exact .base (.lst e)
      · exact .base (.frz e)
      · exact .kList e c
    | tup hs _ =>
      rcases hs with (e | ⟨o, e⟩) | ⟨o, its, n, e, c, _⟩
      · exact .base (.tup e)
      · exact .fTuple e
      · exact .kTuple e c
  · exact .base (.dK e)
mutual
theorem dp_ex {K : PySem.W.Frag} {H H' : Hp} (x : Ex H H') : ∀ (d : PyData) (v : V), Dp K H v d → Dp K H' v d
  | .none, _, h => by cases h; exact .non
  | .bool b, _, h => by cases h; exact .bl b
  | .int i, _, h => by cases h; exact .int i
  | .str s, _, h => by cases h; exact .str s
  | .list ds, _, h => by cases h with | lst hs ha => exact .lst (ex_l x hs) (dpAll_ex x ds _ ha)
  | .tuple ds, _, h => by cases h with | tup hs ha => exact .tup (ex_t x hs) (dpAll_ex x ds _ ha)
  | .dict _, _, h => by cases h
theorem dpAll_ex {K : PySem.W.Frag} {H H' : Hp} (x : Ex H H') : ∀ (ds : List PyData) (vs : List V), DpAll K H vs ds → DpAll K H' vs ds
  | [], _, h => by cases h; exact .nil
  | d :: ds, _, h => by cases h with | cons h1 h2 => exact .cons (dp_ex x d _ h1) (dpAll_ex x ds _ h2)
end
theorem dv_ex {K : PySem.W.Frag} {H H' : Hp} (x : Ex H H') {d : PyData} {v : V} (h : Dv K H v d) : Dv K H' v d := by
  rcases h with h | ⟨a, kvs, e1, e2, e3⟩
  · exact .inl (dp_ex x d v h)
  · exact .inr ⟨a, kvs, e1, x _ _ e2, e3⟩
theorem dpAll_strs {K : PySem.W.Frag} {H : Hp} : ∀ (zs : List Str), DpAll K H (zs.map V.str) (zs.map PyData.str)
  | [] => .nil
  | z :: zs => .cons (.str z) (dpAll_strs zs)
theorem isi_kit {d : PyData} (T : String) (r : Bool) (h : kitB (tyN d) T = some r) {K : PySem.W.Frag} : PySem.W.kitOne K (.type (tyN d)) (.type T) = some r := kit_ty h
theorem kit_str : ∀ d : PyData, kitB (tyN d) "str" = some (decide (tyN d = "str"))
  | .none => (by decide +kernel : kitB "NoneType" "str" = some (decide ("NoneType" = "str")))
  | .bool _ => (by decide +kernel : kitB "bool" "str" = some (decide ("bool" = "str")))
  | .int _ => (by decide +kernel : kitB "int" "str" = some (decide ("int" = "str")))
  | .str _ => (by decide +kernel : kitB "str" "str" = some (decide ("str" = "str")))
  | .list _ => (by decide +kernel : kitB "list" "str" = some (decide ("list" = "str")))
  | .tuple _ => (by decide +kernel : kitB "tuple" "str" = some (decide ("tuple" = "str")))
  | .dict _ => (by decide +kernel : kitB "dict" "str" = some (decide ("dict" = "str")))
theorem kit_tuple : ∀ d : PyData, kitB (tyN d) "tuple" = some (decide (tyN d = "tuple"))
  | .none => (by decide +kernel : kitB "NoneType" "tuple" = some (decide ("NoneType" = "tuple")))
  | .bool _ => (by decide +kernel : kitB "bool" "tuple" = some (decide ("bool" = "tuple")))
  | .int _ => (by decide +kernel : kitB "int" "tuple" = some (decide ("int" = "tuple")))
  | .str _ => (by decide +kernel : kitB "str" "tuple" = some (decide ("str" = "tuple")))
  | .list _ => (by decide +kernel : kitB "list" "tuple" = some (decide ("list" = "tuple")))
  | .tuple _ => (by decide +kernel : kitB "tuple" "tuple" = some (decide ("tuple" = "tuple")))
  | .dict _ => (by decide +kernel : kitB "dict" "tuple" = some (decide ("dict" = "tuple")))
theorem kit_bool : ∀ d : PyData, kitB (tyN d) "bool" = some (decide (tyN d = "bool"))
  | .none => (by decide +kernel : kitB "NoneType" "bool" = some (decide ("NoneType" = "bool")))
  | .bool _ => (by decide +kernel : kitB "bool" "bool" = some (decide ("bool" = "bool")))
  | .int _ => (by decide +kernel : kitB "int" "bool" = some (decide ("int" = "bool")))
  | .str _ => (by decide +kernel : kitB "str" "bool" = some (decide ("str" = "bool")))
  | .list _ => (by decide +kernel : kitB "list" "bool" = some (decide ("list" = "bool")))
  | .tuple _ => (by decide +kernel : kitB "tuple" "bool" = some (decide ("tuple" = "bool")))
  | .dict _ => (by decide +kernel : kitB "dict" "bool" = some (decide ("dict" = "bool")))
/-- [f(x) for x in .. if p(x)], scalars, nothing is changed but new things come -/
theorem lcS {J : It} {n : Nat} {G : Hp → Prop} {Y : Nat → Hp → V → Hp → Prop} (w : Walk J n G Y) {i : Nat} {tt : TT} {te : TE} {σ : L2.St} {H1 : Hp} {D : Addr} {Qd : Hp → Prop} (hD : H1 D = none) (xs : List V) (hn : xs.length = n) (hz : n < sizeLine)
    (p : V → Bool) (f : V → V) (hG : ∀ H, Ex H1 H → G H) (hY : ∀ k H x H', Y k H x H' → H' = H ∧ xs[k]? = some x) (hw : ∀ v, wipe ((wipe σ [i]).set i v) [i] = wipe σ [i])
    (ht : ∀ x H, x ∈ xs → Ex H1 H → EvT tt ((wipe σ [i]).set i (some x)) H (p x)) (he : ∀ x H, x ∈ xs → p x = true → Ex H1 H → Ev te ((wipe σ [i]).set i (some x)) H (f x))
    (hq : ∀ H, Ex H1 H → H D = some (.lst ((xs.filter p).map f)) → Qd H) :
    ∃ W : Nat → Nat → Hp → Prop, (∃ m, W 0 m (upd H1 D (.lst []))) ∧ ∀ k m H, W k m H →
      (J.stop k H ∧ Qd H) ∨ (J.go k H ∧ ∃ Nx : Hp → Prop, (∀ H', Nx H' → ∃ m', m' < m ∧ W (k + 1) m' H') ∧ ∀ x H', J.yld k H x H' → gName i x (wipe σ [i]) H' fun σ2 H2 => wipe σ2 [i] = wipe σ [i] ∧ tt σ2 H2 fun b H3 =>
        if b = true then te σ2 H3 fun y H4 => ∃ acc, H4 D = some (.lst acc) ∧ acc.length < sizeLine ∧ Nx (upd H4 D (.lst (acc ++ [y]))) else Nx H3) := by
  refine lc_it w (fun k H => Ex H1 H ∧ H D = some (.lst (((xs.take k).filter p).map f))) ⟨Ex.mut (Ex.refl H1) hD, upd_same⟩ (fun k H _ h => hG H h.1) ?_ (fun H h => hq H h.1 (by rw [h.2, List.take_of_length_le (by omega)]))
  rintro k x H H' hk ⟨e, hd⟩ y
  obtain ⟨rfl, hx⟩ := hY k H x H' y
  have hm : x ∈ xs := List.mem_of_getElem? hx
  have ht1 : xs.take (k + 1) = xs.take k ++ [x] := by
    rw [List.take_add_one, hx]
    rfl
  refine ⟨hw (some x), ht x H' hm e H' (Ex.refl _) _ fun H3 e3 => ?_⟩
  cases hp : p x with
  | false =>
    refine if_f rfl ⟨e.trans e3, ?_⟩
    rw [e3 _ _ hd, ht1, List.filter_append]
    simp [hp]
  | true =>
    refine if_t rfl (he x H' hm hp e H3 e3 _ fun H4 e4 => ⟨_, e4 _ _ (e3 _ _ hd), ?_, Ex.mut ((e.trans e3).trans e4) hD, ?_⟩)
    · rw [List.length_map]
      have h1 := List.length_filter_le p (xs.take k)
      have h2 : (xs.take k).length ≤ n := by rw [List.length_take, hn]; exact Nat.min_le_right _ _
      omega
    · rw [upd_same, ht1, List.filter_append, List.map_append]
      simp [hp]
end Kd
/-! set(t) of a tuple of ints and texts, and its len -/
namespace Ks
open PySem PySem.Spec PyProof.Rows L2
/-- x is one of l -/
def has {α : Type} [DecidableEq α] (l : List α) (x : α) : Bool := l.any fun y => decide (y = x)
theorem has_iff {α : Type} [DecidableEq α] {l : List α} {x : α} : has l x = true ↔ x ∈ l := by
  unfold has
  rw [List.any_eq_true]
  exact ⟨fun ⟨y, h, e⟩ => by rw [← of_decide_eq_true e]; exact h, fun h => ⟨x, h, decide_eq_true rfl⟩⟩
theorem has_snoc {α : Type} [DecidableEq α] (l : List α) (x y : α) : has (l ++ [x]) y = (has l y || decide (y = x)) := by
  unfold has
  rw [List.any_append]
  by_cases h : x = y
  · subst h; simp
  · have h' : ¬ y = x := fun e => h e.symm
    simp [h, h']
/-- one more, if it is not there -/
def add1 {α : Type} [DecidableEq α] (acc : List α) (x : α) : List α := if has acc x = true then acc else acc ++ [x]
/-- each once, in the order of first coming -/
def uniq {α : Type} [DecidableEq α] (l : List α) : List α := l.foldl add1 []
theorem uniq_snoc {α : Type} [DecidableEq α] (l : List α) (x : α) : uniq (l ++ [x]) = add1 (uniq l) x := by
  unfold uniq
  rw [List.foldl_append]
  rfl
theorem has_add1 {α : Type} [DecidableEq α] (acc : List α) (x y : α) : has (add1 acc x) y = (has acc y || decide (y = x)) := by
  unfold add1
  split
  · rename_i h
    by_cases e : y = x
    · subst e; rw [h]; rfl
    · rw [decide_eq_false e, Bool.or_false]
  · exact has_snoc acc x y
theorem has_foldl {α : Type} [DecidableEq α] (y : α) : ∀ (l acc : List α), has (l.foldl add1 acc) y = (has acc y || has l y)
  | [], acc => by
    show has acc y = (has acc y || false)
    rw [Bool.or_false]
  | x :: l, acc => by
    rw [List.foldl_cons, has_foldl y l, has_add1]
    show _ = (has acc y || (decide (x = y) || has l y))
    rw [Bool.or_assoc]
    congr 2
    exact decide_eq_decide.mpr ⟨fun e => e.symm, fun e => e.symm⟩
theorem has_uniq {α : Type} [DecidableEq α] (l : List α) (y : α) : has (uniq l) y = has l y := by
  unfold uniq
  rw [has_foldl]
  rfl
theorem len_foldl {α : Type} [DecidableEq α] : ∀ (l acc : List α), (l.foldl add1 acc).length ≤ acc.length + l.length
  | [], _ => Nat.le_refl _
  | x :: l, acc => by
    refine Nat.le_trans (len_foldl l _) ?_
    unfold add1
    rw [List.length_cons]
    split
    · omega
    · rw [List.length_append, List.length_singleton]; omega
theorem len_uniq {α : Type} [DecidableEq α] (l : List α) : (uniq l).length ≤ l.length := by
  have h := len_foldl l []
  rw [List.length_nil, Nat.zero_add] at h
  exact h
theorem len_eq_foldl {α : Type} [DecidableEq α] : ∀ (l acc : List α), (l.foldl add1 acc).length = acc.length + l.length ↔ (l.Nodup ∧ ∀ x ∈ l, has acc x = false)
  | [], _ => ⟨fun _ => ⟨List.nodup_nil, fun _ h => nomatch h⟩, fun _ => rfl⟩
  | x :: l, acc => by
    rw [List.foldl_cons, List.nodup_cons, List.length_cons]
    have ih := len_eq_foldl l (add1 acc x)
    cases hx : has acc x with
    | true =>
      have e : add1 acc x = acc := if_pos hx
      have hl := len_foldl l acc
      rw [e]
      constructor
      · intro h; omega
      · intro h
        have z := h.2 x List.mem_cons_self
        rw [hx] at z; cases z
    | false =>
      have e : add1 acc x = acc ++ [x] := if_neg (by rw [hx]; exact Bool.false_ne_true)
      rw [e] at ih ⊢
      rw [List.length_append, List.length_singleton] at ih
      constructor
      · intro h
        obtain ⟨h1, h2⟩ := ih.mp (by omega)
        refine ⟨⟨fun hm => ?_, h1⟩, fun y hy => ?_⟩
        · have z := h2 x hm
          rw [has_snoc, decide_eq_true rfl, Bool.or_true] at z; cases z
        · rcases List.mem_cons.mp hy with rfl | hy
          · exact hx
          · have z := h2 y hy
            rw [has_snoc] at z
            exact (Bool.or_eq_false_iff.mp z).1
      · intro ⟨⟨h1, h2⟩, h3⟩
        have z := ih.mpr ⟨h2, fun y hy => ?_⟩
        · omega
        · rw [has_snoc, h3 y (List.mem_cons_of_mem _ hy), Bool.false_or]
          exact decide_eq_false fun e => h1 (by rw [← e]; exact hy)
theorem len_eq_uniq {α : Type} [DecidableEq α] (l : List α) : (uniq l).length = l.length ↔ l.Nodup := by
  have h := len_eq_foldl l []
  unfold uniq
  rw [List.length_nil, Nat.zero_add] at h
  exact h.trans ⟨fun q => q.1, fun q => ⟨q, fun _ _ => rfl⟩⟩
theorem setOf_same {P : Program} {w : World} {h : Heap} {a : Addr} {S S' : Key → Bool} {n n' : Nat} (q : h.SetOf (mixKind P w) a S n) (e : S = S') (en : n = n') : h.SetOf (mixKind P w) a S' n' := by
  subst e; subst en; exact q
section
variable {P : Program} {w : World} {A : Around} {E : Value → Shared → Prop} {s : Shared}
theorem upd_loop {I : Addr} {fp wr : List Addr} {G : Array GenState → Array GenState → Prop} {n : Nat} {Pv : Nat → Value → Prop} {St : Nat → Shared → Prop} {R : Result → Shared → Prop} (W : WalksS P w A.in1 I fp wr G n Pv St) (S : Addr) (hS : S ∉ fp)
    (ks : List Key) (hn : n = ks.length) (hb : ks.length + 1 < scanBound) (hv : ∀ i v, Pv i v → ∃ k, ks[i]? = some k ∧ RelV (kV k) v) :
    ∀ (j i : Nat) (s : Shared), n - i = j → i ≤ n → St i s → s.heap.SetOf (mixKind P w) S (has (ks.take i)) (uniq (ks.take i)).length →
      (∀ s', Moved (S :: wr) G s s' → s'.heap.SetOf (mixKind P w) S (has ks) (uniq ks).length → R (.ok (.ret .none)) s') → codeAny (model P w) A (.builtin "set.update.loop" ⟨[.ref S, .ref I], []⟩) R s := by
  have hw : S ∉ wr := fun h => hS (W.sub _ h)
  have up : ∀ b ∈ wr, b ∈ S :: wr := fun b h => List.mem_cons_of_mem _ h
  have keepS : ∀ {s₁ s₂ : Shared} {T : Key → Bool} {c : Nat}, Moved wr G s₁ s₂ → s₁.heap.SetOf (mixKind P w) S T c → s₂.heap.SetOf (mixKind P w) S T c := fun m q => setOf_at q fun o e => m.heap S o hw e
  intro j
  induction j with
  | zero =>
    intro i s hj hi hst hset hR
    obtain rfl : i = n := by omega
    have e : ks.take i = ks := List.take_of_length_le (by omega)
    rw [e] at hset
    refine codeAny_builtin F.entry_set_update_loop ?_
    rw [Around.under_plainId F.plain_set_update_loop _]
    show wpAny _ A.in1 (pyNext (.ref I) >>= _) _ _ s
    refine wpAny_bind (W.done s _ _ hst fun s' hm => ?_)
    exact wpAny_pure (hR s' (hm.mono up) (keepS hm hset))
  | succ j ih =>
    intro i s hj hi hst hset hR
    have hlt : i < n := by omega
    refine codeAny_builtin F.entry_set_update_loop ?_
    rw [Around.under_plainId F.plain_set_update_loop _]
    show wpAny _ A.in1 (pyNext (.ref I) >>= _) _ _ s
    refine wpAny_bind (W.item i s _ _ hlt hst fun v s' hP hst' hm => ?_)
    obtain ⟨k, hk, rk⟩ := hv i v hP
    have hset' := keepS hm hset
    have hcnt : (uniq (ks.take i)).length + 1 < scanBound := by
      have z := len_uniq (ks.take i)
      rw [List.length_take] at z
      omega
    show wpAny _ A.in1 (holding [v] (setAdd S v) >>= _) _ _ s'
    refine wpAny_bind (wpAny_holding ?_)
    unfold setAdd
    refine wpAny_holding (wpAny_bind ((mixKind P w).pyHash (k := k) (kV_is rk) ?_))
    refine wpAny_setAddHashed_of (knd := mixKind P w) (s := { s' with toks := s'.toks + 1 }) (kV_is rk) (key_scan rk) hset' hcnt fun h' sb new => ?_
    have e1 : ks.take (i + 1) = ks.take i ++ [k] := by rw [List.take_add_one, hk]; rfl
    have new' : h'.SetOf (mixKind P w) S (has (ks.take (i + 1))) (uniq (ks.take (i + 1))).length := by
      refine setOf_same new (funext fun k' => ?_) ?_
      · rw [e1, has_snoc]
      · rw [e1, uniq_snoc]
        unfold add1
        rw [has_uniq]
        cases has (ks.take i) k with
        | true => rfl
        | false =>
          rw [if_neg Bool.false_ne_true, if_neg Bool.false_ne_true, List.length_append]
          rfl
    refine wpAny_pure ⟨plainId_quiet F.plain_set_update_loop _, ih (i + 1) _ (by omega) hlt (W.frame _ s' _ _ hst' (Nat.le_succ _) fun b hb o e => ?_) new' fun s'' hm'' q => ?_⟩
    · rw [sb.2 b (fun z : b = S => hS (by rw [← z]; exact hb))]
      exact e
    · refine hR s'' (Moved.trans W.gtrans ((hm.mono up).then_heap (Nat.le_succ _) fun b o hb e => ?_) hm'') q
      rw [sb.2 b (fun z : b = S => hb (by rw [z]; exact List.mem_cons_self))]
      exact e
abbrev eset (w : World) : Obj := { cls := .type "set", dict := none, data := .set #[] 0 (.fresh 0 0 (!w.params.followText "set-order")) }
theorem set_new {h : Heap} {a : Addr} (e : h.get? a = some (eset w)) : h.SetOf (mixKind P w) a (has []) 0 :=
  ⟨_, #[], 0, _, e, ⟨rfl, rfl, rfl⟩, rfl, (fun z hz => by simp at hz), (fun k => ⟨(fun q => by cases q), (fun ⟨z, hz, _⟩ => by simp at hz)⟩), (by decide), (by rfl), rfl⟩
theorem call_setK {l : Addr} {items : Array Value} (ks : List Key) {Q : Value → Shared → Prop} (hh : A.handled = none) (hl : s.heap.IsTuple l items) (hk : Vals (ks.map kV) items.toList) (hb : ks.length + 1 < scanBound)
    (h : ∀ (h' : Heap) (tk : Nat), h'.SetOf (mixKind P w) s.heap.objs.size (has ks) (uniq ks).length → (∀ b o, s.heap.get? b = some o → h'.get? b = some o) → Q (.ref s.heap.objs.size) { s with heap := h', toks := tk }) :
    wpAny (model P w) A (call (.type "set") [.ref l]) Q E s := by
  have size : items.size = ks.length := by
    have q := hk.length
    rw [List.length_map, Array.length_toList] at q
    exact q.symm
  obtain ⟨c, tl, hmro⟩ := F.called_set.mro
  have f1 := F.called_set.made
  have f2 := F.called_set.sub
  refine wpAny_call (codeAny_of_tree ?_)
  show wpAny _ _ (callAny (.type "set") _) _ _ _
  refine wpAny_pure ⟨Code.quiet_builtin _ (by decide +kernel), codeAny_builtin F.entry_type_call ?_⟩
  rw [Around.under_plain (weight_type_call_type "set" [.ref l] []) rfl]
  have f3 := F.called_set.notType
  have f4 := F.called_set.canCreate
  have f5 := F.typeCall_set_1 (.ref l)
  repeat (any_goals (first | assumption | wp_step))
  refine codeAny_mono (code_set_led1 (.ref l) (E := E) (Q₁ := fun v s₁ => v = .ref s.heap.objs.size ∧ s₁ = { s with heap := s.heap.push (eset w) }) ⟨rfl, rfl⟩) fun r s₁ hr => ?_
  cases r with
  | error e => exact hr
  | ok fl =>
    cases fl with
    | ret v =>
      obtain ⟨rfl, rfl⟩ := hr
      have got : (s.heap.push (eset w)).get? s.heap.objs.size = some (eset w) := Heap.get?_push_size _ rfl
      have ty : Shared.TypeIs { s with heap := s.heap.push (eset w) } (.ref s.heap.objs.size) "set" := ⟨_, got, rfl⟩
      have g1 := F.called_set.init.lookup
      have g2 := F.called_set.init.bind (.ref s.heap.objs.size)
      repeat (any_goals (first | assumption | wp_step))
      refine codeAny_mono (codeAny_call_builtin (R := wants (fun r s₂ => r = .none ∧ ∃ h' tk, s₂ = { s with heap := h', toks := tk } ∧ h'.SetOf (mixKind P w) s.heap.objs.size (has ks) (uniq ks).length ∧ (∀ b o, s.heap.get? b = some o → h'.get? b = some o)) E)
        F.called_set.init.plain F.entry_set_init (check_set_init_1 ty ?_)) fun r₂ s₂ hr₂ => ?_
      · obtain ⟨⟨ocls, odict, odata, oslots⟩, hol, hcl, nl, hdl⟩ := hl
        simp only at hcl hdl
        subst hcl; subst hdl
        have hol' := Heap.get?_push_of_some (eset w) hol
        have f6 := F.sub_tuple_set
        have f7 := F.sub_tuple_frozenset
        have f8 : (Value.type "tuple" == Value.type "dict") = false := by decide
        have tup1 : (s.heap.push (eset w)).IsTuple l items := ⟨_, hol', rfl, nl, rfl⟩
        unfold Builtin.«set.__init__» noKeywords Builtin.Frozenset.updateFrom
        generalize hPI : pyIter = PI
        wp_walk
        subst hPI
        refine wpAny_pyIter_tuple tup1 (wpAny_bind (wpAny_runValue ?_))
        have lS : l < s.heap.objs.size := Heap.lt_size hol
        have sz1 : (s.heap.push (eset w)).objs.size = s.heap.objs.size + 1 := Heap.size_push ..
        have n1 : l ≠ (s.heap.push (eset w)).objs.size := by rw [sz1]; exact Nat.ne_of_lt (Nat.lt_succ_of_lt lS)
        have n2 : s.heap.objs.size ∉ [(s.heap.push (eset w)).objs.size, l] := by
          rw [sz1]
          simp only [List.mem_cons, List.not_mem_nil, or_false, not_or]
          exact ⟨Nat.ne_of_lt (Nat.lt_succ_self _), Nat.ne_of_gt lS⟩
        have vals : ∀ (i : Nat) (v : Value), items[i]? = some v → ∃ k, ks[i]? = some k ∧ RelV (kV k) v := by
          intro i v hv
          have hi : i < ks.length := by rw [← size]; exact (Array.getElem?_eq_some_iff.mp hv).1
          obtain ⟨u, e1, e2⟩ := hk.get (i := i) (x := kV ks[i]) (by rw [List.getElem?_map, List.getElem?_eq_getElem hi]; rfl)
          rw [Array.getElem?_toList, hv] at e1
          cases e1
          exact ⟨_, List.getElem?_eq_getElem hi, e2⟩
        refine upd_loop ((Walks.tuple (by simp [hh]) _ l n1 items).toS) s.heap.objs.size n2 ks size hb vals (items.size - 0) 0 _ (by omega) (Nat.zero_le _) ⟨⟨_, Heap.get?_push_size _ rfl, rfl, rfl⟩, (tup1.push _)⟩ ?new ?fin
        case new => exact set_new (Heap.get?_push_of_some _ got)
        case fin =>
          intro s' hm hS'
          obtain ⟨h', g', d', tk', os'⟩ := s'
          obtain rfl : g' = s.gens := hm.gens
          obtain rfl : d' = s.drawn := hm.drawn
          obtain rfl : os' = s.os := hm.os
          show wpAny _ _ _ _ _ _
          refine wpAny_pure ?_
          show wpAny _ _ (ret Value.none) _ _ _
          refine wpAny_pure ⟨rfl, h', tk', rfl, hS', fun b o e => ?_⟩
          have hb0 : b < s.heap.objs.size := Heap.lt_size e
          exact hm.heap b o (by rw [sz1]; simp only [List.mem_cons, List.not_mem_nil, or_false, not_or]; exact ⟨Nat.ne_of_lt hb0, Nat.ne_of_lt (Nat.lt_succ_of_lt hb0)⟩) (Heap.get?_push_of_some _ (Heap.get?_push_of_some _ e))
      · cases r₂ with
        | error z => exact hr₂
        | ok f₂ =>
          cases f₂ with
          | ret v₂ =>
            obtain ⟨rfl, h', tk, rfl, q1, q2⟩ := hr₂
            repeat (any_goals (first | assumption | wp_step))
            exact h _ _ q1 q2
          | next => exact hr₂.elim
          | brk => exact hr₂.elim
          | cont => exact hr₂.elim
    | next => exact hr.elim
    | brk => exact hr.elim
    | cont => exact hr.elim
end
end Ks
namespace L2
open PySem PySem.Spec PyProof.Rows Ks
section
variable {X : Cx}
/-- set(t), t a tuple of ints and texts -/
def rSetT (K : PySem.W.Frag) (P : Program) (w : World) : List V → Hp → VK → Prop := fun xs H Q => ∃ (l : Addr) (ks : List Key), xs = [.ref l] ∧ SqT K H l (ks.map kV) ∧ ks.length + 1 < scanBound ∧ ∀ p, H p = none → Q (.ref p) (upd H p (SetK P w p (has ks) (uniq ks).length))
theorem cr_setT (hc : X.calm = true) : CallR X (.type "set") (rSetT X.K X.prog X.w) := by
  intro pins s σ H xs us Q I r ⟨l, ks, e, hs, hb, q⟩
  subst e
  rw [Vals.ref1 r]
  obtain ⟨its, rv, tp, _⟩ := I.tuple hs
  refine call_setK (P := X.prog) (w := X.w) ks (I.ok.hd hc) tp (by simpa using rv) hb fun h' tk S k => ?_
  exact ⟨.ref s.heap.objs.size, _, I.laid (t' := tk) k (Nat.le_refl _) (setK_new S), rfl, q _ (I.hok.fresh (Nat.le_refl _))⟩
/-- len of such a set -/
def rLenSetK (P : Program) (w : World) : List V → Hp → VK → Prop := fun xs H Q => ∃ (a : Addr) (S : Key → Bool) (n : Nat), xs = [.ref a] ∧ H a = some (SetK P w a S n) ∧ Q (.int n) H
theorem cr_lenSetK : CallR X (.builtin "len") (rLenSetK X.prog X.w) := by
  intro pins s σ H xs us Q I r ⟨a, S, n, e, ha, q⟩
  subst e
  rw [Vals.ref1 r]
  obtain ⟨o, es, ep, t, ho, hx, hd, _, _, hz, hf, hn⟩ := setK_get I ha
  refine call_len_set ho hx hd hf (by have h1 : es.size < 2 ^ 62 := Nat.lt_of_lt_of_le hz (by decide); omega) ?_
  rw [hn]
  exact ⟨.int n, H, I.tok _, ⟨_, rfl⟩, q⟩
end
end L2
namespace Kd
open PySem L2 Evl Ks
/-- [e for x in .. if t]: what each item gives is told by a list rs (whether it is taken, the value) -/
theorem lcR {J : It} {n : Nat} {G : Hp → Prop} {Y : Nat → Hp → V → Hp → Prop} (w : Walk J n G Y) {i : Nat} {tt : TT} {te : TE} {σ : L2.St} {H1 : Hp} {D : Addr} {Qd : Hp → Prop} (hD : H1 D = none) (xs : List V) (rs : List (Bool × V)) (hn : rs.length = n) (hz : n < sizeLine)
    (hG : ∀ H, Ex H1 H → G H) (hY : ∀ k H x H', Y k H x H' → H' = H ∧ xs[k]? = some x) (hw : ∀ v, wipe ((wipe σ [i]).set i v) [i] = wipe σ [i])
    (ht : ∀ (k : Nat) x b y H, xs[k]? = some x → rs[k]? = some (b, y) → Ex H1 H → EvT tt ((wipe σ [i]).set i (some x)) H b) (he : ∀ (k : Nat) x y H, xs[k]? = some x → rs[k]? = some (true, y) → Ex H1 H → Ev te ((wipe σ [i]).set i (some x)) H y)
    (hq : ∀ H, Ex H1 H → H D = some (.lst ((rs.filter (·.1)).map (·.2))) → Qd H) :
    ∃ W : Nat → Nat → Hp → Prop, (∃ m, W 0 m (upd H1 D (.lst []))) ∧ ∀ k m H, W k m H →
      (J.stop k H ∧ Qd H) ∨ (J.go k H ∧ ∃ Nx : Hp → Prop, (∀ H', Nx H' → ∃ m', m' < m ∧ W (k + 1) m' H') ∧ ∀ x H', J.yld k H x H' → gName i x (wipe σ [i]) H' fun σ2 H2 => wipe σ2 [i] = wipe σ [i] ∧ tt σ2 H2 fun b H3 =>
        if b = true then te σ2 H3 fun y H4 => ∃ acc, H4 D = some (.lst acc) ∧ acc.length < sizeLine ∧ Nx (upd H4 D (.lst (acc ++ [y]))) else Nx H3) := by
  refine lc_it w (fun k H => Ex H1 H ∧ H D = some (.lst (((rs.take k).filter (·.1)).map (·.2)))) ⟨Ex.mut (Ex.refl H1) hD, upd_same⟩ (fun k H _ h => hG H h.1) ?_ (fun H h => hq H h.1 (by rw [h.2, List.take_of_length_le (by omega)]))
  rintro k x H H' hk ⟨e, hd⟩ y
  obtain ⟨rfl, hx⟩ := hY k H x H' y
  have hk' : k < rs.length := by omega
  obtain ⟨⟨b, z⟩, hr⟩ : ∃ q, rs[k]? = some q := ⟨rs[k], List.getElem?_eq_getElem hk'⟩
  have ht1 : rs.take (k + 1) = rs.take k ++ [(b, z)] := by
    rw [List.take_add_one, hr]
    rfl
  refine ⟨hw (some x), ht k x b z H' hx hr e H' (Ex.refl _) _ fun H3 e3 => ?_⟩
  cases b with
  | false =>
    refine if_f rfl ⟨e.trans e3, ?_⟩
    rw [e3 _ _ hd, ht1, List.filter_append]
    simp
  | true =>
    refine if_t rfl (he k x z H' hx hr e H3 e3 _ fun H4 e4 => ⟨_, e4 _ _ (e3 _ _ hd), ?_, Ex.mut ((e.trans e3).trans e4) hD, ?_⟩)
    · rw [List.length_map]
      have h1 := List.length_filter_le (fun q : Bool × V => q.1) (rs.take k)
      have h2 : (rs.take k).length ≤ n := by rw [List.length_take, hn]; exact Nat.min_le_right _ _
      omega
    · rw [upd_same, ht1, List.filter_append, List.map_append]
      simp
theorem lcR_all {α : Type} (ds : List α) (f : α → V) : ((ds.map fun d => (true, f d)).filter (·.1)).map (·.2) = ds.map f := by
  induction ds with
  | nil => rfl
  | cons d r ih =>
    rw [List.map_cons, List.filter_cons]
    show (_ :: ((r.map fun d => (true, f d)).filter (·.1))).map (·.2) = _
    rw [List.map_cons, ih]
    rfl
theorem put_const (z : V) (l : List Key) (k : Key) : putK (l.map fun q => (q, z)) k z = (add1 l k).map fun q => (q, z) := by
  unfold putK add1
  have e : ((l.map fun q => (q, z)).any fun kv => decide (kv.1 = k)) = has l k := by
    unfold has
    rw [List.any_map]
    rfl
  rw [e]
  cases has l k with
  | true =>
    rw [if_pos rfl, if_pos rfl, List.map_map]
    refine List.map_congr_left fun q _ => ?_
    show (if q = k then (q, z) else (q, z)) = (q, z)
    split <;> rfl
  | false =>
    rw [if_neg Bool.false_ne_true, if_neg Bool.false_ne_true, List.map_append]
    rfl
/-- {x: z for x in t}, z one scalar -/
theorem dcS {K : PySem.W.Frag} {a : Addr} {i : Nat} {tk tv : TE} {σ : L2.St} {H1 : Hp} {D : Addr} {Qd : Hp → Prop} (hD : H1 D = none) (ks : List Key) (z : V) (hz : ks.length < sizeLine) (hs : SqT K H1 a (ks.map kV)) (hw : ∀ v, wipe ((wipe σ [i]).set i v) [i] = wipe σ [i])
    (hk : ∀ x H, x ∈ ks → Ex H1 H → Ev tk ((wipe σ [i]).set i (some (kV x))) H (kV x)) (hv : ∀ x H, x ∈ ks → Ex H1 H → Ev tv ((wipe σ [i]).set i (some (kV x))) H z)
    (hq : ∀ H, Ex H1 H → H D = some (.dK ((uniq ks).map fun k => (k, z))) → Qd H) :
    ∃ W : Nat → Nat → Hp → Prop, (∃ m, W 0 m (upd H1 D (.dK []))) ∧ ∀ k m H, W k m H →
      ((Itt K a).stop k H ∧ Qd H) ∨ ((Itt K a).go k H ∧ ∃ Nx : Hp → Prop, (∀ H', Nx H' → ∃ m', m' < m ∧ W (k + 1) m' H') ∧ ∀ x H', (Itt K a).yld k H x H' → gName i x (wipe σ [i]) H' fun σ2 H2 => wipe σ2 [i] = wipe σ [i] ∧ tYes σ2 H2 fun b H3 =>
        if b = true then tk σ2 H3 fun y H4 => tv σ2 H4 fun z H5 => ∃ kvs k, y = kV k ∧ H5 D = some (.dK kvs) ∧ kvs.length < sizeLine ∧ Nx (upd H5 D (.dK (putK kvs k z))) else Nx H3) := by
  refine dc_tup (xs := ks.map kV) (fun k H => Ex H1 H ∧ H D = some (.dK ((uniq (ks.take k)).map fun q => (q, z)))) ⟨Ex.mut (Ex.refl H1) hD, upd_same⟩ (fun k H _ h => ex_t h.1 hs) ?_ (fun H h => hq H h.1 (by rw [h.2, List.take_of_length_le (by rw [List.length_map]; exact Nat.le_refl _)]))
  rintro k x H hx ⟨e, hd⟩
  rw [List.getElem?_map] at hx
  obtain ⟨y, hy, rfl⟩ : ∃ y, ks[k]? = some y ∧ x = kV y := by
    cases q : ks[k]? with
    | none => rw [q] at hx; cases hx
    | some y => rw [q] at hx; exact ⟨y, rfl, (Option.some.inj hx).symm⟩
  have hm : y ∈ ks := List.mem_of_getElem? hy
  refine ⟨hw (some (kV y)), hk y H hm e H (Ex.refl _) _ fun H4 e4 => hv y H hm e H4 e4 _ fun H5 e5 => ⟨_, y, rfl, e5 _ _ (e4 _ _ hd), ?_, Ex.mut ((e.trans e4).trans e5) hD, ?_⟩⟩
  · rw [List.length_map]
    have h1 := len_uniq (ks.take k)
    rw [List.length_take] at h1
    omega
  · rw [upd_same, put_const, List.take_add_one, hy]
    show _ = some (HO.dK ((uniq (ks.take k ++ [y])).map _))
    rw [uniq_snoc]
end Kd
namespace L2
open PySem PySem.Spec PyProof.Rows
section
variable {X : Cx}
/-- sorted(t), t a tuple or a list of texts, fewer than 64 -/
def rSortU (K : PySem.W.Frag) : List V → Hp → VK → Prop := fun vs H Q => ∃ (a : Addr) (xs : List Str), vs = [V.ref a] ∧ (SqT K H a (xs.map V.str) ∨ SqL K H a (xs.map V.str)) ∧ xs.length < 64 ∧
  ∀ (ys : List Str) (p : Addr), ys.Perm xs → sortedS ys = true → H p = none → Q (.ref p) (upd H p (.lst (ys.map V.str)))
theorem cr_sortU : CallR X (.builtin "sorted") (rSortU X.K) := by
  intro pins s σ H vs us Q I r ⟨a, xs, e, hs, few, q⟩
  subst e
  rw [Vals.ref1 r]
  have hsq : ∃ (its : List Value) (T : String) (o : Obj) (n : Nat), Vals (xs.map V.str) its ∧ (T = "list" ∨ T = "tuple") ∧ s.heap.get? a = some o ∧ o.cls = .type T ∧ o.data = .seq its.toArray n := by
    rcases hs with hs | hs
    · obtain ⟨its, rv, ⟨o, ho, hc, n, hd⟩, _⟩ := I.tuple hs
      exact ⟨its, "tuple", o, n, rv, .inr rfl, ho, hc, hd⟩
    · obtain ⟨its, rv, ⟨o, n, ho, hc, _, hd⟩, _⟩ := I.list hs
      exact ⟨its, "list", o, n, rv, .inl rfl, ho, hc, hd⟩
  obtain ⟨its, T, o, n, rv, hT, ho, hc, hd⟩ := hsq
  have hS : StrsAre its xs := rv.strs
  have hlen : its.length = xs.length := by have e := rv.length; rw [List.length_map] at e; exact e.symm
  have hsz : its.length < 64 := by rw [hlen]; exact few
  have hln : its.length ≤ sizeLine := small64 hsz
  refine Calls.call_function_entry kind_sorted plain_sorted entry_sorted (args_sorted1 _) ?_
  unfold Builtin.«sorted»
  refine wpAny_bind (m := checkCount "sorted" 1 1 _) (wpAny_pure ?_)
  refine wpAny_bind (wpAny_collect_seq a hT ho hc hd (fun h1 kp => ?_) (by rw [List.size_toArray]; exact hln))
  refine wpAny_bind (wpAny_newList ?_ hln)
  have J : Inv X pins σ H { s with heap := h1 } := I.kept (t' := s.toks) kp
  have hnew : (h1.push (seqObj "list" its.toArray 0)).get? h1.objs.size = some (seqObj "list" its.toArray 0) := Heap.get?_push_size _ rfl
  show wpAny _ _ _ _ _ { s with heap := h1.push (seqObj "list" its.toArray 0) }
  refine wpAny_bind (wpAny_holding (wpAny_call_entry slot_list_sort ⟨_, hnew, rfl⟩ entry_list_sort
    (list_sort_treeK strKind_oneLt (s := { s with heap := h1.push (seqObj "list" its.toArray 0) }) hnew hS.keysOf (fun x y l e => keyKind_strs (by rw [← e]; exact hS)) hsz fun st hp ho => ⟨_, rfl, ?_⟩) (args_list_sort _)))
  obtain ⟨ys, g1, g2, g3⟩ := sorted_out_str hS hp ho
  obtain ⟨n', h'⟩ := sortedHeap_at (vs := its) (out := (arrOf st).map (·.2)) hnew
  have hfin : (ys.map V.str).length ≤ sizeLine := by rw [List.length_map, g2.length_eq]; exact small64 few
  refine wpAny_pure ⟨_, rfl, .ref h1.objs.size, upd H h1.objs.size (.lst (ys.map V.str)), J.laid (t' := s.toks) (fun b u e => ?_) (Nat.le_refl _)
    (show ObjOk X.prog X.w _ _ _ (.lst (ys.map V.str)) from ⟨hfin, ((arrOf st).map (·.2)).toList, n', vals_of_strs g1, by rw [Array.toArray_toList]; exact h'⟩), rfl, q ys _ g2 g3 (J.hok.fresh (Nat.le_refl _))⟩
  have hb : b < h1.objs.size := Heap.lt_size e
  rw [sortedHeap_old (Nat.ne_of_lt hb) (by rw [size_push']; exact Nat.lt_succ_of_lt hb)]
  exact Heap.get?_push_of_some _ e
end
end L2
/-! The order of texts: what is sorted is one. -/
namespace Kd
open PySem PySem.Spec PyProof.Rows
theorem lt_irrefl_c : ∀ a : List Nat, ltCps a a = false
  | [] => rfl
  | x :: r => by
    show (decide (x < x) || (x == x && ltCps r r)) = false
    rw [lt_irrefl_c r, decide_eq_false (Nat.lt_irrefl x)]
    simp
theorem lt_total_c : ∀ a b : List Nat, ltCps a b = false → ltCps b a = false → a = b
  | [], [], _, _ => rfl
  | [], _ :: _, h, _ => by cases h
  | _ :: _, [], _, h => by cases h
  | x :: r, y :: t, h1, h2 => by
    have a1 : (decide (x < y) || (x == y && ltCps r t)) = false := h1
    have a2 : (decide (y < x) || (y == x && ltCps t r)) = false := h2
    obtain ⟨p1, q1⟩ := Bool.or_eq_false_iff.mp a1
    obtain ⟨p2, q2⟩ := Bool.or_eq_false_iff.mp a2
    have e : x = y := by
      have := of_decide_eq_false p1
      have := of_decide_eq_false p2
      omega
    subst e
    rw [beq_self_eq_true, Bool.true_and] at q1 q2
    rw [lt_total_c r t q1 q2]
theorem lt_trans_c : ∀ a b c : List Nat, ltCps a b = true → ltCps b c = true → ltCps a c = true
  | [], [], _, h, _ => by cases h
  | [], _ :: _, [], _, h => by cases h
  | [], _ :: _, _ :: _, _, _ => rfl
  | _ :: _, [], _, h, _ => by cases h
  | _ :: _, _ :: _, [], _, h => by cases h
  | x :: r, y :: t, z :: u, h1, h2 => by
    have a1 : (decide (x < y) || (x == y && ltCps r t)) = true := h1
    have a2 : (decide (y < z) || (y == z && ltCps t u)) = true := h2
    show (decide (x < z) || (x == z && ltCps r u)) = true
    rcases Bool.or_eq_true_iff.mp a1 with p | p <;> rcases Bool.or_eq_true_iff.mp a2 with q | q
    · rw [decide_eq_true (Nat.lt_trans (of_decide_eq_true p) (of_decide_eq_true q))]; rfl
    · obtain ⟨q1, _⟩ := Bool.and_eq_true_iff.mp q
      rw [decide_eq_true (by rw [← beq_iff_eq.mp q1]; exact of_decide_eq_true p)]; rfl
    · obtain ⟨p1, _⟩ := Bool.and_eq_true_iff.mp p
      rw [decide_eq_true (by rw [beq_iff_eq.mp p1]; exact of_decide_eq_true q)]; rfl
    · obtain ⟨p1, p2⟩ := Bool.and_eq_true_iff.mp p
      obtain ⟨q1, q2⟩ := Bool.and_eq_true_iff.mp q
      rw [beq_iff_eq.mp p1, beq_iff_eq.mp q1, lt_trans_c r t u p2 q2]
      simp
/-- a stands not behind b -/
def leS (a b : Str) : Prop := ltCps b.cps.toList a.cps.toList = false
theorem leS_trans {a b c : Str} (h1 : leS a b) (h2 : leS b c) : leS a c := by
  unfold leS at *
  cases h : ltCps c.cps.toList a.cps.toList with
  | false => rfl
  | true =>
    -- c < a, a ≤ b, b ≤ c
    cases hab : ltCps a.cps.toList b.cps.toList with
    | true => rw [lt_trans_c _ _ _ h hab] at h2; cases h2
    | false =>
      rw [← lt_total_c _ _ hab h1, h] at h2
      cases h2
theorem leS_anti {a b : Str} (h1 : leS a b) (h2 : leS b a) : a = b := by
  have e := lt_total_c _ _ h2 h1
  cases a with | mk x => cases b with | mk y =>
    have e1 : x.toList = y.toList := e
    rw [Array.toList_inj.mp e1]
theorem rising_pair : ∀ (l : List Str) (p : Str), risingS p l = true → (p :: l).Pairwise leS
  | [], p, _ => List.pairwise_singleton _ _
  | x :: r, p, h => by
    have h' : (!ltCps x.cps.toList p.cps.toList && risingS x r) = true := h
    obtain ⟨h1, h2⟩ := Bool.and_eq_true_iff.mp h'
    have ih := rising_pair r x h2
    have hpx : leS p x := by
      unfold leS
      rw [Bool.not_eq_true'] at h1
      exact h1
    refine List.pairwise_cons.mpr ⟨fun y hy => ?_, ih⟩
    rcases List.mem_cons.mp hy with rfl | hy
    · exact hpx
    · exact leS_trans hpx ((List.pairwise_cons.mp ih).1 y hy)
theorem sorted_pair {l : List Str} (h : sortedS l = true) : l.Pairwise leS := by
  cases l with
  | nil => exact List.Pairwise.nil
  | cons x r => exact rising_pair r x h
/-- ys is xs, sorted -/
def IsSort (xs ys : List Str) : Prop := ys.Perm xs ∧ sortedS ys = true
theorem sort_one {xs zs ys us : List Str} (hp : xs.Perm zs) (h1 : IsSort xs ys) (h2 : IsSort zs us) : ys = us :=
  List.Perm.eq_of_pairwise (le := leS) (fun a b _ _ => leS_anti) (sorted_pair h1.2) (sorted_pair h2.2) ((h1.1.trans hp).trans h2.1.symm)
end Kd
/-! == and != by an own __eq__, whatever it answers -/
namespace Ko
open PySem PySem.Spec PyProof.Rows PySem.SeqAt
section
variable {M : Model} {prog : Program} {w : World} {A : Around} {E : Value → Shared → Prop} {s : Shared} {K : PySem.W.Frag} {x C f L : Addr} {ox : Obj} {od : Option Obj} {b tb : Value} {h₀ : Heap} {m : Str → Option Value}
/-- object.__ne__ where the class has an own __eq__ -/
theorem ne_entry {Q : Fin → Shared → Prop} (hu : A.units < cLine) (X : K.In s.heap) (I : PySem.W.InstAt s.heap x ox C od) (hs : PySem.W.findIn K (.ref C) "__eq__" = some (some (.ref f))) (hf : PySem.W.isFn K (.ref f) = true)
    (h : wpAny M A (call (.ref f) [.ref x, b]) (fun v s' => ∃ c, v = .bool c ∧ Q (.done (.ret (.bool (!c)))) s') E s) : wpAny M A (Builtin.«object.__ne__» ⟨[.ref x, b], []⟩) Q E s := by
  unfold Builtin.«object.__ne__»
  repeat (first
    | with_reducible refine wpAny_cRoomFor hu ?_
    | (refine wpAny_bind (m := callSpecialIfBound? (.ref x) (Str.ofString "__eq__") [b]) (PySem.W.ifBound_K X I hs hf (wpAny_mono h (fun r s' hr => by
          obtain ⟨c, rfl, hq⟩ := hr
          repeat (first | exact hq | exact wpAny_pure hq | exact wpAny_truthy_bool hq | (refine wpAny_bind (m := truthy (.bool _)) (wpAny_truthy_bool ?_)) | wp_step)) fun _ _ e => e)))
    | wp_step)
theorem call_ne {Q : Value → Shared → Prop} (hu : A.units + 1 < cLine) (X : K.In s.heap) (I : PySem.W.InstAt s.heap x ox C od) (hm : PySem.W.mroIn K C (.type "object") = some true) (hs : PySem.W.findIn K (.ref C) "__eq__" = some (some (.ref f))) (hf : PySem.W.isFn K (.ref f) = true)
    (h : wpAny (model prog w) A.in1 (call (.ref f) [.ref x, b]) (fun v s' => ∃ c, v = .bool c ∧ Q (.bool (!c)) s') E s) : wpAny (model prog w) A (call (.builtin "object.__ne__") [.ref x, b]) Q E s :=
  wpAny_call (codeAny_call_builtin F.cmp_object.ne.plain F.cmpEntry_ne (PySem.W.check_slot F.cmpKind_ne F.cmpSplit_ne (I.type.andThen (PySem.W.looks_mroIn X hm)) (F.cmpArgs_ne _ _)
    (ne_entry (A := A.in1) hu X I hs hf (wpAny_mono h (fun v s' ⟨c, e, q⟩ => ⟨c, e, q⟩) fun _ _ e => e))))
theorem ifBound_ne {args : List Value} {Q : Option Value → Shared → Prop} (X : K.In s.heap) (I : PySem.W.InstAt s.heap x ox C od) (hs : PySem.W.findIn K (.ref C) "__ne__" = some (some (.builtin "object.__ne__")))
    (h : wpAny M A (call (.builtin "object.__ne__") (.ref x :: args)) (fun v => Q (some v)) E s) : wpAny M A (callSpecialIfBound? (.ref x) "__ne__" args) Q E s := by
  have fin : wpAny M A (call (.builtin "object.__ne__") ([.ref x] ++ args) >>= fun v => pure (some v)) Q E s := wpAny_bind (wpAny_mono h (fun _ _ q => wpAny_pure q) fun _ _ q => q)
  simp only [callSpecialIfBound?, bindSpecialIfBound?]
  refine wpAny_holding (wpAny_bind (wpAny_bind (wpAny_bind (I.type.here ((PySem.W.looks_findIn X hs).here (wpAny_bind (wpAny_askSetting (wpAny_ite ?_))))))))
  split
  · exact wpAny_bind (wpAny_of_eq (F.cmp_object.ne.bind _) (wpAny_pure (by exact fin)))
  · exact wpAny_tryCatch (wpAny_bind (wpAny_of_eq (F.cmp_object.ne.bind _) (wpAny_pure (by exact fin))))
theorem ne_own {Q : Value → Shared → Prop} (hu : A.units + 1 < cLine) (X : K.In s.heap) (I : PySem.W.InstAt s.heap x ox C od) (hb : PySem.W.Looks (model prog w) s.heap (typeOf b) tb) (hn : PySem.W.notFirst K C tb = true)
    (hm : PySem.W.mroIn K C (.type "object") = some true) (hne : PySem.W.findIn K (.ref C) "__ne__" = some (some (.builtin "object.__ne__"))) (hs : PySem.W.findIn K (.ref C) "__eq__" = some (some (.ref f))) (hf : PySem.W.isFn K (.ref f) = true)
    (h : wpAny (model prog w) A.in1 (call (.ref f) [.ref x, b]) (fun v s' => ∃ c, v = .bool c ∧ Q (.bool (!c)) s') E s) : wpAny (model prog w) A (richCompare .NotEq (.ref x) b) Q E s := by
  have one : wpAny (model prog w) A (tryCompare (.ref x) "__ne__" b) (fun r s' => ∃ c, r = some (.bool c) ∧ Q (.bool c) s') E s := by
    unfold tryCompare
    refine wpAny_bind (ifBound_ne X I hne (call_ne hu X I hm hs hf (wpAny_mono h (fun v s' z => ?_) fun _ _ e => e)))
    obtain ⟨c, rfl, q⟩ := z
    exact ⟨c, rfl, wpAny_pure ⟨!c, rfl, q⟩⟩
  simp only [richCompare, cmpInfo_NotEq, oneThing_ref]
  refine wpAny_holding (wpAny_bind (wpAny_cRoomFor (by omega) (wpAny_bind (I.type.here (wpAny_bind (hb.here ?_))))))
  split
  · rename_i q
    have e : PySem.W.subIn K tb (.ref C) = some false := by
      rcases Bool.or_eq_true_iff.mp hn with z | z
      · rw [beq_iff_eq.mp z] at q; simp at q
      · exact beq_iff_eq.mp z
    refine wpAny_bind ((PySem.W.looks_subIn X e).here ?_)
    simp only [Bool.false_eq_true, if_false]
    refine wpAny_bind (wpAny_mono one (fun r s' z => ?_) fun _ _ e => e)
    obtain ⟨c, rfl, hq⟩ := z
    exact wpAny_pure hq
  · refine wpAny_bind (wpAny_pure ?_)
    simp only [Bool.false_eq_true, if_false]
    refine wpAny_bind (wpAny_mono one (fun r s' z => ?_) fun _ _ e => e)
    obtain ⟨c, rfl, hq⟩ := z
    exact wpAny_pure hq
end
end Ko
namespace L2
open PySem PySem.Spec PyProof.Rows
section
variable {X : Cx} {C f : Addr} {fd : FuncData} {ps : List Str} {sp : Sp} {n : Nat}
/-- what an own class tells of its == -/
structure OwnCmp (K : PySem.W.Frag) (C f : Addr) : Prop where
  eq : PySem.W.findIn K (.ref C) "__eq__" = some (some (.ref f))
  fn : PySem.W.isFn K (.ref f) = true
  ne : PySem.W.findIn K (.ref C) "__ne__" = some (some (.builtin "object.__ne__"))
  mr : PySem.W.mroIn K C (.type "object") = some true
/-- x == y, x != y: x an instance of C, y of the type t -/
def rOwnC (K : PySem.W.Frag) (C : Addr) (sp : Sp) (g : Bool → Bool) : R2 := fun x y H Q => ∃ a dx fs t, x = .ref a ∧ H a = some (.ins C dx fs) ∧ TyX K H y t ∧ PySem.W.notFirst K C t = true ∧ sp [x, y] H (fun v H' => ∃ c, v = .bl c ∧ Q (.bl (g c)) H') fun _ _ _ => False
theorem typeLook {pins : List (Addr × Obj)} {σ : St} {H : Hp} {s : Shared} {M : Model} {x : V} {u t : Value} (I : Inv X pins σ H s) (rx : RelV x u) (ty : TyX X.K H x t) : PySem.W.Looks M s.heap (typeOf u) t := by
  obtain ⟨P, kx, hp, _⟩ := kit_of I rx ty
  exact kx.ty M _ I.kIn hp
/-- a def of the text, called at another depth -/
theorem run_at {CX : CXT} {E : XK} {pins : List (Addr × Obj)} {σ : St} {H : Hp} {s : Shared} {vs : List V} {us : List Value} {Q : VK} {A : Around} (F : FnOk X.prog X.w X.K X.mg X.base CX n f fd ps sp) (hb : Binds X.K fd ps []) (hx : Passes CX X E) (hA : A.frames = X.A.frames) (hr : Room n A)
    (I : Inv X pins σ H s) (r : Vals vs us) (q : sp vs H Q E) : wpAny (model X.prog X.w) A (call (.ref f) us) (EP X pins σ Q) X.xe s := by
  have e0 : Env0 X.prog X.w X.K X.mg X.base A X.stack s H := by
    have e := I.env0
    exact ⟨hA.trans e.frames, e.mod, e.bs, e.bsz, e.funs, e.frf, e.hok, e.bare⟩
  have hl := F.len _ _ _ _ q
  have hlu : us.length = ps.length := by rw [← r.length]; exact hl
  refine wpAny_call (codeAny_mono (F.run A X.stack s H ⟨us, []⟩ us vs Q E hr e0 (by simpa using hb s us I.kIn (by simpa using hlu)) r q) fun r' s' hq => ?_)
  cases r' with
  | error e => exact hx pins σ H s e s' I hq
  | ok fl =>
    cases fl with
    | ret w => exact I.after hq
    | next => exact hq.elim
    | brk => exact hq.elim
    | cont => exact hq.elim
theorem own_at {pins : List (Addr × Obj)} {σ : St} {H : Hp} {s : Shared} {a dx : Addr} {fs : List (Str × V)} (I : Inv X pins σ H s) (ha : H a = some (.ins C dx fs)) : ∃ (ox : Obj) (od : Option Obj), PySem.W.InstAt s.heap a ox C od := by
  obtain ⟨mA, J, _⟩ := ins_get I.hok ha
  obtain ⟨od, J, _⟩ := J.look
  exact ⟨_, _, J⟩
theorem op_ownEq (F : FnOk X.prog X.w X.K X.mg X.base CX0 n f fd ps sp) (O : OwnCmp X.K C f) (hb : Binds X.K fd ps []) (hr : Room n X.A) : OpR X (compareOp .Eq) (rOwnC X.K C sp id) := by
  intro pins s σ H x y v u Q I rx ry ⟨a, dx, fs, t, ex, ha, ht, hn, q⟩
  subst ex
  cases rx
  obtain ⟨ox, od, J⟩ := own_at I ha
  obtain ⟨m, hF⟩ := I.fr
  refine PySem.W.cmp_ofEq (PySem.W.cmp_K (op := .Eq) (tb := t) hr.units0 hF I.ok.mod.kin J (typeLook I ry ht) hn O.eq O.fn ?_)
  refine wpAny_mono (run_at F hb pass0 rfl hr I (vs := [.ref a, y]) (.cons rfl (.cons ry .nil)) q) (fun r s' z => ?_) fun _ _ z => z
  obtain ⟨v', H', I', rv, c, e, q'⟩ := z
  subst e
  cases rv
  exact ⟨.bl c, H', I', rfl, q'⟩
theorem op_ownNe (F : FnOk X.prog X.w X.K X.mg X.base CX0 n f fd ps sp) (O : OwnCmp X.K C f) (hb : Binds X.K fd ps []) (hr : Room (n + 1) X.A) : OpR X (compareOp .NotEq) (rOwnC X.K C sp not) := by
  intro pins s σ H x y v u Q I rx ry ⟨a, dx, fs, t, ex, ha, ht, hn, q⟩
  subst ex
  cases rx
  obtain ⟨ox, od, J⟩ := own_at I ha
  refine PySem.W.cmp_ofNotEq (Ko.ne_own (by have := hr.un; omega) I.kIn J (typeLook I ry ht) hn O.mr O.ne O.eq O.fn ?_)
  refine wpAny_mono (run_at (A := X.A.in1) F hb pass0 rfl hr.in1 I (vs := [.ref a, y]) (.cons rfl (.cons ry .nil)) q) (fun r s' z => ?_) fun _ _ z => z
  obtain ⟨v', H', I', rv, c, e, q'⟩ := z
  subst e
  cases rv
  exact ⟨c, rfl, .bl (!c), H', I', rfl, q'⟩
end
end L2
namespace L2
open PySem PySem.Spec PyProof.Rows
section
variable {X : Cx} {C f : Addr} {fd : FuncData} {ps : List Str} {sp : Sp} {n : Nat}
/-- str(o) by an own __str__ -/
def rStrOwn (C : Addr) (sp : Sp) : List V → Hp → VK → Prop := fun xs H Q => ∃ a dx fs, xs = [.ref a] ∧ H a = some (.ins C dx fs) ∧ sp [.ref a] H (fun v H' => ∃ z, v = .str z ∧ Q v H') fun _ _ _ => False
theorem call_strOwn (F : FnOk X.prog X.w X.K X.mg X.base CX0 n f fd ps sp) (hs : PySem.W.findIn X.K (.ref C) "__str__" = some (some (.ref f))) (hf : PySem.W.isFn X.K (.ref f) = true) (hb : Binds X.K fd ps []) (hr : Room (n + 2) X.A) :
    CallR X (.type "str") (rStrOwn C sp) := by
  intro pins s σ H xs us Q I r ⟨a, dx, fs, e, ha, q⟩
  subst e
  rw [Vals.ref1 r]
  obtain ⟨ox, od, J⟩ := own_at I ha
  refine PySem.W.kso_call (by have h := hr.un; show X.A.units + 1 + 1 < cLine; omega) I.kIn J hs hf ?_
  refine wpAny_mono (run_at (A := X.A.in1.in1) F hb pass0 rfl hr.in1.in1 I (vs := [.ref a]) (.cons rfl .nil) q) (fun v s' z => ?_) fun _ _ z => z
  obtain ⟨v', H', I', rv, y, e, q'⟩ := z
  subst e
  obtain ⟨t, rfl⟩ := rv
  exact ⟨.str y, H', I', ⟨t, rfl⟩, q'⟩
end
end L2
namespace Kd
open PySem L2
/-- what a class tells of its instances' type -/
structure InsT (K : PySem.W.Frag) (C : Addr) : Prop where
  cl : Cls K C
  cc : PySem.W.findIn K (.ref C) "__class__" = some (some (.builtin "object.__class__"))
  cg : PySem.W.specialIn K (.builtin "object.__class__") "__get__" = some (some (.builtin "getset_descriptor.__get__"))
  ct : PySem.W.takesIn K (.builtin "object.__class__") = some true
  mr : PySem.W.mroIn K C (.type "object") = some true
  ne : PySem.W.findIn K (.ref C) "__ne__" = some (some (.builtin "object.__ne__"))
  ic : PySem.W.isClsIn K C = true
  it : PySem.W.typeIn K (.ref C) = some (.type "type")
theorem InsT.ty {K : PySem.W.Frag} {C : Addr} (i : InsT K C) {H : Hp} {a dx : Addr} {fs : List (Str × V)} (e : H a = some (.ins C dx fs)) : TyX K H (.ref a) (.ref C) := .base (.ins e i.cl i.cc i.cg i.ct i.mr)
theorem kit_self {K : PySem.W.Frag} {C : Addr} : PySem.W.kitOne K (.ref C) (.ref C) = some true := by
  show (if (Value.ref C == Value.ref C) = true then some true else _) = some true
  rw [if_pos (by simp)]
theorem sub_data {K : PySem.W.Frag} {C : Addr} : ∀ d : PyData, PySem.W.subIn K (.type (tyN d)) (.ref C) = some false
  | .none => by have e : fastBuiltinMro "NoneType" = some [.type "NoneType", .type "object"] := by decide +kernel
                show (fastBuiltinMro "NoneType").map (·.contains (.ref C)) = some false; rw [e]; simp
  | .bool _ => by have e : fastBuiltinMro "bool" = some [.type "bool", .type "int", .type "object"] := by decide +kernel
                  show (fastBuiltinMro "bool").map (·.contains (.ref C)) = some false; rw [e]; simp
  | .int _ => by have e : fastBuiltinMro "int" = some [.type "int", .type "object"] := by decide +kernel
                 show (fastBuiltinMro "int").map (·.contains (.ref C)) = some false; rw [e]; simp
  | .str _ => by have e : fastBuiltinMro "str" = some [.type "str", .type "object"] := by decide +kernel
                 show (fastBuiltinMro "str").map (·.contains (.ref C)) = some false; rw [e]; simp
  | .list _ => by have e : fastBuiltinMro "list" = some [.type "list", .type "object"] := by decide +kernel
                  show (fastBuiltinMro "list").map (·.contains (.ref C)) = some false; rw [e]; simp
  | .tuple _ => by have e : fastBuiltinMro "tuple" = some [.type "tuple", .type "object"] := by decide +kernel
                   show (fastBuiltinMro "tuple").map (·.contains (.ref C)) = some false; rw [e]; simp
  | .dict _ => by have e : fastBuiltinMro "dict" = some [.type "dict", .type "object"] := by decide +kernel
                  show (fastBuiltinMro "dict").map (·.contains (.ref C)) = some false; rw [e]; simp
theorem kitCls_own {K : PySem.W.Frag} {C : Addr} {t : Value} (h1 : PySem.W.isClsIn K C = true) (h2 : PySem.W.typeIn K (.ref C) = some (.type "type")) : PySem.W.kitCls K t (.ref C) = PySem.W.subIn K t (.ref C) := by
  have h1' : (PySem.W.clsIn K C).isSome = true := h1
  unfold PySem.W.kitCls
  dsimp only
  rw [if_pos]
  simp [h1', h2]
/-- isinstance(data, C) is false -/
theorem InsT.no {K : PySem.W.Frag} {C : Addr} (i : InsT K C) (d : PyData) : PySem.W.kitOne K (.type (tyN d)) (.ref C) = some false := by
  have h1 : PySem.W.kitOne K (.type (tyN d)) (.ref C) = PySem.W.kitCls K (.type (tyN d)) (.ref C) := by
    show (if (Value.type (tyN d) == Value.ref C) = true then some true else _) = _
    rw [if_neg (by simp)]
  rw [h1, kitCls_own i.ic i.it]
  exact sub_data d
theorem exm_own {K : PySem.W.Frag} {S : Addr} (h1 : PySem.W.subIn K (.ref S) (.type "BaseException") = some true) (h2 : PySem.W.isClsIn K S = true) (h3 : PySem.W.typeIn K (.ref S) = some (.type "type")) {E : Addr} {r : Bool} (h0 : PySem.W.subIn K (.ref E) (.type "BaseException") = some true) (h4 : PySem.W.subIn K (.ref E) (.ref S) = some r) :
    PySem.W.exmOne K (.ref E) (.ref S) = some r := by
  have e1 : (PySem.W.subIn K (.ref S) (.type "BaseException") == some true) = true := by rw [h1] <;> rfl
  have e2 : ((PySem.W.clsIn K S).isSome && PySem.W.typeIn K (.ref S) == some (.type "type")) = true := by
    have h2' : (PySem.W.clsIn K S).isSome = true := h2
    rw [h2', h3] <;> rfl
  show (if (PySem.W.subIn K (.ref S) (.type "BaseException") == some true) = true then (if ((PySem.W.clsIn K S).isSome && PySem.W.typeIn K (.ref S) == some (.type "type")) = true then PySem.W.subIn K (.ref E) (.ref S) else none) else none) = some r
  rw [if_pos e1, if_pos e2]
  exact h4
theorem not_first {K : PySem.W.Frag} {C : Addr} (d : PyData) : PySem.W.notFirst K C (.type (tyN d)) = true := by
  unfold PySem.W.notFirst
  rw [sub_data d]
  simp
theorem not_first_self {K : PySem.W.Frag} {C : Addr} : PySem.W.notFirst K C (.ref C) = true := by
  unfold PySem.W.notFirst
  simp
theorem InsT.own {K : PySem.W.Frag} {C f : Addr} (i : InsT K C) (m : Meth K C "__eq__" f) : OwnCmp K C f := ⟨m.at_, m.fn, i.ne, i.mr⟩
end Kd
/-! The layer's rules with the written part as a letter of its own (within a comprehension the context's own field is no name). -/
namespace Kv
open PySem L2
section
variable {X : Cx} {K : PySem.W.Frag}
def rLen (K : PySem.W.Frag) : List V → Hp → VK → Prop := fun xs H Q => ∃ p ys, xs = [.ref p] ∧ (SqL K H p ys ∨ SqT K H p ys) ∧ Q (.int ys.length) H
theorem call_len (h : X.K = K) : CallR X (.builtin "len") (rLen K) := by subst h; exact call_len_seq
def rList (K : PySem.W.Frag) : List V → Hp → VK → Prop := fun xs H Q => ∃ p ys, xs = [.ref p] ∧ (SqL K H p ys ∨ SqT K H p ys) ∧ ∀ l, H l = none → Q (.ref l) (upd H l (.lst ys))
theorem call_list (h : X.K = K) : CallR X (.type "list") (rList K) := by subst h; exact call_list_of
def rTuple (K : PySem.W.Frag) : List V → Hp → VK → Prop := fun xs H Q => ∃ p ys, xs = [.ref p] ∧ ((SqL K H p ys ∧ ∀ l, H l = none → Q (.ref l) (upd H l (.tup ys))) ∨ (SqT K H p ys ∧ Q (.ref p) H))
theorem call_tuple (h : X.K = K) : CallR X (.type "tuple") (rTuple K) := by subst h; exact call_tuple_of
theorem call_isi (h : X.K = K) : CallR X (.builtin "isinstance") (rIsi K) := by subst h; exact L2.call_isi
theorem call_sort (h : X.K = K) : CallR X (.builtin "sorted") (rSortU K) := by subst h; exact cr_sortU
theorem call_all (h : X.K = K) (hc : X.calm = true) : CallR X (.builtin "all") (rAll K) := by subst h; exact cr_all hc
theorem call_repr (h : X.K = K) (hG : X.A.guards = some []) (hu : X.A.units + 64 < cLine) : CallR X (.builtin "repr") (rReprD K) := by subst h; exact call_reprD hG hu
theorem ix_list (h : X.K = K) : IxR X (rIxL K) := by subst h; exact L2.ix_list
theorem ix_tup (h : X.K = K) : IxR X (rIxT K) := by subst h; exact L2.ix_tup
theorem ix_seq (h : X.K = K) : IxR X (rIx K) := by subst h; exact L2.ix_seq
theorem op_in (h : X.K = K) : OpR X (compareOp .In) (rIn K false) := by subst h; exact op_in_seq
theorem op_notIn (h : X.K = K) : OpR X (compareOp .NotIn) (rIn K true) := by subst h; exact op_notIn_seq
theorem op_eqD (h : X.K = K) (hu : X.A.units + 64 < cLine) : OpR X (compareOp .Eq) (rEqD K) := by subst h; exact L2.op_eqD hu
theorem op_neD (h : X.K = K) (hu : X.A.units + 64 < cLine) : OpR X (compareOp .NotEq) (rNeD K) := by subst h; exact L2.op_neD hu
theorem sl_list (h : X.K = K) : SlR X (rSlL K) := by subst h; exact L2.sl_list
theorem sl_tup (h : X.K = K) : SlR X (rSlT K) := by subst h; exact L2.sl_tup
variable {e o : Expr} {es : List Expr} {ta to : TE} {t : TA} {pos apos cpos : Pos} {f name : Str} {T id : String} {r : V → List V → Hp → VK → Prop}
theorem pe_fld (h : X.K = K) (he : PE X e ta) (hl : attributeBase e f X.env (eval e X.env) = eval e X.env) : PE X (.Attribute e f pos) (tFld K ta f) := by subst h; exact L2.pe_fld he hl
theorem pe_bm (h : X.K = K) (pa : PlainAttrs T) (slot : Slot T name id) (hty : typeOf (.builtin id) = pure (.type "method_descriptor")) (hm : MtR X id r) (ho : PE X o to) (ha : PA X (e :: es) t) (hb : attributeBase o name X.env (eval o X.env) = eval o X.env := by rfl)
    (hw : ((backTo cpos (starEach (e :: es) X.env)).all (fun x => !x.1) && (backToKw cpos (keywordEach [] X.env)).all (fun x => x.1.isSome) && decide ((e :: es).length + ([] : List Keyword).length + (if ([] : List Keyword).isEmpty then 0 else 1) < 30)) = true := by rfl)
    (hn : (apos.endLine == cpos.line) = true := by rfl) (hs : starEach (e :: es) X.env = (false, eval e X.env) :: starEach es X.env := by rfl) (hp : (backTo cpos (starEach es X.env)).any (·.1) = false := by rfl) :
    PE X (.Call (.Attribute o name apos) (e :: es) [] cpos) (tBM K T r to t) := by subst h; exact L2.pe_bm pa slot hty hm ho ha hb hw hn hs hp
end
end Kv
/-! sorted(xs), xs a list of data of one kind -/
namespace Kd
open PySem PySem.W PyProof.Rows L2
/-- the sorted data -/
def srtD (ds : List PyData) : List PyData := ds.mergeSort (dataLe false id)
/-- data that sorted takes -/
structure SortOk (ds : List PyData) : Prop where
  al : AllAlike ds
  so : Sortable ds
  dp : ∀ d ∈ ds, d.depth ≤ 8
theorem each_of {K : PySem.W.Frag} {H : Hp} : ∀ {xs : List V} {ds : List PyData} {us : List Value}, DpAll K H xs ds → Vals xs us → EachIs (fun v (b : V × PyData) => RelV b.1 v) us (xs.zip ds)
  | [], _, _, h, r => by cases h; cases r; exact .nil
  | x :: xs, _, _, h, r => by
    cases h with
    | cons _ h2 =>
      cases r with
      | cons r1 r2 => exact .cons r1 (each_of h2 r2)
theorem reads_of {X : Cx} {pins : List (Addr × Obj)} {σ : L2.St} {H : Hp} {s : Shared} (I : Inv X pins σ H s) : ∀ {xs : List V} {ds : List PyData} {us : List Value}, DpAll X.K H xs ds → Vals xs us → EachIs (fun v (b : V × PyData) => ∃ as, Reads s.heap v b.2 as) us (xs.zip ds)
  | [], _, _, h, r => by cases h; cases r; exact .nil
  | x :: xs, _, _, h, r => by
    cases h with
    | cons h1 h2 =>
      cases r with
      | cons r1 r2 => exact .cons (Dp.reads I _ _ _ h1 r1) (reads_of I h2 r2)
theorem zip_fst : ∀ {xs : List V} {ds : List PyData}, xs.length = ds.length → (xs.zip ds).map (·.1) = xs
  | [], [], _ => rfl
  | x :: xs, d :: ds, h => by rw [List.zip_cons_cons, List.map_cons, zip_fst (Nat.succ.inj h)]
  | [], _ :: _, h => by cases h
  | _ :: _, [], h => by cases h
theorem zip_snd : ∀ {xs : List V} {ds : List PyData}, xs.length = ds.length → (xs.zip ds).map (·.2) = ds
  | [], [], _ => rfl
  | x :: xs, d :: ds, h => by rw [List.zip_cons_cons, List.map_cons, zip_snd (Nat.succ.inj h)]
  | [], _ :: _, h => by cases h
  | _ :: _, [], h => by cases h
theorem dpAll_len' {K : PySem.W.Frag} {H : Hp} : ∀ {xs : List V} {ds : List PyData}, DpAll K H xs ds → xs.length = ds.length
  | [], _, h => by cases h; rfl
  | x :: xs, _, h => by cases h with | cons _ h2 => exact congrArg Nat.succ (dpAll_len' h2)
theorem dp_mem {K : PySem.W.Frag} {H : Hp} : ∀ {xs : List V} {ds : List PyData}, DpAll K H xs ds → ∀ b ∈ xs.zip ds, Dp K H b.1 b.2
  | [], _, h, b, hb => by cases h; cases hb
  | x :: xs, _, h, b, hb => by
    cases h with
    | cons h1 h2 =>
      rw [List.zip_cons_cons] at hb
      rcases List.mem_cons.mp hb with rfl | hb
      · exact h1
      · exact dp_mem h2 b hb
theorem dp_maps {K : PySem.W.Frag} {H : Hp} : ∀ {bs : List (V × PyData)}, (∀ b ∈ bs, Dp K H b.1 b.2) → DpAll K H (bs.map (·.1)) (bs.map (·.2))
  | [], _ => .nil
  | b :: bs, h => .cons (h b List.mem_cons_self) (dp_maps fun c hc => h c (List.mem_cons_of_mem _ hc))
theorem vals_each : ∀ {bs : List (V × PyData)} {us : List Value}, EachIs (fun v (b : V × PyData) => RelV b.1 v) us bs → Vals (bs.map (·.1)) us
  | [], _, h => by cases h; exact .nil
  | b :: bs, _, h => by cases h with | cons h1 h2 => exact .cons h1 (vals_each h2)
@[irreducible] def rSortD (K : PySem.W.Frag) : List V → Hp → VK → Prop := fun vs H Q => ∃ (a : Addr) (xs : List V) (ds : List PyData), vs = [V.ref a] ∧ SqL K H a xs ∧ DpAll K H xs ds ∧ SortOk ds ∧
  ∀ (bs : List (V × PyData)) (p : Addr), bs.Perm (xs.zip ds) → bs.map (·.2) = srtD ds → H p = none → Q (.ref p) (upd H p (.lst (bs.map (·.1))))
theorem cr_sortD {X : Cx} {K : PySem.W.Frag} (hK : X.K = K) (hu : X.A.units + 64 < cLine) : CallR X (.builtin "sorted") (rSortD K) := by
  intro pins s σ H vs us Q I r h
  unfold rSortD at h
  obtain ⟨a, xs, ds, e, hs, hd, ok, q⟩ := h
  subst e
  subst hK
  rw [Vals.ref1 r]
  obtain ⟨its, rv, hl, hz⟩ := I.list hs
  have len := dpAll_len' hd
  have lz : (xs.zip ds).length = xs.length := by rw [List.length_zip, len]; exact Nat.min_self _
  have es := each_of hd rv
  have er := reads_of I hd rv
  have e2 : (xs.zip ds).map (fun b => b.2) = ds := zip_snd len
  refine sorted_data (enc := fun b : V × PyData => b.2) (R := fun v b => RelV b.1 v) hl.isList es er (by rw [e2]; exact ok.al) (by rw [e2]; exact ok.so) (by rw [lz]; exact hz) (fun b hb => ?_) fun out ho eo => ?_
  · have hm : b.2 ∈ ds := (List.of_mem_zip hb).2
    have := ok.dp _ hm
    omega
  · obtain ⟨ep, he⟩ := sortedAll_at s.heap its out.toArray
    have pm : ((xs.zip ds).mergeSort (dataLe false fun b : V × PyData => b.2)).Perm (xs.zip ds) := List.mergeSort_perm _ _
    have hy := vals_each eo
    have hp : (((xs.zip ds).mergeSort (dataLe false fun b : V × PyData => b.2)).map (·.1)).length = xs.length := by rw [List.length_map, pm.length_eq, lz]
    have hsnd : ((xs.zip ds).mergeSort (dataLe false fun b : V × PyData => b.2)).map (fun b : V × PyData => b.2) = srtD ds := by
      unfold srtD
      have z := sort_maps (r := dataLe false fun b : V × PyData => b.2) (s := dataLe false (id : PyData → PyData)) (fun b : V × PyData => b.2) (l := xs.zip ds) (fun _ _ _ _ => rfl)
      rw [z, e2]
    exact ⟨.ref _, upd H (s.heap.objs.size + 1) (.lst (((xs.zip ds).mergeSort (dataLe false fun b : V × PyData => b.2)).map (·.1))), I.laid (t' := s.toks) (fun _ _ => sortedAll_old) (Nat.le_succ _) ⟨by rw [hp]; exact hz, out, ep, hy, he⟩, rfl,
      q _ _ pm hsnd (I.hok.fresh (Nat.le_succ _))⟩
end Kd
/-! Data with a Lean type over the layer: what a value holds, what ==, in and sorted say of it. -/
namespace Ky
open PySem L2 Evl Kd
open PySem.W (Datum DatumOrd T3)
section
variable {α β γ : Type} [DecidableEq α] [Datum α] [DecidableEq β] [Datum β] [DecidableEq γ] [Datum γ] {K : PySem.W.Frag} {H H' : Hp} {v : V} {vs : List V}
/-- v holds x -/
def Hd (K : PySem.W.Frag) (H : Hp) (v : V) (x : α) : Prop := Dp K H v (Datum.toD x)
/-- item by item -/
def HdL (K : PySem.W.Frag) (H : Hp) (vs : List V) (xs : List α) : Prop := DpAll K H vs (xs.map Datum.toD)
theorem Hd.ex {x : α} (h : Hd K H v x) (e : Ex H H') : Hd K H' v x := dp_ex e _ _ h
theorem HdL.ex {xs : List α} (h : HdL K H vs xs) (e : Ex H H') : HdL K H' vs xs := dpAll_ex e _ _ h
theorem HdL.nil : HdL K H [] ([] : List α) := DpAll.nil
theorem HdL.cons {x : α} {xs : List α} (h : Hd K H v x) (t : HdL K H vs xs) : HdL K H (v :: vs) (x :: xs) := DpAll.cons h t
theorem HdL.head {x : α} {xs : List α} (h : HdL K H (v :: vs) (x :: xs)) : Hd K H v x := by cases h with | cons h1 _ => exact h1
theorem HdL.tail {x : α} {xs : List α} (h : HdL K H (v :: vs) (x :: xs)) : HdL K H vs xs := by cases h with | cons _ h2 => exact h2
theorem HdL.len : ∀ {vs : List V} {xs : List α}, HdL K H vs xs → vs.length = xs.length
  | [], [], _ => rfl
  | [], _ :: _, h => by cases h
  | _ :: _, [], h => by cases h
  | _ :: _, _ :: _, h => congrArg Nat.succ (HdL.len h.tail)
theorem HdL.app : ∀ {vs us : List V} {xs ys : List α}, HdL K H vs xs → HdL K H us ys → HdL K H (vs ++ us) (xs ++ ys)
  | [], _, [], _, _, h => h
  | [], _, _ :: _, _, h, _ => by cases h
  | _ :: _, _, [], _, h, _ => by cases h
  | _ :: _, _, _ :: _, _, h, t => .cons h.head (HdL.app h.tail t)
theorem HdL.get : ∀ {vs : List V} {xs : List α} {i : Nat} {v : V}, HdL K H vs xs → vs[i]? = some v → ∃ x, xs[i]? = some x ∧ Hd K H v x
  | [], _, _, _, _, e => by cases e
  | _ :: _, [], _, _, h, _ => by cases h
  | _ :: _, x :: _, 0, _, h, e => ⟨x, rfl, by cases e; exact h.head⟩
  | _ :: _, _ :: _, i + 1, _, h, e => HdL.get (i := i) h.tail e
theorem HdL.at : ∀ {vs : List V} {xs : List α} {i : Nat} {x : α}, HdL K H vs xs → xs[i]? = some x → ∃ v, vs[i]? = some v ∧ Hd K H v x
  | _, [], _, _, _, e => by cases e
  | [], _ :: _, _, _, h, _ => by cases h
  | v :: _, _ :: _, 0, _, h, e => ⟨v, rfl, by cases e; exact h.head⟩
  | _ :: _, _ :: _, i + 1, _, h, e => HdL.at (i := i) h.tail e
theorem HdL.mem {xs : List α} {v : V} (h : HdL K H vs xs) (m : v ∈ vs) : ∃ x ∈ xs, Hd K H v x := by
  obtain ⟨i, hi⟩ := List.getElem?_of_mem m
  obtain ⟨x, hx, hv⟩ := h.get hi
  exact ⟨x, List.mem_of_getElem? hx, hv⟩
theorem HdL.take (n : Nat) : ∀ {vs : List V} {xs : List α}, HdL K H vs xs → HdL K H (vs.take n) (xs.take n) := by
  induction n with
  | zero => intro _ _ _; exact .nil
  | succ n ih =>
    intro vs xs h
    cases vs with
    | nil => cases xs with
      | nil => exact .nil
      | cons => cases h
    | cons => cases xs with
      | nil => cases h
      | cons => exact .cons h.head (ih h.tail)
theorem HdL.drop (n : Nat) : ∀ {vs : List V} {xs : List α}, HdL K H vs xs → HdL K H (vs.drop n) (xs.drop n) := by
  induction n with
  | zero => intro _ _ h; exact h
  | succ n ih =>
    intro vs xs h
    cases vs with
    | nil => cases xs with
      | nil => exact .nil
      | cons => cases h
    | cons => cases xs with
      | nil => cases h
      | cons => exact ih h.tail
/-- what is mixed holds the same, mixed -/
theorem HdL.perm : ∀ {us vs : List V}, us.Perm vs → ∀ {xs : List α}, HdL K H vs xs → ∃ ys : List α, ys.Perm xs ∧ HdL K H us ys := by
  intro us vs p
  induction p with
  | nil => intro xs h; exact ⟨xs, .refl _, h⟩
  | cons x _ ih =>
    intro xs h
    cases xs with
    | nil => cases h
    | cons z zs =>
      obtain ⟨ys, p, hy⟩ := ih h.tail
      exact ⟨z :: ys, p.cons z, .cons h.head hy⟩
  | swap a b l =>
    intro xs h
    cases xs with
    | nil => cases h
    | cons z zs => cases zs with
      | nil => cases h.tail
      | cons u us => exact ⟨u :: z :: us, List.Perm.swap .., .cons h.tail.head (.cons h.head h.tail.tail)⟩
  | trans _ _ ih1 ih2 =>
    intro xs h
    obtain ⟨ys, p, hy⟩ := ih2 h
    obtain ⟨zs, q, hz⟩ := ih1 hy
    exact ⟨zs, q.trans p, hz⟩
theorem hd_str (z : Str) : Hd K H (.str z) z := Dp.str z
theorem Hd.str {z : Str} (h : Hd K H v z) : v = .str z := by cases h; rfl
theorem hd_int (i : Int) : Hd K H (.int i) i := Dp.int i
theorem Hd.int {i : Int} (h : Hd K H v i) : v = .int i := by cases h; rfl
theorem HdL.strs : ∀ {vs : List V} {zs : List Str}, HdL K H vs zs → vs = zs.map V.str
  | [], [], _ => rfl
  | [], _ :: _, h => by cases h
  | _ :: _, [], h => by cases h
  | _ :: _, _ :: _, h => by rw [h.head.str, HdL.strs h.tail]; rfl
theorem hdL_strs : ∀ zs : List Str, HdL K H (zs.map V.str) zs
  | [] => .nil
  | z :: zs => .cons (Dp.str z) (hdL_strs zs)
theorem hd_list {a : Addr} {xs : List α} (h : SqL K H a vs) (t : HdL K H vs xs) : Hd K H (.ref a) xs := Dp.lst h t
theorem Hd.list {xs : List α} (h : Hd K H v xs) : ∃ a vs, v = .ref a ∧ SqL K H a vs ∧ HdL K H vs xs := by cases h with | lst h t => exact ⟨_, _, rfl, h, t⟩
theorem hd_pair {a : Addr} {u w : V} {x : α} {y : β} (h : SqT K H a [u, w]) (hx : Hd K H u x) (hy : Hd K H w y) : Hd K H (.ref a) (x, y) := Dp.tup h (DpAll.cons hx (DpAll.cons hy DpAll.nil))
theorem Hd.pair {p : α × β} (h : Hd K H v p) : ∃ a u w, v = .ref a ∧ SqT K H a [u, w] ∧ Hd K H u p.1 ∧ Hd K H w p.2 := by
  cases h with
  | tup h t =>
    cases t with
    | cons h1 t => cases t with
      | cons h2 t => cases t; exact ⟨_, _, _, rfl, h, h1, h2⟩
theorem hd_t3 {a : Addr} {u w z : V} {x : α} {y : β} {c : γ} (h : SqT K H a [u, w, z]) (hx : Hd K H u x) (hy : Hd K H w y) (hz : Hd K H z c) : Hd K H (.ref a) (T3.mk x y c) := Dp.tup h (DpAll.cons hx (DpAll.cons hy (DpAll.cons hz DpAll.nil)))
theorem Hd.t3 {p : T3 α β γ} (h : Hd K H v p) : ∃ a u w z, v = .ref a ∧ SqT K H a [u, w, z] ∧ Hd K H u p.a ∧ Hd K H w p.b ∧ Hd K H z p.c := by
  cases h with
  | tup h t =>
    cases t with
    | cons h1 t => cases t with
      | cons h2 t => cases t with
        | cons h3 t => cases t; exact ⟨_, _, _, _, rfl, h, h1, h2, h3⟩
end
/-! == and in, by what is held -/
section
variable {X : Cx} {K : PySem.W.Frag}
def deepOk (d : PyData) : Prop := d.plain = true ∧ d.depth ≤ 40
@[irreducible] def rEqP (K : PySem.W.Frag) : R2 := fun x y H Q => ∃ d e, Dp K H x d ∧ Dp K H y e ∧ deepOk d ∧ deepOk e ∧ Q (.bl (PyData.eqv d e)) H
@[irreducible] def rNeP (K : PySem.W.Frag) : R2 := fun x y H Q => ∃ d e, Dp K H x d ∧ Dp K H y e ∧ deepOk d ∧ deepOk e ∧ Q (.bl (!PyData.eqv d e)) H
@[irreducible] def rInP (K : PySem.W.Frag) : R2 := fun x y H Q => ∃ d ds, Dp K H x d ∧ (Dp K H y (.list ds) ∨ Dp K H y (.tuple ds)) ∧ deepOk d ∧ deepOk (.list ds) ∧ Q (.bl (ds.any fun z => PyData.eqv z d)) H
@[irreducible] def rNotInP (K : PySem.W.Frag) : R2 := fun x y H Q => ∃ d ds, Dp K H x d ∧ (Dp K H y (.list ds) ∨ Dp K H y (.tuple ds)) ∧ deepOk d ∧ deepOk (.list ds) ∧ Q (.bl (!ds.any fun z => PyData.eqv z d)) H
theorem op_eqP (hK : X.K = K) (hu : X.A.units + 64 < cLine) : OpR X (compareOp .Eq) (rEqP K) := by
  intro pins s σ H x y v u Q I rx ry h
  unfold rEqP at h
  obtain ⟨d, e, hd, he, od, oe, q⟩ := h
  subst hK
  obtain ⟨as, r1⟩ := Dp.reads I d x v hd rx
  obtain ⟨bs, r2⟩ := Dp.reads I e y u he ry
  have := od.2
  exact SeqAt.eq_plain r1 r2 od.1 oe.1 (by omega) ⟨.bl _, H, I, rfl, q⟩
theorem op_neP (hK : X.K = K) (hu : X.A.units + 64 < cLine) : OpR X (compareOp .NotEq) (rNeP K) := by
  intro pins s σ H x y v u Q I rx ry h
  unfold rNeP at h
  obtain ⟨d, e, hd, he, od, oe, q⟩ := h
  subst hK
  obtain ⟨as, r1⟩ := Dp.reads I d x v hd rx
  obtain ⟨bs, r2⟩ := Dp.reads I e y u he ry
  have := od.2
  exact SeqAt.ne_plain r1 r2 od.1 oe.1 (by omega) ⟨.bl _, H, I, rfl, q⟩
theorem op_inP (hK : X.K = K) (hu : X.A.units + 64 < cLine) : OpR X (compareOp .In) (rInP K) := by
  intro pins s σ H x y v u Q I rx ry h
  unfold rInP at h
  obtain ⟨d, ds, hd, he, od, oe, q⟩ := h
  subst hK
  obtain ⟨as, r1⟩ := Dp.reads I d x v hd rx
  have := od.2
  rcases he with he | he
  · obtain ⟨bs, r2⟩ := Dp.reads I _ y u he ry
    exact SeqAt.in_list_data r2 r1 oe.1 od.1 (by omega) ⟨.bl _, H, I, rfl, q⟩
  · obtain ⟨bs, r2⟩ := Dp.reads I _ y u he ry
    exact SeqAt.in_tuple_data r2 r1 oe.1 od.1 (by omega) ⟨.bl _, H, I, rfl, q⟩
theorem op_notInP (hK : X.K = K) (hu : X.A.units + 64 < cLine) : OpR X (compareOp .NotIn) (rNotInP K) := by
  intro pins s σ H x y v u Q I rx ry h
  unfold rNotInP at h
  obtain ⟨d, ds, hd, he, od, oe, q⟩ := h
  subst hK
  obtain ⟨as, r1⟩ := Dp.reads I d x v hd rx
  have := od.2
  rcases he with he | he
  · obtain ⟨bs, r2⟩ := Dp.reads I _ y u he ry
    exact SeqAt.notIn_list_data r2 r1 oe.1 od.1 (by omega) ⟨.bl _, H, I, rfl, q⟩
  · obtain ⟨bs, r2⟩ := Dp.reads I _ y u he ry
    exact SeqAt.notIn_tuple_data r2 r1 oe.1 od.1 (by omega) ⟨.bl _, H, I, rfl, q⟩
end
section
variable {α : Type} [DecidableEq α] [Datum α] {K : PySem.W.Frag} {H : Hp} {x y : V} {a b : α} {xs : List α} {Q : VK}
/-- its data are flat enough -/
class Low (α : Type) [DecidableEq α] [Datum α] : Prop where
  low : Datum.depth α ≤ 30
theorem deep_of [Low α] (a : α) : deepOk (Datum.toD a) := ⟨Datum.plain a, Nat.le_trans (Datum.depth_le a) (Nat.le_trans Low.low (by decide))⟩
theorem deep_all [Low α] (xs : List α) : deepOk (.list (xs.map Datum.toD)) := by
  refine ⟨by simp only [PyData.plain]; exact PySem.W.plainAll_map xs, ?_⟩
  have h1 := PySem.W.depthAll_map xs
  have h2 := Low.low (α := α)
  simp only [PyData.depth]
  omega
theorem any_eqv (xs : List α) (a : α) : ((xs.map Datum.toD).any fun z => PyData.eqv z (Datum.toD a)) = decide (a ∈ xs) := by
  induction xs with
  | nil => rfl
  | cons x r ih =>
    rw [List.map_cons, List.any_cons, ih, Datum.eqv, Bool.eq_iff_iff]
    simp only [Bool.or_eq_true, decide_eq_true_eq, List.mem_cons]
    constructor
    · rintro (rfl | h)
      · exact .inl rfl
      · exact .inr h
    · rintro (rfl | h)
      · exact .inl rfl
      · exact .inr h
theorem eqP [Low α] (hx : Hd K H x a) (hy : Hd K H y b) (q : Q (.bl (decide (a = b))) H) : rEqP K x y H Q := by unfold rEqP; exact ⟨_, _, hx, hy, deep_of a, deep_of b, by rw [Datum.eqv]; exact q⟩
theorem neP [Low α] (hx : Hd K H x a) (hy : Hd K H y b) (q : Q (.bl (!decide (a = b))) H) : rNeP K x y H Q := by unfold rNeP; exact ⟨_, _, hx, hy, deep_of a, deep_of b, by rw [Datum.eqv]; exact q⟩
theorem inLP [Low α] (hx : Hd K H x a) {p : Addr} {vs : List V} (hl : SqL K H p vs) (hy : HdL K H vs xs) (q : Q (.bl (decide (a ∈ xs))) H) : rInP K x (.ref p) H Q := by unfold rInP; exact ⟨_, _, hx, .inl (.lst hl hy), deep_of a, deep_all xs, by rw [any_eqv]; exact q⟩
theorem notInLP [Low α] (hx : Hd K H x a) {p : Addr} {vs : List V} (hl : SqL K H p vs) (hy : HdL K H vs xs) (q : Q (.bl (!decide (a ∈ xs))) H) : rNotInP K x (.ref p) H Q := by unfold rNotInP; exact ⟨_, _, hx, .inl (.lst hl hy), deep_of a, deep_all xs, by rw [any_eqv]; exact q⟩
theorem inTP [Low α] (hx : Hd K H x a) {p : Addr} {vs : List V} (hl : SqT K H p vs) (hy : HdL K H vs xs) (q : Q (.bl (decide (a ∈ xs))) H) : rInP K x (.ref p) H Q := by unfold rInP; exact ⟨_, _, hx, .inr (.tup hl hy), deep_of a, deep_all xs, by rw [any_eqv]; exact q⟩
theorem notInTP [Low α] (hx : Hd K H x a) {p : Addr} {vs : List V} (hl : SqT K H p vs) (hy : HdL K H vs xs) (q : Q (.bl (!decide (a ∈ xs))) H) : rNotInP K x (.ref p) H Q := by unfold rNotInP; exact ⟨_, _, hx, .inr (.tup hl hy), deep_of a, deep_all xs, by rw [any_eqv]; exact q⟩
instance : Low Int := ⟨by decide⟩
instance : Low Str := ⟨by decide⟩
instance : Low (Option Str) := ⟨by decide⟩
instance : Low (T3 Str Str Str) := ⟨by decide⟩
instance : Low (T3 Int Str Int) := ⟨by decide⟩
instance : Low (Str × Option Str) := ⟨by decide⟩
instance : Low (List Str) := ⟨by decide⟩
instance : Low (List (Option Str)) := ⟨by decide⟩
instance : Low (List (T3 Str Str Str)) := ⟨by decide⟩
instance : Low (List (T3 Int Str Int)) := ⟨by decide⟩
instance : Low (List (Str × Option Str)) := ⟨by decide⟩
end
end Ky
/-! sorted, by what is held -/
namespace Ky
open PySem L2 Evl Kd
open PySem.W (Datum DatumOrd T3)
section
variable {α β γ : Type} [DecidableEq α] [DatumOrd α] [DecidableEq β] [DatumOrd β] [DecidableEq γ] [DatumOrd γ]
/-- a stands not behind b -/
def le (a b : α) : Bool := !DatumOrd.lt b a
def srt (xs : List α) : List α := xs.mergeSort le
theorem le_dataLe (a b : α) : le a b = PySem.W.dataLe false id (Datum.toD a) (Datum.toD b) := by
  unfold le
  rw [← DatumOrd.lt_eq]
  rfl
theorem le_trans (a b c : α) (h1 : le a b = true) (h2 : le b c = true) : le a c = true := by
  rw [le_dataLe] at *
  exact (PySem.W.sortLe_total _ false _).trans _ _ _ h1 h2
theorem le_total (a b : α) : (le a b || le b a) = true := by
  rw [le_dataLe, le_dataLe, Bool.or_eq_true_iff]
  exact (PySem.W.sortLe_total _ false _).total _ _
theorem srt_perm (xs : List α) : (srt xs).Perm xs := List.mergeSort_perm _ _
theorem srt_up (xs : List α) : (srt xs).Pairwise fun a b => le a b = true := List.pairwise_mergeSort le_trans le_total xs
theorem srt_toD (xs : List α) : srtD (xs.map Datum.toD) = (srt xs).map Datum.toD := by
  unfold srtD srt
  exact (PySem.W.sort_maps (r := le) (s := PySem.W.dataLe false (id : PyData → PyData)) Datum.toD (l := xs) fun a _ b _ => le_dataLe a b).symm
/-- sorted as the program sorts, and one order alone -/
class Lin (α : Type) [DecidableEq α] [DatumOrd α] : Prop where
  anti : ∀ a b : α, DatumOrd.lt a b = false → DatumOrd.lt b a = false → a = b
theorem le_anti [Lin α] {a b : α} (h1 : le a b = true) (h2 : le b a = true) : a = b := by
  unfold le at h1 h2
  rw [Bool.not_eq_true'] at h1 h2
  exact Lin.anti a b h2 h1
theorem up_one [Lin α] {xs ys : List α} (h1 : xs.Pairwise fun a b => le a b = true) (h2 : ys.Pairwise fun a b => le a b = true) (p : xs.Perm ys) : xs = ys :=
  List.Perm.eq_of_pairwise (le := fun a b => le a b = true) (fun a b _ _ => le_anti) h1 h2 p
theorem srt_one [Lin α] {xs ys : List α} (p : xs.Perm ys) : srt xs = srt ys := up_one (srt_up xs) (srt_up ys) (((srt_perm xs).trans p).trans (srt_perm ys).symm)
theorem srt_of [Lin α] {xs ys : List α} (p : ys.Perm xs) (h : ys.Pairwise fun a b => le a b = true) : srt xs = ys := up_one (srt_up xs) h ((srt_perm xs).trans p.symm)
instance : Lin Int := ⟨fun a b h1 h2 => by
  have e1 := of_decide_eq_false (show decide (a < b) = false from h1)
  have e2 := of_decide_eq_false (show decide (b < a) = false from h2)
  omega⟩
instance : Lin Str := ⟨fun a b h1 h2 => by
  have e1 := of_decide_eq_false (show decide (a.cps.toList < b.cps.toList) = false from h1)
  have e2 := of_decide_eq_false (show decide (b.cps.toList < a.cps.toList) = false from h2)
  have e : a.cps.toList = b.cps.toList := List.le_antisymm e2 e1
  obtain ⟨x⟩ := a
  obtain ⟨y⟩ := b
  rw [Array.toList_inj.mp (show x.toList = y.toList from e)]⟩
theorem lt_self [Lin α] (a : α) : DatumOrd.lt a a = false := by
  rw [← DatumOrd.lt_eq]
  exact PySem.W.dataLt_self _
instance [Lin α] [Lin β] [Lin γ] : Lin (T3 α β γ) := ⟨fun p q h1 h2 => by
  obtain ⟨a, b, c⟩ := p
  obtain ⟨d, e, f⟩ := q
  have h1 : (if a = d then (if b = e then DatumOrd.lt c f else DatumOrd.lt b e) else DatumOrd.lt a d) = false := h1
  have h2 : (if d = a then (if e = b then DatumOrd.lt f c else DatumOrd.lt e b) else DatumOrd.lt d a) = false := h2
  by_cases ha : a = d
  · subst ha
    rw [if_pos rfl] at h1 h2
    by_cases hb : b = e
    · subst hb
      rw [if_pos rfl] at h1 h2
      rw [Lin.anti c f h1 h2]
    · rw [if_neg hb] at h1
      rw [if_neg (Ne.symm hb)] at h2
      exact absurd (Lin.anti b e h1 h2) hb
  · rw [if_neg ha] at h1
    rw [if_neg (Ne.symm ha)] at h2
    exact absurd (Lin.anti a d h1 h2) ha⟩
/-- what sorted takes -/
class Sorts (α : Type) [DecidableEq α] [DatumOrd α] : Prop where
  so : ∀ xs : List α, PySem.W.Sortable (xs.map Datum.toD)
  dp : Datum.depth α ≤ 8
theorem sort_ok [Sorts α] (xs : List α) : SortOk (xs.map Datum.toD) := by
  refine ⟨(PySem.W.alikeAll_datum xs).1, Sorts.so xs, fun d hd => ?_⟩
  obtain ⟨a, _, rfl⟩ := List.mem_map.mp hd
  exact Nat.le_trans (Datum.depth_le a) Sorts.dp
instance : Sorts Int := ⟨fun xs => .inr fun d hd => by obtain ⟨a, _, rfl⟩ := List.mem_map.mp hd; exact ⟨(fun z => by cases z), fun _ z => by cases z⟩, by decide⟩
instance : Sorts Str := ⟨fun xs => .inr fun d hd => by obtain ⟨a, _, rfl⟩ := List.mem_map.mp hd; exact ⟨(fun z => by cases z), fun _ z => by cases z⟩, by decide⟩
instance : Sorts (T3 Str Str Str) := ⟨fun xs => .inl fun d hd => by obtain ⟨a, _, rfl⟩ := List.mem_map.mp hd; exact ⟨_, _, rfl⟩, by decide⟩
instance : Sorts (T3 Int Str Int) := ⟨fun xs => .inl fun d hd => by obtain ⟨a, _, rfl⟩ := List.mem_map.mp hd; exact ⟨_, _, rfl⟩, by decide⟩
theorem toD_inj {a b : α} (h : (Datum.toD a : PyData) = Datum.toD b) : a = b := by
  have z := Datum.eqv a b
  rw [h, Datum.eqv b b, decide_eq_true rfl] at z
  exact of_decide_eq_true z.symm
theorem toDs_inj : ∀ {xs ys : List α}, xs.map (Datum.toD : α → PyData) = ys.map Datum.toD → xs = ys
  | [], [], _ => rfl
  | [], _ :: _, h => by cases h
  | _ :: _, [], h => by cases h
  | x :: xs, y :: ys, h => by
    rw [List.map_cons, List.map_cons] at h
    rw [toD_inj (List.cons.inj h).1, toDs_inj (List.cons.inj h).2]
theorem zip_map_toD : ∀ (vs : List V) (xs : List α), (vs.zip xs).map (fun b => (b.1, (Datum.toD b.2 : PyData))) = vs.zip (xs.map Datum.toD)
  | [], _ => rfl
  | _ :: _, [] => rfl
  | v :: vs, x :: xs => by rw [List.zip_cons_cons, List.map_cons, zip_map_toD vs xs]; rfl
theorem paired_zip {R : V → α → Prop} : ∀ {vs : List V} {xs : List α}, Paired R vs xs → ∀ b ∈ vs.zip xs, R b.1 b.2
  | _, _, .nil, _, h => by cases h
  | _, _, .cons h1 h2, b, h => by
    rw [List.zip_cons_cons] at h
    rcases List.mem_cons.mp h with rfl | h
    · exact h1
    · exact paired_zip h2 b h
theorem paired_maps {R : V → α → Prop} : ∀ {bs : List (V × α)}, (∀ b ∈ bs, R b.1 b.2) → Paired R (bs.map (·.1)) (bs.map (·.2))
  | [], _ => .nil
  | b :: bs, h => .cons (h b List.mem_cons_self) (paired_maps fun c hc => h c (List.mem_cons_of_mem _ hc))
/-- sorted(l), l's items standing in R with xs -/
theorem sortedR [Sorts α] {K : PySem.W.Frag} {H : Hp} {p : Addr} {vs : List V} {xs : List α} {Q : VK} {R : V → α → Prop} (h : SqL K H p vs) (hy : HdL K H vs xs) (r : Paired R vs xs) (q : ∀ us l, Paired R us (srt xs) → us.Perm vs → H l = none → Q (.ref l) (upd H l (.lst us))) : rSortD K [.ref p] H Q := by
  unfold rSortD
  refine ⟨p, vs, _, rfl, h, hy, sort_ok xs, fun bs l pm hb hl => ?_⟩
  rw [← zip_map_toD] at pm
  obtain ⟨cs, pc, ec⟩ := perm_lift (fun b : V × α => (b.1, (Datum.toD b.2 : PyData))) pm _ rfl
  subst ec
  have e2 : cs.map (·.2) = srt xs := by
    refine toDs_inj ?_
    rw [← srt_toD, ← hb, List.map_map, List.map_map]
    rfl
  have e1 : (cs.map fun b : V × α => (b.1, (Datum.toD b.2 : PyData))).map (·.1) = cs.map (·.1) := by rw [List.map_map]; rfl
  have hlen : vs.length = xs.length := hy.len
  have pv : (cs.map (·.1)).Perm vs := by
    have z := pc.map (fun b : V × α => b.1)
    rw [List.map_fst_zip (by omega)] at z
    exact z
  rw [e1]
  refine q _ l ?_ pv hl
  rw [← e2]
  exact paired_maps fun b hb => paired_zip r b (pc.mem_iff.mp hb)
theorem HdL.paired {K : PySem.W.Frag} {H : Hp} : ∀ {vs : List V} {xs : List α}, HdL K H vs xs → Paired (fun v x => Hd K H v x) vs xs
  | [], [], _ => .nil
  | [], _ :: _, h => by cases h
  | _ :: _, [], h => by cases h
  | _ :: _, _ :: _, h => .cons h.head (HdL.paired h.tail)
theorem hdL_of {K : PySem.W.Frag} {H : Hp} : ∀ {vs : List V} {xs : List α}, Paired (fun v x => Hd K H v x) vs xs → HdL K H vs xs
  | _, _, .nil => .nil
  | _, _, .cons h t => .cons h (hdL_of t)
theorem sortedP [Sorts α] {K : PySem.W.Frag} {H : Hp} {p : Addr} {vs : List V} {xs : List α} {Q : VK} (h : SqL K H p vs) (hy : HdL K H vs xs) (q : ∀ us l, HdL K H us (srt xs) → us.Perm vs → H l = none → Q (.ref l) (upd H l (.lst us))) : rSortD K [.ref p] H Q :=
  sortedR h hy hy.paired fun us l r pm hl => q us l (hdL_of r) pm hl
end
/-! rows that stand in a relation, item by item -/
section
variable {α β : Type} {R S : V → β → Prop}
theorem paired_imp (f : ∀ v x, R v x → S v x) : ∀ {vs : List V} {xs : List β}, Paired R vs xs → Paired S vs xs
  | _, _, .nil => .nil
  | _, _, .cons h t => .cons (f _ _ h) (paired_imp f t)
theorem paired_app : ∀ {vs us : List V} {xs ys : List β}, Paired R vs xs → Paired R us ys → Paired R (vs ++ us) (xs ++ ys)
  | _, _, _, _, .nil, h => h
  | _, _, _, _, .cons h t, k => .cons h (paired_app t k)
theorem paired_len : ∀ {vs : List V} {xs : List β}, Paired R vs xs → vs.length = xs.length
  | _, _, .nil => rfl
  | _, _, .cons _ t => congrArg Nat.succ (paired_len t)
theorem paired_get2 : ∀ {vs : List V} {xs : List β} {i : Nat} {v : V}, Paired R vs xs → vs[i]? = some v → ∃ x, xs[i]? = some x ∧ R v x
  | _, _, _, _, .nil, e => by cases e
  | _, _, 0, _, .cons h _, e => ⟨_, rfl, by cases e; exact h⟩
  | _, _, i + 1, _, .cons _ t, e => paired_get2 (i := i) t e
theorem paired_at2 : ∀ {vs : List V} {xs : List β} {i : Nat} {x : β}, Paired R vs xs → xs[i]? = some x → ∃ v, vs[i]? = some v ∧ R v x
  | _, _, _, _, .nil, e => by cases e
  | _, _, 0, _, .cons h _, e => ⟨_, rfl, by cases e; exact h⟩
  | _, _, i + 1, _, .cons _ t, e => paired_at2 (i := i) t e
theorem paired_mem {vs : List V} {xs : List β} {v : V} (h : Paired R vs xs) (m : v ∈ vs) : ∃ x ∈ xs, R v x := by
  obtain ⟨i, hi⟩ := List.getElem?_of_mem m
  obtain ⟨x, hx, hv⟩ := paired_get2 h hi
  exact ⟨x, List.mem_of_getElem? hx, hv⟩
theorem paired_take (n : Nat) : ∀ {vs : List V} {xs : List β}, Paired R vs xs → Paired R (vs.take n) (xs.take n) := by
  induction n with
  | zero => intro _ _ _; exact .nil
  | succ n ih =>
    intro vs xs h
    cases h with
    | nil => exact .nil
    | cons h t => exact .cons h (ih t)
theorem paired_drop (n : Nat) : ∀ {vs : List V} {xs : List β}, Paired R vs xs → Paired R (vs.drop n) (xs.drop n) := by
  induction n with
  | zero => intro _ _ h; exact h
  | succ n ih =>
    intro vs xs h
    cases h with
    | nil => exact .nil
    | cons h t => exact ih t
theorem paired_perm : ∀ {us vs : List V}, us.Perm vs → ∀ {xs : List β}, Paired R vs xs → ∃ ys : List β, ys.Perm xs ∧ Paired R us ys := by
  intro us vs p
  induction p with
  | nil => intro xs h; exact ⟨xs, .refl _, h⟩
  | cons x _ ih =>
    intro xs h
    cases h with
    | @cons _ z _ zs h t =>
      obtain ⟨ys, p, hy⟩ := ih t
      exact ⟨z :: ys, p.cons z, .cons h hy⟩
  | swap a b l =>
    intro xs h
    cases h with
    | @cons _ z _ zs h t =>
      cases t with
      | @cons _ u _ us h2 t => exact ⟨u :: z :: us, List.Perm.swap .., .cons h2 (.cons h t)⟩
  | trans _ _ ih1 ih2 =>
    intro xs h
    obtain ⟨ys, p, hy⟩ := ih2 h
    obtain ⟨zs, q, hz⟩ := ih1 hy
    exact ⟨zs, q.trans p, hz⟩
end
end Ky
namespace Kt
open PySem L2 Evl PySem.Spec PyProof.Rows
/-! one entry laid by a comprehension, its key a text, an int or a tuple of them -/
theorem put_any {X : Cx} {pins : List (Addr × Obj)} {σ : L2.St} {H H' : Hp} {s : Shared} {E : Value → Shared → Prop} {a : Addr} {y v : V} {u r : Value} {Q : Unit → Shared → Prop} (hu : X.A.units < cLine)
    (I : Inv X pins σ H s) (g : DPut H a y v H') (ry : RelV y u) (rv : RelV v r) (h : ∀ t, Inv X pins σ H' t → Q () t) : wpAny (model X.prog X.w) X.A (dictSet a u r) Q E s := by
  rcases g with ⟨ps, k, e, rfl, hl, rfl⟩ | ⟨ps, k, b, e, rfl, eb, hl, rfl⟩
  · exact d_dictSet I e hl ry rv h
  · cases (show u = Value.ref b from ry)
    obtain ⟨hz, ha, zs, hr, dd⟩ := dt_of I.hok e
    have hn : ps.length = zs.length := Paired.length hr
    have hb : (putK ps k v).length ≤ sizeLine := Nat.le_trans (length_putK ps k v) hl
    refine wpAny_dictSet_heap (hsz := by omega) (knd := tupleKind (mixKind X.prog X.w)) hu (key_of I.hok eb) dd fun g' dg sb => h _ ?_
    obtain ⟨o, es, ep, h1, h2, h3, h4, _, h6⟩ := dg
    have kp : ∀ c zs', H c = some (.tup zs') → upd H a (.dT (putK ps k v)) c = some (.tup zs') := fun c zs' ec => by
      rw [upd_ne (fun z => by rw [z, e] at ec; cases ec)]
      exact ec
    exact d_write I (by rw [e]; exact trivial) sb ⟨o, h1⟩ ⟨hb, ha, _, (hr.put k eb rv).keeps kp, o, es, ep, h1, h2, h3, h4, h6⟩
/-! two dicts whose keys are tuples and whose values are all True -/
section
variable {prog : Program} {w : World} {K : Type} [DecidableEq K] {knd : HeapKind prog w K} {A : Around} {E : Value → Shared → Prop} {s : Shared}
def inAll (ys xs : List (K × Addr × Value)) : Bool := xs.all fun x => (atKey ys x.1).isSome
theorem same_tup {nm : String} {a b : Addr} {xs ys : List (K × Addr × Value)} {Q : Bool → Shared → Prop} (hu : knd.room A) (ha : (a == sysModules) = false) (hb : (b == sysModules) = false) (da : s.heap.DictOfH knd a xs) (db : s.heap.DictOfH knd b ys)
    (tx : ∀ x ∈ xs, x.2.2 = .bool true) (ty : ∀ y ∈ ys, y.2.2 = .bool true) (h : Q (xs.length == ys.length && inAll ys xs) s) : wpAny (model prog w) A (Builtin.Dict.samePairs nm a b) Q E s := by
  obtain ⟨oa, es, ep, ga, _, dta, ea, ia, _⟩ := da
  obtain ⟨ob, fs, eq, gb, _, dtb, eb, ib, nb⟩ := db
  have la : es.size = xs.length := size_of_entries ea
  have lb : fs.size = ys.length := size_of_entries eb
  rw [← la, ← lb] at h
  unfold Builtin.Dict.samePairs Builtin.Dict.showsAll
  rw [ha, hb]
  simp only [Bool.false_eq_true, if_false]
  refine wpAny_bind (wpAny_pure (wpAny_bind (wpAny_pure (wpAny_bind (wpAny_dictEntries ga dta ?_)))))
  refine wpAny_bind (wpAny_dictEntries gb dtb ?_)
  by_cases c : es.size = fs.size
  case neg =>
    have c' : (es.size == fs.size) = false := beq_eq_false_iff_ne.mpr c
    rw [c', Bool.false_and] at h
    rw [if_pos (show (es.size != fs.size) = true by unfold bne; rw [c']; rfl)]
    exact wpAny_bind (wpAny_rule (wpAny_pure h))
  case pos =>
    have c' : (es.size == fs.size) = true := beq_iff_eq.mpr c
    rw [c', Bool.true_and] at h
    rw [if_neg (show ¬ (es.size != fs.size) = true by unfold bne; rw [c']; exact Bool.false_ne_true)]
    refine wpAny_bind (wpAny_dictEpoch ga dta (wpAny_bind ?_))
    rw [Std.Legacy.Range.forIn_eq_forIn_range']
    simp only [Std.Legacy.Range.size, Nat.sub_zero, Nat.add_sub_cancel, Nat.div_one]
    refine wpAny_forIn_list _ (fun rest q t => t = s ∧ q = (none, ()) ∧ ∃ n, rest = List.range' n (es.size - n) ∧ n ≤ es.size ∧ inAll ys xs = inAll ys (xs.drop n)) _ ?_ ?_ _ _ ⟨rfl, rfl, 0, by simp, Nat.zero_le _, rfl⟩
    · rintro x rest q t ⟨rfl, rfl, n, er, hn, ei⟩
      have hlt : n < es.size := by
        by_cases z : n < es.size
        · exact z
        · rw [show es.size - n = 0 by omega] at er
          cases er
      obtain ⟨rfl, er2⟩ : x = n ∧ rest = List.range' (n + 1) (es.size - (n + 1)) := by
        rw [show es.size - n = es.size - (n + 1) + 1 by omega, List.range'_succ] at er
        exact ⟨(List.cons.inj er).1, (List.cons.inj er).2⟩
      obtain ⟨⟨k, p, v⟩, hk⟩ : ∃ z, xs[x]? = some z := ⟨xs[x]'(by omega), List.getElem?_eq_getElem _⟩
      have hm : (k, p, v) ∈ xs := List.mem_of_getElem? hk
      have he : es[x]? = some ⟨knd.hash k, .ref p, v⟩ := by rw [entry_at ea x, hk]; rfl
      have hv : v = .bool true := tx _ hm
      have hdr : xs.drop x = (k, p, v) :: xs.drop (x + 1) := by
        obtain ⟨hx, e2⟩ := List.getElem?_eq_some_iff.mp hk
        rw [List.drop_eq_getElem_cons hx, e2]
      have ei2 : inAll ys xs = ((atKey ys k).isSome && inAll ys (xs.drop (x + 1))) := by
        rw [ei, hdr]
        rfl
      refine wpAny_bind (wpAny_dictEntries ga dta ?_)
      rw [he]
      dsimp only
      refine wpAny_bind (wpAny_holding (wpAny_bind (wpAny_dictFind_heap hu (ia _ hm) gb dtb eb ib nb (fun hno => ?_) fun j q hj => ?_)))
      · rw [atKey_none_of_get hno] at ei2
        refine wpAny_pure ?_
        show wpAny _ _ (if (!false) = true then _ else _) _ _ _
        rw [if_pos (show (!false) = true by decide)]
        refine wpAny_pure (wpAny_pure ?_)
        rw [ei2] at h
        exact h
      · have hj2 : atKey ys k = some q := atKey_of_get nb hj
        rw [hj2] at ei2
        refine wpAny_bind (wpAny_dictEntries gb dtb ?_)
        rw [entry_at eb j, hj]
        have hw : q.2 = .bool true := ty _ (List.mem_of_getElem? hj)
        show wpAny _ _ (holding [q.2] (eqBool v q.2)) _ _ _
        rw [hv, hw]
        refine wpAny_holding (SeqAt.EqAt.same (Value.bool true) _ _ _ _ ?_)
        show wpAny _ _ (if (!true) = true then _ else _) _ _ _
        rw [if_neg (by decide)]
        refine wpAny_bind (wpAny_dictEpoch ga dta ?_)
        rw [if_neg (by simp)]
        exact wpAny_pure ⟨rfl, rfl, x + 1, er2, hlt, ei2⟩
    · rintro q t ⟨rfl, rfl, n, er, hn, ei⟩
      have hnn : n = es.size := by
        by_cases z : n < es.size
        · rw [show es.size - n = es.size - (n + 1) + 1 by omega, List.range'_succ] at er
          cases er
        · omega
      rw [ei, hnn, la, List.drop_length] at h
      exact wpAny_pure h
theorem dictH_type {d : Addr} {xs : List (K × Addr × Value)} (m : s.heap.DictOfH knd d xs) : s.TypeIs (.ref d) "dict" := let ⟨o, _, _, g, x, _⟩ := m; ⟨o, g, x.1⟩
theorem eq_tup {a b : Addr} {xs ys : List (K × Addr × Value)} {Q : Value → Shared → Prop} (hr : knd.room A.in1) (hu : A.units < cLine) (ha : (a == sysModules) = false) (hb : (b == sysModules) = false) (da : s.heap.DictOfH knd a xs) (db : s.heap.DictOfH knd b ys)
    (tx : ∀ x ∈ xs, x.2.2 = .bool true) (ty : ∀ y ∈ ys, y.2.2 = .bool true) (h : Q (.bool (xs.length == ys.length && inAll ys xs)) s) : wpAny (model prog w) A (compareOp .Eq (.ref a) (.ref b)) Q E s := by
  have t1 := dictH_type da
  have t2 := dictH_type db
  refine wpAny_richCompare_same_room (op := .Eq) t1 t2 F.slot_dict_eq (wpAny_call_entry F.slot_dict_eq t1 F.entry_dict_eq ?_ (F.args_dict_eq_2 _ _)) hu
  refine show wpAny _ _ (Builtin.Dict.dictSlotArgs "__eq__" ⟨[.ref a, .ref b], []⟩ >>= _) _ _ s from wpAny_bind ?_
  unfold Builtin.Dict.dictSlotArgs
  refine wpAny_bind (wpAny_notOrdered_dict t1 (show wpAny _ _ (pure (Value.ref a, Value.ref b)) _ _ s from wpAny_pure (wpAny_bind (wpAny_isInstance (T := "dict") t2 F.sub_dict_dict ?_))))
  simp only [Bool.not_true, if_false, Bool.false_eq_true]
  refine wpAny_bind (wpAny_pure (wpAny_bind (wpAny_pure (wpAny_bind (same_tup hr ha hb da db tx ty (wpAny_pure ⟨_, rfl, (fun z => nomatch z), ?_⟩))))))
  simpa using h
theorem ne_tup {a b : Addr} {xs ys : List (K × Addr × Value)} {Q : Value → Shared → Prop} (hr : knd.room A.in1) (hu : A.units < cLine) (ha : (a == sysModules) = false) (hb : (b == sysModules) = false) (da : s.heap.DictOfH knd a xs) (db : s.heap.DictOfH knd b ys)
    (tx : ∀ x ∈ xs, x.2.2 = .bool true) (ty : ∀ y ∈ ys, y.2.2 = .bool true) (h : Q (.bool (!(xs.length == ys.length && inAll ys xs))) s) : wpAny (model prog w) A (compareOp .NotEq (.ref a) (.ref b)) Q E s := by
  have t1 := dictH_type da
  have t2 := dictH_type db
  refine wpAny_richCompare_same_room (op := .NotEq) t1 t2 F.slot_dict_ne (wpAny_call_entry F.slot_dict_ne t1 F.entry_dict_ne ?_ (F.args_dict_ne_2 _ _)) hu
  refine show wpAny _ _ (Builtin.Dict.dictSlotArgs "__ne__" ⟨[.ref a, .ref b], []⟩ >>= _) _ _ s from wpAny_bind ?_
  unfold Builtin.Dict.dictSlotArgs
  refine wpAny_bind (wpAny_notOrdered_dict t1 (show wpAny _ _ (pure (Value.ref a, Value.ref b)) _ _ s from wpAny_pure (wpAny_bind (wpAny_isInstance (T := "dict") t2 F.sub_dict_dict ?_))))
  simp only [Bool.not_true, if_false, Bool.false_eq_true]
  refine wpAny_bind (wpAny_pure (wpAny_bind (wpAny_pure (wpAny_bind (same_tup hr ha hb da db tx ty (wpAny_pure ⟨_, rfl, (fun z => nomatch z), ?_⟩))))))
  simpa using h
end
/-! the rules over the layer -/
def tru (ks : List (List Key)) : HO := .dT (ks.map fun k => (k, V.bl true))
/-- the same keys, whatever their order (each list without repeats) -/
def sameK {K : Type} [DecidableEq K] (ks ls : List K) : Bool := ks.length == ls.length && ks.all fun k => decide (k ∈ ls)
theorem kt_tru {H : Hp} : ∀ {ks : List (List Key)} {xs : List (List Key × Addr × Value)}, KT H (ks.map fun k => (k, V.bl true)) xs → xs.map (·.1) = ks ∧ ∀ x ∈ xs, x.2.2 = .bool true
  | [], xs, h => by cases h; exact ⟨rfl, fun _ z => nomatch z⟩
  | k :: ks, xs, h => by
    cases h with
    | @cons _ y _ ys hq t =>
      obtain ⟨e1, e2⟩ := kt_tru t
      refine ⟨by rw [List.map_cons, e1, ← hq.1], fun x hx => ?_⟩
      rcases List.mem_cons.mp hx with rfl | hx
      · exact hq.2.2
      · exact e2 x hx
theorem atKey_mem {K : Type} [DecidableEq K] (k : K) (ys : List (K × Addr × Value)) : (atKey ys k).isSome = decide (k ∈ ys.map (·.1)) := by
  rw [← any_pairsH]
  unfold pairsH
  rw [List.any_map, Bool.eq_iff_iff, List.any_eq_true, decide_eq_true_iff, List.mem_map]
  constructor
  · rintro ⟨x, h1, h2⟩
    exact ⟨x, h1, of_decide_eq_true h2⟩
  · rintro ⟨x, h1, h2⟩
    exact ⟨x, h1, decide_eq_true h2⟩
theorem inAll_mem {K : Type} [DecidableEq K] (xs ys : List (K × Addr × Value)) : inAll ys xs = (xs.map (·.1)).all fun k => decide (k ∈ ys.map (·.1)) := by
  unfold inAll
  rw [List.all_map]
  congr 1
  funext x
  exact atKey_mem x.1 ys
section
variable {X : Cx}
def rEqT : R2 := fun x y H Q => ∃ a b ks ls, x = .ref a ∧ y = .ref b ∧ H a = some (tru ks) ∧ H b = some (tru ls) ∧ Q (.bl (sameK ks ls)) H
def rNeT : R2 := fun x y H Q => ∃ a b ks ls, x = .ref a ∧ y = .ref b ∧ H a = some (tru ks) ∧ H b = some (tru ls) ∧ Q (.bl (!sameK ks ls)) H
theorem op_eqT (hu : X.A.units + 1 < cLine) : OpR X (compareOp .Eq) rEqT := by
  intro pins s σ H x y v u Q I rx ry h
  obtain ⟨a, b, ks, ls, rfl, rfl, ea, eb, q⟩ := h
  cases (show v = Value.ref a from rx)
  cases (show u = Value.ref b from ry)
  obtain ⟨_, ya, za, ra, da⟩ := dt_of I.hok ea
  obtain ⟨_, yb, zb, rb, db⟩ := dt_of I.hok eb
  obtain ⟨e1, t1⟩ := kt_tru ra
  obtain ⟨e2, t2⟩ := kt_tru rb
  refine eq_tup (knd := tupleKind (mixKind X.prog X.w)) (show X.A.units + 1 < cLine from hu) (by omega) ya yb da db t1 t2 ⟨.bl _, H, I, rfl, ?_⟩
  rw [inAll_mem, e1, e2, ← List.length_map (f := (·.1)) (as := za), ← List.length_map (f := (·.1)) (as := zb), e1, e2]
  exact q
theorem op_neT (hu : X.A.units + 1 < cLine) : OpR X (compareOp .NotEq) rNeT := by
  intro pins s σ H x y v u Q I rx ry h
  obtain ⟨a, b, ks, ls, rfl, rfl, ea, eb, q⟩ := h
  cases (show v = Value.ref a from rx)
  cases (show u = Value.ref b from ry)
  obtain ⟨_, ya, za, ra, da⟩ := dt_of I.hok ea
  obtain ⟨_, yb, zb, rb, db⟩ := dt_of I.hok eb
  obtain ⟨e1, t1⟩ := kt_tru ra
  obtain ⟨e2, t2⟩ := kt_tru rb
  refine ne_tup (knd := tupleKind (mixKind X.prog X.w)) (show X.A.units + 1 < cLine from hu) (by omega) ya yb da db t1 t2 ⟨.bl _, H, I, rfl, ?_⟩
  rw [inAll_mem, e1, e2, ← List.length_map (f := (·.1)) (as := za), ← List.length_map (f := (·.1)) (as := zb), e1, e2]
  exact q
end
end Kt
namespace Kt
open PySem L2 Evl PySem.Spec PyProof.Rows
/-- {k: v for .. in .. if ..}: the keys texts, ints or tuples of them (o0 the empty dict of that kind) -/
def tDcP (o0 : HO) (wi : TI) (g : TG) (tt : TT) (tk tv : TE) (ns : List Nat) : TE := fun σ H Q => wi σ H fun J H1 => ∀ D, H1 D = none → ∃ W : Nat → Nat → Hp → Prop, (∃ m, W 0 m (upd H1 D o0)) ∧ ∀ n m G, W n m G →
  (J.stop n G ∧ Q (.ref D) G) ∨ (J.go n G ∧ ∃ Nx : Hp → Prop, (∀ G', Nx G' → ∃ m', m' < m ∧ W (n + 1) m' G') ∧ ∀ x G', J.yld n G x G' → g x (wipe σ ns) G' fun τ G2 => wipe τ ns = wipe σ ns ∧ tt τ G2 fun b G3 =>
    if b = true then tk τ G3 fun y G4 => tv τ G4 fun z G5 => ∃ G6, DPut G5 D y z G6 ∧ Nx G6 else Nx G3)
def Bare (o0 : HO) : Prop := o0 = .dK [] ∨ o0 = .dT []
theorem Bare.ok {o0 : HO} (b : Bare o0) {P : Program} {w : World} {H : Hp} (h : Heap) (hb : sysModules < h.objs.size) : ObjOk P w H (h.push { cls := .type "dict", data := .dict #[] }) h.objs.size o0 := by
  rcases b with rfl | rfl
  · exact dk_empty h hb
  · exact dt_empty h hb
section
variable {X : Cx}
theorem pe_dcP {o0 : HO} {kx vx tg iter : Expr} {ifs : List Expr} {scope : Scope} {own : List (Str × Nat)} {pos : Pos} {wi : TI} {g : TG} {tt : TT} {tk tv : TE} (b0 : Bare o0) (hu : X.A.units < cLine) (hc : X.calm = true) (hN : X.N.Nodup) (hi : PI X tg iter wi) (ok : BlkOk X.N X.env.scope scope own)
    (hg : ∀ (t : Shared) (G : Hp) (C : Addr) (cl : List (Str × Addr)) (fp : List Addr), PG (X.blk t G scope (compEnvC scope cl C X.env) fp) tg g) (ht : ∀ (t : Shared) (G : Hp) (C : Addr) (cl : List (Str × Addr)) (fp : List Addr), PTs (X.blk t G scope (compEnvC scope cl C X.env) fp) ifs tt)
    (hk : ∀ (t : Shared) (G : Hp) (C : Addr) (cl : List (Str × Addr)) (fp : List Addr), PE (X.blk t G scope (compEnvC scope cl C X.env) fp) kx tk) (hv : ∀ (t : Shared) (G : Hp) (C : Addr) (cl : List (Str × Addr)) (fp : List Addr), PE (X.blk t G scope (compEnvC scope cl C X.env) fp) vx tv)
    (hs : ∀ x, foldedSetIterable iter X.env x = pure x := by intro _; rfl) : PE X (.DictComp kx vx [⟨tg, iter, ifs, 0⟩] scope pos) (tDcP o0 wi g tt tk tv (own.map (·.2))) := by
  refine ⟨fun pins s σ H Q I h => ?_⟩
  rw [arm_eval_DictComp]
  have free : ∀ y ∈ scope.names, y.2 = .free → ∃ c, X.env.cells.lookup y.1 = some c := fun y hy e => (ok.free y hy e).elim (fun z => I.ok.has _ (.inl z)) fun z => I.ok.has _ (.inr z)
  refine wpAny_comprehension_free rfl hs (closure_ok free) ok.kind (fun y hy e => by rw [ok.uniq y hy, e]) (thn (hi.run pins s σ H _ I h) fun _ _ hx => thn hx fun _ t ht2 => ?_)
  obtain ⟨it, fp, tn, J, H2, rfl, I2, T, st, fpk, q⟩ := ht2
  refine wpAny_newObj_type (newEnv_comp ?_)
  obtain ⟨D, hD⟩ : ∃ D, D = t.heap.objs.size := ⟨_, rfl⟩
  have freshD : H2 D = none := I2.hok.fresh (Nat.le_of_eq hD.symm)
  obtain ⟨W, ⟨m0, w0⟩, turn⟩ := q D freshD
  obtain ⟨G3, hG3⟩ : ∃ G3, G3 = upd H2 D o0 := ⟨_, rfl⟩
  obtain ⟨t3, ht3⟩ : ∃ t3 : Shared, t3 = { t with heap := t.heap.push { cls := .type "dict", data := .dict #[] } } := ⟨_, rfl⟩
  have hp3 : t3.heap = t.heap.push { cls := .type "dict", data := .dict #[] } := by rw [ht3]
  have I3 : Inv X pins σ G3 t3 := by
    rw [ht3, hG3]
    refine I2.laid (t' := t.toks) (fun _ _ e => Heap.get?_push_of_some _ e) (Nat.le_of_eq hD.symm) ?_
    rw [hD]
    exact b0.ok t.heap I2.big
  have old : ∀ b ∈ fp, b < t.heap.objs.size := fun b hb => let ⟨_, e, _⟩ := T.obj _ _ st b hb; Heap.lt_size e
  have fpk3 : ∀ b ∈ fp, FpOk X pins G3 b ∧ b < t3.heap.objs.size := fun b hb => by
    have lt := old b hb
    have ne : b ≠ D := by rw [hD]; exact Nat.ne_of_lt lt
    have e3 : G3 b = none := by rw [hG3, upd_ne ne]; exact (fpk b hb).1
    exact ⟨⟨e3, (fpk b hb).2⟩, by rw [hp3, Heap.size_push]; exact Nat.lt_succ_of_lt lt⟩
  have st3 : tn 0 t3.heap := T.keep _ _ _ st fun _ _ _ e => by rw [hp3]; exact Heap.get?_push_of_some _ e
  have I4 := block_start I3 ok hN fpk3
  obtain ⟨cl, hcl⟩ : ∃ cl, cl = cellsFrom (t3.heap.objs.size + 1) scope.names (cloFrom X.env.cells scope.names []) := ⟨_, rfl⟩
  obtain ⟨ce, hce⟩ : ∃ ce, ce = compEnvC scope cl t3.heap.objs.size X.env := ⟨_, rfl⟩
  have pg := hg t3 G3 t3.heap.objs.size cl fp
  have pt := ht t3 G3 t3.heap.objs.size cl fp
  have pk := hk t3 G3 t3.heap.objs.size cl fp
  have pv := hv t3 G3 t3.heap.objs.size cl fp
  have hloc : ce.locals = t3.heap.objs.size := by rw [hce]; rfl
  obtain ⟨t4, ht4⟩ : ∃ t4 : Shared, t4 = { t3 with heap := pushCells (t3.heap.push { cls := .type "dict", data := .dict #[] }) scope.names } := ⟨_, rfl⟩
  rw [← hcl, ← hce, ← ht4] at I4
  rw [← hce] at pg pt pk pv
  have w3 : W 0 m0 G3 := by rw [hG3]; exact w0
  have none3 : ∀ b ∈ fp, G3 b = none := fun b hb => (fpk3 b hb).1.1
  have st4 : tn 0 t4.heap := T.keep _ _ _ st3 fun _ _ _ e => by rw [ht4]; exact pushCells_keeps _ _ _ _ (Heap.get?_push_of_some _ e)
  have stays : ∀ {τ : L2.St} {G : Hp} {r : Shared}, Inv (X.blk t3 G3 scope ce fp) [] τ G r → (∀ b ∈ fp, G b = none) → ∀ b ∈ fp, FpOk (X.blk t3 G3 scope ce fp) [] G b := fun {τ G r} J' hn b hb =>
    ⟨hn b hb, (J'.ok.exf b hb).1, J'.ok.exfs b hb, .inl hb, fun x c e => (J'.ok.exf b hb).2 x c e, fun p hp => absurd (show p ∈ ([] : List (Addr × Obj)) ++ [] from hp) (by simp)⟩
  have loop : codeAny (model X.prog X.w) X.A (.compLoop (.DictComp kx vx [⟨tg, iter, ifs, 0⟩] scope pos) 0 (.ref it) (.ref D) ce) (compPost (model X.prog X.w) X.A X.xe none (fun v s' => ∃ x H', Inv X pins σ H' s' ∧ RelV x v ∧ Q x H') (.ref D) t3.heap.objs.size) t4 := by
    refine compLoop_anyD (fun n r => ∃ i G, Inv (X.blk t3 G3 scope ce fp) [] (wipe σ (own.map (·.2))) G r ∧ tn i r.heap ∧ (∀ b ∈ fp, G b = none) ∧ W i n G) ?_ m0 ⟨0, G3, I4, st4, none3, w3⟩
    rintro n r5 ⟨i, G5, I5, st5, none5, w5⟩
    rcases turn i n G5 w5 with ⟨stop, fin⟩ | ⟨go, Nx, down, step⟩
    · refine thnF (T.done (X.blk t3 G3 scope ce fp) rfl rfl rfl hc i [] r5 _ G5 (fun _ _ => False) I5 (stays I5 none5) st5 stop) fun _ r6 ⟨hr, I6⟩ => ?_
      subst hr
      have I7 : Inv X pins σ G5 r6 := I3.call' (ch := fp) I6.os I6.base I6.hok I6.bare fun b hb => let z := (fpk3 b hb).1; ⟨z.2.2.2.1, z.2.1, z.2.2.2.2.1, z.2.2.2.2.2⟩
      have hC : G5 t3.heap.objs.size = none := by rw [← hloc]; exact I6.free
      obtain ⟨m, hn, _⟩ := I6.loc
      have hn2 : r6.heap.Ns t3.heap.objs.size m := by rw [← hloc]; exact hn
      obtain ⟨f0, f1, f2, f3, f4, f5⟩ := I3.fpOk (Nat.le_refl _) hC
      exact ⟨m, hn2, fun h'' sb => ⟨.ref D, G5, I7.turned (t' := r6.toks) (fun b o hb e => (sb.2 b hb).trans e) f0 f1 f3 f4 f5, rfl, fin⟩⟩
    · refine thnF (T.item (X.blk t3 G3 scope ce fp) rfl rfl rfl hc i [] r5 _ G5 (fun _ _ => False) I5 (stays I5 none5) st5 go) fun _ r6 ⟨u, hr, h6⟩ => ?_
      subst hr
      refine thnF h6 fun _ r7 ⟨x, G7, I7, rel7, y7, st7, none7⟩ => ?_
      refine thnF (pg.run _ r7 _ G7 x u _ (I7.pinned (stays I7 none7) (T.obj _ _ st7)) rel7 (step x G7 y7)) fun _ r8 ⟨τ, G8, I8, same, q8⟩ => ?_
      refine thnF (pt.run _ r8 τ G8 _ I8 q8) fun b r9 ⟨G9, I9, q9⟩ => ?_
      have back : ∀ {r : Shared} {G : Hp}, Inv (X.blk t3 G3 scope ce fp) ([] ++ pinsAt fp r7.heap) τ G r → Nx G → ∃ m, m < n ∧ ∃ i G, Inv (X.blk t3 G3 scope ce fp) [] (wipe σ (own.map (·.2))) G r ∧ tn i r.heap ∧ (∀ b ∈ fp, G b = none) ∧ W i m G := fun {r G} J' nx => by
        obtain ⟨m', lt, w'⟩ := down G nx
        have pin : ∀ b ∈ fp, ∀ o, r7.heap.get? b = some o → r.heap.get? b = some o ∧ G b = none := fun b hb o e => let z := J'.pin (b, o) (List.mem_append_right _ (List.mem_append_right _ (mem_pinsAt hb e))); ⟨z.1, z.2.1⟩
        have len : (wipe σ (own.map (·.2))).length = τ.length := by rw [← same]; exact wipe_length ..
        refine ⟨m', lt, i + 1, G, (J'.unpinned (pins := [])).weak len (fun j v e => (wipe_some (by rw [same]; exact e)).1), T.keep _ _ _ st7 fun b hb o e => (pin b hb o e).1, fun b hb => ?_, w'⟩
        obtain ⟨o, e, _⟩ := T.obj _ _ st7 b hb
        exact (pin b hb o e).2
      cases b with
      | false => exact back I9 (by simpa using q9)
      | true =>
        rw [if_pos rfl] at q9 ⊢
        refine thnF (pk.run _ r9 τ G9 _ I9 q9) fun ku r10 ⟨yk, G10, I10, rk, q10⟩ => ?_
        refine thnF (pv.run _ r10 τ G10 _ I10 q10) fun vu r11 ⟨yv, G11, I11, rv, G12, put, nx⟩ => ?_
        exact put_any (X := X.blk t3 G3 scope ce fp) hu I11 put rk rv fun r12 I12 => back I12 nx
  have start := codeAny_compStart_dict loop (T.self X.A 0 _ _ _ st4 loop)
  rw [hD] at start
  subst ht3 hce hcl ht4
  exact start
end
end Kt
/-! what a def binds whose defaults stand in a known tuple -/
namespace Kd
open PySem L2
theorem dfl_binds {K : PySem.W.Frag} {x qual : Str} {params : Arguments} {body : List Stmt} {scope : Scope} {dvs : List V} {f T : Addr} {kV doc pm cdv ct to : Value} {an td : Option Addr} {its : List Value} {m : Nat} {sl : Array (Option Value)} {ps : List Str}
    (F : FunD K x qual params body scope dvs [] f (PySem.W.fnOf x qual params body scope (.ref T) kV doc pm an cdv ct)) (lT : K.lookup T = some ⟨to, td, .seq its.toArray m, sl⟩) (n j : Nat) (hn : n + (its.length - j) = ps.length)
    (h : ∀ us zs : List Value, us.length = n → zs.length = its.length → ∃ k, bindArgs (PySem.W.fnOf x qual params body scope (.ref T) kV doc pm an cdv ct) ⟨us, []⟩ = seqItems? (.ref T) >>= k ∧ k (some zs.toArray) = pure (ps.zip (us ++ zs.drop j))) :
    Binds K (PySem.W.fnOf x qual params body scope (.ref T) kV doc pm an cdv ct) ps (its.drop j) := fun s us hK hl => by
  rw [List.length_append, List.length_drop] at hl
  obtain ⟨k, e1, e2⟩ := h us its (by omega) rfl
  refine BindsTo.of_looks fun M => ?_
  rw [e1]
  exact looks_items hK lT rfl (.of_pure e2)
end Kd
/-! {**d, k: v}: keys ints and texts. -/
namespace Kw
open PySem PySem.Spec PyProof.Rows L2
section
variable {prog : Program} {w : World} {K : Type} [DecidableEq K] {knd : KeyKind prog w K} {A : Around} {E : Value → Shared → Prop} {s : Shared}
theorem wpAny_dictPut {d : Addr} {kvs : List (K × Value)} {k : K} {key v : Value} {Q : Unit → Shared → Prop} (hkey : knd.is k key = true) (hm : s.heap.DictOf knd d kvs)
    (hQ : ∀ h', h'.DictOf knd d (stored kvs k v) → Heap.SameBut d s.heap h' → Q () { s with heap := h' }) (hsz : kvs.length ≤ sizeLine) : wpAny (model prog w) A (dictPut d (knd.hash k) key v) Q E s := by
  obtain ⟨o, es, ep, ho, hc, hd, hk, hp, hn⟩ := hm
  have hes : es.size ≤ sizeLine := by have e1 := hp.length; have e2 : es.toList.length = es.size := by simp
                                      omega
  unfold dictPut
  refine wpAny_bind (wpAny_dictFind_of hkey ho hd hk ?_)
  have hidx : (es.findIdx? fun e => knd.is k e.key) = kvs.findIdx? fun kv => decide (kv.1 = k) := by
    rw [← hp.findIdx k]; obtain ⟨l⟩ := es; simp
  cases hi : es.findIdx? fun e => knd.is k e.key with
  | some i =>
    refine wpAny_updateDict ho hd (hQ _ ⟨_, _, ep, Heap.get?_update_self _ ho (Obj.isFreed_of_dict (Obj.data_mapDict hd _)), hc.mapDict _, Obj.data_mapDict hd _, hk.modify _ _, ?_, ?_⟩ (Heap.SameBut.update ..))
    · rw [stored, if_pos (any_of_findIdx_some (hidx ▸ hi))]
      have hl : (es.toList.findIdx? fun e => knd.is k e.key) = some i := by rw [← hi]; obtain ⟨l⟩ := es; simp
      have := hp.modify hn hl v
      obtain ⟨l⟩ := es
      simpa using this
    · rw [stored, if_pos (any_of_findIdx_some (hidx ▸ hi)), keys_map_store]; exact hn
  | none =>
    have hnot : k ∉ kvs.map (·.1) := not_mem_of_findIdx_none (hidx ▸ hi)
    have hany : ¬ (kvs.any fun kv => decide (kv.1 = k)) = true := by
      rw [List.any_eq_true]; rintro ⟨kv, hkv, he⟩
      exact hnot (List.mem_map.mpr ⟨kv, hkv, of_decide_eq_true he⟩)
    refine wpAny_updateDictKeys (hz := hes) ho hd (hQ _ ⟨_, _, ep + 1, Heap.get?_update_self _ ho (Obj.isFreed_of_dict (Obj.data_mapDictKeys hd _)), hc.mapDictKeys _, Obj.data_mapDictKeys hd _, hk.push hkey _, ?_, ?_⟩ (Heap.SameBut.update ..))
    · rw [stored, if_neg hany]
      have := hp.append hkey (knd.hash k) v
      obtain ⟨l⟩ := es
      simpa using this
    · rw [stored, if_neg hany, List.map_append, List.nodup_append]
      refine ⟨hn, by simp, ?_⟩
      intro a ha b hb
      simp only [List.map_cons, List.map_nil, List.mem_singleton] at hb
      subst hb
      exact fun e => hnot (e ▸ ha)
theorem len_stored (kvs : List (K × Value)) (k : K) (v : Value) : (stored kvs k v).length ≤ kvs.length + 1 := by
  unfold stored
  split
  · rw [List.length_map]; omega
  · rw [List.length_append]; exact Nat.le_refl _
theorem len_merged : ∀ (more kvs : List (K × Value)), (merged kvs more).length ≤ kvs.length + more.length
  | [], kvs => Nat.le_refl _
  | p :: r, kvs => by
    have h1 := len_merged r (stored kvs p.1 p.2)
    have h2 := len_stored kvs p.1 p.2
    show (merged (stored kvs p.1 p.2) r).length ≤ _
    rw [List.length_cons]; omega
theorem merged_snoc (kvs more : List (K × Value)) (p : K × Value) : merged kvs (more ++ [p]) = stored (merged kvs more) p.1 p.2 := by
  unfold merged
  rw [List.foldl_append]
  rfl
theorem pairs_at {es : List DictEntry} {kvs : List (K × Value)} (h : Pairs knd es kvs) : ∀ {i : Nat} {e : DictEntry}, es[i]? = some e → ∃ kv, kvs[i]? = some kv ∧ knd.is kv.1 e.key = true ∧ e.val = kv.2 := by
  induction h with
  | nil => intro i e z; simp at z
  | @cons e kv es kvs h1 h2 ht ih =>
    intro i e' z
    cases i with
    | zero =>
      obtain rfl : e = e' := by simpa using z
      exact ⟨kv, rfl, h1, h2⟩
    | succ i => exact ih (by simpa using z)
theorem wpAny_merge {d a : Addr} {kvs more : List (K × Value)} {Q : Unit → Shared → Prop} (hda : d ≠ a) (haS : (a == sysModules) = false) (hnr : ∀ k key, knd.is k key = true → ∀ b, key ≠ .ref b) (hd : s.heap.DictOf knd d kvs) (ha : s.heap.DictOf knd a more)
    (hsz : kvs.length + more.length ≤ sizeLine) (hQ : ∀ h', h'.DictOf knd d (merged kvs more) → Heap.SameBut d s.heap h' → Q () { s with heap := h' }) : wpAny (model prog w) A (mergeMapping d (.ref a) false) Q E s := by
  have hd0 := hd
  obtain ⟨od, esd, epd, hod, hcd, hdd, hkd, hpd, hnd⟩ := hd
  obtain ⟨oa, esa, epa, hoa, hca, hda', hka, hpa, hna⟩ := ha
  have hlen : more.length = esa.size := by have e1 := hpa.length; have e2 : esa.toList.length = esa.size := by simp
                                           omega
  have ta : s.TypeIs (.ref a) "dict" := ⟨oa, hoa, hca.1⟩
  unfold mergeMapping
  refine wpAny_bind (wpAny_isInstance ta isSubtype_dict_dict ?_)
  simp only [if_true]
  refine wpAny_bind (wpAny_specialOf ta F.slot_dict_iter.lookup ?_)
  simp only [beq_self_eq_true]
  refine wpAny_bind (wpAny_pure ?_)
  simp only [haS, Bool.false_eq_true, if_false]
  have loop : wpAny (model prog w) A (do
      let l ← dictEntries a
      let epoch ← dictEpoch a
      forIn (List.range l.size) PUnit.unit fun i __s => do
        let l2 ← dictEntries a
        match l2[i]? with
        | some e => do
          holding [e.key, e.val] (dictPut d e.hash e.key e.val)
          let ep2 ← dictEpoch a
          if (ep2 != epoch) = true then do
            unsupported "dict.changed-during-merge"
            pure (ForInStep.yield PUnit.unit)
          else pure (ForInStep.yield PUnit.unit)
        | x => do
          unsupported "dict.changed-during-merge"
          pure (ForInStep.yield PUnit.unit)
      pure ()) Q E s := by
    refine wpAny_bind (wpAny_dictEntries hoa hda' (wpAny_bind (wpAny_dictEpoch hoa hda' (wpAny_bind ?_))))
    refine wpAny_forIn_list _ (fun rest q t => ∃ i h', rest = List.range' i (esa.size - i) ∧ i ≤ esa.size ∧ t = { s with heap := h' } ∧ h'.DictOf knd d (merged kvs (more.take i)) ∧ Heap.SameBut d s.heap h') _ ?_ ?_ _ _ ⟨0, s.heap, by rw [List.range_eq_range', Nat.sub_zero], Nat.zero_le _, rfl, hd0, Heap.SameBut.refl _ _⟩
    · rintro x rest q t ⟨i, h', er, hi, rfl, hm, hs⟩
      have hlt : i < esa.size := by
        by_cases z : i < esa.size
        · exact z
        · rw [show esa.size - i = 0 by omega] at er
          cases er
      obtain ⟨rfl, er2⟩ : x = i ∧ rest = List.range' (i + 1) (esa.size - (i + 1)) := by
        rw [show esa.size - i = esa.size - (i + 1) + 1 by omega, List.range'_succ] at er
        exact ⟨(List.cons.inj er).1, (List.cons.inj er).2⟩
      have hoa' : h'.get? a = some oa := (hs.2 a (Ne.symm hda)).trans hoa
      obtain ⟨e, he⟩ : ∃ e, esa[x]? = some e := ⟨esa[x], Array.getElem?_eq_getElem hlt⟩
      obtain ⟨kv, hkv, his, hval⟩ := pairs_at hpa (i := x) (e := e) (by rw [Array.getElem?_toList]; exact he)
      obtain ⟨k2, hk2, hh⟩ := hka e (Array.mem_of_getElem? he)
      have ek : k2 = kv.1 := knd.inj _ _ _ hk2 his
      subst ek
      refine wpAny_bind (wpAny_dictEntries hoa' hda' ?_)
      rw [he]
      dsimp only
      have hl : (merged kvs (more.take x)).length ≤ sizeLine := by
        have h1 := len_merged (more.take x) kvs
        rw [List.length_take] at h1
        omega
      rw [hh]
      refine wpAny_bind (wpAny_holding (wpAny_dictPut his hm (fun h2 hm2 hs2 => ?_) hl))
      have hoa2 : h2.get? a = some oa := (hs2.2 a (Ne.symm hda)).trans hoa'
      refine wpAny_bind (wpAny_dictEpoch (s := { s with heap := h2 }) hoa2 hda' ?_)
      rw [if_neg (by simp)]
      refine wpAny_pure ⟨x + 1, h2, er2, hlt, rfl, ?_, ⟨hs2.1.trans hs.1, fun b hb => (hs2.2 b hb).trans (hs.2 b hb)⟩⟩
      rw [List.take_add_one, hkv]
      show h2.DictOf knd d (merged kvs (more.take x ++ [kv]))
      rw [merged_snoc, ← hval]
      exact hm2
    · rintro q t ⟨i, h', er, hi, rfl, hm, hs⟩
      have hin : i = esa.size := by
        by_cases z : i < esa.size
        · rw [show esa.size - i = esa.size - (i + 1) + 1 by omega, List.range'_succ] at er
          cases er
        · omega
      rw [hin, ← hlen, List.take_length] at hm
      exact wpAny_pure (hQ h' hm hs)
  refine wpAny_bind (wpAny_dictEntries hod hdd ?_)
  split
  · refine wpAny_bind (wpAny_dictEntries hoa hda' (wpAny_bind ?_))
    rw [← Array.forIn_toList]
    refine wpAny_forIn_list _ (fun rest q t => t = s ∧ ∀ e ∈ rest, e ∈ esa) _ ?_ ?_ _ _ ⟨rfl, fun e he => by simpa using he⟩
    · rintro e rest q t ⟨rfl, hm⟩
      obtain ⟨k, hk, _⟩ := hka e (hm e List.mem_cons_self)
      have nr := hnr k _ hk
      split
      · rename_i b hb
        exact absurd hb (nr b)
      · exact wpAny_pure ⟨rfl, fun e he => hm e (List.mem_cons_of_mem _ he)⟩
    · rintro q t ⟨rfl, _⟩
      exact loop
  · exact loop
end
/-! ### the display -/
theorem mix_noref {prog : Program} {w : World} : ∀ k key, (mixKind prog w).is k key = true → ∀ b, key ≠ .ref b := fun k key h b e => by
  rcases keyIs_shape h with ⟨_, _, _, rfl⟩ | ⟨_, _, _, rfl⟩ <;> cases e
section
variable {X : Cx} {pins : List (Addr × Obj)} {σ : L2.St} {H : Hp} {s : Shared} {E : Value → Shared → Prop} {d a : Addr} {kvs more : List (Key × V)} {Q : Unit → Shared → Prop}
theorem d_merge (I : Inv X pins σ H s) (hd : H d = some (.dK kvs)) (ha : Rd H a (.dK more)) (hda : d ≠ a) (hsz : kvs.length + more.length ≤ sizeLine) (h : ∀ s', Inv X pins σ (upd H d (.dK (mergeK kvs more))) s' → Q () s') :
    wpAny (model X.prog X.w) X.A (mergeMapping d (.ref a) false) Q E s := by
  obtain ⟨z1, y1, vs1, r1, d1⟩ := dk_of I.hok hd
  obtain ⟨z2, y2, vs2, r2, d2⟩ := dk_rd I.hok ha
  refine wpAny_merge hda y2 mix_noref d1 d2 (by rw [← r1.length, ← r2.length]; exact hsz) fun h' dd hs => h _ ?_
  have he : ∃ q, h'.get? d = some q := let ⟨q, _, _, hq, _⟩ := dd; ⟨q, hq⟩
  exact d_write I (by rw [hd]; exact True.intro) hs he (dk_new (Nat.le_trans (length_mergeK more kvs) hsz) y1 (r2.merge r1) dd)
end
/-- {**d, k: v}, keys ints and texts; D the new dict, D2 that of the pair -/
def tMrg (td tk tv : TE) : TE := fun σ H Q => ∀ D, H D = none → td σ (upd H D (.dK [])) fun x H1 => ∃ a kvs, x = .ref a ∧ D ≠ a ∧ Rd H1 a (.dK kvs) ∧ H1 D = some (.dK []) ∧ kvs.length < sizeLine ∧
  ∀ D2, H1 D2 = none → D2 ≠ D → tk σ (upd (upd H1 D (.dK (mergeK [] kvs))) D2 (.dK [])) fun y H2 => tv σ H2 fun z H3 => ∃ k, y = kV k ∧ H3 D = some (.dK (mergeK [] kvs)) ∧ H3 D2 = some (.dK []) ∧
    Q (.ref D) (upd (upd H3 D2 (.dK [(k, z)])) D (.dK (putK (mergeK [] kvs) k z)))
theorem pe_mrg {X : Cx} {pos : Pos} {de ke ve : Expr} {td tk tv : TE} (hd : PE X de td) (hk : PE X ke tk) (hv : PE X ve tv) : PE X (.Dict [none, some ke] [de, ve] pos) (tMrg td tk tv) := by
  refine ⟨fun pins s σ H Q I h => ?_⟩
  have hn := I.hok.fresh (Nat.le_refl s.heap.objs.size)
  have I1 := I.laid (a := s.heap.objs.size) (o := .dK []) (h' := s.heap.push { cls := .type "dict", data := .dict #[] }) (t' := s.toks) (fun _ _ q => Heap.get?_push_of_some _ q) (Nat.le_refl _) (dk_empty s.heap I.big)
  rw [arm_eval_Dict]
  refine wpAny_bind (wpAny_standAt ?_)
  unfold dictDisplay
  show wpAny _ _ (forIn [(none, (do let x ← eval de X.env; standAt pos; pure x)), (some (eval ke X.env), (do let x ← eval ve X.env; standAt pos; pure x))] _ _ >>= _) _ _ _
  rw [List.forIn_cons]
  refine wpAny_bind (wpAny_bind ?_)
  simp only [List.isEmpty_nil, if_true]
  refine wpAny_bind (wpAny_pure ?_)
  refine wpAny_bind (wpAny_alloc ?_)
  refine wpAny_bind (wpAny_holding (wpAny_bind ?_))
  refine thn (hd.run pins _ σ _ _ I1 (h _ hn)) fun u s1 ⟨x, H1, I2, rx, a, kvs, ex, hne, ha, hD, hz, q⟩ => ?_
  subst ex
  obtain rfl : u = Value.ref a := rx
  refine wpAny_bind (wpAny_standAt (wpAny_pure ?_))
  refine wpAny_bind (wpAny_onRaise (wpAny_tryCatch (wpAny_onRaise (wpAny_holding (d_merge I2 hD ha hne (by rw [List.length_nil]; omega) fun s2 I3 => ?_)))))
  refine wpAny_pure ?_
  dsimp only
  rw [List.forIn_cons]
  refine wpAny_bind ?_
  dsimp only
  rw [if_neg (by simp)]
  refine wpAny_pure ?_
  dsimp only
  rw [List.forIn_nil]
  refine wpAny_pure ?_
  dsimp only [List.nil_append]
  rw [if_neg (by simp)]
  generalize hDD : s.heap.objs.size = D at *
  have hD2 := I3.hok.fresh (Nat.le_refl s2.heap.objs.size)
  have hne2 : s2.heap.objs.size ≠ D := fun z => by rw [z, upd_same] at hD2; cases hD2
  have hD2' : H1 s2.heap.objs.size = none := by rw [upd_ne hne2] at hD2; exact hD2
  have I4 := I3.laid (a := s2.heap.objs.size) (o := .dK []) (h' := s2.heap.push { cls := .type "dict", data := .dict #[] }) (t' := s2.toks) (fun _ _ q => Heap.get?_push_of_some _ q) (Nat.le_refl _) (dk_empty s2.heap I3.big)
  refine wpAny_bind (wpAny_bind (wpAny_holding ?_))
  unfold subDict
  refine wpAny_bind (wpAny_alloc (wpAny_bind (wpAny_holding ?_)))
  rw [if_pos (by simp)]
  refine wpAny_bind ?_
  rw [evalPairs, evalPairs]
  refine wpAny_bind (thn (hk.run pins _ σ _ _ I4 (q _ hD2' hne2)) fun u s3 ⟨y, H2, I5, ry, q2⟩ => ?_)
  refine wpAny_bind (wpAny_holding (wpAny_bind (thn (hv.run pins s3 σ H2 _ I5 q2) fun u2 s4 ⟨z, H3, I6, rz, k, ek, e1, e2, q3⟩ => ?_)))
  subst ek
  refine wpAny_bind (wpAny_standAt (wpAny_pure (wpAny_bind (wpAny_holding (wpAny_pure (wpAny_pure (wpAny_holding ?_)))))))
  rw [List.forIn_cons]
  refine wpAny_bind (wpAny_bind (wpAny_bind (d_dictSet I6 e2 (by rw [List.length_nil]; decide) ry rz fun s5 I7 => wpAny_pure ?_)))
  dsimp only
  rw [List.forIn_nil]
  refine wpAny_pure (wpAny_pure (wpAny_pure ?_))
  have e3 : upd H3 s2.heap.objs.size (.dK (putK [] k z)) D = some (.dK (mergeK [] kvs)) := by rw [upd_ne (Ne.symm hne2)]; exact e1
  refine wpAny_bind (wpAny_onRaise (wpAny_holding (d_merge I7 e3 (.inl upd_same) (Ne.symm hne2) ?_ fun s6 I8 => ?_)))
  · have h1 := length_mergeK kvs []
    rw [List.length_nil] at h1
    show _ + 1 ≤ sizeLine
    omega
  · refine wpAny_pure (wpAny_pure ⟨.ref D, _, I8, rfl, q3⟩)
end Kw
/-! max(l, default = d) of a list of ints; *d in a display, d a dict with tuples as keys. -/
namespace Kw
open PySem PySem.Spec PyProof.Rows L2
section
variable {prog : Program} {w : World} {A : Around} {R : Result → Shared → Prop} {I : Addr} {fp wr : List Addr} {n : Nat} {P : Nat → Value → Prop} {St : Nat → Heap → Prop} {kw : List (Str × Value)}
theorem max_loopD (W : Walks prog w A.in1 I fp wr n P St) (bt : Nat → Nat → Bool) (hcmp : CmpOf prog w A.in1 .Gt P bt) (S : Addr) (hSf : S ∉ fp) :
    ∀ (k j : Nat) (s : Shared) (vb : Value) (c : Nat), n - (j + 1) = k → j + 1 ≤ n → St (j + 1) s.heap → P (argBest bt j) vb →
    s.heap.get? S = some { cls := .type "list", dict := none, data := .seq #[vb, vb] c, slots := #[] } →
    (∀ v h' tk, P (argBest bt (n - 1)) v → (∀ b o, b ∉ wr → b ≠ S → s.heap.get? b = some o → h'.get? b = some o) → R (.ok (.ret v)) { s with heap := h', toks := tk }) →
    codeAny (model prog w) A (.builtin "max.loop" ⟨[.ref I, .none, .ref S], kw⟩) R s := by
  have hSw : S ∉ wr := fun h => hSf (W.sub _ h)
  have hname : (toString "max" ++ toString ".loop" : String) = "max.loop" := by decide
  intro k
  induction k with
  | zero =>
    intro j s vb c hk hj hst hPb hS hR
    have hin : j + 1 = n := by omega
    refine codeAny_builtin PySem.F.entry_max_loop ?_
    rw [Around.under_plainId PySem.F.plain_max_loop _]
    show wpAny _ A.in1 (seqItems? (.ref S) >>= _) _ _ s
    refine wpAny_bind (wpAny_seqItems hS rfl ?_)
    show wpAny _ A.in1 (tryCatch (pyNext (.ref I)) _ >>= _) _ _ s
    refine wpAny_bind (wpAny_tryCatch (W.done s _ _ (hin ▸ hst) fun h' tk hk' => ?_))
    have hS' := hk' S _ hSw hS
    show wpAny _ A.in1 (updateSeq S (fun _ => #[]) >>= _) _ _ _
    refine wpAny_bind ?_
    refine wpAny_updateSeq hS' rfl (wpAny_bind (wpAny_letGo (wpAny_pure ?_)))
    refine hR vb _ tk (by rw [← hin]; exact hPb) fun b o hbw hbS e => (Heap.get?_update_other _ _ (Ne.symm hbS)).trans (hk' b o hbw e)
  | succ k ih =>
    intro j s vb c hk hj hst hPb hS hR
    have hlt : j + 1 < n := by omega
    refine codeAny_builtin PySem.F.entry_max_loop ?_
    rw [Around.under_plainId PySem.F.plain_max_loop _]
    show wpAny _ A.in1 (seqItems? (.ref S) >>= _) _ _ s
    refine wpAny_bind (wpAny_seqItems hS rfl ?_)
    show wpAny _ A.in1 (tryCatch (pyNext (.ref I)) _ >>= _) _ _ s
    refine wpAny_bind (wpAny_tryCatch (W.item (j + 1) s _ _ hlt hst fun v h' tk hP hst' hk' => ?_))
    have hS' := hk' S _ hSw hS
    show wpAny _ A.in1 (tryCatch (holding [v, v] (richCompare .Gt v vb >>= _)) _ >>= _) _ _ _
    refine wpAny_bind (wpAny_tryCatch (wpAny_holding (wpAny_bind (hcmp (j + 1) (argBest bt j) v vb _ _ _ hP hPb ?_))))
    refine wpAny_bind (wpAny_holding (wpAny_truthy_bool ?_))
    refine wpAny_bind (wpAny_letGo (wpAny_pure ?_))
    cases hb : bt (j + 1) (argBest bt j) with
    | true =>
      simp only [if_true]
      refine wpAny_bind ?_
      refine wpAny_updateSeq hS' rfl (wpAny_bind (wpAny_letGo ?_))
      rw [hname]
      refine wpAny_pure ⟨plainId_quiet PySem.F.plain_max_loop _, ih (j + 1) _ v _ (by omega) hlt (W.frame _ _ _ hst' fun b hbf o e => ?_) (by simp only [argBest, hb, if_true]; exact hP) (Heap.get?_update_self _ hS' rfl)
        fun v' h'' tk'' hP' hk'' => ?_⟩
      · exact (Heap.get?_update_other _ _ (fun h : S = b => hSf (by rw [h]; exact hbf))).trans e
      · exact hR v' h'' tk'' hP' fun b o hbw hbS e => hk'' b o hbw hbS ((Heap.get?_update_other _ _ (Ne.symm hbS)).trans (hk' b o hbw e))
    | false =>
      simp only [Bool.false_eq_true, if_false]
      refine wpAny_bind (wpAny_letGo ?_)
      rw [hname]
      refine wpAny_pure ⟨plainId_quiet PySem.F.plain_max_loop _, ih (j + 1) _ vb c (by omega) hlt hst' (by simp only [argBest, hb, Bool.false_eq_true, if_false]; exact hPb) hS' fun v' h'' tk'' hP' hk'' => ?_⟩
      exact hR v' h'' tk'' hP' fun b o hbw hbS e => hk'' b o hbw hbS (hk' b o hbw e)
theorem max_firstD (W : Walks prog w A.in1 I fp wr n P St) (bt : Nat → Nat → Bool) (hcmp : CmpOf prog w A.in1 .Gt P bt) (S : Addr) (hSf : S ∉ fp) {x : Str} {d : Value} {s : Shared} {c : Nat} (hst : St 0 s.heap)
    (hS : s.heap.get? S = some { cls := .type "list", dict := none, data := .seq #[] c, slots := #[] })
    (h0 : n = 0 → ∀ h' tk, (∀ b o, b ∉ wr → b ≠ S → s.heap.get? b = some o → h'.get? b = some o) → R (.ok (.ret d)) { s with heap := h', toks := tk })
    (hR : 0 < n → ∀ v h' tk, P (argBest bt (n - 1)) v → (∀ b o, b ∉ wr → b ≠ S → s.heap.get? b = some o → h'.get? b = some o) → R (.ok (.ret v)) { s with heap := h', toks := tk }) :
    codeAny (model prog w) A (.builtin "max.loop" ⟨[.ref I, .none, .ref S], [(x, d)]⟩) R s := by
  have hSw : S ∉ wr := fun h => hSf (W.sub _ h)
  have hname : (toString "max" ++ toString ".loop" : String) = "max.loop" := by decide
  refine codeAny_builtin PySem.F.entry_max_loop ?_
  rw [Around.under_plainId PySem.F.plain_max_loop _]
  show wpAny _ A.in1 (seqItems? (.ref S) >>= _) _ _ s
  refine wpAny_bind (wpAny_seqItems hS rfl ?_)
  show wpAny _ A.in1 (tryCatch (pyNext (.ref I)) _ >>= _) _ _ s
  rcases Nat.eq_zero_or_pos n with hn | hn
  · subst hn
    refine wpAny_bind (wpAny_tryCatch (W.done s _ _ hst fun h' tk hk' => ?_))
    exact wpAny_bind (wpAny_rule (wpAny_pure (h0 rfl h' tk fun b o hbw _ e => hk' b o hbw e)))
  · refine wpAny_bind (wpAny_tryCatch (W.item 0 s _ _ hn hst fun v h' tk hP hst' hk' => ?_))
    have hS' := hk' S _ hSw hS
    show wpAny _ A.in1 (updateSeq S (fun _ => #[v, v]) >>= _) _ _ _
    refine wpAny_bind ?_
    refine wpAny_updateSeq hS' rfl ?_
    rw [hname]
    refine wpAny_pure ⟨plainId_quiet PySem.F.plain_max_loop _, max_loopD W bt hcmp S hSf _ 0 _ v _ rfl hn (W.frame _ _ _ hst' fun b hbf o e => ?_) hP (Heap.get?_update_self _ hS' rfl) fun v' h'' tk'' hP' hk'' => ?_⟩
    · exact (Heap.get?_update_other _ _ (fun h : S = b => hSf (by rw [h]; exact hbf))).trans e
    · exact hR hn v' h'' tk'' hP' fun b o hbw hbS e => hk'' b o hbw hbS ((Heap.get?_update_other _ _ (Ne.symm hbS)).trans (hk' b o hbw e))
end
section
variable {prog : Program} {w : World} {A : Around} {E : Value → Shared → Prop} {s : Shared} {l : Addr} {its : List Value} {ns : List Int} {Q : Value → Shared → Prop} {d : Value}
theorem args_maxD (a v : Value) : argsOk "max" ⟨[a], [(Str.ofString "default", v)]⟩ := by unfold argsOk; kernel_rfl
theorem max_listD (hh : A.handled = none) (hl : s.heap.IsList l its.toArray) (hi : IntsAre its ns)
    (h0 : ns = [] → ∀ h' tk, (∀ b o, s.heap.get? b = some o → h'.get? b = some o) → Q d { s with heap := h', toks := tk })
    (h : ∀ h' tk M t', (∀ b o, s.heap.get? b = some o → h'.get? b = some o) → M ∈ ns → (∀ a, a ∈ ns → a ≤ M) → Q (.int M t') { s with heap := h', toks := tk }) : wpAny (model prog w) A (call (.builtin "max") [.ref l] [(Str.ofString "default", d)]) Q E s := by
  have hname : (toString "max" ++ toString ".loop" : String) = "max.loop" := by decide
  obtain ⟨xs, e⟩ := hi.allInts.items
  have hn : numsOf (intItems xs).toList = ns := by rw [← e]; exact hi.numsOf
  rw [nums_intItems] at hn
  subst hn
  rw [e] at hl
  refine PyProof.Rows.kmk_tree PySem.F.kind_max PySem.F.plain_max PySem.F.entry_max (args_maxD _ _) ?_
  show wpAny _ A.in1 (Builtin.Builtins.bindParams "max" ["key", "default"] 0 ⟨[], [(Str.ofString "default", d)]⟩ >>= _) _ _ s
  refine wpAny_bind (wpAny_of_eq (show Builtin.Builtins.bindParams "max" ["key", "default"] 0 ⟨[], [(Str.ofString "default", d)]⟩ = pure [none, some d] from rfl) ?_)
  refine wpAny_bind (wpAny_pure ?_)
  refine wpAny_bind (iter_intList hl fun s₂ es st hfp hlI => ?_)
  subst es
  refine wpAny_bind (wpAny_newObj_type ?_)
  have hSf : (s.heap.push { cls := .type "list_iterator", data := .fields #[.ref l, .int 0 0] }).objs.size ∉ [s.heap.objs.size, l] := fun hm => Nat.lt_irrefl _ (hfp _ hm)
  rw [hname]
  have W := Walks.list (prog := prog) (w := w) (A := A.in1) hh s.heap.objs.size l hlI (intItems xs)
  have old : ∀ {h' : Heap}, (∀ b o, b ∉ [s.heap.objs.size] → b ≠ (s.heap.push { cls := .type "list_iterator", data := .fields #[.ref l, .int 0 0] }).objs.size → ((s.heap.push { cls := .type "list_iterator", data := .fields #[.ref l, .int 0 0] }).push { cls := .type "list", data := .seq ([] : List Value).toArray }).get? b = some o → h'.get? b = some o) →
      ∀ b o, s.heap.get? b = some o → h'.get? b = some o := fun hk b o eb => hk b o (fun z => by
        have lt := Heap.lt_size eb
        rw [List.mem_singleton.mp z] at lt
        exact Nat.lt_irrefl _ lt) (fun z => by
        have lt := Heap.lt_size eb
        rw [z, Heap.size_push] at lt
        exact absurd lt (Nat.not_lt.mpr (Nat.le_succ _))) (Heap.get?_push_of_some _ (Heap.get?_push_of_some _ eb))
  refine wpAny_pure ⟨plainId_quiet PySem.F.plain_max_loop _, max_firstD W (fun i j => decide (numAt xs i > numAt xs j)) (CmpOf.ints_gt (numAt xs) (fun _ _ => intItems_at)) _ hSf (W.frame _ _ _ st fun b _ o e => Heap.get?_push_of_some _ e) (Heap.get?_push_size _ rfl) (fun hz h' tk hk => ?_) fun hz v h' tk hP hk => ?_⟩
  · refine h0 ?_ h' tk (old hk)
    have z : xs.size = 0 := by simpa [intItems] using hz
    have z2 : xs = #[] := Array.eq_empty_of_size_eq_zero z
    rw [z2]
    rfl
  · have hsz : 0 < xs.size := by simpa [intItems] using hz
    have hv : (intItems xs)[argBest (fun i j => decide (numAt xs i > numAt xs j)) (xs.size - 1)]? = some v := by simpa [intItems] using hP
    obtain ⟨t, rfl⟩ := intItems_at hv
    obtain ⟨h1, h2⟩ := argBest_gt (numAt xs) (xs.size - 1)
    refine h h' tk _ t (old hk) ?_ fun a ha => ?_
    · rw [numAt_eq]; exact PySem.getD_mem (by rw [List.length_map, Array.length_toList]; omega)
    · obtain ⟨j, hj, rfl⟩ := mem_getD ha
      rw [List.length_map, Array.length_toList] at hj
      rw [← numAt_eq]; exact h2 j (by omega)
end
/-- max(e, default = d), e a list of ints -/
def tMaxD (K : PySem.W.Frag) (ta tk : TA) : TE := fun σ H Q => ta σ H fun vs H1 => tk σ H1 fun zs H2 => ∃ (a : Addr) (ns : List Int) (y : V), vs = [.ref a] ∧ zs = [y] ∧ SqL K H2 a (ns.map V.int) ∧ (ns = [] → Q y H2) ∧ ∀ m, m ∈ ns → (∀ z ∈ ns, z ≤ m) → Q (.int m) H2
theorem pe_maxD {X : Cx} {e : Expr} {kws : List Keyword} {ta tk : TA} {p pos : Pos} (hc : X.calm = true) (hg : Gl X "max") (hm : X.mg "max" = none) (ha : PA X [e] ta) (hkw : PK X kws tk)
    (hall : (backToKw pos (keywordEach kws X.env)).all (·.1.isSome) = true := by rfl) (hks : (backToKw pos (keywordEach kws X.env)).filterMap (·.1) = [Str.ofString "default"] := by rfl)
    (hpl : (backTo pos (starEach [e] X.env)).any (·.1) = false := by rfl) (hno : (backToKw pos (keywordEach kws X.env)).any (·.1.isNone) = false := by rfl) (hb : backTo pos (starEach [e] X.env) = (false, eval e X.env) :: backTo pos (starEach [] X.env) := by rfl) :
    PE X (.Call (.Name "max" p) [e] kws pos) (tMaxD X.K ta tk) := by
  refine ⟨fun pins s σ H Q I h => ?_⟩
  refine wpAny_Call_Name_kw (ld_blt I hg hm (by decide +kernel : bootBuiltins "max" = some (.builtin "max")) ?_)
  refine PyProof.Rows.callWith_kw (thn (ha.run pos pins s σ H _ I h) fun us s1 ⟨vs, H1, I1, r, q⟩ => ?_) hb hpl hall hno
  refine thn (hkw.run pos pins s1 σ H1 _ I1 q) fun ws s2 ⟨zs, H2, I2, rz, a, ns, y, ev, ez, hl, q0, q1⟩ => ?_
  subst ev ez
  rw [hks, Vals.ref1 r]
  obtain ⟨u, rfl, ru⟩ := vals1 rz
  obtain ⟨its, rv, hl2, _⟩ := I2.list hl
  exact max_listD (I2.ok.hd hc) hl2.isList rv.ints (fun z h' tk hk => ⟨y, H2, I2.kept hk, ru, q0 z⟩) fun h' tk m t' hk h1 h2 => ⟨.int m, H2, I2.kept hk, ⟨_, rfl⟩, q1 m h1 h2⟩
/-! ### *d, d a dict with tuples as keys -/
section
variable {X : Cx} {pins : List (Addr × Obj)} {σ : L2.St} {H : Hp} {s : Shared}
theorem star_dT {d : Addr} {kvs : List (List Key × V)} {E : Value → Shared → Prop} {Q : List Value → Shared → Prop} (hc : X.calm = true) (I : Inv X pins σ H s) (hd : Rd H d (.dT kvs))
    (hQ : ∀ us s' bs, Inv X pins σ H s' → IsKeys H kvs bs → Vals (bs.map V.ref) us → Q us s') : PySem.W.StarOf (model X.prog X.w) X.A E (.ref d) Q s := by
  obtain ⟨z, hs, ks, pr, o, es, ep, ho, hx, hdt, he, hn⟩ := (show ObjOk X.prog X.w H s.heap d (.dT kvs) from hd.ok I.hok)
  have l1 : es.size = ks.length := size_of_entries he
  have l2 : kvs.length = ks.length := Paired.length pr
  have hT : s.TypeIs (.ref d) "dict" := ⟨o, ho, hx.1⟩
  have zz : wpAny (model X.prog X.w) X.A (collect (.ref d)) Q E s := by
    refine PySem.W.kdu_collect (kdl_raw hs hx hdt) (I.ok.hd hc) ho (by omega) fun h' tk acc' kp it => ?_
    have ea : acc'.toList = ks.map fun x => Value.ref x.2.1 := by
      have hl : acc'.toList.length = ks.length := by rw [Array.length_toList, it.1]; exact l1
      apply List.ext_getElem?
      intro j
      rw [List.getElem?_map]
      cases hj : acc'.toList[j]? with
      | none =>
        have h1 := List.getElem?_eq_none_iff.mp hj
        rw [List.getElem?_eq_none (by omega)]
        all_goals rfl
      | some v =>
        obtain ⟨en, hen, hv⟩ := it.2 j v (by rw [← Array.getElem?_toList]; exact hj)
        have qe := entry_at he j
        rw [hen] at qe
        cases hb : ks[j]? with
        | none =>
          rw [hb] at qe
          exact nomatch (show some en = none from qe)
        | some b =>
          rw [hb] at qe
          have e2 : en = entryOfKey (tupleKind (mixKind X.prog X.w)) b := Option.some.inj qe
          rw [hv, e2]
          all_goals rfl
    have eb : acc'.toList = (ks.map fun x => x.2.1).map Value.ref := by rw [ea, List.map_map]; all_goals rfl
    exact hQ _ _ (ks.map fun x => x.2.1) (I.kept kp) (isKeys_of pr) (by rw [eb]; exact vals_refs _)
  unfold PySem.W.StarOf notIterableAtAll
  exact wpAny_bind (wpAny_specialOf hT PySem.F.slot_dict_iter.lookup (wpAny_pure ⟨rfl, zz⟩))
end
def tStarT (te : TE) (t : TA) : TA := fun σ H Q => te σ H fun x H1 => ∃ p kvs, x = V.ref p ∧ Rd H1 p (.dT kvs) ∧ ∀ bs, IsKeys H1 kvs bs → t σ H1 fun ys H2 => Q (bs.map V.ref ++ ys) H2
theorem pa_starT {X : Cx} {e : Expr} {es : List Expr} {te : TE} {t : TA} {p : Pos} (hc : X.calm = true) (he : PE X e te) (hr : PA X es t) (hs : starEach (.Starred e p :: es) X.env = (true, eval e X.env) :: starEach es X.env := by rfl) : PA X (.Starred e p :: es) (tStarT te t) := by
  refine ⟨fun pos pins s σ H Q I h => ?_⟩
  refine PySem.W.items_star (thn (he.run pins s σ H _ I h) fun v s1 ⟨y, H1, I1, ry, a, kvs, ey, hx, q⟩ => ?_) hs
  subst ey
  obtain rfl : v = Value.ref a := ry
  refine star_dT hc I1 hx fun us s2 bs I2 hk rv => ?_
  exact thn (hr.run pos pins s2 σ H1 _ I2 (q bs hk)) fun ws s3 ⟨vs, H3, I3, r3, q3⟩ => ⟨bs.map V.ref ++ vs, H3, I3, rv.append r3, q3⟩
end Kw
/-! Own errors under any built-in one, with an __init__ of their own: made, kept, asked. -/
namespace PySem
namespace Kx
open PySem.W PySem.Calls PyProof.Rows PySem.HandSPX Builtin Builtin.ObjectAttr
/-- a built-in error B under which own ones stand: who makes them, who sets them up, the row of classes -/
structure Bs (B newId initId : String) (tl : List Value) : Prop where
  new : ∃ (D i0 : String) (bmD : List Value), ExcBaseFacts D newId i0 bmD ∧ tl.contains (.type D) = true
  nA : tl.contains (.type "AttributeError") = false
  nN : tl.contains (.type "NameError") = false
  ini : PyProof.Rows.ExcClass B newId initId
  has : tl.contains (.type B) = true
  obj : tl.contains (.type "object") = true
  pass : ∀ self : Value, refuseLoop self "__setattr__" tl = pure ()
abbrev tIndex : List Value := [.type "IndexError", .type "LookupError", .type "Exception", .type "BaseException", .type "object"]
abbrev tKey : List Value := [.type "KeyError", .type "LookupError", .type "Exception", .type "BaseException", .type "object"]
abbrev tOver : List Value := [.type "OverflowError", .type "ArithmeticError", .type "Exception", .type "BaseException", .type "object"]
abbrev tLook : List Value := [.type "LookupError", .type "Exception", .type "BaseException", .type "object"]
abbrev tRun : List Value := [.type "RuntimeError", .type "Exception", .type "BaseException", .type "object"]
abbrev tArith : List Value := [.type "ArithmeticError", .type "Exception", .type "BaseException", .type "object"]
theorem bs_Index : Bs "IndexError" "IndexError.__new__" "IndexError.__init__" tIndex := ⟨⟨_, _, _, F.excBase_IndexError, by decide +kernel⟩, by decide +kernel, by decide +kernel, excClass_IndexError, by decide +kernel, by decide +kernel, fun x => by kernel_rfl⟩
theorem bs_Key : Bs "KeyError" "LookupError.__new__" "KeyError.__init__" tKey := ⟨⟨_, _, _, F.excBase_LookupError, by decide +kernel⟩, by decide +kernel, by decide +kernel, excClass_KeyError, by decide +kernel, by decide +kernel, fun x => by kernel_rfl⟩
theorem bs_Over : Bs "OverflowError" "OverflowError.__new__" "OverflowError.__init__" tOver := ⟨⟨_, _, _, F.excBase_OverflowError, by decide +kernel⟩, by decide +kernel, by decide +kernel, excClass_OverflowError, by decide +kernel, by decide +kernel, fun x => by kernel_rfl⟩
theorem bs_Look : Bs "LookupError" "LookupError.__new__" "LookupError.__init__" tLook := ⟨⟨_, _, _, F.excBase_LookupError, by decide +kernel⟩, by decide +kernel, by decide +kernel, excClass_LookupError, by decide +kernel, by decide +kernel, fun x => by kernel_rfl⟩
theorem bs_Run : Bs "RuntimeError" "RuntimeError.__new__" "RuntimeError.__init__" tRun := ⟨⟨_, _, _, F.excBase_RuntimeError, by decide +kernel⟩, by decide +kernel, by decide +kernel, excClass_RuntimeError, by decide +kernel, by decide +kernel, fun x => by kernel_rfl⟩
theorem bs_Arith : Bs "ArithmeticError" "ArithmeticError.__new__" "ArithmeticError.__init__" tArith := ⟨⟨_, _, _, F.excBase_ArithmeticError, by decide +kernel⟩, by decide +kernel, by decide +kernel, excClass_ArithmeticError, by decide +kernel, by decide +kernel, fun x => by kernel_rfl⟩
/-- the written class: over the row tl, made by newId, with a dict -/
def oxB (K : Frag) (C : Addr) (tl : List Value) (newId : String) : Bool :=
  match K.lookup C with
  | some ⟨.type "type", _, .cls c, sl⟩ =>
    match c.mro, sl.toList with
    | .ref C1 :: bm, [_, _, _, _, some (.builtin n), _] => (C1 == C && n == newId) && (!c.hasDel && (c.hasDict && bm == tl))
    | _, _ => false
  | _ => false
theorem ox_obj {K : Frag} {C : Addr} {tl : List Value} {newId : String} (q : oxB K C tl newId = true) :
    ∃ nm qn N bs sn sub ab col dd k0 k1 k2 k3 k5, K.lookup C = some (excClassObj nm qn C N bs tl true sn sub ab col dd k0 k1 k2 k3 k5 newId) := by
  unfold oxB at q
  split at q
  · rename_i dd c sl e
    split at q
    · rename_i C1 bm k0 k1 k2 k3 n k5 em es
      obtain ⟨q1, q2⟩ := Bool.and_eq_true_iff.mp q
      obtain ⟨q3, q4⟩ := Bool.and_eq_true_iff.mp q1
      obtain ⟨q5, q6⟩ := Bool.and_eq_true_iff.mp q2
      obtain ⟨q7, q8⟩ := Bool.and_eq_true_iff.mp q6
      obtain rfl := beq_iff_eq.mp q3
      obtain rfl := beq_iff_eq.mp q4
      obtain rfl := beq_iff_eq.mp q8
      obtain ⟨nm, bs, mr, N, qn, hd, sn, sub, ab, col, dl⟩ := c
      dsimp only at em q5 q7
      subst em
      subst q7
      have q9 : dl = false := by cases dl <;> first | rfl | cases q5
      subst q9
      obtain ⟨l⟩ := sl
      dsimp only at es
      subst es
      exact ⟨nm, qn, N, bs, sn, sub, ab, col, dd, k0, k1, k2, k3, k5, e⟩
    · cases q
  · cases q
section
variable {M : Model} {A : Around} {E : Value → Shared → Prop} {h : Heap} {g : Array GenState} {d : Drawn} {t : Nat} {os : OsState}
variable {nm q : Str} {C N : Addr} {bs tl bmD : List Value} {sn : List Str} {sub : List Value} {ab : Bool} {col : Option Bool} {dd : Option Addr} {k0 k1 k2 k3 k5 : Option Value} {B D newId initId i0 : String}
theorem chk_new (fb : ExcBaseFacts D newId i0 bmD) (hD : tl.contains (.type D) = true) {us : List Value} {Q : Unit → Shared → Prop} (eC : h.get? C = some (excClassObj nm q C N bs tl true sn sub ab col dd k0 k1 k2 k3 k5 newId)) (k : Q () ⟨h, g, d, t, os⟩) :
    wpAny M A (checkBuiltinCall newId ⟨.ref C :: us, []⟩) Q E ⟨h, g, d, t, os⟩ := by
  have cD : (Value.ref C :: tl).contains (.type D) = true := by rw [List.contains_cons, hD, Bool.or_true]
  have ns := fb.noStar
  simp only [checkBuiltinCall, fb.newKind, fb.newSplit, fb.newRow]
  repeat (first | refine wpAny_loadPart_at eC ?_ | (refine wpAny_isSubtype_exc eC ?_; rw [cD]) | refine wpAny_staticBase_exc eC ?_ | refine wpAny_madeBy_exc eC ?_ | simp only [bne_self_eq_false, Bool.false_eq_true, if_false] | wp_step)
  exact k
theorem chk_init (b : Bs B newId initId tl) {x : Addr} {ox : Obj} {us : List Value} {Q : Unit → Shared → Prop} (eC : h.get? C = some (excClassObj nm q C N bs tl true sn sub ab col dd k0 k1 k2 k3 k5 newId)) (ex : h.get? x = some ox) (ec : ox.cls = .ref C)
    (k : Q () ⟨h, g, d, t, os⟩) : wpAny M A (checkBuiltinCall initId ⟨.ref x :: us, []⟩) Q E ⟨h, g, d, t, os⟩ := by
  have cB : (Value.ref C :: tl).contains (.type B) = true := by rw [List.contains_cons, b.has, Bool.or_true]
  have ns := b.ini.notStar
  simp only [checkBuiltinCall, b.ini.initKind, b.ini.initSplit, b.ini.initSig]
  repeat (first | (with_reducible refine wpAny_loadPart_at ex ?_; rw [ec]) | with_reducible refine wpAny_loadPart_at eC ?_ | (with_reducible refine wpAny_isSubtype_exc eC ?_; rw [cB]) | wp_step)
  refine wpAny_onRaise ?_
  rw [show ∀ (a1 a2 : String) (n : Nat), Bind.check ⟨.positional, "*", B, .self, [⟨"args", .varPos, false⟩]⟩ a1 a2 n (List.map (fun z => z.fst) ({ pos := Value.ref x :: us } : Args).kw) = pure () from fun a1 a2 n => check_star_args _ _ _ _ _ _]
  exact wpAny_pure k
end
section
variable {prog : Program} {w : World} {A : Around} {E : Value → Shared → Prop} {R : Result → Shared → Prop} {h : Heap} {g : Array GenState} {d : Drawn} {t : Nat} {os : OsState}
variable {nm q : Str} {C N : Addr} {bs tl bmD : List Value} {sn : List Str} {sub : List Value} {ab : Bool} {col : Option Bool} {dd : Option Addr} {k0 k1 k2 k3 k5 : Option Value} {B D newId initId i0 : String}
theorem the_new (fb : ExcBaseFacts D newId i0 bmD) (hD : tl.contains (.type D) = true) (nA : tl.contains (.type "AttributeError") = false) (nN : tl.contains (.type "NameError") = false) {us : List Value} (eC : h.get? C = some (excClassObj nm q C N bs tl true sn sub ab col dd k0 k1 k2 k3 k5 newId))
    (k : R (.ok (.ret (.ref (h.objs.size + 1)))) ⟨(h.push (kdv_tup us)).push (excO C h.objs.size), g, d, t, os⟩) (hz : us.length ≤ sizeLine) : codeAny (model prog w) A (.builtin newId ⟨.ref C :: us, []⟩) R ⟨h, g, d, t, os⟩ := by
  have he := fb.ends
  have c1 : (Value.ref C :: tl).contains (.type D) = true := by rw [List.contains_cons, hD, Bool.or_true]
  have c2 : (Value.ref C :: tl).contains (.type "AttributeError") = false := by rw [List.contains_cons, nA]; rfl
  have c3 : (Value.ref C :: tl).contains (.type "NameError") = false := by rw [List.contains_cons, nN]; rfl
  refine codeAny_builtinAt fb.entry ?_
  unfold Builtin.«BaseException.__new__»
  refine wpAt_bind ?_
  show wpAt _ _ _ (stack >>= _) _ _ _
  refine wpAt_bind (wpAt_stack fun y1 y2 => wpAt_of_wpAny ?_)
  wp_walk
  refine wpAt_of_wpAny ?_
  rw [fb.owner]
  repeat (first | with_reducible refine wpAny_madeHere_exc fb.canon eC ?_ | with_reducible refine wpAny_loadPart_at eC ?_ | (with_reducible refine wpAny_isSubtype_exc eC ?_; first | rw [c1] | rw [c2] | rw [c3]) | wp_step)
  show R _ _
  rw [Heap.size_push]
  exact k
/-- C(us), C over tl, by its own __init__ at fI -/
theorem the_call (b : Bs B newId initId tl) {us : List Value} {fI : Addr} (eC : h.get? C = some (excClassObj nm q C N bs tl true sn sub ab col dd k0 k1 k2 k3 k5 newId))
    (hi : W.Looks (model prog w) h (typeLookup (.ref C) "__init__") (some (.ref fI))) (hb : ∀ x, W.Looks (model prog w) h (bindSpecial (.ref fI) x) (.ref fI, [x])) (hz : us.length ≤ sizeLine)
    (k : codeAny (model prog w) (A.under (.builtin "type.__call__" ⟨.ref C :: us, []⟩)) (.call (.ref fI) ⟨.ref (h.objs.size + 1) :: us, []⟩) (W.InitBack (h.objs.size + 1) R) ⟨(h.push (W.kdv_tup us)).push (excO C h.objs.size), g, d, t, os⟩) :
    codeAny (model prog w) A (.call (.ref C) ⟨us, []⟩) R ⟨h, g, d, t, os⟩ := by
  obtain ⟨D, i0, bmD, fb, hD⟩ := b.new
  have t1 := tc_lookup
  have t2 := tc_bind (.ref C)
  have tC : (⟨h, g, d, t, os⟩ : Shared).TypeIs (.ref C) "type" := ⟨_, eC, rfl⟩
  refine codeAny_of_tree ?_
  show wpAny _ _ (callAny (.ref C) _) _ _ _
  repeat (any_goals (first | assumption | with_reducible refine wpAny_loadPart_at eC ?_ | wp_step))
  refine ⟨rfl, codeAny_call_builtin_at (Code.quiet_builtin _ (by decide +kernel)) entry_typeCall (wpAny_check_type_call_sub eC ?_)⟩
  show wpAny (model prog w) (A.under (.builtin "type.__call__" ⟨.ref C :: us, []⟩)) (Builtin.«type.__call__» ⟨.ref C :: us, []⟩) _ _ _
  repeat (first | with_reducible refine wpAny_loadPart_at eC ?_ | with_reducible refine wpAny_madeBy_exc eC ?_ | wp_step)
  refine codeAny_call_builtin_code (Code.quiet_builtin _ fb.quiet) (chk_new fb hD eC ?_)
  refine the_new fb hD b.nA b.nN eC ?_ hz
  show wpAny _ _ _ _ _ _
  have kp : ∀ y o, h.get? y = some o → ((h.push (W.kdv_tup us)).push (excO C h.objs.size)).get? y = some o := fun y o z => Heap.get?_push_of_some _ (Heap.get?_push_of_some _ z)
  have eC1 := kp _ _ eC
  have e1 : ((h.push (W.kdv_tup us)).push (excO C h.objs.size)).get? (h.objs.size + 1) = some (excO C h.objs.size) := by heap_get
  have cC : (Value.ref C :: tl).contains (.ref C) = true := by simp
  have j1 := hi.keeps kp
  have j2 := (hb (.ref (h.objs.size + 1))).keeps kp
  unfold isInstance
  repeat (first | with_reducible refine wpAny_loadPart_at e1 ?_ | (with_reducible refine wpAny_isSubtype_exc eC1 ?_; rw [cC]) | wp_step)
  show wpAny _ _ (typeLookup (.ref C) _) _ _ _
  refine j1.at (wpAny_holding (wpAny_bind (j2.at ?_)))
  refine wpAny_bind (wpAny_call (codeAny_mono k fun r s' z => ?_))
  rcases r with e | (v | _ | _ | _) <;> first | exact z | exact z.elim | skip
  obtain ⟨rfl, z⟩ := z
  first
    | exact wpAny_pure (wpAny_pure z)
    | (wp_walk; exact z)
/-- B.__init__(x, ..): the args are laid anew -/
theorem the_init (b : Bs B newId initId tl) {x t0 : Addr} {us : List Value} (eC : h.get? C = some (excClassObj nm q C N bs tl true sn sub ab col dd k0 k1 k2 k3 k5 newId)) (ex : h.get? x = some (excO C t0)) (hz : us.length ≤ sizeLine)
    (k : ∀ h' t1, (∀ y o, y ≠ x → h.get? y = some o → h'.get? y = some o) → h'.get? x = some (excO C t1) → R (.ok (.ret .none)) ⟨h', g, d, t, os⟩) :
    codeAny (model prog w) A (.call (.builtin initId) ⟨.ref x :: us, []⟩) R ⟨h, g, d, t, os⟩ := by
  refine codeAny_call_builtin b.ini.init.plain b.ini.initEntry (chk_init b eC ex rfl ?_)
  wp_walk
  refine k _ h.objs.size (fun y o hy ho => ?_) ?_
  · rw [Heap.get?_update_other _ _ (Ne.symm hy)]
    exact Heap.get?_push_of_some _ ho
  · rw [Heap.get?_update_self _ (Heap.get?_push_of_some _ ex) rfl]
    rfl
end
end Kx
end PySem
namespace PySem
namespace Kx
open PySem.W PySem.Calls PyProof.Rows PySem.HandSPX Builtin Builtin.ObjectAttr
section
variable {prog : Program} {w : World} {A : Around} {E : Value → Shared → Prop} {R : Result → Shared → Prop} {hp : Heap} {g : Array GenState} {d : Drawn} {t : Nat} {os : OsState}
/-- x.name = v, the first name -/
theorem set_first {K : W.Frag} {B newId initId : String} {tl : List Value} {name : Str} {tk : Tok} {v : Value} {x C : Addr} {fv : Array Value} {cd : ClassData} (b : Bs B newId initId tl)
    (X : K.In hp) (ex : hp.get? x = some { cls := .ref C, data := .fields fv }) (ec : W.clsIn K C = some cd) (em : cd.mro = .ref C :: tl) (ed : cd.hasDict = true) (no : W.findIn K (.ref C) name = some none)
    (k : ∀ h' tk' dx, (∀ y o, y ≠ x → hp.get? y = some o → h'.get? y = some o) → hp.objs.size ≤ dx → dx ≠ x → h'.get? x = some { cls := .ref C, dict := some dx, data := .fields fv } →
      h'.Ns1 dx (fun z => if z = name then some v else none) → R (.ok (.ret .none)) ⟨h', g, d, tk', os⟩) :
    codeAny (model prog w) A (.call (.builtin "object.__setattr__") ⟨[.ref x, .str name tk, v], []⟩) R ⟨hp, g, d, t, os⟩ := by
  have I : W.InstAt hp x { cls := .ref C, data := .fields fv } C none := ⟨ex, rfl, rfl, trivial⟩
  have SF := F.store_object
  have ob : cd.mro.contains (.type "object") = true := by rw [em, List.contains_cons, b.obj, Bool.or_true]
  have nx : x ≠ hp.objs.size := Nat.ne_of_lt (Heap.lt_size ex)
  have sb : W.Looks (model prog w) hp (isInstance (.ref x) (.type "object")) true := I.type.andThen (W.looks_mroIn X (by unfold W.mroIn; rw [ec, Option.bind_some, if_neg (by rw [em]; exact Bool.false_ne_true), ob]))
  refine codeAny_call_builtin SF.slot.plain SF.entry (@W.check_slot (model prog w) _ _ ⟨hp, g, d, t, os⟩ "object.__setattr__" "object" "__setattr__" (.ref x) [.str name tk, v] [] _ SF.kind SF.split sb (SF.args (.ref x) (.str name tk) v) ?_)
  have mr : W.Looks (model prog w) hp (mroOf (.ref C)) cd.mro := (W.looks_clsIn X ec).andThen .now
  have l3 : W.Looks (model prog w) hp (storeTaker? none) none := .now
  have lc : W.Looks (model prog w) hp (classData C) cd := W.looks_clsIn X ec
  rw [W.osa_eq, refuse_eq]
  refine wpAny_bind (wpAny_bind (I.type.at (wpAny_bind (mr.at ?_))))
  rw [em, refuseLoop_ref, b.pass]
  refine wpAny_pure (wpAny_bind (I.type.at (wpAny_bind ((W.looks_findIn X no).at (wpAny_bind (l3.at ?_))))))
  show wpAny _ _ (storeInOwnDict (.ref x) (.ref C) (.str name tk) name v false) _ _ _
  obtain ⟨nm, bs, mro, ns, qn, hd, sn, su, ab, col, del⟩ := cd
  dsimp only at ed
  subst ed
  unfold storeInOwnDict ownDictForStores
  repeat (first | with_reducible refine store_in_new ?_ ?_ | with_reducible refine wpAny_loadPart_at ex ?_ | with_reducible refine lc.at ?_ | wp_step)
  · exact ⟨_, #[], _, (Heap.get?_update_ne _ _ _ _ nx.symm).trans (Heap.get?_push_at rfl rfl), rfl, fun z hz => absurd hz (by simp), fun _ => rfl⟩
  · intro h' tk' hn hs
    have ex1 : (hp.push { cls := .type "dict", data := .dict #[] }).get? x = some { cls := .ref C, data := .fields fv } := Heap.get?_push_of_some _ ex
    refine k h' tk' hp.objs.size (fun y o hy ho => ?_) (Nat.le_refl _) nx.symm ?_ hn
    · exact (hs.2 y (Nat.ne_of_lt (Heap.lt_size ho))).trans ((Heap.get?_update_ne _ _ _ _ hy).trans (Heap.get?_push_of_some _ ho))
    · exact (hs.2 x nx).trans (Heap.get?_update_self _ ex1 rfl)
/-- x.name = v, a further one -/
theorem set_more {K : W.Frag} {B newId initId : String} {tl : List Value} {name : Str} {tk : Tok} {v : Value} {x C dx : Addr} {fv : Array Value} {cd : ClassData} {m0 : Str → Option Value} {nl : List Str} (b : Bs B newId initId tl)
    (X : K.In hp) (ex : hp.get? x = some { cls := .ref C, dict := some dx, data := .fields fv }) (ns1 : hp.Ns1 dx m0) (hw : Within m0 nl) (hz : nl.length ≤ 1000) (ec : W.clsIn K C = some cd) (em : cd.mro = .ref C :: tl) (eh : cd.hasDict = true)
    (no : W.findIn K (.ref C) name = some none)
    (k : ∀ h' tk', (∀ y o, y ≠ dx → hp.get? y = some o → h'.get? y = some o) → h'.Ns1 dx (fun z => if z = name then some v else m0 z) → R (.ok (.ret .none)) ⟨h', g, d, tk', os⟩) :
    codeAny (model prog w) A (.call (.builtin "object.__setattr__") ⟨[.ref x, .str name tk, v], []⟩) R ⟨hp, g, d, t, os⟩ := by
  obtain ⟨oD, esD, epD, hoD, hdD, _⟩ := ns1.count hw
  have I : W.InstAt hp x { cls := .ref C, dict := some dx, data := .fields fv } C (some oD) := ⟨ex, rfl, rfl, hoD⟩
  have SF := F.store_object
  have ob : cd.mro.contains (.type "object") = true := by rw [em, List.contains_cons, b.obj, Bool.or_true]
  have sb : W.Looks (model prog w) hp (isInstance (.ref x) (.type "object")) true := I.type.andThen (W.looks_mroIn X (by unfold W.mroIn; rw [ec, Option.bind_some, if_neg (by rw [em]; exact Bool.false_ne_true), ob]))
  refine codeAny_call_builtin SF.slot.plain SF.entry (@W.check_slot (model prog w) _ _ ⟨hp, g, d, t, os⟩ "object.__setattr__" "object" "__setattr__" (.ref x) [.str name tk, v] [] _ SF.kind SF.split sb (SF.args (.ref x) (.str name tk) v) ?_)
  have mr : W.Looks (model prog w) hp (mroOf (.ref C)) cd.mro := (W.looks_clsIn X ec).andThen .now
  have l3 : W.Looks (model prog w) hp (storeTaker? none) none := .now
  have lc : W.Looks (model prog w) hp (classData C) cd := W.looks_clsIn X ec
  rw [W.osa_eq, refuse_eq]
  refine wpAny_bind (wpAny_bind (I.type.at (wpAny_bind (mr.at ?_))))
  rw [em, refuseLoop_ref, b.pass]
  refine wpAny_pure (wpAny_bind (I.type.at (wpAny_bind ((W.looks_findIn X no).at (wpAny_bind (l3.at ?_))))))
  show wpAny _ _ (storeInOwnDict (.ref x) (.ref C) (.str name tk) name v false) _ _ _
  obtain ⟨nm, bs, mro, ns, qn, hd, sn, su, ab, col, del⟩ := cd
  dsimp only at eh
  subst eh
  unfold storeInOwnDict ownDictForStores
  repeat (first | with_reducible refine OEX.store_in_old ns1 hw hz ?_ | with_reducible refine wpAny_loadPart_at ex ?_ | with_reducible refine lc.at ?_ | wp_step)
  intro h' tk' hn hs
  exact k h' tk' (fun y o hy ho => (hs.2 y hy).trans ho) hn
end
end Kx
end PySem
namespace L2
open PySem PySem.Spec PyProof.Rows PySem.Kx
/-- an own error class over B with an __init__ of its own -/
structure OxC (K : PySem.W.Frag) (C : Addr) (B newId initId : String) (tl : List Value) : Prop where
  bs : Bs B newId initId tl
  cls : oxB K C tl newId = true
  sa : PySem.W.findIn K (.ref C) "__setattr__" = some (some (.builtin "object.__setattr__"))
  kC : PySem.W.keepIn K (.ref C) = true
/-- it is such a class, whichever B is -/
def Ox (K : PySem.W.Frag) (C : Addr) : Prop := ∃ B n i tl, OxC K C B n i tl
section
variable {X : Cx} {pins : List (Addr × Obj)} {σ : St} {H : Hp} {s : Shared} {a C dx : Addr} {f : Str} {y : V} {u : Value} {fs : List (Str × V)} {Q : Unit → Shared → Prop} {E : Value → Shared → Prop} {A : Around} {B newId initId : String} {tl : List Value}
theorem ox_cls (T : OxC X.K C B newId initId tl) : ∃ cd, PySem.W.clsIn X.K C = some cd ∧ cd.mro = .ref C :: tl ∧ cd.hasDict = true := by
  obtain ⟨nm, qn, N, bs, sn, sub, ab, col, dd, k0, k1, k2, k3, k5, hC⟩ := ox_obj T.cls
  have z : PySem.W.clsIn X.K C = some { name := nm, bases := bs, mro := .ref C :: tl, ns := N, qualname := qn, hasDict := true, slotNames := sn, subclasses := sub, abstract := ab, collection := col, hasDel := false } := by
    unfold PySem.W.clsIn
    rw [hC] <;> rfl
  exact ⟨_, z, rfl, rfl⟩
theorem ox_new (T : OxC X.K C B newId initId tl) (I : Inv X pins σ H s) (e : H a = some (exo a C none)) (no : PySem.W.findIn X.K (.ref C) f = some none) (ry : RelV y u)
    (h : ∀ dx s', H dx = none → dx ≠ a → Inv X pins σ (upd (upd H dx (exd dx [(f, y)])) a (exo a C (some dx))) s' → Q () s') : wpAny (model X.prog X.w) A (setAttr (.ref a) f u) Q E s := by
  obtain ⟨cd, ec, em, ed⟩ := ox_cls T
  obtain ⟨t1, ho⟩ := exo_at I.hok e
  obtain ⟨hp, g, d, t, os⟩ := s
  refine PySem.W.set_plain I.kIn (ox := { cls := .ref C, dict := none, data := .fields #[.ref t1, .none, .none, .none, .bool false, .none] }) (od := none) ⟨ho, rfl, rfl, trivial⟩ T.sa ?_
  refine set_first T.bs I.kIn ho ec em ed no (fun h' tk' dx k dn dne hx hn => ?_)
  have hnd : H dx = none := I.hok.fresh dn
  have nd : ∀ {b : Addr} {o : Obj}, hp.get? b = some o → b ≠ dx := fun {b o} q => Nat.ne_of_lt (Nat.lt_of_lt_of_le (Heap.lt_size q) dn)
  have na : ∀ {b : Addr}, H b = none → b ≠ a := fun {b} n z => by
    rw [z] at n
    exact absurd (n.symm.trans e) (by intro q; cases q)
  have U1 : Un X.fs [] H (upd (upd H dx (exd dx [(f, y)])) a (exo a C (some dx))) hp h' := {
    keep := fun b o q n _ _ => k b o (na n) q
    slot := fun b o q n _ _ => ⟨o.slots, k b o (na n) q⟩
    free := fun b o q n _ => (upd_ne (na n)).trans ((upd_ne (nd q)).trans n)
    there := fun b o q _ => (Classical.em (b = a)).elim (fun hb => ⟨_, (congrArg h'.get? hb).trans hx⟩) fun hb => ⟨o, k b o hb q⟩
    tups := fun b xs q => (upd_ne (at_ne e q exo_tup)).trans ((upd_ne (ne_of_none q hnd)).trans q)
    frzs := fun b o v q => (upd_ne (at_ne e q exo_frz)).trans ((upd_ne (ne_of_none q hnd)).trans q)
    tbls := fun b ps q => ⟨#[], by rw [upd_ne (at_ne e q exo_tbl), upd_ne (ne_of_none q hnd), q, Array.append_empty]⟩ }
  refine h dx _ hnd dne (I.un (t' := tk') U1 fun b o q => ?_)
  by_cases hb : b = a
  · subst hb
    obtain rfl := Option.some.inj (upd_same.symm.trans q)
    exact exo_ok hx
  · have q := (upd_ne hb).symm.trans q
    by_cases hd : b = dx
    · subst hd
      obtain rfl := Option.some.inj (upd_same.symm.trans q)
      exact exd_ok hn (relO_put (fs := []) ry fun _ => True.intro)
    · have q := (upd_ne hd).symm.trans q
      refine (I.hok b o q).stay (fun c v hc z => k c v ?_ z) (fun c hc => (upd_ne (at_ne e hc exo_own)).trans ((upd_ne (ne_of_none hc hnd)).trans hc)) (fun c xs hc => (upd_ne (at_ne e hc exo_tup)).trans ((upd_ne (ne_of_none hc hnd)).trans hc))
      rcases hc with hc | hc
      · exact fun z => hb (hc ▸ z)
      · exact at_ne e hc exo_own
theorem ox_old (T : OxC X.K C B newId initId tl) (I : Inv X pins σ H s) (e : H a = some (exo a C (some dx))) (ed : H dx = some (exd dx fs)) (hl : fs.length ≤ 900) (no : PySem.W.findIn X.K (.ref C) f = some none) (ry : RelV y u)
    (h : ∀ s', Inv X pins σ (upd H dx (exd dx ((f, y) :: fs))) s' → Q () s') : wpAny (model X.prog X.w) A (setAttr (.ref a) f u) Q E s := by
  obtain ⟨cd, ec, em, eh⟩ := ox_cls T
  obtain ⟨t1, ho⟩ := exo_at I.hok e
  obtain ⟨mA, hns, rel⟩ := exd_at I.hok ed
  have hw := within_of rel
  obtain ⟨hp, g, d, t, os⟩ := s
  obtain ⟨oD, _, _, hoD, _, _⟩ := hns.count hw
  refine PySem.W.set_plain I.kIn (ox := { cls := .ref C, dict := some dx, data := .fields #[.ref t1, .none, .none, .none, .bool false, .none] }) (od := some oD) ⟨ho, rfl, rfl, hoD⟩ T.sa ?_
  refine set_more T.bs I.kIn ho hns hw (by rw [List.length_map]; omega) ec em eh no (fun h' tk' k hn => ?_)
  have hd : ∃ o, h'.get? dx = some o := hn.elim fun o z => z.elim fun _ z => z.elim fun _ z => ⟨o, z.1⟩
  exact h _ (I.write (t' := tk') (x := dx) (e := dx) (o := exd dx ((f, y) :: fs)) (by rw [ed]; exact True.intro) (.inl rfl) k hd (exd_ok hn (relO_put ry rel)))
theorem ox_init {us : List Value} {Q : Value → Shared → Prop} (T : OxC X.K C B newId initId tl) (I : Inv X pins σ H s) (e : H a = some (exo a C none)) (hl : us.length ≤ sizeLine) (h : ∀ s', Inv X pins σ H s' → Q .none s') :
    wpAny (model X.prog X.w) A (call (.builtin initId) (.ref a :: us)) Q E s := by
  obtain ⟨nm, qn, N, bs, sn, sub, ab, col, dd, k0, k1, k2, k3, k5, hC⟩ := ox_obj T.cls
  obtain ⟨t1, ho⟩ := exo_at I.hok e
  obtain ⟨hp, g, d, t, os⟩ := s
  refine wpAny_call (the_init T.bs (I.kIn _ _ hC) ho hl fun h' t2 k hx => ?_)
  have J := I.write (t' := t) (x := a) (e := a) (o := exo a C none) (by rw [e]; exact True.intro) (.inl rfl) k ⟨_, hx⟩ (exo_ok hx)
  have eu : upd H a (exo a C none) = H := funext fun b => (Classical.em (b = a)).elim (fun hb => by rw [hb, upd_same, e]) upd_ne
  exact h _ (eu ▸ J)
end
end L2
namespace L2
open PySem PySem.Spec PyProof.Rows PySem.Kx
/-! own errors as values: made, read, asked -/
/-- B.__init__(self, ..) -/
def tXi (K : PySem.W.Frag) (B newId initId : String) (tl : List Value) (ta : TA) : TE := fun σ H Q => ta σ H fun vs H1 => ∃ (a C : Addr) (ws : List V), vs = .ref a :: ws ∧ ws.length ≤ 1000 ∧ OxC K C B newId initId tl ∧ H1 a = some (exo a C none) ∧ Q .non H1
/-- self.f = e -/
def tXs (K : PySem.W.Frag) (f : Str) (to te : TE) : TS := fun D σ H => te σ H fun y H1 => to σ H1 fun x H2 => ∃ a C : Addr, x = .ref a ∧ Ox K C ∧ PySem.W.findIn K (.ref C) f = some none ∧
  ((H2 a = some (exo a C none) ∧ ∀ dx, H2 dx = none → dx ≠ a → D.nx σ (upd (upd H2 dx (exd dx [(f, y)])) a (exo a C (some dx)))) ∨
    ∃ (dx : Addr) (fs : List (Str × V)), H2 a = some (exo a C (some dx)) ∧ H2 dx = some (exd dx fs) ∧ fs.length ≤ 900 ∧ D.nx σ (upd H2 dx (exd dx ((f, y) :: fs))))
/-- C(e, ..), by its own __init__ -/
def tXm (C : Addr) (sp : Sp) (ta : TA) : TE := fun σ H Q => ta σ H fun vs H1 => vs.length ≤ 1000 ∧ ∀ a, H1 a = none → sp (.ref a :: vs) (upd H1 a (exo a C none)) (fun v H2 => v = .non ∧ Q (.ref a) H2) (fun _ _ _ => False)
/-- an error held at a, of the class at C -/
def ErO (H : Hp) (a C : Addr) : Prop := H a = some (ExO (.ref C) a) ∨ ∃ d fs, H a = some (exo a C (some d)) ∧ H d = some (exd d fs)
def rIsX (K : PySem.W.Frag) : List V → Hp → VK → Prop := fun xs H Q => ∃ (a C : Addr) (c : V) (cv : Value) (b : Bool), xs = [.ref a, c] ∧ ErO H a C ∧ ExcC K C ∧ RelV c cv ∧ (∀ u, RelV c u → u = cv) ∧ PySem.W.kitOne K (.ref C) cv = some b ∧ Q (.bl b) H
/-- o.f -/
def tXg (K : PySem.W.Frag) (f : Str) (te : TE) : TE := fun σ H Q => te σ H fun x H1 => ∃ (a C d : Addr) (fs : List (Str × V)) (v : V), x = .ref a ∧ H1 a = some (exo a C (some d)) ∧ H1 d = some (exd d fs) ∧ XfC K C ∧ PySem.W.findIn K (.ref C) f = some none ∧ fs.lookup f = some v ∧ Q v H1
section
variable {X : Cx} {o e : Expr} {es : List Expr} {to te : TE} {ta : TA} {f : Str} {p p' p1 p2 pos : Pos} {B newId initId : String} {tl : List Value}
theorem pe_xinit {pl : Sem Bool} {x : Str} (hg : Gl X x) (hm : X.mg x = none) (hbt : bootBuiltins x = some (.type B)) (hty : typeOf (.type B) = pure (.type "type")) (hst : Manifest.isStub B = false) (hha : PySem.W.handedIn (.builtin initId) = true)
    (vV : PySem.W.findCls X.K (.type B) (.type "type") "__init__" = some (.val (.builtin initId))) (ha : PA X (e :: es) ta) (hnm : x ≠ "__name__" := by decide) (hdb : (x == ("__debug__" : Str)) = false := by decide)
    (hc : eval (.Call (.Attribute (.Name x p1) "__init__" p2) (e :: es) [] pos) X.env = (do
      let ov ← eval (.Name x p1) X.env
      standAt p2.atName
      let (f, first) ← holding [ov] (getMethod ov "__init__" pl)
      callWith pos f first (backTo pos (starEach (e :: es) X.env)) (backToKw pos (keywordEach [] X.env))) := by rfl)
    (he : starEach (e :: es) X.env = (false, eval e X.env) :: starEach es X.env := by rfl) (hpl : (backTo pos (starEach es X.env)).any (·.1) = false := by rfl) :
    PE X (.Call (.Attribute (.Name x p1) "__init__" p2) (e :: es) [] pos) (tXi X.K B newId initId tl ta) := by
  refine ⟨fun pins s σ H Q I h => ?_⟩
  refine PySem.W.methodCall_KW (ld_blt I hg hm hbt ?_ hnm hdb) hc
  obtain ⟨m, fr⟩ := I.fr
  refine PySem.W.method_type fr I.ok.mod.kin hty hst vV hha ?_
  show wpAny _ _ (callWith pos (Value.builtin initId) [] (backTo pos (starEach (e :: es) X.env)) []) _ _ _
  refine PyProof.Rows.callWith_method1 (thn (ha.run pos pins _ σ H _ (I.tok _) h) fun us s1 ⟨vs, H1, I1, r1, a, C, ws, ev, hl, T, ea, q⟩ => ?_) he hpl
  subst ev
  cases r1 with
  | @cons _ u0 _ ur ra rw' =>
    obtain rfl : u0 = Value.ref a := ra
    have hlen : ur.length ≤ sizeLine := by
      rw [← Paired.length rw', sizeLine_eq]
      omega
    exact ox_init T I1 ea hlen fun s' J => ⟨.non, H1, J, rfl, q⟩
theorem ps_xset (ho : PE X o to) (he : PE X e te) (hs : swapsWith e (some (.Attribute o f p')) pos.line X.env = pure false := by rfl) : PS X (.Assign [.Attribute o f p'] e pos) (tXs X.K f to te) := by
  refine ⟨fun pins s σ H D I h => ?_⟩
  refine plainObj_wpAny_Assign_Attribute (thn (he.run pins s σ H _ I h) fun v s1 ⟨y, H1, I1, r1, q1⟩ => thn (ho.run pins s1 σ H1 _ I1 q1) fun u s2 ⟨x, H2, I2, r2, a, C, ex, T, hno, q⟩ => ?_) hs
  subst ex
  obtain rfl : u = Value.ref a := r2
  obtain ⟨B, n, i, tl, T⟩ := T
  rcases q with ⟨ea, q⟩ | ⟨dx, fs, ea, ed, hl, q⟩
  · exact ox_new T I2 ea hno r1 fun dx s' n ne J => ⟨σ, _, J, q dx n ne⟩
  · exact ox_old T I2 ea ed hl hno r1 fun s' J => ⟨σ, _, J, q⟩
theorem pe_xmake {x : Str} {C fI : Addr} {k : Nat} {fd : FuncData} {ps : List Str} {sp : Sp} (T : OxC X.K C B newId initId tl) (iC : PySem.W.findIn X.K (.ref C) "__init__" = some (some (.ref fI))) (tI : PySem.W.typeIn X.K (.ref fI) = some (.type "function"))
    (F1 : FnOk X.prog X.w X.K X.mg X.base CX0 k fI fd ps sp) (hr : Room (k + 1) X.A) (hb : Binds X.K fd ps []) (hg : Gl X x) (hm : X.mg x = some (.ref C)) (ha : PA X (e :: es) ta)
    (hdb : (x == ("__debug__" : Str)) = false := by decide) (he : starEach (e :: es) X.env = (false, eval e X.env) :: starEach es X.env := by rfl) (hpl : (backTo pos (starEach es X.env)).any (·.1) = false := by rfl) :
    PE X (.Call (.Name x p) (e :: es) [] pos) (tXm C sp ta) := by
  refine ⟨fun pins s σ H Q I h => ?_⟩
  obtain ⟨nm, qn, N, bs, sn, sub, ab, col, dd, k0, k1, k2, k3, k5, hC⟩ := ox_obj T.cls
  refine wpAny_Call_Name_kw (ld_glob I hg hm ?_ hdb)
  refine PySem.W.callWith_K (h₀ := X.base) I.ok.mod.kin T.kC (thn (ha.run pos pins s σ H _ I h) fun us s1 ⟨vs, H1, I1, r1, hz, q1⟩ => ⟨I1.kIn, ?_⟩) he hpl
  show wpAny _ _ (call (.ref C) us) _ _ _
  obtain ⟨hp, g, dr, tk, os⟩ := s1
  have hsz : hp.objs.size ≤ hp.objs.size + 1 := Nat.le_succ _
  have hn : H1 (hp.objs.size + 1) = none := I1.hok.fresh hsz
  have hq := q1 (hp.objs.size + 1) hn
  have kk : ∀ b o, hp.get? b = some o → ((hp.push (PySem.W.kdv_tup us)).push (PySem.HandSPX.excO C hp.objs.size)).get? b = some o := fun b o e => Heap.get?_push_of_some _ (Heap.get?_push_of_some _ e)
  have hget : ((hp.push (PySem.W.kdv_tup us)).push (PySem.HandSPX.excO C hp.objs.size)).get? (hp.objs.size + 1) = some (PySem.HandSPX.excO C hp.objs.size) := by heap_get
  have I2 : Inv X pins σ (upd H1 (hp.objs.size + 1) (exo (hp.objs.size + 1) C none)) ⟨(hp.push (PySem.W.kdv_tup us)).push (PySem.HandSPX.excO C hp.objs.size), g, dr, tk, os⟩ :=
    I1.laid (t' := tk) (a := hp.objs.size + 1) (o := exo (hp.objs.size + 1) C none) (h' := (hp.push (PySem.W.kdv_tup us)).push (PySem.HandSPX.excO C hp.objs.size)) kk hsz (exo_ok hget)
  have r2 : Vals (V.ref (hp.objs.size + 1) :: vs) (Value.ref (hp.objs.size + 1) :: us) := .cons rfl r1
  have hl : (Value.ref (hp.objs.size + 1) :: us).length = ps.length := by
    have e := r2.length
    rw [F1.len _ _ _ _ hq] at e
    exact e.symm
  have hus : us.length ≤ sizeLine := by
    rw [← Paired.length r1, sizeLine_eq]
    omega
  have hbb := hb ⟨(hp.push (PySem.W.kdv_tup us)).push (PySem.HandSPX.excO C hp.objs.size), g, dr, tk, os⟩ (Value.ref (hp.objs.size + 1) :: us) I2.kIn (by rw [List.append_nil]; exact hl)
  rw [List.append_nil] at hbb
  refine wpAny_call (the_call T.bs (I1.kIn _ _ hC) (PySem.W.looks_findIn I1.kIn iC) (fun self => PySem.W.bind_fn I1.kIn self tI) hus
    (codeAny_mono (F1.run _ X.stack _ _ ⟨Value.ref (hp.objs.size + 1) :: us, []⟩ (Value.ref (hp.objs.size + 1) :: us) _ _ (fun _ _ _ => False) (hr.make C us []) (I2.env0.make C us []) hbb r2 hq) fun r s' hq' => ?_))
  cases r with
  | error er => exact False.elim hq'
  | ok fl =>
    cases fl with
    | ret u =>
      obtain ⟨v, H', I3, rv, ev, q3⟩ := I2.after hq'
      subst ev
      exact ⟨rv, ⟨V.ref (hp.objs.size + 1), H', I3, rfl, q3⟩⟩
    | next => exact False.elim hq'
    | brk => exact False.elim hq'
    | cont => exact False.elim hq'
theorem er_at {pins : List (Addr × Obj)} {σ : St} {H : Hp} {s : Shared} {a C : Addr} (I : Inv X pins σ H s) (h : ErO H a C) : ∃ oe od, PySem.W.InstAt s.heap a oe C od := by
  rcases h with h | ⟨d, fs, h1, h2⟩
  · obtain ⟨⟨oe, vs, ho, hz, hd, _⟩, _, _⟩ := I.hok a _ h
    refine ⟨oe, none, ho, hz.1, by unfold PySem.W.notCls; rw [hd] <;> rfl, ?_⟩
    rw [hz.2]
    trivial
  · obtain ⟨t1, ho⟩ := exo_at I.hok h1
    obtain ⟨mA, hns, _⟩ := exd_at I.hok h2
    obtain ⟨od, hod, _⟩ := lookIn_ns hns
    exact ⟨_, some od, ho, rfl, rfl, hod⟩
theorem call_isX : CallR X (.builtin "isinstance") (rIsX X.K) := by
  intro pins s σ H xs us Q I r h
  obtain ⟨a, C, c, cv, b, rfl, er, T, _, hcv, e, q⟩ := h
  cases r with
  | cons rx rr =>
    cases rr with
    | cons rt rr =>
      cases rr
      cases rx
      have ec := hcv _ rt
      subst ec
      obtain ⟨oe, od, J⟩ := er_at I er
      obtain ⟨cdD, hcD, _⟩ := PySem.W.any_some T.hd
      exact PySem.W.kia_one (PySem.W.kitx_exc (by rw [hcD]; rfl) T.hg T.hk T.hs T.ha T.hn T.ht T.hm) I.kIn J e (fun z => nomatch z) fun tk => ⟨.bl b, H, I.kept (t' := tk) fun _ _ z => z, rfl, q⟩
theorem pe_xget (he : PE X e te) (hb : attributeBase e f X.env (eval e X.env) = eval e X.env := by rfl) : PE X (.Attribute e f pos) (tXg X.K f te) := by
  refine ⟨fun pins s σ H Q I h => ?_⟩
  refine attr_of hb (thn (he.run pins s σ H _ I h) fun u s1 hh => ?_)
  obtain ⟨x, H1, I1, rx, a, C, d, fs, v, ex, ea, ed, T, hno, l, q⟩ := hh
  subst ex
  obtain rfl : u = Value.ref a := rx
  obtain ⟨t1, ho⟩ := exo_at I1.hok ea
  obtain ⟨mA, hns, hr⟩ := exd_at I1.hok ed
  obtain ⟨od, hod, hl⟩ := lookIn_ns hns
  obtain ⟨u, hu, ru⟩ := RelO.some_of (v := v) (o := mA f) (by rw [← l]; exact hr f)
  have J : PySem.W.InstAt s1.heap a _ C (some od) := ⟨ho, rfl, rfl, hod⟩
  exact HandSPX.exc_get I1.kIn J T.ga T.gg T.exC (PySem.W.findObj_own T.hdC hno rfl (by rw [hl, hu])) (handed_of ru) ⟨v, H1, I1.tok _, ru, q⟩
end
end L2
namespace L2
open PySem PySem.Spec PyProof.Rows PySem.Kx
/-- an own error class: its name, its row of classes, how it is asked -/
def exB (K : PySem.W.Frag) (D : Addr) (nm : Str) (ml : List Value) : Bool :=
  (match PySem.W.clsIn K D with | some c => decide (c.name = nm) && decide (c.mro = ml) | none => false) && (decide (PySem.W.typeIn K (.ref D) = some (.type "type")) && (xfB K D &&
    (decide (PySem.W.findIn K (.ref D) "__class__" = some (some (.builtin "object.__class__"))) && (decide (PySem.W.specialIn K (.builtin "object.__class__") "__get__" = some (some (.builtin "getset_descriptor.__get__"))) && decide (PySem.W.takesIn K (.builtin "object.__class__") = some true)))))
structure ExB (K : PySem.W.Frag) (D : Addr) (nm : Str) (ml : List Value) : Prop where
  cl : ∃ c, PySem.W.clsIn K D = some c ∧ c.name = nm ∧ c.mro = ml
  ty : PySem.W.typeIn K (.ref D) = some (.type "type")
  xf : XfC K D
  ha : PySem.W.findIn K (.ref D) "__class__" = some (some (.builtin "object.__class__"))
  hn : PySem.W.specialIn K (.builtin "object.__class__") "__get__" = some (some (.builtin "getset_descriptor.__get__"))
  ht : PySem.W.takesIn K (.builtin "object.__class__") = some true
section
variable {K : PySem.W.Frag} {D C : Addr} {nm nm' : Str} {ml ml' : List Value}
theorem exB_ok (h : exB K D nm ml = true) : ExB K D nm ml := by
  obtain ⟨h1, h⟩ := Bool.and_eq_true_iff.mp h
  obtain ⟨h2, h⟩ := Bool.and_eq_true_iff.mp h
  obtain ⟨h3, h⟩ := Bool.and_eq_true_iff.mp h
  obtain ⟨h4, h⟩ := Bool.and_eq_true_iff.mp h
  obtain ⟨h5, h6⟩ := Bool.and_eq_true_iff.mp h
  refine ⟨?_, of_decide_eq_true h2, xfB_ok h3, of_decide_eq_true h4, of_decide_eq_true h5, of_decide_eq_true h6⟩
  split at h1
  · rename_i c e
    obtain ⟨q1, q2⟩ := Bool.and_eq_true_iff.mp h1
    exact ⟨c, e, of_decide_eq_true q1, of_decide_eq_true q2⟩
  · cases h1
theorem ExB.ne (h1 : ExB K D nm ml) (h2 : ExB K C nm' ml') (n : nm ≠ nm') : D ≠ C := fun z => by
  subst z
  obtain ⟨c, e, e1, _⟩ := h1.cl
  obtain ⟨c', e', e1', _⟩ := h2.cl
  cases e.symm.trans e'
  exact n (e1.symm.trans e1')
theorem ExB.sub (h : ExB K D nm ml) (hne : ml ≠ []) (v : Value) : PySem.W.mroIn K D v = some (ml.contains v) := by
  obtain ⟨c, e, _, em⟩ := h.cl
  unfold PySem.W.mroIn
  rw [e, Option.bind_some, em, if_neg]
  intro z
  exact hne (List.isEmpty_iff.mp z)
theorem ExB.exc (h : ExB K D nm ml) (ho : ml.contains (.type "object") = true) : ExcC K D :=
  ⟨h.xf.ga, h.xf.gg, h.xf.exC, h.xf.hdC, h.ha, h.hn, h.ht, by rw [h.sub (fun z => by rw [z] at ho; cases ho), ho]⟩
theorem ExB.kitC (h1 : ExB K D nm ml) (h2 : ExB K C nm' ml') (hne : ml ≠ []) : PySem.W.kitOne K (.ref D) (.ref C) = some (decide (D = C) || ml.contains (.ref C)) := by
  by_cases e : D = C
  · subst e
    show (if (Value.ref D == Value.ref D) = true then some true else _) = _
    rw [if_pos (by simp)]
    simp
  · show (if (Value.ref D == Value.ref C) = true then some true else PySem.W.kitCls K (.ref D) (.ref C)) = _
    rw [if_neg (by simp [e]), decide_eq_false e, Bool.false_or]
    obtain ⟨c, ec, _, _⟩ := h2.cl
    unfold PySem.W.kitCls
    dsimp only
    rw [if_pos (by rw [ec, h2.ty]; simp)]
    exact h1.sub hne _
theorem ExB.kitT (h1 : ExB K D nm ml) (hne : ml ≠ []) {T : String} (hT : PySem.W.kitMeta T = true) : PySem.W.kitOne K (.ref D) (.type T) = some (ml.contains (.type T)) := by
  show (if (Value.ref D == Value.type T) = true then some true else PySem.W.kitCls K (.ref D) (.type T)) = _
  rw [if_neg (by simp)]
  unfold PySem.W.kitCls
  dsimp only
  rw [if_pos hT]
  exact h1.sub hne _
end
end L2
/-! own errors with an __init__ below any built-in error, raised; o[k] by an own __getitem__ that may raise -/
namespace L2
open PySem PySem.Spec PyProof.Rows PySem.Kx
section
variable {X : Cx} {e : Expr} {es : List Expr} {ta : TA} {p pos : Pos} {B newId initId : String} {tl : List Value}
theorem pmk_ox {CX : CXT} {x : Str} {C fI : Addr} {k : Nat} {fd : FuncData} {ps : List Str} {sp : Sp} (T : OxC X.K C B newId initId tl) (exC : PySem.W.subIn X.K (.ref C) (.type "BaseException") = some true) (tyC : PySem.W.typeIn X.K (.ref C) = some (.type "type")) (iC : PySem.W.findIn X.K (.ref C) "__init__" = some (some (.ref fI))) (tI : PySem.W.typeIn X.K (.ref fI) = some (.type "function"))
    (F1 : FnOk X.prog X.w X.K X.mg X.base CX k fI fd ps sp) (hr : Room (k + 1) X.A) (hb : Binds X.K fd ps []) (hx : Passes CX X (fun _ _ _ => False)) (hg : Gl X x) (hm : X.mg x = some (.ref C)) (ha : PA X (e :: es) ta)
    (hdb : (x == ("__debug__" : Str)) = false := by decide) (he : starEach (e :: es) X.env = (false, eval e X.env) :: starEach es X.env := by rfl) (hpl : (backTo pos (starEach es X.env)).any (·.1) = false := by rfl) :
    PMk X (.Call (.Name x p) (e :: es) [] pos) (tMkO C sp [] ta) := by
  intro pins s σ H Q I h
  obtain ⟨nm, qn, N, bs, sn, sub, ab, col, dd, k0, k1, k2, k3, k5, hC⟩ := ox_obj T.cls
  refine wpAny_Call_Name_kw (ld_glob I hg hm ?_ hdb)
  refine PySem.W.callWith_K (h₀ := X.base) I.ok.mod.kin T.kC (thn (ha.run pos pins s σ H _ I h) fun us s1 ⟨vs, H1, I1, r1, hz, q1⟩ => ⟨I1.kIn, ?_⟩) he hpl
  show wpAny _ _ (call (.ref C) us) _ _ _
  obtain ⟨hp, g, dr, tk, os⟩ := s1
  have hsz : hp.objs.size ≤ hp.objs.size + 1 := Nat.le_succ _
  have hn : H1 (hp.objs.size + 1) = none := I1.hok.fresh hsz
  have hq := q1 (hp.objs.size + 1) hn
  rw [List.append_nil] at hq
  have kk : ∀ b o, hp.get? b = some o → ((hp.push (PySem.W.kdv_tup us)).push (PySem.HandSPX.excO C hp.objs.size)).get? b = some o := fun b o e => Heap.get?_push_of_some _ (Heap.get?_push_of_some _ e)
  have hget : ((hp.push (PySem.W.kdv_tup us)).push (PySem.HandSPX.excO C hp.objs.size)).get? (hp.objs.size + 1) = some (PySem.HandSPX.excO C hp.objs.size) := by heap_get
  have I2 : Inv X pins σ (upd H1 (hp.objs.size + 1) (exo (hp.objs.size + 1) C none)) ⟨(hp.push (PySem.W.kdv_tup us)).push (PySem.HandSPX.excO C hp.objs.size), g, dr, tk, os⟩ :=
    I1.laid (t' := tk) (a := hp.objs.size + 1) (o := exo (hp.objs.size + 1) C none) (h' := (hp.push (PySem.W.kdv_tup us)).push (PySem.HandSPX.excO C hp.objs.size)) kk hsz (exo_ok hget)
  have r2 : Vals (V.ref (hp.objs.size + 1) :: vs) (Value.ref (hp.objs.size + 1) :: us) := .cons rfl r1
  have hl : (Value.ref (hp.objs.size + 1) :: us).length = ps.length := by
    have e := r2.length
    rw [F1.len _ _ _ _ hq] at e
    exact e.symm
  have hus : us.length ≤ sizeLine := by
    rw [← Paired.length r1, sizeLine_eq]
    omega
  have hbb := hb ⟨(hp.push (PySem.W.kdv_tup us)).push (PySem.HandSPX.excO C hp.objs.size), g, dr, tk, os⟩ (Value.ref (hp.objs.size + 1) :: us) I2.kIn (by rw [List.append_nil]; exact hl)
  rw [List.append_nil] at hbb
  refine wpAny_call (the_call T.bs (I1.kIn _ _ hC) (PySem.W.looks_findIn I1.kIn iC) (fun self => PySem.W.bind_fn I1.kIn self tI) hus
    (codeAny_mono (F1.run _ X.stack _ _ ⟨Value.ref (hp.objs.size + 1) :: us, []⟩ (Value.ref (hp.objs.size + 1) :: us) _ _ (fun _ _ _ => False) (hr.make C us []) (I2.env0.make C us []) hbb r2 hq) fun r s' hq' => ?_))
  cases r with
  | error er => exact hx pins σ _ _ er s' I2 hq'
  | ok fl =>
    cases fl with
    | ret u =>
      obtain ⟨v, H2, os2, bare2, un2, hok2, rv, ev, d, fs, ea, ed, hd1, q2⟩ := hq'
      subst ev
      obtain ⟨h2, g2, d2, t2, os'⟩ := s'
      exact ⟨rv, mk_end (raises_own exC tyC) I1 hsz kk un2 hok2 os2 bare2 ea ed hd1 q2⟩
    | next => exact False.elim hq'
    | brk => exact False.elim hq'
    | cont => exact False.elim hq'
end
section
variable {X : Cx} {CX : CXT} {k : Nat} {f C : Addr} {fd : FuncData} {ps : List Str} {sp : Sp} {E : St → XK} {o e : Expr} {to te : TE} {pos : Pos}
theorem run_atS {pins : List (Addr × Obj)} {σ : St} {H : Hp} {s : Shared} {vs : List V} {us : List Value} {Q : VK} {A : Around} (F : FnOk X.prog X.w X.K X.mg X.base CX k f fd ps sp) (hb : Binds X.K fd ps []) (hx : PassesAt CX X σ (E σ)) (hA : A.frames = X.A.frames) (hr : Room k A)
    (I : Inv X pins σ H s) (r : Vals vs us) (q : sp vs H Q (E σ)) : wpAny (model X.prog X.w) A (call (.ref f) us) (EP X pins σ Q) X.xe s := by
  have e0 : Env0 X.prog X.w X.K X.mg X.base A X.stack s H := by
    have e := I.env0
    exact ⟨hA.trans e.frames, e.mod, e.bs, e.bsz, e.funs, e.frf, e.hok, e.bare⟩
  have hl := F.len _ _ _ _ q
  have hlu : us.length = ps.length := by rw [← r.length]; exact hl
  refine wpAny_call (codeAny_mono (F.run A X.stack s H ⟨us, []⟩ us vs Q (E σ) hr e0 (by simpa using hb s us I.kIn (by simpa using hlu)) r q) fun r' s' hq => ?_)
  cases r' with
  | error e => exact hx pins H s e s' I hq
  | ok fl =>
    cases fl with
    | ret w => exact I.after hq
    | next => exact hq.elim
    | brk => exact hq.elim
    | cont => exact hq.elim
/-- o[k] by an own __getitem__ -/
def tGetO (C : Addr) (sp : Sp) (E : St → XK) (to te : TE) : TE := fun σ H Q => to σ H fun x H1 => te σ H1 fun y H2 => ∃ a dx fs, x = .ref a ∧ H2 a = some (.ins C dx fs) ∧ sp [.ref a, y] H2 Q (E σ)
theorem pe_getO (F : FnOk X.prog X.w X.K X.mg X.base CX k f fd ps sp) (hs : PySem.W.findIn X.K (.ref C) "__getitem__" = some (some (.ref f))) (hf : PySem.W.isFn X.K (.ref f) = true) (hfn : PySem.W.fnIn X.K f = true) (hb : Binds X.K fd ps []) (hx : ∀ σ, PassesAt CX X σ (E σ)) (hr : Room (k + 1) X.A)
    (ho : PE X o to) (he : PE X e te) (hsl : ∀ (a : Value) (i : Value), subscripted e true a i = runValue (.builtin "lifetime.subscript" ⟨[a, i], []⟩) := by intro _ _; with_unfolding_all rfl) : PE X (.Subscript o e pos) (tGetO C sp E to te) := by
  refine ⟨fun pins s σ H Q I h => ?_⟩
  refine Subscript_ (thn (ho.run pins s σ H _ I h) fun v s1 ⟨x, H1, I1, rx, q1⟩ => ?_)
  refine thn (he.run pins s1 σ H1 _ I1 q1) fun u s2 ⟨y, H2, I2, ry, a, dx, fs, ex, ha, q⟩ => ?_
  subst ex
  cases rx
  obtain ⟨ox, od, J⟩ := own_at I2 ha
  obtain ⟨m, hF⟩ := I2.fr
  refine PySem.W.sub_K hF I2.ok.mod.kin J hs hfn hf ?_ (hsl _ _)
  exact run_atS (A := X.A.in1) F hb (hx σ) rfl hr.in1 I2 (vs := [.ref a, y]) (.cons rfl (.cons ry .nil)) q
end
end L2
/-! x in o by an own __contains__; bool(o) by an own __bool__ -/
namespace L2
open PySem PySem.W PyProof.Rows PySem.Calls
section
variable {X : Cx} {K : PySem.W.Frag} {C f : Addr} {fd : FuncData} {ps : List Str} {sp : Sp} {n : Nat}
def rInOwn (C : Addr) (sp : Sp) (g : Bool → Bool) : R2 := fun x y H Q => ∃ a dx fs, y = .ref a ∧ H a = some (.ins C dx fs) ∧ sp [.ref a, x] H (fun v H' => ∃ c, v = .bl c ∧ Q (.bl (g c)) H') fun _ _ _ => False
theorem op_inOwn (hK : X.K = K) (F : FnOk X.prog X.w K X.mg X.base CX0 n f fd ps sp) (hs : PySem.W.findIn K (.ref C) "__contains__" = some (some (.ref f))) (hf : PySem.W.isFn K (.ref f) = true) (hb : Binds K fd ps []) (hr : Room n X.A) : OpR X (compareOp .In) (rInOwn C sp id) := by
  subst hK
  intro pins s σ H x y v u Q I rx ry ⟨a, dx, fs, ey, ha, q⟩
  subst ey
  cases ry
  obtain ⟨ox, od, J⟩ := own_at I ha
  obtain ⟨m, hF⟩ := I.fr
  refine PySem.W.in_K hF I.ok.mod.kin J hs hf ?_
  refine wpAny_mono (run_at F hb pass0 rfl hr I (vs := [.ref a, x]) (.cons rfl (.cons rx .nil)) q) (fun r s' z => ?_) fun _ _ z => z
  obtain ⟨v', H', I', rv, c, e, q'⟩ := z
  subst e
  cases rv
  exact wpAny_pure ⟨.bl c, H', I', rfl, q'⟩
theorem op_notInOwn (hK : X.K = K) (F : FnOk X.prog X.w K X.mg X.base CX0 n f fd ps sp) (hs : PySem.W.findIn K (.ref C) "__contains__" = some (some (.ref f))) (hf : PySem.W.isFn K (.ref f) = true) (hb : Binds K fd ps []) (hr : Room n X.A) : OpR X (compareOp .NotIn) (rInOwn C sp not) := by
  subst hK
  intro pins s σ H x y v u Q I rx ry ⟨a, dx, fs, ey, ha, q⟩
  subst ey
  cases ry
  obtain ⟨ox, od, J⟩ := own_at I ha
  obtain ⟨m, hF⟩ := I.fr
  refine PySem.W.notIn_K hF I.ok.mod.kin J hs hf ?_
  refine wpAny_mono (run_at F hb pass0 rfl hr I (vs := [.ref a, x]) (.cons rfl (.cons rx .nil)) q) (fun r s' z => ?_) fun _ _ z => z
  obtain ⟨v', H', I', rv, c, e, q'⟩ := z
  subst e
  cases rv
  exact wpAny_pure ⟨.bl (!c), H', I', rfl, q'⟩
end
end L2
/-! bool(o) by an own __bool__ -/
namespace L2
open PySem PySem.W PyProof.Rows PySem.Calls
section
variable {prog : Program} {w : World}
theorem meets_bool_own (v : Value) : MeetsIn prog w (Builtin.«bool.__new__» ⟨[.type "bool", v], []⟩) (fun A R s => wpAny (model prog w) A.in1 (truthy v) (fun b s' => R (.ok (.ret (.bool b))) s') (fun e s' => R (.error e) s') s) := by
  intro A R s h
  obtain ⟨hp, g, d, tk, os⟩ := s
  have f1 := F.conv_sub_bool
  repeat (any_goals (first | assumption | with_reducible refine wpAny_bind (wpAny_mono h (fun b s' hb => ?_) fun _ _ z => z) | wp_step))
  all_goals first | exact hb | skip
end
section
variable {X : Cx} {C f : Addr} {fd : FuncData} {ps : List Str} {sp : Sp} {n : Nat}
def rBoolOwn (C : Addr) (sp : Sp) : List V → Hp → VK → Prop := fun xs H Q => ∃ a dx fs, xs = [.ref a] ∧ H a = some (.ins C dx fs) ∧ sp [.ref a] H (fun v H' => ∃ b, v = .bl b ∧ Q v H') fun _ _ _ => False
theorem call_boolOwn (F : FnOk X.prog X.w X.K X.mg X.base CX0 n f fd ps sp) (hs : PySem.W.findIn X.K (.ref C) "__bool__" = some (some (.ref f))) (hf : PySem.W.isFn X.K (.ref f) = true) (hb : Binds X.K fd ps []) (hr : Room (n + 2) X.A) :
    CallR X (.type "bool") (rBoolOwn C sp) := by
  intro pins s σ H xs us Q I r ⟨a, dx, fs, e, ha, q⟩
  subst e
  rw [Vals.ref1 r]
  obtain ⟨ox, od, J⟩ := own_at I ha
  obtain ⟨m, hF⟩ := I.fr
  refine callType_newIn PySem.F.called_bool PySem.F.newNe_bool (PySem.F.typeCall_bool_1 _) (PySem.F.newCall_bool_1 _) (fun obj => PySem.F.args_object_init_2 obj _) PySem.F.entry_bool_new (meets_bool_own _) ?_
  refine PySem.W.truthy_K (Q := fun b s' => _) hF I.ok.mod.kin J hs hf ?_
  refine wpAny_mono (run_at (A := X.A.in1.in1) F hb pass0 rfl hr.in1.in1 I (vs := [.ref a]) (.cons rfl .nil) q) (fun v s' z => ?_) fun _ _ z => z
  obtain ⟨v', H', I', rv, b, e, q'⟩ := z
  subst e
  cases rv
  exact ⟨rfl, .bl b, H', I', rfl, q'⟩
end
end L2
/-! len(o) by an own __len__ -/
namespace L2
open PySem PySem.W PyProof.Rows PySem.Calls
section
variable {X : Cx} {C f : Addr} {fd : FuncData} {ps : List Str} {sp : Sp} {n : Nat}
def rLenOwn (C : Addr) (sp : Sp) : List V → Hp → VK → Prop := fun xs H Q => ∃ a dx fs, xs = [.ref a] ∧ H a = some (.ins C dx fs) ∧ sp [.ref a] H (fun v H' => ∃ i : Int, v = .int i ∧ 0 ≤ i ∧ i < 2 ^ 63 ∧ Q v H') fun _ _ _ => False
theorem call_lenOwn (F : FnOk X.prog X.w X.K X.mg X.base CX0 n f fd ps sp) (hs : PySem.W.findIn X.K (.ref C) "__len__" = some (some (.ref f))) (hf : PySem.W.isFn X.K (.ref f) = true) (hb : Binds X.K fd ps []) (hr : Room (n + 1) X.A) :
    CallR X (.builtin "len") (rLenOwn C sp) := by
  intro pins s σ H xs us Q I r ⟨a, dx, fs, e, ha, q⟩
  subst e
  rw [Vals.ref1 r]
  obtain ⟨ox, od, J⟩ := own_at I ha
  refine Calls.call_function_entry kind_len plain_len entry_len (args_len1 _) ?_
  unfold Builtin.«len»
  refine wpAny_bind (m := oneArg "len" _) (wpAny_pure (wpAny_bind (m := callSpecial? (.ref a) (Str.ofString "__len__")) (special_fn I.kIn J hs (beq_iff_eq.mp hf) (wpAny_mono (run_at (A := X.A.in1) F hb pass0 rfl hr.in1 I (vs := [.ref a]) (.cons rfl .nil) q) (fun v s' z => ?_) fun _ _ z => z))))
  obtain ⟨v', H', I', rv, i, e, i0, i1, q'⟩ := z
  subst e
  obtain ⟨t, rfl⟩ := rv
  refine wpAny_bind (wpAny_holding (wpAny_pure (wpAny_bind (wpAny_letGo ?_))))
  show wpAny _ _ (if i < 0 then _ else _) _ _ _
  rw [if_neg (show ¬ i < 0 by omega)]
  show wpAny _ _ (if i ≥ 2 ^ 63 then _ else _) _ _ _
  rw [if_neg (show ¬ i ≥ 2 ^ 63 by omega)]
  exact wpAny_bind (wpAny_mkInt (wpAny_pure ⟨_, rfl, .int i, H', I'.tok _, ⟨_, rfl⟩, q'⟩))
end
end L2
/-! a == b of two equal lists whose items are data, or flat dicts. -/
namespace Ky
open PySem L2 Evl Kd PySem.Spec PyProof.Rows
open PySem.W (Datum DatumOrd T3 Tup)
def EqM (K : PySem.W.Frag) (H : Hp) (x y : V) : Prop := EqV K H 2 x y ∨ ∃ d e, Dp K H x d ∧ Dp K H y e ∧ deepOk d ∧ deepOk e ∧ PyData.eqv d e = true
def rEqM (K : PySem.W.Frag) : R2 := fun x y H Q => ∃ a b xs ys, x = .ref a ∧ y = .ref b ∧ SqL K H a xs ∧ SqL K H b ys ∧ Paired (EqM K H) xs ys ∧ Q (.bl true) H
theorem op_eqM {X : Cx} (hu : X.A.units + 64 < cLine) : OpR X (compareOp .Eq) (rEqM X.K) := by
  intro pins s σ H x y v u Q I rx ry ⟨a, b, xs, ys, e1, e2, ha, hb, hp, q⟩
  subst e1 e2
  refine eqR_run I (A := X.A) (F := EqM X.K H) (by omega) (fun x y v u h rx ry => ?_) (.inl ⟨a, b, xs, ys, rfl, rfl, ha, hb, hp⟩) rx ry _ _ ⟨.bl true, H, I, rfl, q⟩
  rcases h with h | ⟨d, e, hd, he, od, oe, eq⟩
  · exact eqV_run I 2 X.A.in1 (by show X.A.units + 1 + 2 < cLine; omega) x y v u h rx ry
  · obtain ⟨as, r1⟩ := Dp.reads I d x v hd rx
    obtain ⟨bs, r2⟩ := Dp.reads I e y u he ry
    have z := PySem.SeqAt.eqAt_plain d e X.A.in1 s v u as bs r1 r2 od.1 oe.1 (by
      have := od.2
      show X.A.units + 1 + min d.depth e.depth < cLine
      omega)
    rw [eq] at z
    exact z.eqP
section
variable {α : Type} [DecidableEq α] [Datum α] {K : PySem.W.Frag} {H : Hp} {x y : V} {a b : α}
theorem EqM.of [Low α] (hx : Hd K H x a) (hy : Hd K H y a) : EqM K H x y := .inr ⟨_, _, hx, hy, deep_of a, deep_of a, by rw [Datum.eqv, decide_eq_true rfl]⟩
theorem hd_tups {xs : List α} {vs : List V} {p : Addr} (h : SqT K H p vs) (hl : HdL K H vs xs) : Hd K H (.ref p) (⟨xs⟩ : Tup α) := Dp.tup h hl
instance : Low (Tup (T3 Int Str Int)) := ⟨by decide⟩
theorem EqM.dict {p q : Addr} {ks : List (Key × V)} (hp : H p = some (.dK ks)) (hq : H q = some (.dK ks)) (h : ∀ kv ∈ ks, valV ks kv.1 = some kv.2 ∧ flatB kv.2 = true) : EqM K H (.ref p) (.ref q) :=
  .inl (.inr (.inr (.inr ⟨p, q, ks, ks, rfl, rfl, hp, hq, rfl, fun kv hkv => ⟨kv.2, (h kv hkv).1, .inl ⟨rfl, (h kv hkv).2⟩⟩⟩)))
end
end Ky
/-! dicts from texts (or ints) to texts and None: ==, locks, what a lock keeps -/
namespace Kt
open PySem L2 Evl PySem.Spec PyProof.Rows Kd
/-- None or a text -/
def plV : V → Bool
  | .non | .str _ => true
  | _ => false
def eqV : V → V → Bool
  | .non, .non => true
  | .str a, .str b => decide (a = b)
  | _, _ => false
theorem eqV_iff {x y : V} (hx : plV x = true) (hy : plV y = true) : eqV x y = true ↔ x = y := by
  cases x <;> cases y <;> simp_all [plV, eqV]
def hitB (ls : List (Key × V)) : List (Key × V) → Bool
  | [] => true
  | (k, v) :: r => match valV ls k with
    | none => false
    | some y => eqV v y && hitB ls r
theorem eqAt_pl {A : Around} {s : Shared} {x y : V} {u v : Value} (hx : plV x = true) (hy : plV y = true) (rx : RelV x u) (ry : RelV y v) : SeqAt.EqAt A s u v (eqV x y) := by
  cases x with
  | non =>
    cases (show u = Value.none from rx)
    cases y with
    | non =>
      cases (show v = Value.none from ry)
      exact SeqAt.EqAt.same _
    | str b =>
      obtain ⟨t, rfl⟩ := ry
      exact SeqAt.EqAt.none_str b t
    | _ => cases hy
  | str a =>
    obtain ⟨t, rfl⟩ := rx
    cases y with
    | non =>
      cases (show v = Value.none from ry)
      have z := PySem.W.keq_flat (A := A) (s := s) (v := Value.str a t) (y := Value.none) (d := .str a) (e := .none) (fun h => Reads.str a t) (fun h => Reads.none)
      simpa [PyData.eqv, eqV] using z
    | str b =>
      obtain ⟨t', rfl⟩ := ry
      have z := PySem.W.keq_flat (A := A) (s := s) (v := Value.str a t) (y := Value.str b t') (d := .str a) (e := .str b) (fun h => Reads.str a t) (fun h => Reads.str b t')
      rw [show PyData.eqv (.str a) (.str b) = decide (a = b) by simp only [PyData.eqv]; exact PySem.W.beq_decide a b] at z
      exact z
    | _ => cases hy
  | _ => cases hx
theorem hits_of {A : Around} {s : Shared} {ls : List (Key × V)} {vb : List (Key × Value)} (rb : KV ls vb) (pb : ∀ p ∈ ls, plV p.2 = true) : ∀ {ks : List (Key × V)} {va : List (Key × Value)}, KV ks va → (∀ p ∈ ks, plV p.2 = true) → PySem.W.KeqHits A s vb va (hitB ls ks)
  | [], _, h, _ => by cases h; exact .nil
  | (k, v) :: r, _, h, pa => by
    cases h with
    | @cons _ q _ qs hq t =>
      obtain ⟨k', u⟩ := q
      obtain ⟨e1, e2⟩ := hq
      cases (show k = k' from e1)
      have rel := rb.val k
      show PySem.W.KeqHits A s vb ((k, u) :: qs) (match valV ls k with | none => false | some y => eqV v y && hitB ls r)
      cases hv : valV ls k with
      | none =>
        rw [hv] at rel
        refine .miss ?_
        cases hw : valueAt vb k with
        | none => rfl
        | some z => rw [hw] at rel; cases rel
      | some y =>
        rw [hv] at rel
        cases hw : valueAt vb k with
        | none => rw [hw] at rel; cases rel
        | some z =>
          rw [hw] at rel
          have hy : plV y = true := by
            unfold valV at hv
            obtain ⟨p, hp, rfl⟩ := Option.map_eq_some_iff.mp hv
            exact pb p (List.mem_of_find?_eq_some hp)
          exact .hit hw (eqAt_pl (pa (k, v) List.mem_cons_self) hy e2 rel) (hits_of rb pb t fun p hp => pa p (List.mem_cons_of_mem _ hp))
section
variable {X : Cx}
def sameD (ks ls : List (Key × V)) : Bool := ks.length == ls.length && hitB ls ks
def rEqK : R2 := fun x y H Q => ∃ a b ks ls, x = .ref a ∧ y = .ref b ∧ Rd H a (.dK ks) ∧ Rd H b (.dK ls) ∧ (∀ p ∈ ks, plV p.2 = true) ∧ (∀ p ∈ ls, plV p.2 = true) ∧ Q (.bl (sameD ks ls)) H
def rNeK : R2 := fun x y H Q => ∃ a b ks ls, x = .ref a ∧ y = .ref b ∧ Rd H a (.dK ks) ∧ Rd H b (.dK ls) ∧ (∀ p ∈ ks, plV p.2 = true) ∧ (∀ p ∈ ls, plV p.2 = true) ∧ Q (.bl (!sameD ks ls)) H
theorem op_eqK (hu : X.A.units + 1 < cLine) : OpR X (compareOp .Eq) rEqK := by
  intro pins s σ H x y v u Q I rx ry ⟨a, b, ks, ls, ex, ey, ea, eb, pa, pb, q⟩
  subst ex ey
  cases (show v = Value.ref a from rx)
  cases (show u = Value.ref b from ry)
  obtain ⟨_, ya, va, ra, da⟩ := dk_rd I.hok ea
  obtain ⟨_, yb, vb, rb, db⟩ := dk_rd I.hok eb
  refine PySem.W.keq_eq (knd := mixKind X.prog X.w) ya yb da db (by omega) (fun _ => hits_of rb pb ra pa) ⟨.bl _, H, I, rfl, ?_⟩
  rw [← ra.length, ← rb.length]
  exact q
theorem op_neK (hu : X.A.units + 1 < cLine) : OpR X (compareOp .NotEq) rNeK := by
  intro pins s σ H x y v u Q I rx ry ⟨a, b, ks, ls, ex, ey, ea, eb, pa, pb, q⟩
  subst ex ey
  cases (show v = Value.ref a from rx)
  cases (show u = Value.ref b from ry)
  obtain ⟨_, ya, va, ra, da⟩ := dk_rd I.hok ea
  obtain ⟨_, yb, vb, rb, db⟩ := dk_rd I.hok eb
  refine PySem.W.keq_ne (knd := mixKind X.prog X.w) ya yb da db (by omega) (fun _ => hits_of rb pb ra pa) ⟨.bl _, H, I, rfl, ?_⟩
  rw [← ra.length, ← rb.length]
  exact q
end
/-! k in d, k not in d -/
section
variable {X : Cx}
def rInK : R2 := fun y x H Q => ∃ a o, x = .ref a ∧ DGet H a y o ∧ Q (.bl o.isSome) H
def rNotInK : R2 := fun y x H Q => ∃ a o, x = .ref a ∧ DGet H a y o ∧ Q (.bl (!o.isSome)) H
theorem op_inK (hu : X.A.units + 1 < cLine) : OpR X (compareOp .In) rInK := by
  intro pins s σ H y x u v Q I ry rx ⟨a, o, ex, g, q⟩
  subst ex
  cases (show v = Value.ref a from rx)
  exact d_in hu I g ry fun t I' => ⟨.bl _, H, I', rfl, q⟩
theorem op_notInK (hu : X.A.units + 1 < cLine) : OpR X (compareOp .NotIn) rNotInK := by
  intro pins s σ H y x u v Q I ry rx ⟨a, o, ex, g, q⟩
  subst ex
  cases (show v = Value.ref a from rx)
  exact d_notIn hu I g ry fun t I' => ⟨.bl _, H, I', rfl, q⟩
/-- d[k], k there -/
def rIxK : R2 := fun x y H Q => ∃ a v, x = .ref a ∧ DGet H a y (some v) ∧ Q v H
end
/-! what is known through a lock -/
theorem ex_unlock {H H' : Hp} {d : Addr} {o : Obj} {u : HO} (hd : H d = some u) (e : Ex (upd H d (.frz o u)) H') : Ex H (upd H' d u) := fun a v ha => by
  by_cases c : a = d
  · subst c
    rw [upd_same]
    rw [hd] at ha
    exact ha
  · rw [upd_ne c]
    exact e a v (by rw [upd_ne c]; exact ha)
theorem un_at {H' : Hp} {d a : Addr} {o : Obj} {u v : HO} (hd : H' d = some (.frz o u)) (ha : H' a = some v) (hv : ∀ o' u', v ≠ .frz o' u') : upd H' d u a = some v := by
  rw [upd_ne (fun z => by rw [z, hd] at ha; cases ha; exact hv _ _ rfl)]
  exact ha
theorem lock_at {H : Hp} {d a : Addr} {o : Obj} {kvs : List (Key × V)} {v : HO} (hd : H d = some (.dK kvs)) (ha : H a = some v) (hv : ∀ l, v ≠ .dK l) : upd H d (.frz o (.dK kvs)) a = some v := by
  rw [upd_ne (fun z => by rw [z, hd] at ha; cases ha; exact hv _ rfl)]
  exact ha
section
variable {K : PySem.W.Frag} {H' : Hp} {d : Addr} {o : Obj} {kvs : List (Key × V)}
theorem sqL_un {a : Addr} {xs : List V} (hd : H' d = some (.frz o (.dK kvs))) (h : SqL K H' a xs) : SqL K (upd H' d (.dK kvs)) a xs := by
  rcases h with (h | ⟨q, h⟩) | h
  · exact .inl (.inl (un_at hd h fun _ _ z => by cases z))
  · refine .inl (.inr ⟨q, ?_⟩)
    rw [upd_ne (fun z => by rw [z, hd] at h; cases h)]
    exact h
  · exact .inr h
theorem sqT_un {a : Addr} {xs : List V} (hd : H' d = some (.frz o (.dK kvs))) (h : SqT K H' a xs) : SqT K (upd H' d (.dK kvs)) a xs := by
  rcases h with (h | ⟨q, h⟩) | h
  · exact .inl (.inl (un_at hd h fun _ _ z => by cases z))
  · refine .inl (.inr ⟨q, ?_⟩)
    rw [upd_ne (fun z => by rw [z, hd] at h; cases h)]
    exact h
  · exact .inr h
mutual
theorem dp_un (hd : H' d = some (.frz o (.dK kvs))) : ∀ (x : PyData) (v : V), Dp K H' v x → Dp K (upd H' d (.dK kvs)) v x
  | .none, _, h => by cases h; exact .non
  | .bool b, _, h => by cases h; exact .bl b
  | .int i, _, h => by cases h; exact .int i
  | .str z, _, h => by cases h; exact .str z
  | .list ds, _, h => by cases h with | lst hs ha => exact .lst (sqL_un hd hs) (dpAll_un hd ds _ ha)
  | .tuple ds, _, h => by cases h with | tup hs ha => exact .tup (sqT_un hd hs) (dpAll_un hd ds _ ha)
  | .dict _, _, h => by cases h
theorem dpAll_un (hd : H' d = some (.frz o (.dK kvs))) : ∀ (ds : List PyData) (vs : List V), DpAll K H' vs ds → DpAll K (upd H' d (.dK kvs)) vs ds
  | [], _, h => by cases h; exact .nil
  | x :: ds, _, h => by cases h with | cons h1 h2 => exact .cons (dp_un hd x _ h1) (dpAll_un hd ds _ h2)
end
end
end Kt
/-! a == b, a != b of two tuples (or lists) whose items are data or flat dicts, both answers -/
namespace Ky
open PySem L2 Evl Kd Kt PySem.Spec PyProof.Rows
open PySem.W (Datum DatumOrd T3)
def EqB (K : PySem.W.Frag) (H : Hp) (x y : V) (b : Bool) : Prop :=
  (∃ d e, Dp K H x d ∧ Dp K H y e ∧ deepOk d ∧ deepOk e ∧ b = PyData.eqv d e) ∨ ∃ p q ks ls, x = .ref p ∧ y = .ref q ∧ Rd H p (.dK ks) ∧ Rd H q (.dK ls) ∧ (∀ z ∈ ks, plV z.2 = true) ∧ (∀ z ∈ ls, plV z.2 = true) ∧ (p = q → b = true) ∧ b = sameD ks ls
theorem eqB_at {X : Cx} {pins : List (Addr × Obj)} {σ : L2.St} {H : Hp} {s : Shared} (I : Inv X pins σ H s) {A : Around} (hu : A.units + 42 < cLine) {x y : V} {v u : Value} {b : Bool} (h : EqB X.K H x y b) (rx : RelV x v) (ry : RelV y u) : PySem.SeqAt.EqIn X.prog X.w A s v u b := by
  rcases h with ⟨d, e, hd, he, od, oe, rfl⟩ | ⟨p, q, ks, ls, rfl, rfl, hp, hq, pk, pl, hpq, rfl⟩
  · obtain ⟨as, r1⟩ := Dp.reads I d x v hd rx
    obtain ⟨bs, r2⟩ := Dp.reads I e y u he ry
    have z := PySem.SeqAt.eqAt_plain d e A s v u as bs r1 r2 od.1 oe.1 (by
      have := od.2
      omega)
    exact PySem.SeqAt.EqAt.inModel z _ _
  · cases (show v = Value.ref p from rx)
    cases (show u = Value.ref q from ry)
    by_cases c : p = q
    · subst c
      rw [hpq rfl]
      exact PySem.SeqAt.EqAt.inModel (PySem.SeqAt.EqAt.same _) _ _
    · obtain ⟨_, ya, va, ra, da⟩ := dk_rd I.hok hp
      obtain ⟨_, yb, vb, rb, db⟩ := dk_rd I.hok hq
      refine PySem.SeqAt.EqIn.of_refs c fun E Q hq => PySem.W.keq_eq (knd := mixKind X.prog X.w) ya yb da db (by omega) (fun _ => hits_of rb pl ra pk) ?_
      rw [← ra.length, ← rb.length]
      exact hq
def rEqT (K : PySem.W.Frag) (g : Bool → Bool) : R2 := fun x y H Q => ∃ (p q : Addr) (xs ys : List V) (f : Nat → Bool), x = .ref p ∧ y = .ref q ∧ SqT K H p xs ∧ SqT K H q ys ∧ xs.length = ys.length ∧ (∀ i x y, xs[i]? = some x → ys[i]? = some y → EqB K H x y (f i)) ∧ Q (.bl (g ((List.range xs.length).all f))) H
theorem vals_at : ∀ {xs : List V} {us : List Value}, Vals xs us → ∀ (j : Nat) (h : j < us.length), ∃ x, xs[j]? = some x ∧ RelV x us[j]
  | _, _, .nil, j, h => absurd h (Nat.not_lt_zero j)
  | _, _, .cons r _, 0, _ => ⟨_, rfl, r⟩
  | _, _, .cons _ t, j + 1, h => vals_at t j (Nat.lt_of_succ_lt_succ h)
theorem op_eqTup {X : Cx} {K : PySem.W.Frag} (hK : X.K = K) (hu : X.A.units + 64 < cLine) : OpR X (compareOp .Eq) (rEqT K id) := by
  intro pins s σ H x y v u Q I rx ry ⟨p, q, xs, ys, f, e1, e2, hp, hq, hl, hf, qq⟩
  subst e1 e2 hK
  cases (show v = Value.ref p from rx)
  cases (show u = Value.ref q from ry)
  obtain ⟨us, r1, p1, _⟩ := I.tuple hp
  obtain ⟨ws, r2, p2, _⟩ := I.tuple hq
  have l1 := r1.length
  have l2 := r2.length
  refine PySem.SeqAt.rcIn_tuples (e := f) p1 p2 (by omega) (fun j h1 h2 => ?_) ?_
  · obtain ⟨x, hx, rx⟩ := vals_at r1 j (by simpa using h1)
    obtain ⟨y, hy, ry⟩ := vals_at r2 j (by simpa using h2)
    exact eqB_at I (A := X.A.in1) (by show X.A.units + 1 + 42 < cLine; omega) (hf j x y hx hy) (by simpa using rx) (by simpa using ry)
  · have e : us.toArray.size = ws.toArray.size := by rw [List.size_toArray, List.size_toArray]; omega
    rw [e, Nat.min_self, beq_self_eq_true, Bool.and_true, List.size_toArray, ← l2, ← hl]
    exact ⟨.bl _, H, I, rfl, qq⟩
end Ky
/-! t[::-1], t a tuple -/
namespace HT
open PySem PySem.Spec PyProof.Rows
section
variable {prog : Program} {w : World} {A : Around} {E : Value → Shared → Prop} {s : Shared}
theorem places_rev (n : Nat) : Builtin.Slice.slicePlaces ((n : Int) - 1) (-1) (-1) = n := by
  unfold Builtin.Slice.slicePlaces
  rw [if_neg (by decide : ¬ (-1 : Int) > 0)]
  split
  · simp only [Int.neg_neg, Int.ediv_one]
    omega
  · omega
theorem applied_rev {sl : Addr} {vl vu vs : Value} {n : Nat} {Q : Int × Int × Nat → Shared → Prop} (hs : s.heap.IsSliceOf sl vl vu vs) (pl : IsPart vl none) (pu : IsPart vu none) (ps : IsPart vs (some (-1)))
    (h : Q ((n : Int) - 1, -1, n) s) : wpAny (model prog w) A (Builtin.Slice.sliceApplied (.ref sl) (pure (n : Int))) Q E s := by
  obtain ⟨os, hos, hcs, hds⟩ := id hs
  unfold Builtin.Slice.sliceApplied Builtin.Slice.sliceFields
  refine wpAny_bind (wpAny_bind (wpAny_field hos hds (x := vl) rfl (wpAny_bind (wpAny_field hos hds (x := vu) rfl (wpAny_bind (wpAny_field hos hds (x := vs) rfl (wpAny_pure ?_)))))))
  refine wpAny_bind (slicePart_ ps ?_)
  show wpAny _ _ (if ((-1 : Int) == 0) = true then _ else _) _ _ s
  rw [if_neg (by decide)]
  refine wpAny_bind (slicePart_ pl (wpAny_bind (slicePart_ pu (wpAny_bind (wpAny_pure ?_)))))
  have e : Builtin.Slice.sliceAdjust none none (-1) (n : Int) = ((n : Int) - 1, -1) := rfl
  show wpAny _ _ (match Builtin.Slice.sliceAdjust none none (-1) (n : Int) with | (lo, hi) => pure (lo, (-1 : Int), Builtin.Slice.slicePlaces lo hi (-1))) _ _ s
  rw [e]
  show wpAny _ _ (pure ((n : Int) - 1, (-1 : Int), Builtin.Slice.slicePlaces ((n : Int) - 1) (-1) (-1))) _ _ s
  rw [places_rev]
  exact wpAny_pure h
theorem fm_congr {α β : Type} {f g : α → Option β} : ∀ l : List α, (∀ x ∈ l, f x = g x) → l.filterMap f = l.filterMap g
  | [], _ => rfl
  | x :: l, h => by rw [List.filterMap_cons, List.filterMap_cons, h x List.mem_cons_self, fm_congr l fun y hy => h y (List.mem_cons_of_mem _ hy)]
theorem pick_rev (xs : Array Value) : ((List.range xs.size).filterMap fun (m : Nat) => xs[(((xs.size : Int) - 1) + (m : Int) * (-1)).toNat]?).toArray = xs.toList.reverse.toArray := by
  have e : ((List.range xs.size).filterMap fun (m : Nat) => xs[(((xs.size : Int) - 1) + (m : Int) * (-1)).toNat]?) = (List.range xs.size).filterMap fun m => xs[xs.size - 1 - m]? := by
    refine fm_congr _ fun m hm => ?_
    have h := List.mem_range.mp hm
    have e2 : (((xs.size : Int) - 1) + (m : Int) * (-1)).toNat = xs.size - 1 - m := by omega
    rw [e2]
  rw [e]
  have e3 : ((List.range xs.size).filterMap fun m => xs[xs.size - 1 - m]?) = ((List.range xs.size).map fun m => xs.size - 1 - m).filterMap (xs[·]?) := by
    rw [List.filterMap_map]
    rfl
  rw [e3, PySem.W.krv_range, List.filterMap_reverse, PySem.W.krv_all]
theorem getItem_tuple_rev {t sl : Addr} {items : Array Value} {vl vu vs : Value} {Q : Value → Shared → Prop} (ht : IsTup s.heap t items) (hs : s.heap.IsSliceOf sl vl vu vs) (pl : IsPart vl none) (pu : IsPart vu none) (ps : IsPart vs (some (-1)))
    (h : Q (.ref s.heap.objs.size) { s with heap := s.heap.push { cls := .type "tuple", data := .seq items.toList.reverse.toArray } })
    (hsz : items.size ≤ sizeLine) : wpAny (model prog w) A (getItem (.ref t) (.ref sl)) Q E s := by
  have htake : sizeOk (.seq items.toList.reverse.toArray) := by
    show items.toList.reverse.toArray.size ≤ sizeLine
    rw [List.size_toArray, List.length_reverse, Array.length_toList]
    exact hsz
  obtain ⟨os, hos, hcs, hds⟩ := id hs
  have hTs : s.TypeIs (.ref sl) "slice" := ⟨os, hos, hcs⟩
  unfold getItem
  try with_reducible refine wpAny_holding ?_
  first | refine wpAny_bind (wpAny_pure ?_) | skip
  refine wpAny_bind (wpAny_sequenceKey ht.typeIs (by decide) ?_)
  refine wpAny_bind (wpAny_callSpecial?_slot (name := Str.ofString "__getitem__") ht.typeIs PyProof.Rows.slot_tuple_getitem
    (wpAny_call_entry PyProof.Rows.slot_tuple_getitem ht.typeIs entry_tuple_getitem ?_ (args_tuple_getitem _ _)))
  show wpAny _ _ (Builtin.Tuple.tupleItemsOf (.ref t) >>= _) _ _ s
  refine wpAny_bind (tupleItemsOf_ ht ?_)
  refine wpAny_bind (wpAny_typeOf hTs ?_)
  rw [if_pos (by decide)]
  refine wpAny_bind (applied_rev hs pl pu ps ?_)
  show wpAny _ _ (if (((items.size : Int) - 1) == 0 && (-1 : Int) == 1 && items.size == items.size) = true then _ else _) _ _ s
  rw [if_neg (by simp), pick_rev]
  first
    | exact wpAny_bind (m := Builtin.Tuple.tupleExact _) (wpAny_newObj_type (wpAny_pure ⟨_, rfl, wpAny_pure h⟩) htake)
    | exact wpAny_bind (m := Builtin.Tuple.tupleExact _) (wpAny_newObj_type (wpAny_bind (wpAny_pure (wpAny_pure ⟨_, rfl, wpAny_pure h⟩))) htake)
    | exact wpAny_bind (wpAny_bind (m := Builtin.Tuple.tupleExact _) (wpAny_newObj_type (wpAny_pure (wpAny_pure ⟨_, rfl, wpAny_pure h⟩)) htake))
    | exact wpAny_bind (wpAny_bind (m := Builtin.Tuple.tupleExact _) (wpAny_newObj_type (wpAny_pure ⟨_, rfl, wpAny_pure h⟩) htake))
end
end HT
namespace L2
open PySem PySem.Spec PyProof.Rows
variable {X : Cx}
def tRevT (K : PySem.W.Frag) (te : TE) : TE := fun σ H Q => te σ H fun x H1 => ∃ a xs, x = .ref a ∧ SqT K H1 a xs ∧ ∀ p, H1 p = none → Q (.ref p) (upd H1 p (.tup xs.reverse))
theorem pe_revT {e : Expr} {te : TE} {k : Nat} {p1 p2 p3 pos : Pos} (he : PE X e te) : PE X (.Subscript e (.Slice none none (some (.UnaryOp .USub (.Constant (.int 1) k p1) p2)) p3) pos) (tRevT X.K te) := by
  refine ⟨fun pins s σ H Q I h => ?_⟩
  refine Subscript_ (thn (he.run pins s σ H _ I h) fun v s1 ⟨x, H1, I1, r1, q1⟩ => ?_)
  obtain ⟨a, xs, ex, hx, q⟩ := q1
  subst ex
  cases r1
  have hst : PO X (some (.UnaryOp .USub (.Constant (.int 1) k p1) p2)) (tPart (tUn (rU fun i => .int (-i)) (tC (.int 1)))) := po_some (pe_un un_neg pe_int)
  refine wpAny_Slice (thn (po_none.run pins s1 σ H1 (fun o H2 => o = none ∧ H2 = H1) I1 ⟨rfl, rfl⟩) fun vl s2 ⟨l, H2, I2, pl, el, e2⟩ => ?_)
  subst el e2
  refine thn (po_none.run pins s2 σ H2 (fun o H3 => o = none ∧ H3 = H2) I2 ⟨rfl, rfl⟩) fun vu s3 ⟨u, H3, I3, pu, eu, e3⟩ => ?_
  subst eu e3
  refine thn (hst.run pins s3 σ H3 (fun o H4 => o = some (-1) ∧ H4 = H3) I3 ⟨1, rfl, -1, rfl, rfl, rfl⟩) fun vs s4 ⟨o, H4, I4, ps, eo, e4⟩ => ?_
  subst eo e4
  have I5 : Inv X pins σ H4 { s4 with heap := s4.heap.push { cls := .type "slice", data := .fields #[vl, vu, vs] } } := I4.kept (t' := s4.toks) fun b ob q => Heap.get?_push_of_some _ q
  obtain ⟨its, r, ht, hz⟩ := I5.tuple hx
  have hlen := r.length
  show wpAny (model X.prog X.w) X.A (subscriptTail e (.Slice none none (some (.UnaryOp .USub (.Constant (.int 1) k p1) p2)) p3) (.ref a) (.ref s4.heap.objs.size)) (EP X pins σ Q) X.xe { s4 with heap := s4.heap.push { cls := .type "slice", data := .fields #[vl, vu, vs] } }
  refine tail_any (ops := [.ref a, .ref s4.heap.objs.size]) ht.typeIs (PyProof.Rows.slot_tuple_getitem.lookup) ?_ (by with_unfolding_all rfl)
  refine HT.getItem_tuple_rev ht (Heap.IsSliceOf.new _ vl vu vs) pl pu ps ?_ (by rw [List.size_toArray]; omega)
  refine ⟨.ref _, _, I5.laid (t' := s4.toks) (o := .tup xs.reverse) (fun b ob q => Heap.get?_push_of_some _ q) (Nat.le_refl _) ?_, rfl, q _ (I5.hok.fresh (Nat.le_refl _))⟩
  exact ⟨by rw [List.length_reverse]; exact hz, _, r.reverse, IsTup.new _ _⟩
end L2
/-! sorted(d.items()), keys ints and texts, values data -/
namespace Kd
open PySem PySem.W PyProof.Rows L2
theorem sort_half {X : Cx} (hu : X.A.units + 64 < cLine) {pins : List (Addr × Obj)} {σ : L2.St} {H : Hp} {s : Shared} {h1 : Heap} {t : Nat} (J : Inv X pins σ H { s with heap := h1, toks := t }) {xs : List V} {its : List Value} {ds : List PyData} (rv : Vals xs its) (hd : DpAll X.K H xs ds) (ok : SortOk ds) (hz0 : xs.length ≤ sizeLine) {Q : VK}
    (q : ∀ (bs : List (V × PyData)) (p : Addr), bs.Perm (xs.zip ds) → bs.map (·.2) = srtD ds → H p = none → Q (.ref p) (upd H p (.lst (bs.map (·.1))))) :
    wpAny (model X.prog X.w) X.A.in1 (call (.builtin "list.sort") [.ref h1.objs.size]) (fun _ s' => EP X pins σ Q (.ref h1.objs.size) s') X.xe { s with heap := h1.push (seqObj "list" its.toArray 0), toks := t } := by
  have len := dpAll_len' hd
  have lz : (xs.zip ds).length = xs.length := by rw [List.length_zip, len]; exact Nat.min_self _
  have hln : its.length ≤ sizeLine := by rw [← rv.length]; exact hz0
  have e2 : (xs.zip ds).map (fun b => b.2) = ds := zip_snd len
  have hnew : (h1.push (seqObj "list" its.toArray 0)).get? h1.objs.size = some (seqObj "list" its.toArray 0) := Heap.get?_push_size _ rfl
  have es := each_of hd rv
  have er0 := reads_of J hd rv
  have er' : EachIs (fun v (b : V × PyData) => ∃ as, Reads (sortingHeap (h1.push (seqObj "list" its.toArray 0)) h1.objs.size its) v b.2 as) its (xs.zip ds) := er0.mono fun _ _ ⟨as, r⟩ => ⟨as, PyProof.Rows.Reads.keeps (fun b o e => sortingHeap_old (Nat.ne_of_lt (Heap.lt_size e)) (Heap.get?_push_of_some _ e)) r⟩
  have hal : AllAlike ((xs.zip ds).map fun b => b.2) := by rw [e2]; exact ok.al
  have hso : Sortable ((xs.zip ds).map fun b => b.2) := by rw [e2]; exact ok.so
  have hdep : ∀ d, d ∈ (xs.zip ds).map (fun b : V × PyData => b.2) → X.A.in1.in1.units + d.depth < cLine := fun d hm => by
    rw [e2] at hm
    have h1 := ok.dp d hm
    show X.A.units + 2 + d.depth < cLine
    omega
  refine wpAny_call_entry slot_list_sort ⟨_, hnew, rfl⟩ entry_list_sort
    (list_sort_vals (κ := dataKind (sortingHeap (h1.push (seqObj "list" its.toArray 0)) h1.objs.size its) ((xs.zip ds).map fun b => b.2)) hnew (SortsAt.data (s := { s with heap := sortingHeap (h1.push (seqObj "list" its.toArray 0)) h1.objs.size its, toks := t }) (each_map (R := fun v d => ∃ as, Reads (sortingHeap (h1.push (seqObj "list" its.toArray 0)) h1.objs.size its) v d as) (fun b : V × PyData => b.2) er') hal hso hdep) hln ⟨.none, rfl, ?_⟩) (args_list_sort _)
  have eo := sortVals_data (enc := fun b : V × PyData => b.2) (R := fun v b => RelV b.1 v) false es er' hal
  have pm : ((xs.zip ds).mergeSort (dataLe false fun b : V × PyData => b.2)).Perm (xs.zip ds) := List.mergeSort_perm _ _
  have hy := vals_each eo
  have hp : (((xs.zip ds).mergeSort (dataLe false fun b : V × PyData => b.2)).map (·.1)).length = xs.length := by rw [List.length_map, pm.length_eq, lz]
  have hsnd : ((xs.zip ds).mergeSort (dataLe false fun b : V × PyData => b.2)).map (fun b : V × PyData => b.2) = srtD ds := by
    unfold srtD
    have z := sort_maps (r := dataLe false fun b : V × PyData => b.2) (s := dataLe false (id : PyData → PyData)) (fun b : V × PyData => b.2) (l := xs.zip ds) (fun _ _ _ _ => rfl)
    rw [z, e2]
  obtain ⟨n', h'⟩ := sortedHeap_at (vs := its) (out := (sortVals (dataKind (sortingHeap (h1.push (seqObj "list" its.toArray 0)) h1.objs.size its) ((xs.zip ds).map fun b => b.2)) false its its).toArray) hnew
  refine ⟨.ref h1.objs.size, upd H h1.objs.size (.lst (((xs.zip ds).mergeSort (dataLe false fun b : V × PyData => b.2)).map (·.1))), J.laid (t' := t) (fun b u e => ?_) (Nat.le_refl _) ⟨by rw [hp]; exact hz0, _, n', hy, h'⟩, rfl, q _ _ pm hsnd (J.hok.fresh (Nat.le_refl _))⟩
  have hb : b < h1.objs.size := Heap.lt_size e
  rw [sortedHeap_old (Nat.ne_of_lt hb) (by rw [size_push']; exact Nat.lt_succ_of_lt hb)]
  exact Heap.get?_push_of_some _ e
end Kd
namespace Kt
open PySem PySem.Spec PyProof.Rows L2 L2.DX Evl Kd Ky
open PySem.W (Datum DatumOrd T3)
variable {X : Cx}
theorem raw_of {prog : Program} {w : World} {K : Type} [DecidableEq K] {knd : KeyKind prog w K} {h : Heap} {d : Addr} {kvs : List (K × Value)} (m : h.DictOf knd d kvs) : ∃ es ep, DT.Raw h d es ep ∧ es.size = kvs.length ∧ Pairs knd es.toList kvs := by
  obtain ⟨o, es, ep, ho, hc, hd, hk, hp, hn⟩ := m
  refine ⟨es, ep, ⟨o, ho, hc, hd⟩, ?_, hp⟩
  have e1 := hp.length
  have e2 : es.toList.length = es.size := by simp
  omega
def rItemsK : V → List V → Hp → VK → Prop := fun x xs H Q => ∃ (a : Addr) (kvs : List (Key × V)), x = .ref a ∧ xs = [] ∧ Rd H a (.dK kvs) ∧ ∀ p, H p = none → Q (.ref p) (upd H p (itemsO p a))
theorem mt_itemsK : MtR X "dict.items" rItemsK := by
  intro pins s σ H x xs v us Q I rx rxs h
  obtain ⟨a, kvs, rfl, rfl, ha, q⟩ := h
  cases rx
  cases rxs
  obtain ⟨size, notSys, vs, rel, isD⟩ := dk_rd I.hok ha
  obtain ⟨es, ep, raw, _, _⟩ := raw_of isD
  refine DT.callItems (es := es) (ep := ep) notSys raw ?_
  have hf : H s.heap.objs.size = none := I.hok.fresh (Nat.le_refl _)
  exact ⟨.ref s.heap.objs.size, upd H s.heap.objs.size (itemsO s.heap.objs.size a), I.laid (t' := s.toks) (fun b u e => Heap.get?_push_of_some _ e) (Nat.le_refl _) (itemsO_ok (Heap.get?_push_size _ rfl)), rfl, q _ hf⟩
/-- pairs of a dict, as new tuples -/
abbrev PairsN (H : Hp) (bs : List Addr) (kvs : List (Key × V)) : Prop := Paired (fun (b : Addr) (kv : Key × V) => H b = some (.tup [kV kv.1, kv.2])) bs kvs
@[irreducible] def rSortIK (K : PySem.W.Frag) : List V → Hp → VK → Prop := fun vs H Q => ∃ (p a : Addr) (kvs : List (Key × V)) (ds : List PyData), vs = [.ref p] ∧ H p = some (itemsO p a) ∧ Rd H a (.dK kvs) ∧ SortOk ds ∧ (∀ H2 bs, Ex H H2 → PairsN H2 bs kvs → DpAll K H2 (bs.map V.ref) ds) ∧
  ∀ (H' : Hp) (bs : List Addr) (cs : List (V × PyData)) (l : Addr), Ex H H' → PairsN H' bs kvs → cs.Perm ((bs.map V.ref).zip ds) → cs.map (·.2) = srtD ds → H' l = none → Q (.ref l) (upd H' l (.lst (cs.map (·.1))))
theorem refsV : ∀ as : List Addr, Vals (as.map V.ref) (as.map Value.ref)
  | [] => .nil
  | _ :: as => .cons rfl (refsV as)
theorem paired_idx {α β : Type} {F : α → β → Prop} : ∀ (as : List α) (bs : List β), as.length = bs.length → (∀ (j : Nat) (a : α), as[j]? = some a → ∃ b, bs[j]? = some b ∧ F a b) → Paired F as bs
  | [], [], _, _ => .nil
  | [], _ :: _, h, _ => by cases h
  | _ :: _, [], h, _ => by cases h
  | a :: as, b :: bs, h, q => by
    obtain ⟨b', e, f⟩ := q 0 a rfl
    cases e
    exact .cons f (paired_idx as bs (Nat.succ.inj h) fun j x e => q (j + 1) x e)
theorem cr_sortItems {K : PySem.W.Frag} (hK : X.K = K) (hc : X.calm = true) (hu : X.A.units + 64 < cLine) : CallR X (.builtin "sorted") (rSortIK K) := by
  intro pins s σ H xs us Q I r h
  unfold rSortIK at h
  obtain ⟨p, a, kvs, ds, e, hp, ha, ok, hdp, q⟩ := h
  subst e hK
  obtain rfl := Vals.ref1 r
  have view : s.heap.IsItemsView p a := (show ObjOk X.prog X.w H s.heap p (itemsO p a) from I.hok p _ hp).1
  obtain ⟨size, notSys, vs, rel, isD⟩ := dk_rd I.hok ha
  obtain ⟨es, ep, raw, esz, prs⟩ := raw_of isD
  have lk : kvs.length = vs.length := Paired.length rel
  have hh : X.A.handled = none := I.ok.hd hc
  refine DT.sortedI (es := es) (ep := ep) hh view raw (by omega) fun h' tk as hk hlt hl hG => ?_
  have lak : as.length = kvs.length := by omega
  have nd : as.Nodup := List.Pairwise.imp (fun h => Nat.ne_of_lt h) hG.rise
  have I1 : Inv X pins σ H { s with heap := h', toks := tk } := I.kept (t' := tk) hk
  obtain ⟨H2, I2, g2, t2⟩ := takeT (P := fun b ys => ∃ (j : Nat) (kv : Key × V), as[j]? = some b ∧ kvs[j]? = some kv ∧ ys = [kV kv.1, kv.2]) I as H I1 nd fun b hb => by
    obtain ⟨j, hj⟩ := List.mem_iff_getElem?.mp hb
    obtain ⟨en, he, hg⟩ := hG.pairs j b hj
    obtain ⟨kv, hkv, k1, k2⟩ := Kw.pairs_at prs (i := j) (e := en) (by rw [Array.getElem?_toList]; exact he)
    obtain ⟨y, hy, y1, y2⟩ := L2.DX.pget rel hkv
    refine ⟨Nat.le_of_lt (hG.above b hb), I.hok.fresh (Nat.le_of_lt (hG.above b hb)), [kV y.1, y.2], ⟨j, y, hj, hy, rfl⟩, fun H3 => ⟨by show 2 ≤ sizeLine; decide, [en.key, en.val], .cons (relV_key (by rw [y1]; exact k1)) (.cons (by rw [k2]; exact y2) .nil), ⟨_, hg, rfl, _, rfl⟩⟩⟩
  have x2 : Ex H H2 := g2
  have pn : PairsN H2 as kvs := paired_idx as kvs lak fun j b hj => by
    obtain ⟨ys, ⟨i, kv, hi, hkv, ey⟩, hb⟩ := t2 b (List.mem_of_getElem? hj)
    have ij : i = j := (List.getElem?_inj (List.getElem?_eq_some_iff.mp hi).1 nd).mp (hi.trans hj.symm)
    subst ij ey
    exact ⟨kv, hkv, hb⟩
  have rv : Vals (as.map V.ref) (as.map Value.ref) := refsV as
  exact sort_half hu I2 rv (hdp H2 as x2 pn) ok (by rw [List.length_map]; omega) fun cs l pm e hl => q H2 as cs l x2 pn pm e hl
end Kt
namespace Ky
open PySem L2 L2.DX Evl Kd Kt
open PySem.W (Datum DatumOrd T3)
variable {α : Type} [DecidableEq α] [DatumOrd α]
theorem sortItemsP [Sorts α] {K : PySem.W.Frag} {H : Hp} {p a : Addr} {kvs : List (Key × V)} {xs : List α} {Q : VK} (hp : H p = some (itemsO p a)) (ha : Rd H a (.dK kvs)) (hx : ∀ H2 bs, Ex H H2 → PairsN H2 bs kvs → HdL K H2 (bs.map V.ref) xs)
    (q : ∀ H' us l, Ex H H' → HdL K H' us (srt xs) → H' l = none → Q (.ref l) (upd H' l (.lst us))) : rSortIK K [.ref p] H Q := by
  unfold rSortIK
  refine ⟨p, a, kvs, _, rfl, hp, ha, sort_ok xs, hx, fun H' bs cs l e pn pm ec hl => ?_⟩
  have hy := hx H' bs e pn
  rw [← zip_map_toD] at pm
  obtain ⟨cs', pc, ee⟩ := perm_lift (fun b : V × α => (b.1, (Datum.toD b.2 : PyData))) pm _ rfl
  subst ee
  have e2 : cs'.map (·.2) = srt xs := by
    refine toDs_inj ?_
    rw [← srt_toD, ← ec, List.map_map, List.map_map]
    rfl
  have e1 : (cs'.map fun b : V × α => (b.1, (Datum.toD b.2 : PyData))).map (·.1) = cs'.map (·.1) := by rw [List.map_map]; rfl
  rw [e1]
  refine q H' _ l e ?_ hl
  rw [← e2]
  exact hdL_of (paired_maps fun b hb => paired_zip hy.paired b (pc.mem_iff.mp hb))
end Ky
/-! Data with dicts, to be shown (repr). -/
namespace L2
open PySem PySem.Spec PyProof.Rows Evl
def kD : Key → PyData
  | .inl i => .int i
  | .inr x => .str x
mutual
/-- data in the heap; dicts and lists stand elsewhere than the table of modules -/
inductive Th (K : PySem.W.Frag) (H : Hp) : V → PyData → Prop
  | non : Th K H .non .none
  | bl (b : Bool) : Th K H (.bl b) (.bool b)
  | int (i : Int) : Th K H (.int i) (.int i)
  | str (x : Str) : Th K H (.str x) (.str x)
  | lst {a : Addr} {xs : List V} {ds : List PyData} : SqL K H a xs → a ≠ sysModules → ThAll K H xs ds → Th K H (.ref a) (.list ds)
  | tup {a : Addr} {xs : List V} {ds : List PyData} : SqT K H a xs → ThAll K H xs ds → Th K H (.ref a) (.tuple ds)
  | dic {a : Addr} {kvs : List (Key × V)} {ds : List PyData} : H a = some (.dK kvs) → ThAll K H (kvs.map (·.2)) ds → Th K H (.ref a) (.dict ((kvs.map fun p => kD p.1).zip ds))
inductive ThAll (K : PySem.W.Frag) (H : Hp) : List V → List PyData → Prop
  | nil : ThAll K H [] []
  | cons {v : V} {d : PyData} {vs : List V} {ds : List PyData} : Th K H v d → ThAll K H vs ds → ThAll K H (v :: vs) (d :: ds)
end
theorem ThAll.length {K : PySem.W.Frag} {H : Hp} : ∀ {vs : List V} {ds : List PyData}, ThAll K H vs ds → vs.length = ds.length
  | _, _, .nil => rfl
  | _, _, .cons _ h => by simp [h.length]
mutual
theorem th_ex {K : PySem.W.Frag} {H H' : Hp} (x : Ex H H') : ∀ {v : V} {d : PyData}, Th K H v d → Th K H' v d
  | _, _, .non => .non
  | _, _, .bl b => .bl b
  | _, _, .int i => .int i
  | _, _, .str s => .str s
  | _, _, .lst h n a => .lst (ex_l x h) n (thAll_ex x a)
  | _, _, .tup h a => .tup (ex_t x h) (thAll_ex x a)
  | _, _, .dic h a => .dic (x _ _ h) (thAll_ex x a)
theorem thAll_ex {K : PySem.W.Frag} {H H' : Hp} (x : Ex H H') : ∀ {vs : List V} {ds : List PyData}, ThAll K H vs ds → ThAll K H' vs ds
  | _, _, .nil => .nil
  | _, _, .cons h a => .cons (th_ex x h) (thAll_ex x a)
end
section
variable {X : Cx} {pins : List (Addr × Obj)} {σ : St} {H : Hp} {s : Shared}
theorem pairs_keys {P : Program} {w : World} {h : Heap} : ∀ {es : List DictEntry} {kvs : List (Key × V)} {vs : List (Key × Value)}, Pairs (mixKind P w) es vs → KV kvs vs → ReadsAll h (es.map (·.key)) (kvs.map fun p => kD p.1) []
  | _, _, _, .nil, .nil => .nil
  | _, _, _, .cons (e := e) h1 h2 h3, .cons (a := x) r1 r2 => by
    have ih := pairs_keys (h := h) h3 r2
    rcases keyIs_shape h1 with ⟨i, t, e1, e2⟩ | ⟨z, t, e1, e2⟩
    · have e3 : kD x.1 = .int i := by rw [r1.1, e1]; rfl
      show ReadsAll h (e.key :: _) (kD x.1 :: _) ([] ++ [])
      rw [e2, e3]
      exact .cons (.int i t) ih
    · have e3 : kD x.1 = .str z := by rw [r1.1, e1]; rfl
      show ReadsAll h (e.key :: _) (kD x.1 :: _) ([] ++ [])
      rw [e2, e3]
      exact .cons (.str z t) ih
theorem pairs_vals {P : Program} {w : World} : ∀ {es : List DictEntry} {kvs : List (Key × V)} {vs : List (Key × Value)}, Pairs (mixKind P w) es vs → KV kvs vs → Vals (kvs.map (·.2)) (es.map (·.val))
  | _, _, _, .nil, .nil => .nil
  | _, _, _, .cons h1 h2 h3, .cons r1 r2 => .cons (by dsimp only; rw [h2]; exact r1.2) (pairs_vals h3 r2)
mutual
theorem Th.reads (I : Inv X pins σ H s) : ∀ {v : V} {d : PyData} {u : Value}, Th X.K H v d → RelV v u → ∃ as, Reads s.heap u d as ∧ sysModules ∉ as
  | _, _, _, .non, r => by cases r; exact ⟨_, .none, by simp⟩
  | _, _, _, .bl b, r => by cases r; exact ⟨_, .bool b, by simp⟩
  | _, _, _, .int i, r => by obtain ⟨t, rfl⟩ := r; exact ⟨_, .int i t, by simp⟩
  | _, _, _, .str x, r => by obtain ⟨t, rfl⟩ := r; exact ⟨_, .str x t, by simp⟩
  | _, _, _, .lst hs hn ha, r => by
    cases r
    obtain ⟨its, rv, ⟨o, n, ho, hc, _, hd⟩, _⟩ := I.list hs
    obtain ⟨as, hr, hm⟩ := ThAll.reads I ha rv
    refine ⟨_, Reads.list ho hc hd hr, ?_⟩
    simp only [List.mem_cons, not_or]
    exact ⟨fun z => hn z.symm, hm⟩
  | _, _, _, .tup hs ha, r => by
    cases r
    obtain ⟨its, rv, ⟨o, ho, hc, n, hd⟩, _⟩ := I.tuple hs
    obtain ⟨as, hr, hm⟩ := ThAll.reads I ha rv
    exact ⟨_, Reads.tuple ho hc hd hr, hm⟩
  | _, _, _, .dic (kvs := kvs) (ds := ds) he ha, r => by
    cases r
    obtain ⟨_, hsm, vs, rel, o, es, ep, ho, hx, hd, _, hp, _⟩ := dk_of I.hok he
    have hv := pairs_vals hp rel
    obtain ⟨as, hr, hm⟩ := ThAll.reads I ha hv
    have hl := ha.length
    rw [List.length_map] at hl
    refine ⟨_, Reads.dict (kvs := (kvs.map fun p => kD p.1).zip ds) ho hx.1 hd (as := []) (bs := as) ?_ ?_, ?_⟩
    · rw [List.map_fst_zip (by rw [List.length_map]; omega)]
      exact pairs_keys hp rel
    · rw [List.map_snd_zip (by rw [List.length_map]; omega)]
      exact hr
    · have hsm' := ne_of_beq_false hsm
      simp only [List.append_nil, List.cons_append, List.nil_append, List.mem_cons, not_or]
      exact ⟨fun z => hsm' z.symm, hm⟩
theorem ThAll.reads (I : Inv X pins σ H s) : ∀ {vs : List V} {ds : List PyData} {us : List Value}, ThAll X.K H vs ds → Vals vs us → ∃ as, ReadsAll s.heap us ds as ∧ sysModules ∉ as
  | _, _, _, .nil, r => by cases r; exact ⟨_, .nil, by simp⟩
  | _, _, _, .cons h a, r => by
    cases r with
    | cons r1 r2 =>
      obtain ⟨as, q1, n1⟩ := Th.reads I h r1
      obtain ⟨bs, q2, n2⟩ := ThAll.reads I a r2
      exact ⟨_, .cons q1 q2, by simp only [List.mem_append, not_or]; exact ⟨n1, n2⟩⟩
end
/-- repr(x), x a list -/
def rReprT (K : PySem.W.Frag) : List V → Hp → VK → Prop := fun xs H Q => ∃ a ds, xs = [.ref a] ∧ Th K H (.ref a) (.list ds) ∧ PyData.showable (.list ds) = true ∧ (PyData.list ds).depth ≤ 40 ∧ (PyData.list ds).shown.length ≤ sizeLine ∧ Q (.str (PyData.list ds).shown) H
theorem call_reprT (hG : X.A.guards = some []) (hu : X.A.units + 64 < cLine) : CallR X (.builtin "repr") (rReprT X.K) := by
  intro pins s σ H xs us Q I r ⟨a, ds, ex, hd, hs, hdp, hz, q⟩
  subst ex
  obtain ⟨u, rfl, ru⟩ := r.one
  obtain ⟨as, hr, hm⟩ := Th.reads I hd ru
  cases ru
  exact repr_of_reads' hr hs (fun _ => hm) hG (by omega) (fun _ _ z => z) (fun h' t tk k => ⟨.str (PyData.list ds).shown, H, I.kept (t' := tk) k, ⟨t, rfl⟩, q⟩) hz
/-- [..], elsewhere than the table of modules -/
def tLstN (t : TA) : TE := fun σ H Q => t σ H fun xs H1 => xs.length ≤ sizeLine ∧ ∀ p, H1 p = none → p ≠ sysModules → Q (.ref p) (upd H1 p (.lst xs))
theorem pe_lstN {es : List Expr} {t : TA} {pos : Pos} (h : PA X es t) : PE X (.List es pos) (tLstN t) := by
  refine ⟨fun pins s σ H Q I hq => ?_⟩
  refine wpAny_List_spliced (thn (h.run pos pins s σ H _ I hq) fun us s1 ⟨xs, H1, I1, r, z, q⟩ => ⟨by rw [← r.length]; exact z, ?_⟩)
  have hf : H1 s1.heap.objs.size = none := I1.hok.fresh (Nat.le_refl _)
  refine ⟨.ref s1.heap.objs.size, upd H1 s1.heap.objs.size (.lst xs), I1.laid (t' := s1.toks) (fun b u e => Heap.get?_push_of_some _ e) (Nat.le_refl _) ?_, rfl, q _ hf (Nat.ne_of_gt I1.big)⟩
  exact ⟨z, us, 0, r, Heap.get?_push_size _ rfl⟩
end
end L2
namespace Kt
open PySem L2 Evl Kd Ks
/-- {k: v for x in ..}, no test: o tells the dict by the turn -/
theorem dcR {J : It} {n : Nat} {G : Hp → Prop} {Y : Nat → Hp → V → Hp → Prop} (w : Walk J n G Y) {i : Nat} {tk tv : TE} {σ : L2.St} {H1 : Hp} {D : Addr} {Qd : Hp → Prop} (hD : H1 D = none) (xs : List V) (o : Nat → HO) (hn : xs.length = n)
    (hG : ∀ H, Ex H1 H → G H) (hY : ∀ k H x H', Y k H x H' → H' = H ∧ xs[k]? = some x) (hw : ∀ v, wipe ((wipe σ [i]).set i v) [i] = wipe σ [i])
    (step : ∀ (k : Nat) x H, xs[k]? = some x → Ex H1 H → H D = some (o k) → tk ((wipe σ [i]).set i (some x)) H fun y H4 => tv ((wipe σ [i]).set i (some x)) H4 fun z H5 => ∃ H6, DPut H5 D y z H6 ∧ Ex H1 H6 ∧ H6 D = some (o (k + 1)))
    (hq : ∀ H, Ex H1 H → H D = some (o n) → Qd H) :
    ∃ W : Nat → Nat → Hp → Prop, (∃ m, W 0 m (upd H1 D (o 0))) ∧ ∀ k m H, W k m H →
      (J.stop k H ∧ Qd H) ∨ (J.go k H ∧ ∃ Nx : Hp → Prop, (∀ H', Nx H' → ∃ m', m' < m ∧ W (k + 1) m' H') ∧ ∀ x H', J.yld k H x H' → gName i x (wipe σ [i]) H' fun σ2 H2 => wipe σ2 [i] = wipe σ [i] ∧ tYes σ2 H2 fun b H3 =>
        if b = true then tk σ2 H3 fun y H4 => tv σ2 H4 fun z H5 => ∃ H6, DPut H5 D y z H6 ∧ Nx H6 else Nx H3) := by
  refine ⟨fun k m H => m = n - k ∧ k ≤ n ∧ Ex H1 H ∧ H D = some (o k), ⟨n, by simp, Nat.zero_le _, Ex.mut (Ex.refl H1) hD, upd_same⟩, ?_⟩
  rintro k m H ⟨rfl, hk, e, hd⟩
  have g := hG H e
  by_cases c : k < n
  · refine .inr ⟨w.goes k H c g, fun H' => Ex H1 H' ∧ H' D = some (o (k + 1)), fun H' p => ⟨n - (k + 1), by omega, rfl, c, p⟩, fun x H' y => ?_⟩
    obtain ⟨rfl, hx⟩ := hY k H x H' (w.yields k H x H' c g y)
    exact ⟨hw (some x), step k x H' hx e hd⟩
  · obtain rfl : k = n := by omega
    exact .inl ⟨w.stops H g, hq H e hd⟩
/-- each once, in the order of the first -/
def once {α : Type} [DecidableEq α] : List α → List α
  | [] => []
  | x :: r => x :: (once r).filter fun y => decide (y ≠ x)
def addO {α : Type} [DecidableEq α] (l : List α) (k : α) : List α := if k ∈ l then l else l ++ [k]
/-- the keys of a row of ties, each once, in their order -/
theorem put_tru {κ : Type} [DecidableEq κ] (l : List κ) (k : κ) : putK (l.map fun q => (q, V.bl true)) k (.bl true) = (addO l k).map fun q => (q, V.bl true) := by
  unfold putK addO
  have e : ((l.map fun q => (q, V.bl true)).any fun kv => decide (kv.1 = k)) = decide (k ∈ l) := by
    rw [List.any_map, Bool.eq_iff_iff, List.any_eq_true, decide_eq_true_iff]
    constructor
    · rintro ⟨x, h1, h2⟩
      rw [← of_decide_eq_true h2]
      exact h1
    · intro h
      exact ⟨k, h, decide_eq_true rfl⟩
  rw [e]
  by_cases c : k ∈ l
  · rw [decide_eq_true c, if_pos rfl, if_pos c, List.map_map]
    refine List.map_congr_left fun q _ => ?_
    show (if q = k then (q, V.bl true) else (q, V.bl true)) = (q, V.bl true)
    split <;> rfl
  · rw [decide_eq_false c, if_neg Bool.false_ne_true, if_neg c, List.map_append]
    rfl
theorem mem_once {α : Type} [DecidableEq α] {y : α} : ∀ {l : List α}, y ∈ once l ↔ y ∈ l
  | [] => Iff.rfl
  | x :: r => by
    unfold once
    rw [List.mem_cons, List.mem_cons, List.mem_filter, decide_eq_true_iff, mem_once (l := r)]
    constructor
    · rintro (h | h)
      · exact .inl h
      · exact .inr h.1
    · rintro (h | h)
      · exact .inl h
      · by_cases c : y = x
        · exact .inl c
        · exact .inr ⟨h, c⟩
theorem nodup_once {α : Type} [DecidableEq α] : ∀ l : List α, (once l).Nodup
  | [] => List.nodup_nil
  | x :: r => by
    unfold once
    refine List.nodup_cons.mpr ⟨fun h => ?_, (nodup_once r).filter _⟩
    exact of_decide_eq_true (List.mem_filter.mp h).2 rfl
theorem once_snoc {α : Type} [DecidableEq α] (k : α) : ∀ l : List α, once (l ++ [k]) = addO (once l) k
  | [] => rfl
  | x :: r => by
    show x :: (once (r ++ [k])).filter (fun y => decide (y ≠ x)) = addO (x :: (once r).filter fun y => decide (y ≠ x)) k
    rw [once_snoc k r]
    unfold addO
    by_cases c : k = x
    · subst c
      rw [if_pos List.mem_cons_self]
      by_cases c2 : k ∈ once r
      · rw [if_pos c2]
      · rw [if_neg c2, List.filter_append]
        simp
    · by_cases c2 : k ∈ once r
      · rw [if_pos c2, if_pos (List.mem_cons_of_mem _ (List.mem_filter.mpr ⟨c2, decide_eq_true c⟩))]
      · rw [if_neg c2, if_neg (fun z => by
          rcases List.mem_cons.mp z with z | z
          · exact c z
          · exact c2 (List.mem_filter.mp z).1), List.filter_append]
        simp [c]
theorem once_map {α β : Type} [DecidableEq α] [DecidableEq β] (f : α → β) (hf : ∀ a b, f a = f b → a = b) : ∀ l : List α, once (l.map f) = (once l).map f
  | [] => rfl
  | x :: r => by
    show f x :: (once (r.map f)).filter (fun y => decide (y ≠ f x)) = (x :: (once r).filter fun y => decide (y ≠ x)).map f
    rw [once_map f hf r, List.map_cons, List.filter_map]
    congr 2
    refine List.filter_congr fun y _ => ?_
    show decide (f y ≠ f x) = decide (y ≠ x)
    rw [decide_eq_decide]
    exact ⟨fun h z => h (by rw [z]), fun h z => h (hf _ _ z)⟩
theorem once_nodup {α : Type} [DecidableEq α] : ∀ {l : List α}, l.Nodup → once l = l
  | [], _ => rfl
  | x :: r, h => by
    obtain ⟨h1, h2⟩ := List.nodup_cons.mp h
    show x :: (once r).filter (fun y => decide (y ≠ x)) = x :: r
    have e : r.filter (fun y => decide (y ≠ x)) = r := List.filter_eq_self.mpr fun y hy => decide_eq_true (show y ≠ x from fun z => h1 (by rw [← z]; exact hy))
    rw [once_nodup h2, e]
theorem once_sub {α : Type} [DecidableEq α] : ∀ l : List α, (once l).Sublist l
  | [] => .slnil
  | x :: r => (List.filter_sublist.trans (once_sub r)).cons_cons x
theorem once_len {α : Type} [DecidableEq α] (l : List α) : (once l).length ≤ l.length := (once_sub l).length_le
end Kt
/-! list(d.items()), d perhaps locked by a walk. -/
namespace Kt
open PySem L2 LiI
def rItR : V → Hp → VK → Prop := fun x H Q => ∃ (d : Addr) (kvs : List (Key × V)), x = .ref d ∧ Rd H d (.dK kvs) ∧
  ∀ (H' : Hp) (p : Addr) (ts : List Addr), (∀ b o, H b = some o → H' b = some o) → H p = none → H' p = some (.lst (ts.map V.ref)) → Paired (fun (t : Addr) (q : Key × V) => H' t = some (.tup [kV q.1, q.2])) ts kvs → Q (.ref p) H'
def tItR (te : TE) : TE := fun σ H Q => te σ H fun x H1 => rItR x H1 Q
theorem pe_itemsR {X : Cx} {e : Expr} {te : TE} {p apos cpos pos : Pos} (calm : X.calm = true) (pe : PE X e te) (gl : Gl X "list") (mn : X.mg "list" = none) (bo : bootBuiltins "list" = some (.type "list")) (ab : attributeBase e "items" X.env (eval e X.env) = eval e X.env := by rfl) (li : (apos.endLine == cpos.line) = true := by rfl)
    (st : starEach [.Call (.Attribute e "items" apos) [] [] cpos] X.env = (false, eval (.Call (.Attribute e "items" apos) [] [] cpos) X.env) :: starEach [] X.env := by rfl) : PE X (.Call (.Name "list" p) [.Call (.Attribute e "items" apos) [] [] cpos] [] pos) (tItR te) := by
  constructor
  intro pins s σ H Q I ask
  refine wpAny_Call_Name_kw (ld_blt I gl mn bo (PyProof.Rows.callWith_type1 ?_ st rfl))
  rw [st]
  show wpAny _ _ (spliced ((false, eval (.Call (.Attribute e "items" apos) [] [] cpos) X.env) :: backTo pos (starEach [] X.env))) _ _ s
  refine Calls.spliced_cons ?_
  refine (wpAny_Call_method (T := "dict") (id := "dict.items") ab rfl li F.plainAttrs_dict F.slot_dict_items F.type_dict_items (thn (pe.run pins s σ H _ I ask) ?_))
  rintro u s1 ⟨x, H1, J, rx, d, kvs, rfl, rd, q⟩
  obtain rfl : u = Value.ref d := rx
  obtain ⟨size, notSys, vs, rel, isD⟩ := dk_rd J.hok rd
  obtain ⟨ep, isAt⟩ := isD.dictAt
  have len : kvs.length = vs.length := Paired.length rel
  have J2 : Inv X pins σ H1 { s1 with heap := s1.heap.push { cls := .type "dict_items", data := .fields #[.ref d] } } := J.kept (t' := s1.toks) fun _ _ z => Heap.get?_push_of_some _ z
  refine ⟨isD.typeIs, isD.mapOf.noDict, ?_⟩
  show wpAny _ _ (callWith cpos (.builtin "dict.items") [.ref d] [] []) _ X.xe s1
  refine method_meetsIn F.slot_dict_items F.entry_dict_items rfl (PySem.evalArgs_none ⟨rfl, isD.typeIs, F.args_dict_items_1 _, _, meets_dict_items (mixKind X.prog X.w) d notSys, ⟨vs, isD⟩, Calls.spliced_nil ?_⟩)
  refine PySem.W.kdx_call (knd := mixKind X.prog X.w) (kvs := vs) (ep := ep) (J.ok.hd calm) ⟨_, Heap.get?_push_size _ rfl, rfl, rfl⟩ (isAt.push _) (by omega) ?_
  intro h' tk acc c as hk hS hl hG hacc
  obtain ⟨H', k1, k2, _, _, k5, k6, J3⟩ := items_laid (tk := tk) J2 size rel hk hS hl hG hacc
  exact ⟨.ref _, H', J3, rfl, q H' _ as k1 k2 k5 k6⟩
end Kt
/-! A statement with a word of its own for what stands behind it (where two ways meet). -/
namespace L2
open PySem
def tJoin (t : TS) : TS := fun D σ H => ∃ J : St → Hp → Prop, t { D with nx := J } σ H ∧ ∀ σ' H', J σ' H' → D.nx σ' H'
theorem ps_join {X : Cx} {st : Stmt} {t : TS} (h : PS X st t) : PS X st (tJoin t) := by
  constructor
  rintro pins s σ H D I ⟨J, h1, h2⟩
  refine thn (h.run pins s σ H { D with nx := J } I h1) fun f s1 q => ?_
  cases f with
  | next =>
    obtain ⟨σ', H', I2, q⟩ := q
    exact ⟨σ', H', I2, h2 _ _ q⟩
  | brk => exact q
  | cont => exact q
  | ret u => exact q
end L2
/-! sorted(t), t a tuple of data of one kind -/
namespace Kd
open PySem PySem.W PyProof.Rows L2
@[irreducible] def rSortDT (K : PySem.W.Frag) : List V → Hp → VK → Prop := fun vs H Q => ∃ (a : Addr) (xs : List V) (ds : List PyData), vs = [V.ref a] ∧ SqT K H a xs ∧ DpAll K H xs ds ∧ SortOk ds ∧
  ∀ (bs : List (V × PyData)) (p : Addr), bs.Perm (xs.zip ds) → bs.map (·.2) = srtD ds → H p = none → Q (.ref p) (upd H p (.lst (bs.map (·.1))))
theorem cr_sortT {X : Cx} {K : PySem.W.Frag} (hK : X.K = K) (hu : X.A.units + 64 < cLine) : CallR X (.builtin "sorted") (rSortDT K) := by
  intro pins s σ H vs us Q I r h
  unfold rSortDT at h
  obtain ⟨a, xs, ds, e, hs, hd, ok, q⟩ := h
  subst e
  subst hK
  rw [Vals.ref1 r]
  obtain ⟨its, rv, ⟨o, ho, hc, n, hdt⟩, hz0⟩ := I.tuple hs
  have len := dpAll_len' hd
  have lz : (xs.zip ds).length = xs.length := by rw [List.length_zip, len]; exact Nat.min_self _
  have hln : its.length ≤ sizeLine := by rw [← rv.length]; exact hz0
  have e2 : (xs.zip ds).map (fun b => b.2) = ds := zip_snd len
  refine Calls.call_function_entry kind_sorted plain_sorted entry_sorted (args_sorted1 _) ?_
  unfold Builtin.«sorted»
  refine wpAny_bind (m := checkCount "sorted" 1 1 _) (wpAny_pure ?_)
  refine wpAny_bind (wpAny_collect_seq a (.inr rfl) ho hc hdt (fun h1 kp => ?_) (by rw [List.size_toArray]; exact hln))
  refine wpAny_bind (wpAny_newList ?_ hln)
  have J : Inv X pins σ H { s with heap := h1 } := I.kept (t' := s.toks) kp
  have hnew : (h1.push (seqObj "list" its.toArray 0)).get? h1.objs.size = some (seqObj "list" its.toArray 0) := Heap.get?_push_size _ rfl
  show wpAny _ _ _ _ _ { s with heap := h1.push (seqObj "list" its.toArray 0) }
  have es := each_of hd rv
  have er0 := reads_of J hd rv
  have er' : EachIs (fun v (b : V × PyData) => ∃ as, Reads (sortingHeap (h1.push (seqObj "list" its.toArray 0)) h1.objs.size its) v b.2 as) its (xs.zip ds) := er0.mono fun _ _ ⟨as, r⟩ => ⟨as, PyProof.Rows.Reads.keeps (fun b o e => sortingHeap_old (Nat.ne_of_lt (Heap.lt_size e)) (Heap.get?_push_of_some _ e)) r⟩
  have hal : AllAlike ((xs.zip ds).map fun b => b.2) := by rw [e2]; exact ok.al
  have hso : Sortable ((xs.zip ds).map fun b => b.2) := by rw [e2]; exact ok.so
  have hdep : ∀ d, d ∈ (xs.zip ds).map (fun b : V × PyData => b.2) → X.A.in1.in1.units + d.depth < cLine := fun d hm => by
    rw [e2] at hm
    have h1 := ok.dp d hm
    show X.A.units + 2 + d.depth < cLine
    omega
  refine wpAny_bind (wpAny_holding (wpAny_call_entry slot_list_sort ⟨_, hnew, rfl⟩ entry_list_sort
    (list_sort_vals (κ := dataKind (sortingHeap (h1.push (seqObj "list" its.toArray 0)) h1.objs.size its) ((xs.zip ds).map fun b => b.2)) hnew (SortsAt.data (s := { s with heap := sortingHeap (h1.push (seqObj "list" its.toArray 0)) h1.objs.size its }) (each_map (R := fun v d => ∃ as, Reads (sortingHeap (h1.push (seqObj "list" its.toArray 0)) h1.objs.size its) v d as) (fun b : V × PyData => b.2) er') hal hso hdep) hln ⟨.none, rfl, ?_⟩) (args_list_sort _)))
  have eo := sortVals_data (enc := fun b : V × PyData => b.2) (R := fun v b => RelV b.1 v) false es er' hal
  have pm : ((xs.zip ds).mergeSort (dataLe false fun b : V × PyData => b.2)).Perm (xs.zip ds) := List.mergeSort_perm _ _
  have hy := vals_each eo
  have hp : (((xs.zip ds).mergeSort (dataLe false fun b : V × PyData => b.2)).map (·.1)).length = xs.length := by rw [List.length_map, pm.length_eq, lz]
  have hsnd : ((xs.zip ds).mergeSort (dataLe false fun b : V × PyData => b.2)).map (fun b : V × PyData => b.2) = srtD ds := by
    unfold srtD
    have z := sort_maps (r := dataLe false fun b : V × PyData => b.2) (s := dataLe false (id : PyData → PyData)) (fun b : V × PyData => b.2) (l := xs.zip ds) (fun _ _ _ _ => rfl)
    rw [z, e2]
  obtain ⟨n', h'⟩ := sortedHeap_at (vs := its) (out := (sortVals (dataKind (sortingHeap (h1.push (seqObj "list" its.toArray 0)) h1.objs.size its) ((xs.zip ds).map fun b => b.2)) false its its).toArray) hnew
  refine wpAny_pure ⟨_, rfl, .ref h1.objs.size, upd H h1.objs.size (.lst (((xs.zip ds).mergeSort (dataLe false fun b : V × PyData => b.2)).map (·.1))), J.laid (t' := s.toks) (fun b u e => ?_) (Nat.le_refl _) ⟨by rw [hp]; exact hz0, _, n', hy, h'⟩, rfl, q _ _ pm hsnd (J.hok.fresh (Nat.le_refl _))⟩
  have hb : b < h1.objs.size := Heap.lt_size e
  rw [sortedHeap_old (Nat.ne_of_lt hb) (by rw [size_push']; exact Nat.lt_succ_of_lt hb)]
  exact Heap.get?_push_of_some _ e
end Kd
namespace Ky
open PySem L2 Evl Kd
open PySem.W (Datum DatumOrd T3)
variable {α : Type} [DecidableEq α] [DatumOrd α]
/-- sorted(t), t's items standing in R with xs -/
theorem sortedRT [Sorts α] {K : PySem.W.Frag} {H : Hp} {p : Addr} {vs : List V} {xs : List α} {Q : VK} {R : V → α → Prop} (h : SqT K H p vs) (hy : HdL K H vs xs) (r : Paired R vs xs) (q : ∀ us l, Paired R us (srt xs) → us.Perm vs → H l = none → Q (.ref l) (upd H l (.lst us))) : rSortDT K [.ref p] H Q := by
  unfold rSortDT
  refine ⟨p, vs, _, rfl, h, hy, sort_ok xs, fun bs l pm hb hl => ?_⟩
  rw [← zip_map_toD] at pm
  obtain ⟨cs, pc, ec⟩ := perm_lift (fun b : V × α => (b.1, (Datum.toD b.2 : PyData))) pm _ rfl
  subst ec
  have e2 : cs.map (·.2) = srt xs := by
    refine toDs_inj ?_
    rw [← srt_toD, ← hb, List.map_map, List.map_map]
    rfl
  have e1 : (cs.map fun b : V × α => (b.1, (Datum.toD b.2 : PyData))).map (·.1) = cs.map (·.1) := by rw [List.map_map]; rfl
  have hlen : vs.length = xs.length := hy.len
  have pv : (cs.map (·.1)).Perm vs := by
    have z := pc.map (fun b : V × α => b.1)
    rw [List.map_fst_zip (by omega)] at z
    exact z
  rw [e1]
  refine q _ l ?_ pv hl
  rw [← e2]
  exact paired_maps fun b hb => paired_zip r b (pc.mem_iff.mp hb)
end Ky
/-! x = {k: v for ..}, x a plain local name of the def -/
namespace L2
open PySem PySem.Spec PyProof.Rows
section
variable {X : Cx}
theorem ps_setDc {i : Nat} {y : Str} {py : Pos} {kx vx tg iter : Expr} {ifs : List Expr} {scope : Scope} {own : List (Str × Nat)} {pos spos : Pos} {wi : TI} {g : TG} {tt : TT} {tk tv : TE} (hc : X.calm = true) (hN : X.N.Nodup) (hy : X.N[i]? = some y) (hyl : X.env.scope.names.lookup y = some .local)
    (hsw : swapsWith (.DictComp kx vx [⟨tg, iter, ifs, 0⟩] scope pos) (some (.Name y py)) spos.line X.env = pure true) (hi : PI X tg iter wi) (ok : BlkOk X.N X.env.scope scope own)
    (hg : ∀ (s : Shared) (H : Hp) (C : Addr) (cl : List (Str × Addr)) (fp : List Addr), PG (X.blk s H scope (compEnvC scope cl C X.env) fp) tg g) (ht : ∀ (s : Shared) (H : Hp) (C : Addr) (cl : List (Str × Addr)) (fp : List Addr), PTs (X.blk s H scope (compEnvC scope cl C X.env) fp) ifs tt)
    (hk : ∀ (s : Shared) (H : Hp) (C : Addr) (cl : List (Str × Addr)) (fp : List Addr), PE (X.blk s H scope (compEnvC scope cl C X.env) fp) kx tk)
    (he : ∀ (s : Shared) (H : Hp) (C : Addr) (cl : List (Str × Addr)) (fp : List Addr), PE (X.blk s H scope (compEnvC scope cl C X.env) fp) vx tv) (hs : ∀ x, foldedSetIterable iter X.env x = pure x := by intro _; rfl) :
    PS X (.Assign [.Name y py] (.DictComp kx vx [⟨tg, iter, ifs, 0⟩] scope pos) spos) (tAsg (tDc wi g tt tk tv (own.map (·.2))) (gName i)) := by
  refine ⟨fun pins s σ H D I h => ?_⟩
  rw [exec_Assign_Name_used _ _ _ _ hsw]
  refine wpAny_bind (wpAny_standAt (wpAny_bind ?_))
  show wpAny _ X.A (do let _ ← comprehension (.DictComp kx vx [⟨tg, iter, ifs, 0⟩] scope pos) scope X.env (firstIterPos [⟨tg, iter, ifs, 0⟩] pos) newDict false (eval iter X.env) (some (assign (.Name y py) X.env))) _ _ s
  have h : tDc wi g tt tk tv (own.map (·.2)) σ H (fun x H1 => gName i x σ H1 D.nx) := h
  refine wpAny_bind (thn (dc_core (Qf := fun _ s' => SP X pins D .next s') hc hN I hi ok hg ht hk he hs h fun L C s' m H' I' q hn f => ?_) fun _ s' hq => wpAny_pure (wpAny_pure hq))
  show wpAny _ _ (assign (.Name y py) X.env (.ref L)) _ _ _
  refine wpAny_assign_Name (store_ok2 (v := V.ref L) I' hN hy (.inl hyl) rfl (fun s2 I2 ⟨a, sb, ha⟩ => ?_) (.inr hyl))
  obtain ⟨f0, f1, f2, f3, f4, f5⟩ := f
  have haC : C ≠ a := by
    rcases ha with z | z
    · rw [z]; exact f1
    · exact fun e => f4 y a z e.symm
  refine ⟨m, hn.sameBut sb haC, fun h3 sb3 => ?_⟩
  exact ⟨_, H', I2.turned (t' := s2.toks) (fun b o hb e => (sb3.2 b hb).trans e) f0 f1 f3 f4 f5, q⟩
theorem sw_trueD {kx vx : Expr} {gs : List Comprehension} {scope : Scope} {pos py : Pos} {y : Str} {l : Nat} {env : Env} (hk : env.scope.kind = .function) (hy : env.scope.names.lookup y = some .local) (hl : (py.line == pos.line) = true)
    (ha : (scope.names.any fun (n, k) => n == y && (k == .local || k == .cell)) = false) : swapsWith (.DictComp kx vx gs scope pos) (some (.Name y py)) l env = pure true := by
  have ky : env.kindOf y = some .local := hy
  have hb : env.blockKind = .function := by unfold Env.blockKind; rw [hk]; rfl
  unfold swapsWith
  simp only [hb, ky, ha, Expr.pos, hl]
  rfl
/-- {k: v for .. in .. if ..}, keys ints and texts, by a word of the turn -/
theorem dcK {J : It} {n : Nat} {G : Hp → Prop} {Y : Nat → Hp → V → Hp → Prop} (w : Walk J n G Y) {g : TG} {tt : TT} {tk tv : TE} {vs : List Nat} {σ : L2.St} {H1 : Hp} {D : Addr} {Qd : Hp → Prop} (Pv : Nat → Hp → Prop) (h0 : Pv 0 (upd H1 D (.dK []))) (hG : ∀ i H, i ≤ n → Pv i H → G H)
    (hs : ∀ i x H H', i < n → Pv i H → Y i H x H' → g x (wipe σ vs) H' fun σ2 H2 => wipe σ2 vs = wipe σ vs ∧ tt σ2 H2 fun b H3 => if b = true then tk σ2 H3 fun y H4 => tv σ2 H4 fun z H5 => ∃ kvs k, y = kV k ∧ H5 D = some (.dK kvs) ∧ kvs.length < sizeLine ∧ Pv (i + 1) (upd H5 D (.dK (putK kvs k z))) else Pv (i + 1) H3) (hd : ∀ H, Pv n H → Qd H) :
    ∃ W : Nat → Nat → Hp → Prop, (∃ m, W 0 m (upd H1 D (.dK []))) ∧ ∀ i m H, W i m H →
      (J.stop i H ∧ Qd H) ∨ (J.go i H ∧ ∃ Nx : Hp → Prop, (∀ H', Nx H' → ∃ m', m' < m ∧ W (i + 1) m' H') ∧ ∀ x H', J.yld i H x H' → g x (wipe σ vs) H' fun σ2 H2 => wipe σ2 vs = wipe σ vs ∧ tt σ2 H2 fun b H3 =>
        if b = true then tk σ2 H3 fun y H4 => tv σ2 H4 fun z H5 => ∃ kvs k, y = kV k ∧ H5 D = some (.dK kvs) ∧ kvs.length < sizeLine ∧ Nx (upd H5 D (.dK (putK kvs k z))) else Nx H3) := by
  refine ⟨fun i m H => m = n - i ∧ i ≤ n ∧ Pv i H, ⟨n, by simp, Nat.zero_le _, h0⟩, ?_⟩
  rintro i m H ⟨rfl, hi, p⟩
  have q := hG i H hi p
  by_cases hlt : i < n
  · exact .inr ⟨w.goes i H hlt q, Pv (i + 1), fun H' p' => ⟨n - (i + 1), by omega, rfl, hlt, p'⟩, fun x H' y => hs i x H H' hlt p (w.yields i H x H' hlt q y)⟩
  · have e : i = n := by omega
    subst e
    exact .inl ⟨w.stops H q, hd H p⟩
end
end L2
/-! repr of an integer, a truth value, None or a text -/
namespace L2
open PySem PySem.Spec PyProof.Rows
def repB : V → Str
  | .int i => toString i
  | .bl b => if b then "True" else "False"
  | .non => "None"
  | .str x => reprText x
  | _ => ""
def shortB : V → Prop
  | .int i => i.natAbs.log2 < 1920
  | .bl _ => True
  | .non => True
  | .str x => (reprText x).length ≤ sizeLine
  | _ => False
def rReprB : List V → Hp → VK → Prop := fun xs H Q => ∃ v, xs = [v] ∧ shortB v ∧ Q (.str (repB v)) H
theorem call_reprB {X : Cx} : CallR X (.builtin "repr") rReprB := by
  intro pins s σ H xs us Q I r h
  obtain ⟨v, rfl, hz, q⟩ := h
  obtain ⟨u, rfl, rv⟩ := vals1 r
  cases v with
  | int i =>
    obtain ⟨t, rfl⟩ := rv
    exact PySem.P.repr_of_int hz ⟨.str _, H, I.tok _, ⟨_, rfl⟩, q⟩
  | bl b =>
    cases rv
    exact PySem.P.repr_of_bool ⟨.str _, H, I.tok _, ⟨s.toks, by cases b <;> rfl⟩, q⟩
  | non =>
    cases rv
    exact PySem.P.repr_of_none ⟨.str _, H, I.tok _, ⟨_, rfl⟩, q⟩
  | str x =>
    obtain ⟨t, rfl⟩ := rv
    exact PySem.P.repr_of_str ⟨.str _, H, I.tok _, ⟨_, rfl⟩, q⟩ hz
  | _ => exact hz.elim
end L2
namespace K2
open PySem L2 Kd
def top (i : Nat) : Stmt := PySem.Challenge.pw_keptshapes_k02_webs_built_and_read.main.body.getD i (.Pass ⟨0, 0, 0, 0⟩)
abbrev s_UnknownName_init : Stmt := inClass (top 5) 0
abbrev N_UnknownName_init : List Str := ["self", "name"]
theorem sc_UnknownName_init : FnScope N_UnknownName_init ["self", "name"] (defScope s_UnknownName_init) := ⟨rfl, rfl, rfl, by decide +kernel, rfl, by decide +kernel, by decide +kernel⟩
abbrev s_is_integer : Stmt := top 12
abbrev N_is_integer : List Str := ["value"]
theorem sc_is_integer : FnScope N_is_integer ["value"] (defScope s_is_integer) := ⟨rfl, rfl, rfl, by decide +kernel, rfl, by decide +kernel, by decide +kernel⟩
abbrev s_is_name : Stmt := top 13
abbrev N_is_name : List Str := ["value", "letter"]
theorem sc_is_name : FnScope N_is_name ["value"] (defScope s_is_name) := ⟨rfl, rfl, rfl, by decide +kernel, rfl, by decide +kernel, by decide +kernel⟩
abbrev s_are_names : Stmt := top 14
abbrev N_are_names : List Str := ["value", "most", "name"]
theorem sc_are_names : FnScope N_are_names ["value", "most"] (defScope s_are_names) := ⟨rfl, rfl, rfl, by decide +kernel, rfl, by decide +kernel, by decide +kernel⟩
abbrev s_Sheet_init : Stmt := inClass (top 15) 0
abbrev N_Sheet_init : List Str := ["self", "kinds", "words"]
theorem sc_Sheet_init : FnScope N_Sheet_init ["self", "kinds", "words"] (defScope s_Sheet_init) := ⟨rfl, rfl, rfl, by decide +kernel, rfl, by decide +kernel, by decide +kernel⟩
abbrev s_Sheet_kinds : Stmt := inClass (top 15) 1
abbrev N_Sheet_kinds : List Str := ["self"]
theorem sc_Sheet_kinds : FnScope N_Sheet_kinds ["self"] (defScope s_Sheet_kinds) := ⟨rfl, rfl, rfl, by decide +kernel, rfl, by decide +kernel, by decide +kernel⟩
abbrev s_Sheet_words : Stmt := inClass (top 15) 2
abbrev N_Sheet_words : List Str := ["self"]
theorem sc_Sheet_words : FnScope N_Sheet_words ["self"] (defScope s_Sheet_words) := ⟨rfl, rfl, rfl, by decide +kernel, rfl, by decide +kernel, by decide +kernel⟩
abbrev s_Sheet_eq : Stmt := inClass (top 15) 3
abbrev N_Sheet_eq : List Str := ["self", "other"]
theorem sc_Sheet_eq : FnScope N_Sheet_eq ["self", "other"] (defScope s_Sheet_eq) := ⟨rfl, rfl, rfl, by decide +kernel, rfl, by decide +kernel, by decide +kernel⟩
abbrev s_Sheet_str : Stmt := inClass (top 15) 4
abbrev N_Sheet_str : List Str := ["self"]
theorem sc_Sheet_str : FnScope N_Sheet_str ["self"] (defScope s_Sheet_str) := ⟨rfl, rfl, rfl, by decide +kernel, rfl, by decide +kernel, by decide +kernel⟩
abbrev s_require_sheet : Stmt := top 16
abbrev N_require_sheet : List Str := ["sheet"]
theorem sc_require_sheet : FnScope N_require_sheet ["sheet"] (defScope s_require_sheet) := ⟨rfl, rfl, rfl, by decide +kernel, rfl, by decide +kernel, by decide +kernel⟩
abbrev s_is_kind : Stmt := top 17
abbrev N_is_kind : List Str := ["sheet", "value"]
theorem sc_is_kind : FnScope N_is_kind ["sheet", "value"] (defScope s_is_kind) := ⟨rfl, rfl, rfl, by decide +kernel, rfl, by decide +kernel, by decide +kernel⟩
abbrev s_is_tie : Stmt := top 18
abbrev N_is_tie : List Str := ["sheet", "value"]
theorem sc_is_tie : FnScope N_is_tie ["sheet", "value"] (defScope s_is_tie) := ⟨rfl, rfl, rfl, by decide +kernel, rfl, by decide +kernel, by decide +kernel⟩
abbrev s_is_post : Stmt := top 19
abbrev N_is_post : List Str := ["value"]
theorem sc_is_post : FnScope N_is_post ["value"] (defScope s_is_post) := ⟨rfl, rfl, rfl, by decide +kernel, rfl, by decide +kernel, by decide +kernel⟩
abbrev s_is_post_of : Stmt := top 20
abbrev N_is_post_of : List Str := ["posts", "value"]
theorem sc_is_post_of : FnScope N_is_post_of ["posts", "value"] (defScope s_is_post_of) := ⟨rfl, rfl, rfl, by decide +kernel, rfl, by decide +kernel, by decide +kernel⟩
abbrev s_is_tie_of : Stmt := top 21
abbrev N_is_tie_of : List Str := ["sheet", "posts", "value"]
theorem sc_is_tie_of : FnScope N_is_tie_of ["sheet", "posts", "value"] (defScope s_is_tie_of) := ⟨rfl, rfl, rfl, by decide +kernel, rfl, by decide +kernel, by decide +kernel⟩
abbrev s_require_posts : Stmt := top 22
abbrev N_require_posts : List Str := ["sheet", "posts", "kind", "post"]
theorem sc_require_posts : FnScope N_require_posts ["sheet", "posts"] (defScope s_require_posts) := ⟨rfl, rfl, rfl, by decide +kernel, rfl, by decide +kernel, by decide +kernel⟩
abbrev s_require_ties : Stmt := top 23
abbrev N_require_ties : List Str := ["sheet", "posts", "ties", "tie"]
theorem sc_require_ties : FnScope N_require_ties ["sheet", "posts", "ties"] (defScope s_require_ties) := ⟨rfl, rfl, rfl, by decide +kernel, rfl, by decide +kernel, by decide +kernel⟩
abbrev s_least_next : Stmt := top 24
abbrev N_least_next : List Str := ["posts"]
theorem sc_least_next : FnScope N_least_next ["posts"] (defScope s_least_next) := ⟨rfl, rfl, rfl, by decide +kernel, rfl, by decide +kernel, by decide +kernel⟩
abbrev s_require_next : Stmt := top 25
abbrev N_require_next : List Str := ["posts", "number"]
theorem sc_require_next : FnScope N_require_next ["posts", "number"] (defScope s_require_next) := ⟨rfl, rfl, rfl, by decide +kernel, rfl, by decide +kernel, by decide +kernel⟩
abbrev s_Web_init : Stmt := inClass (top 26) 0
abbrev N_Web_init : List Str := ["self", "sheet", "posts", "next_post", "ties", "post", "tie"]
theorem sc_Web_init : FnScope N_Web_init ["self", "sheet", "posts", "next_post", "ties"] (defScope s_Web_init) := ⟨rfl, rfl, rfl, by decide +kernel, rfl, by decide +kernel, by decide +kernel⟩
abbrev s_Web_of : Stmt := inClass (top 26) 1
abbrev N_Web_of : List Str := ["cls", "sheet", "posts", "ties", "next_post"]
theorem sc_Web_of : FnScope N_Web_of ["cls", "sheet", "posts", "ties", "next_post"] (defScope s_Web_of) := ⟨rfl, rfl, rfl, by decide +kernel, rfl, by decide +kernel, by decide +kernel⟩
abbrev s_Web_sheet : Stmt := inClass (top 26) 2
abbrev N_Web_sheet : List Str := ["self"]
theorem sc_Web_sheet : FnScope N_Web_sheet ["self"] (defScope s_Web_sheet) := ⟨rfl, rfl, rfl, by decide +kernel, rfl, by decide +kernel, by decide +kernel⟩
abbrev s_Web_posts : Stmt := inClass (top 26) 3
abbrev N_Web_posts : List Str := ["self"]
theorem sc_Web_posts : FnScope N_Web_posts ["self"] (defScope s_Web_posts) := ⟨rfl, rfl, rfl, by decide +kernel, rfl, by decide +kernel, by decide +kernel⟩
abbrev s_Web_ties : Stmt := inClass (top 26) 4
abbrev N_Web_ties : List Str := ["self"]
theorem sc_Web_ties : FnScope N_Web_ties ["self"] (defScope s_Web_ties) := ⟨rfl, rfl, rfl, by decide +kernel, rfl, by decide +kernel, by decide +kernel⟩
abbrev s_Web_next_post : Stmt := inClass (top 26) 5
abbrev N_Web_next_post : List Str := ["self"]
theorem sc_Web_next_post : FnScope N_Web_next_post ["self"] (defScope s_Web_next_post) := ⟨rfl, rfl, rfl, by decide +kernel, rfl, by decide +kernel, by decide +kernel⟩
abbrev s_Web_require_post : Stmt := inClass (top 26) 6
abbrev N_Web_require_post : List Str := ["self", "post"]
theorem sc_Web_require_post : FnScope N_Web_require_post ["self", "post"] (defScope s_Web_require_post) := ⟨rfl, rfl, rfl, by decide +kernel, rfl, by decide +kernel, by decide +kernel⟩
abbrev s_Web_iter : Stmt := inClass (top 26) 15
abbrev N_Web_iter : List Str := ["self"]
theorem sc_Web_iter : FnScope N_Web_iter ["self"] (defScope s_Web_iter) := ⟨rfl, rfl, rfl, by decide +kernel, rfl, by decide +kernel, by decide +kernel⟩
abbrev s_Web_contains : Stmt := inClass (top 26) 16
abbrev N_Web_contains : List Str := ["self", "value"]
theorem sc_Web_contains : FnScope N_Web_contains ["self", "value"] (defScope s_Web_contains) := ⟨rfl, rfl, rfl, by decide +kernel, rfl, by decide +kernel, by decide +kernel⟩
abbrev s_Web_getitem : Stmt := inClass (top 26) 17
abbrev N_Web_getitem : List Str := ["self", "post"]
theorem sc_Web_getitem : FnScope N_Web_getitem ["self", "post"] (defScope s_Web_getitem) := ⟨rfl, rfl, rfl, by decide +kernel, rfl, by decide +kernel, by decide +kernel⟩
abbrev s_Web_len : Stmt := inClass (top 26) 18
abbrev N_Web_len : List Str := ["self"]
theorem sc_Web_len : FnScope N_Web_len ["self"] (defScope s_Web_len) := ⟨rfl, rfl, rfl, by decide +kernel, rfl, by decide +kernel, by decide +kernel⟩
abbrev s_Web_bool : Stmt := inClass (top 26) 19
abbrev N_Web_bool : List Str := ["self"]
theorem sc_Web_bool : FnScope N_Web_bool ["self"] (defScope s_Web_bool) := ⟨rfl, rfl, rfl, by decide +kernel, rfl, by decide +kernel, by decide +kernel⟩
abbrev s_Web_eq : Stmt := inClass (top 26) 20
abbrev N_Web_eq : List Str := ["self", "other"]
theorem sc_Web_eq : FnScope N_Web_eq ["self", "other"] (defScope s_Web_eq) := ⟨rfl, rfl, rfl, by decide +kernel, rfl, by decide +kernel, by decide +kernel⟩
abbrev s_Web_str : Stmt := inClass (top 26) 21
abbrev N_Web_str : List Str := ["self"]
theorem sc_Web_str : FnScope N_Web_str ["self"] (defScope s_Web_str) := ⟨rfl, rfl, rfl, by decide +kernel, rfl, by decide +kernel, by decide +kernel⟩
abbrev s_law_dice : Stmt := top 28
abbrev N_law_dice : List Str := ["_law_script", "_law_at", "_law_cell", "_law_great", "_law_mixed_here"]
theorem sc_law_dice : FnScope N_law_dice ["_law_script", "_law_at"] (defScope s_law_dice) := ⟨rfl, rfl, rfl, by decide +kernel, rfl, by decide +kernel, by decide +kernel⟩
abbrev s_law_roll : Stmt := top 29
abbrev N_law_roll : List Str := ["_law_dice_here", "_law_total", "_law_one", "_law_two", "_law_found"]
theorem sc_law_roll : FnScope N_law_roll ["_law_dice_here", "_law_total"] (defScope s_law_roll) := ⟨rfl, rfl, rfl, by decide +kernel, rfl, by decide +kernel, by decide +kernel⟩
abbrev s_law_one_of : Stmt := top 30
abbrev N_law_one_of : List Str := ["_law_dice_here", "_law_items"]
theorem sc_law_one_of : FnScope N_law_one_of ["_law_dice_here", "_law_items"] (defScope s_law_one_of) := ⟨rfl, rfl, rfl, by decide +kernel, rfl, by decide +kernel, by decide +kernel⟩
abbrev s_law_mixed : Stmt := top 31
abbrev N_law_mixed : List Str := ["_law_dice_here", "_law_items", "_law_left", "_law_turn"]
theorem sc_law_mixed : FnScope N_law_mixed ["_law_dice_here", "_law_items"] (defScope s_law_mixed) := ⟨rfl, rfl, rfl, by decide +kernel, rfl, by decide +kernel, by decide +kernel⟩
abbrev s_law_sheet : Stmt := top 32
abbrev N_law_sheet : List Str := ["_law_dice_here", "_law_kinds", "_law_words"]
theorem sc_law_sheet : FnScope N_law_sheet ["_law_dice_here"] (defScope s_law_sheet) := ⟨rfl, rfl, rfl, by decide +kernel, rfl, by decide +kernel, by decide +kernel⟩
abbrev s_law_ties : Stmt := top 33
abbrev N_law_ties : List Str := ["_law_dice_here", "_law_posts", "_law_words", "_law_much", "_law_found", "_law_turn", "_law_tie"]
theorem sc_law_ties : FnScope N_law_ties ["_law_dice_here", "_law_posts", "_law_words", "_law_much"] (defScope s_law_ties) := ⟨rfl, rfl, rfl, by decide +kernel, rfl, by decide +kernel, by decide +kernel⟩
abbrev s_law_web : Stmt := top 34
abbrev N_law_web : List Str := ["_law_dice_here", "_law_kinds", "_law_words", "_law_most", "_law_numbers", "_law_posts", "_law_number"]
theorem sc_law_web : FnScope N_law_web ["_law_dice_here", "_law_kinds", "_law_words", "_law_most"] (defScope s_law_web) := ⟨rfl, rfl, rfl, by decide +kernel, rfl, by decide +kernel, by decide +kernel⟩
abbrev s_law_case : Stmt := top 35
abbrev N_law_case : List Str := ["_law_dice_here", "_law_web_here", "_law_least", "_law_kinds", "_law_words", "_law_much", "_law_posts", "_law_post", "_law_one", "_law_word", "_law_other"]
theorem sc_law_case : FnScope N_law_case ["_law_dice_here"] (defScope s_law_case) := ⟨rfl, rfl, rfl, by decide +kernel, rfl, by decide +kernel, by decide +kernel⟩
abbrev s_law_mixed_dict : Stmt := top 36
abbrev N_law_mixed_dict : List Str := ["_law_dice_here", "_law_table", "_law_key"]
theorem sc_law_mixed_dict : FnScope N_law_mixed_dict ["_law_dice_here", "_law_table"] (defScope s_law_mixed_dict) := ⟨rfl, rfl, rfl, by decide +kernel, rfl, by decide +kernel, by decide +kernel⟩
abbrev s_law_getting : Stmt := top 37
abbrev N_law_getting : List Str := ["_law_web_here", "_law_post", "e"]
theorem sc_law_getting : FnScope N_law_getting ["_law_web_here", "_law_post"] (defScope s_law_getting) := ⟨rfl, rfl, rfl, by decide +kernel, rfl, by decide +kernel, by decide +kernel⟩
abbrev s_law_reads : Stmt := top 38
abbrev N_law_reads : List Str := ["_law_web_here", "_law_plain", "_law_number", "_law_kinds", "_law_words", "_law_some", "_law_one", "_law_odd", "_law_posts", "_law_ties_here", "_law_due", "_law_word", "_law_tie", "_law_value"]
theorem sc_law_reads : FnScope N_law_reads ["_law_web_here", "_law_plain", "_law_number", "_law_kinds", "_law_words"] (defScope s_law_reads) := ⟨rfl, rfl, rfl, by decide +kernel, rfl, by decide +kernel, by decide +kernel⟩
abbrev s_law_right : Stmt := top 39
abbrev N_law_right : List Str := ["_law_dice_here", "_law_ties_here", "_law_number", "_law_one", "_law_before", "_law_same", "_law_others", "_law_kinds", "_law_words", "_law_plain", "_law_least", "_law_told", "_law_sheet_here", "_law_posts", "_law_some", "_law_more", "_law_later", "_law_other"]
theorem sc_law_right : FnScope N_law_right ["_law_dice_here"] (defScope s_law_right) := ⟨rfl, rfl, rfl, by decide +kernel, rfl, by decide +kernel, by decide +kernel⟩
abbrev s_law : Stmt := top 40
abbrev N_law : List Str := ["_law_script", "_law_at", "_law_sheet_here", "_law_one", "_law_empty", "_law_dice_here", "_law_turn"]
theorem sc_law : FnScope N_law ["_law_script"] (defScope s_law) := ⟨rfl, rfl, rfl, by decide +kernel, rfl, by decide +kernel, by decide +kernel⟩
theorem sbp_Web_init {K : PySem.W.Frag} {D : Addr} {dc pm cd ct : Value} {an : Option Addr} (hn : PySem.W.nsIn K D "next_post" = some (some .none)) : Kw.StarB K (PySem.W.fnOf "__init__" "Web.__init__" (defArgs s_Web_init) (defBody s_Web_init) (defScope s_Web_init) .none (.ref D) dc pm an cd ct) ["self", "sheet", "posts"] ["next_post"] [] "ties" [.none] := by
  refine Kw.starB_one hn fun us rest h => ?_
  match us, h with
  | [_, _, _], _ =>
    refine ⟨?b, ?g, ?k1, ?k2, ?k3, ?a, ?e1, ?e2, ?e3⟩
    case e1 =>
      unfold bindArgs
      simp only [show (defArgs s_Web_init).vararg.isNone = false from rfl, PySem.W.fnOf, Bool.and_false, Bool.false_eq_true, if_false]
      exact rfl
    case e2 => exact rfl
    case e3 => exact rfl
theorem sbq_Web_init {K : PySem.W.Frag} {kV dc pm cd ct : Value} {an : Option Addr} : Kw.StarB K (PySem.W.fnOf "__init__" "Web.__init__" (defArgs s_Web_init) (defBody s_Web_init) (defScope s_Web_init) .none kV dc pm an cd ct) ["self", "sheet", "posts"] ["next_post"] ["next_post"] "ties" [] :=
  Kw.starB_all fun us rest ws h1 h2 => match us, rest, ws, h1, h2 with
  | [_, _, _], [], [_], _, _ => rfl
  | [_, _, _], _ :: _, [_], _, _ => rfl
theorem kbp_Web_of {K : PySem.W.Frag} {kV dc pm cd ct : Value} {an : Option Addr} : KBn K (PySem.W.fnOf "of" "Web.of" (defArgs s_Web_of) (defBody s_Web_of) (defScope s_Web_of) .none kV dc pm an cd ct) ["cls", "sheet", "posts", "ties", "next_post"] 4 ["next_post"] (fun us ws => us ++ ws) (fun vs zs => vs ++ zs) :=
  ⟨fun s us ws X l1 l2 => match us, ws, l1, l2 with | [_, _, _, _], [_], _, _ => .of_eq rfl, fun r1 r2 => r1.append r2⟩
structure Ads where
  a_UnknownName_init : Addr
  d_UnknownName_init : FuncData
  a_is_integer : Addr
  d_is_integer : FuncData
  a_is_name : Addr
  d_is_name : FuncData
  a_are_names : Addr
  d_are_names : FuncData
  a_Sheet_init : Addr
  d_Sheet_init : FuncData
  a_Sheet_kinds : Addr
  d_Sheet_kinds : FuncData
  a_Sheet_words : Addr
  d_Sheet_words : FuncData
  a_Sheet_eq : Addr
  d_Sheet_eq : FuncData
  a_Sheet_str : Addr
  d_Sheet_str : FuncData
  a_require_sheet : Addr
  d_require_sheet : FuncData
  a_is_kind : Addr
  d_is_kind : FuncData
  a_is_tie : Addr
  d_is_tie : FuncData
  a_is_post : Addr
  d_is_post : FuncData
  a_is_post_of : Addr
  d_is_post_of : FuncData
  a_is_tie_of : Addr
  d_is_tie_of : FuncData
  a_require_posts : Addr
  d_require_posts : FuncData
  a_require_ties : Addr
  d_require_ties : FuncData
  a_least_next : Addr
  d_least_next : FuncData
  a_require_next : Addr
  d_require_next : FuncData
  a_Web_init : Addr
  d_Web_init : FuncData
  a_Web_of : Addr
  d_Web_of : FuncData
  a_Web_sheet : Addr
  d_Web_sheet : FuncData
  a_Web_posts : Addr
  d_Web_posts : FuncData
  a_Web_ties : Addr
  d_Web_ties : FuncData
  a_Web_next_post : Addr
  d_Web_next_post : FuncData
  a_Web_require_post : Addr
  d_Web_require_post : FuncData
  a_Web_iter : Addr
  d_Web_iter : FuncData
  a_Web_contains : Addr
  d_Web_contains : FuncData
  a_Web_getitem : Addr
  d_Web_getitem : FuncData
  a_Web_len : Addr
  d_Web_len : FuncData
  a_Web_bool : Addr
  d_Web_bool : FuncData
  a_Web_eq : Addr
  d_Web_eq : FuncData
  a_Web_str : Addr
  d_Web_str : FuncData
  a_law_dice : Addr
  d_law_dice : FuncData
  a_law_roll : Addr
  d_law_roll : FuncData
  a_law_one_of : Addr
  d_law_one_of : FuncData
  a_law_mixed : Addr
  d_law_mixed : FuncData
  a_law_sheet : Addr
  d_law_sheet : FuncData
  a_law_ties : Addr
  d_law_ties : FuncData
  a_law_web : Addr
  d_law_web : FuncData
  a_law_case : Addr
  d_law_case : FuncData
  a_law_mixed_dict : Addr
  d_law_mixed_dict : FuncData
  a_law_getting : Addr
  d_law_getting : FuncData
  a_law_reads : Addr
  d_law_reads : FuncData
  a_law_right : Addr
  d_law_right : FuncData
  a_law : Addr
  d_law : FuncData
  C_Sheet : Addr
  C_Web : Addr
  C_ShapeError : Addr
  C_InvalidSheet : Addr
  C_InvalidWeb : Addr
  C_UnknownName : Addr
  p_Sheet_kinds : Addr
  p_Sheet_words : Addr
  p_Web_sheet : Addr
  p_Web_posts : Addr
  p_Web_ties : Addr
  p_Web_next_post : Addr
  p_Web_of : Addr
  c_MAX_KINDS : Value
  c_MAX_WORDS : Value
  c_MAX_POSTS : Value
  c_MAX_LETTERS : Value
  c_LETTERS : Value
structure Txt (K : PySem.W.Frag) (mg : Str → Option Value) (A : Ads) : Prop where
  F_UnknownName_init : Fun K "__init__" "UnknownName.__init__" s_UnknownName_init A.a_UnknownName_init A.d_UnknownName_init
  b_UnknownName_init : Binds K A.d_UnknownName_init ["self", "name"] []
  F_is_integer : Fun K "is_integer" "is_integer" s_is_integer A.a_is_integer A.d_is_integer
  b_is_integer : Binds K A.d_is_integer ["value"] []
  g_is_integer : mg "is_integer" = some (.ref A.a_is_integer)
  k_is_integer : PySem.W.keepIn K (.ref A.a_is_integer) = true
  F_is_name : Fun K "is_name" "is_name" s_is_name A.a_is_name A.d_is_name
  b_is_name : Binds K A.d_is_name ["value"] []
  g_is_name : mg "is_name" = some (.ref A.a_is_name)
  k_is_name : PySem.W.keepIn K (.ref A.a_is_name) = true
  F_are_names : Fun K "are_names" "are_names" s_are_names A.a_are_names A.d_are_names
  b_are_names : Binds K A.d_are_names ["value", "most"] []
  g_are_names : mg "are_names" = some (.ref A.a_are_names)
  k_are_names : PySem.W.keepIn K (.ref A.a_are_names) = true
  F_Sheet_init : Fun K "__init__" "Sheet.__init__" s_Sheet_init A.a_Sheet_init A.d_Sheet_init
  b_Sheet_init : Binds K A.d_Sheet_init ["self", "kinds", "words"] []
  F_Sheet_kinds : Fun K "kinds" "Sheet.kinds" s_Sheet_kinds A.a_Sheet_kinds A.d_Sheet_kinds
  b_Sheet_kinds : Binds K A.d_Sheet_kinds ["self"] []
  F_Sheet_words : Fun K "words" "Sheet.words" s_Sheet_words A.a_Sheet_words A.d_Sheet_words
  b_Sheet_words : Binds K A.d_Sheet_words ["self"] []
  F_Sheet_eq : Fun K "__eq__" "Sheet.__eq__" s_Sheet_eq A.a_Sheet_eq A.d_Sheet_eq
  b_Sheet_eq : Binds K A.d_Sheet_eq ["self", "other"] []
  F_Sheet_str : Fun K "__str__" "Sheet.__str__" s_Sheet_str A.a_Sheet_str A.d_Sheet_str
  b_Sheet_str : Binds K A.d_Sheet_str ["self"] []
  F_require_sheet : Fun K "require_sheet" "require_sheet" s_require_sheet A.a_require_sheet A.d_require_sheet
  b_require_sheet : Binds K A.d_require_sheet ["sheet"] []
  g_require_sheet : mg "require_sheet" = some (.ref A.a_require_sheet)
  k_require_sheet : PySem.W.keepIn K (.ref A.a_require_sheet) = true
  F_is_kind : Fun K "is_kind" "is_kind" s_is_kind A.a_is_kind A.d_is_kind
  b_is_kind : Binds K A.d_is_kind ["sheet", "value"] []
  g_is_kind : mg "is_kind" = some (.ref A.a_is_kind)
  k_is_kind : PySem.W.keepIn K (.ref A.a_is_kind) = true
  F_is_tie : Fun K "is_tie" "is_tie" s_is_tie A.a_is_tie A.d_is_tie
  b_is_tie : Binds K A.d_is_tie ["sheet", "value"] []
  g_is_tie : mg "is_tie" = some (.ref A.a_is_tie)
  k_is_tie : PySem.W.keepIn K (.ref A.a_is_tie) = true
  F_is_post : Fun K "is_post" "is_post" s_is_post A.a_is_post A.d_is_post
  b_is_post : Binds K A.d_is_post ["value"] []
  g_is_post : mg "is_post" = some (.ref A.a_is_post)
  k_is_post : PySem.W.keepIn K (.ref A.a_is_post) = true
  F_is_post_of : Fun K "is_post_of" "is_post_of" s_is_post_of A.a_is_post_of A.d_is_post_of
  b_is_post_of : Binds K A.d_is_post_of ["posts", "value"] []
  g_is_post_of : mg "is_post_of" = some (.ref A.a_is_post_of)
  k_is_post_of : PySem.W.keepIn K (.ref A.a_is_post_of) = true
  F_is_tie_of : Fun K "is_tie_of" "is_tie_of" s_is_tie_of A.a_is_tie_of A.d_is_tie_of
  b_is_tie_of : Binds K A.d_is_tie_of ["sheet", "posts", "value"] []
  g_is_tie_of : mg "is_tie_of" = some (.ref A.a_is_tie_of)
  k_is_tie_of : PySem.W.keepIn K (.ref A.a_is_tie_of) = true
  F_require_posts : Fun K "require_posts" "require_posts" s_require_posts A.a_require_posts A.d_require_posts
  b_require_posts : Binds K A.d_require_posts ["sheet", "posts"] []
  g_require_posts : mg "require_posts" = some (.ref A.a_require_posts)
  k_require_posts : PySem.W.keepIn K (.ref A.a_require_posts) = true
  F_require_ties : Fun K "require_ties" "require_ties" s_require_ties A.a_require_ties A.d_require_ties
  b_require_ties : Binds K A.d_require_ties ["sheet", "posts", "ties"] []
  g_require_ties : mg "require_ties" = some (.ref A.a_require_ties)
  k_require_ties : PySem.W.keepIn K (.ref A.a_require_ties) = true
  F_least_next : Fun K "least_next" "least_next" s_least_next A.a_least_next A.d_least_next
  b_least_next : Binds K A.d_least_next ["posts"] []
  g_least_next : mg "least_next" = some (.ref A.a_least_next)
  k_least_next : PySem.W.keepIn K (.ref A.a_least_next) = true
  F_require_next : Fun K "require_next" "require_next" s_require_next A.a_require_next A.d_require_next
  b_require_next : Binds K A.d_require_next ["posts", "number"] []
  g_require_next : mg "require_next" = some (.ref A.a_require_next)
  k_require_next : PySem.W.keepIn K (.ref A.a_require_next) = true
  F_Web_init : FunD K "__init__" "Web.__init__" (defArgs s_Web_init) (defBody s_Web_init) (defScope s_Web_init) [] [("next_post", .non)] A.a_Web_init A.d_Web_init
  sb_Web_init_0 : Kw.StarB K A.d_Web_init ["self", "sheet", "posts"] ["next_post"] [] "ties" [.none]
  sb_Web_init_1 : Kw.StarB K A.d_Web_init ["self", "sheet", "posts"] ["next_post"] ["next_post"] "ties" []
  F_Web_of : FunD K "of" "Web.of" (defArgs s_Web_of) (defBody s_Web_of) (defScope s_Web_of) [] [("next_post", .non)] A.a_Web_of A.d_Web_of
  kb_Web_of : KBn K A.d_Web_of ["cls", "sheet", "posts", "ties", "next_post"] 4 ["next_post"] (fun us ws => us ++ ws) (fun vs zs => vs ++ zs)
  F_Web_sheet : Fun K "sheet" "Web.sheet" s_Web_sheet A.a_Web_sheet A.d_Web_sheet
  b_Web_sheet : Binds K A.d_Web_sheet ["self"] []
  F_Web_posts : Fun K "posts" "Web.posts" s_Web_posts A.a_Web_posts A.d_Web_posts
  b_Web_posts : Binds K A.d_Web_posts ["self"] []
  F_Web_ties : Fun K "ties" "Web.ties" s_Web_ties A.a_Web_ties A.d_Web_ties
  b_Web_ties : Binds K A.d_Web_ties ["self"] []
  F_Web_next_post : Fun K "next_post" "Web.next_post" s_Web_next_post A.a_Web_next_post A.d_Web_next_post
  b_Web_next_post : Binds K A.d_Web_next_post ["self"] []
  F_Web_require_post : Fun K "require_post" "Web.require_post" s_Web_require_post A.a_Web_require_post A.d_Web_require_post
  b_Web_require_post : Binds K A.d_Web_require_post ["self", "post"] []
  F_Web_iter : Fun K "__iter__" "Web.__iter__" s_Web_iter A.a_Web_iter A.d_Web_iter
  b_Web_iter : Binds K A.d_Web_iter ["self"] []
  F_Web_contains : Fun K "__contains__" "Web.__contains__" s_Web_contains A.a_Web_contains A.d_Web_contains
  b_Web_contains : Binds K A.d_Web_contains ["self", "value"] []
  F_Web_getitem : Fun K "__getitem__" "Web.__getitem__" s_Web_getitem A.a_Web_getitem A.d_Web_getitem
  b_Web_getitem : Binds K A.d_Web_getitem ["self", "post"] []
  F_Web_len : Fun K "__len__" "Web.__len__" s_Web_len A.a_Web_len A.d_Web_len
  b_Web_len : Binds K A.d_Web_len ["self"] []
  F_Web_bool : Fun K "__bool__" "Web.__bool__" s_Web_bool A.a_Web_bool A.d_Web_bool
  b_Web_bool : Binds K A.d_Web_bool ["self"] []
  F_Web_eq : Fun K "__eq__" "Web.__eq__" s_Web_eq A.a_Web_eq A.d_Web_eq
  b_Web_eq : Binds K A.d_Web_eq ["self", "other"] []
  F_Web_str : Fun K "__str__" "Web.__str__" s_Web_str A.a_Web_str A.d_Web_str
  b_Web_str : Binds K A.d_Web_str ["self"] []
  F_law_dice : Fun K "_law_dice" "_law_dice" s_law_dice A.a_law_dice A.d_law_dice
  b_law_dice : Binds K A.d_law_dice ["_law_script", "_law_at"] []
  g_law_dice : mg "_law_dice" = some (.ref A.a_law_dice)
  k_law_dice : PySem.W.keepIn K (.ref A.a_law_dice) = true
  F_law_roll : Fun K "_law_roll" "_law_roll" s_law_roll A.a_law_roll A.d_law_roll
  b_law_roll : Binds K A.d_law_roll ["_law_dice_here", "_law_total"] []
  g_law_roll : mg "_law_roll" = some (.ref A.a_law_roll)
  k_law_roll : PySem.W.keepIn K (.ref A.a_law_roll) = true
  F_law_one_of : Fun K "_law_one_of" "_law_one_of" s_law_one_of A.a_law_one_of A.d_law_one_of
  b_law_one_of : Binds K A.d_law_one_of ["_law_dice_here", "_law_items"] []
  g_law_one_of : mg "_law_one_of" = some (.ref A.a_law_one_of)
  k_law_one_of : PySem.W.keepIn K (.ref A.a_law_one_of) = true
  F_law_mixed : Fun K "_law_mixed" "_law_mixed" s_law_mixed A.a_law_mixed A.d_law_mixed
  b_law_mixed : Binds K A.d_law_mixed ["_law_dice_here", "_law_items"] []
  g_law_mixed : mg "_law_mixed" = some (.ref A.a_law_mixed)
  k_law_mixed : PySem.W.keepIn K (.ref A.a_law_mixed) = true
  F_law_sheet : Fun K "_law_sheet" "_law_sheet" s_law_sheet A.a_law_sheet A.d_law_sheet
  b_law_sheet : Binds K A.d_law_sheet ["_law_dice_here"] []
  g_law_sheet : mg "_law_sheet" = some (.ref A.a_law_sheet)
  k_law_sheet : PySem.W.keepIn K (.ref A.a_law_sheet) = true
  F_law_ties : Fun K "_law_ties" "_law_ties" s_law_ties A.a_law_ties A.d_law_ties
  b_law_ties : Binds K A.d_law_ties ["_law_dice_here", "_law_posts", "_law_words", "_law_much"] []
  g_law_ties : mg "_law_ties" = some (.ref A.a_law_ties)
  k_law_ties : PySem.W.keepIn K (.ref A.a_law_ties) = true
  F_law_web : Fun K "_law_web" "_law_web" s_law_web A.a_law_web A.d_law_web
  b_law_web : Binds K A.d_law_web ["_law_dice_here", "_law_kinds", "_law_words", "_law_most"] []
  g_law_web : mg "_law_web" = some (.ref A.a_law_web)
  k_law_web : PySem.W.keepIn K (.ref A.a_law_web) = true
  F_law_case : Fun K "_law_case" "_law_case" s_law_case A.a_law_case A.d_law_case
  b_law_case : Binds K A.d_law_case ["_law_dice_here"] []
  g_law_case : mg "_law_case" = some (.ref A.a_law_case)
  k_law_case : PySem.W.keepIn K (.ref A.a_law_case) = true
  F_law_mixed_dict : Fun K "_law_mixed_dict" "_law_mixed_dict" s_law_mixed_dict A.a_law_mixed_dict A.d_law_mixed_dict
  b_law_mixed_dict : Binds K A.d_law_mixed_dict ["_law_dice_here", "_law_table"] []
  g_law_mixed_dict : mg "_law_mixed_dict" = some (.ref A.a_law_mixed_dict)
  k_law_mixed_dict : PySem.W.keepIn K (.ref A.a_law_mixed_dict) = true
  F_law_getting : Fun K "_law_getting" "_law_getting" s_law_getting A.a_law_getting A.d_law_getting
  b_law_getting : Binds K A.d_law_getting ["_law_web_here", "_law_post"] []
  g_law_getting : mg "_law_getting" = some (.ref A.a_law_getting)
  k_law_getting : PySem.W.keepIn K (.ref A.a_law_getting) = true
  F_law_reads : Fun K "_law_reads" "_law_reads" s_law_reads A.a_law_reads A.d_law_reads
  b_law_reads : Binds K A.d_law_reads ["_law_web_here", "_law_plain", "_law_number", "_law_kinds", "_law_words"] []
  g_law_reads : mg "_law_reads" = some (.ref A.a_law_reads)
  k_law_reads : PySem.W.keepIn K (.ref A.a_law_reads) = true
  F_law_right : Fun K "_law_right" "_law_right" s_law_right A.a_law_right A.d_law_right
  b_law_right : Binds K A.d_law_right ["_law_dice_here"] []
  g_law_right : mg "_law_right" = some (.ref A.a_law_right)
  k_law_right : PySem.W.keepIn K (.ref A.a_law_right) = true
  F_law : Fun K "law" "law" s_law A.a_law A.d_law
  b_law : Binds K A.d_law ["_law_script"] []
  g_law : mg "law" = some (.ref A.a_law)
  k_law : PySem.W.keepIn K (.ref A.a_law) = true
  g_Sheet : mg "Sheet" = some (.ref A.C_Sheet)
  cl_Sheet : Cls K A.C_Sheet
  I_Sheet : Kd.InsT K A.C_Sheet
  M_Sheet : Mk K A.C_Sheet A.a_Sheet_init
  n_Sheet_own_kinds : NoAttr K A.C_Sheet "own_kinds"
  n_Sheet_own_words : NoAttr K A.C_Sheet "own_words"
  P_Sheet_kinds : PropOf K A.C_Sheet "kinds" A.p_Sheet_kinds A.a_Sheet_kinds
  P_Sheet_words : PropOf K A.C_Sheet "words" A.p_Sheet_words A.a_Sheet_words
  m_Sheet_init : Meth K A.C_Sheet "__init__" A.a_Sheet_init
  m_Sheet_eq : Meth K A.C_Sheet "__eq__" A.a_Sheet_eq
  m_Sheet_str : Meth K A.C_Sheet "__str__" A.a_Sheet_str
  g_Web : mg "Web" = some (.ref A.C_Web)
  cl_Web : Cls K A.C_Web
  I_Web : Kd.InsT K A.C_Web
  M_Web : Mk K A.C_Web A.a_Web_init
  n_Web_own_sheet : NoAttr K A.C_Web "own_sheet"
  n_Web_own_posts : NoAttr K A.C_Web "own_posts"
  n_Web_own_ties : NoAttr K A.C_Web "own_ties"
  n_Web_own_next : NoAttr K A.C_Web "own_next"
  P_Web_sheet : PropOf K A.C_Web "sheet" A.p_Web_sheet A.a_Web_sheet
  P_Web_posts : PropOf K A.C_Web "posts" A.p_Web_posts A.a_Web_posts
  P_Web_ties : PropOf K A.C_Web "ties" A.p_Web_ties A.a_Web_ties
  P_Web_next_post : PropOf K A.C_Web "next_post" A.p_Web_next_post A.a_Web_next_post
  m_Web_init : Meth K A.C_Web "__init__" A.a_Web_init
  m_Web_require_post : Meth K A.C_Web "require_post" A.a_Web_require_post
  m_Web_iter : Meth K A.C_Web "__iter__" A.a_Web_iter
  m_Web_contains : Meth K A.C_Web "__contains__" A.a_Web_contains
  m_Web_getitem : Meth K A.C_Web "__getitem__" A.a_Web_getitem
  m_Web_len : Meth K A.C_Web "__len__" A.a_Web_len
  m_Web_bool : Meth K A.C_Web "__bool__" A.a_Web_bool
  m_Web_eq : Meth K A.C_Web "__eq__" A.a_Web_eq
  m_Web_str : Meth K A.C_Web "__str__" A.a_Web_str
  R_Web : ClX.CRead K A.C_Web (.type "type")
  K_Web_of : ClX.CMet K A.C_Web (.type "type") "of" A.p_Web_of A.a_Web_of
  g_ShapeError : mg "ShapeError" = some (.ref A.C_ShapeError)
  x_ShapeError : PySem.W.excIn K A.C_ShapeError [.type "ValueError", .type "Exception", .type "BaseException", .type "object"] "ValueError.__new__" = true
  k_ShapeError : PySem.W.keepIn K (.ref A.C_ShapeError) = true
  s_ShapeError : PySem.W.subIn K (.ref A.C_ShapeError) (.type "BaseException") = some true
  t_ShapeError : PySem.W.typeIn K (.ref A.C_ShapeError) = some (.type "type")
  e_ShapeError : PySem.W.exmOne K (.ref A.C_ShapeError) (.ref A.C_ShapeError) = some true
  g_InvalidSheet : mg "InvalidSheet" = some (.ref A.C_InvalidSheet)
  x_InvalidSheet : PySem.W.excIn K A.C_InvalidSheet [.type "ValueError", .type "Exception", .type "BaseException", .type "object"] "ValueError.__new__" = true
  k_InvalidSheet : PySem.W.keepIn K (.ref A.C_InvalidSheet) = true
  s_InvalidSheet : PySem.W.subIn K (.ref A.C_InvalidSheet) (.type "BaseException") = some true
  t_InvalidSheet : PySem.W.typeIn K (.ref A.C_InvalidSheet) = some (.type "type")
  e_InvalidSheet : PySem.W.exmOne K (.ref A.C_InvalidSheet) (.ref A.C_InvalidSheet) = some true
  g_InvalidWeb : mg "InvalidWeb" = some (.ref A.C_InvalidWeb)
  x_InvalidWeb : PySem.W.excIn K A.C_InvalidWeb [.type "ValueError", .type "Exception", .type "BaseException", .type "object"] "ValueError.__new__" = true
  k_InvalidWeb : PySem.W.keepIn K (.ref A.C_InvalidWeb) = true
  s_InvalidWeb : PySem.W.subIn K (.ref A.C_InvalidWeb) (.type "BaseException") = some true
  t_InvalidWeb : PySem.W.typeIn K (.ref A.C_InvalidWeb) = some (.type "type")
  e_InvalidWeb : PySem.W.exmOne K (.ref A.C_InvalidWeb) (.ref A.C_InvalidWeb) = some true
  g_UnknownName : mg "UnknownName" = some (.ref A.C_UnknownName)
  m_UnknownName_init : Meth K A.C_UnknownName "__init__" A.a_UnknownName_init
  n_UnknownName_name : PySem.W.findIn K (.ref A.C_UnknownName) "name" = some none
  k_UnknownName : PySem.W.keepIn K (.ref A.C_UnknownName) = true
  s_UnknownName : PySem.W.subIn K (.ref A.C_UnknownName) (.type "BaseException") = some true
  t_UnknownName : PySem.W.typeIn K (.ref A.C_UnknownName) = some (.type "type")
  e_UnknownName : PySem.W.exmOne K (.ref A.C_UnknownName) (.ref A.C_UnknownName) = some true
  c_MAX_KINDS : mg "MAX_KINDS" = some A.c_MAX_KINDS
  r_MAX_KINDS : RelV (.int 3) A.c_MAX_KINDS
  c_MAX_WORDS : mg "MAX_WORDS" = some A.c_MAX_WORDS
  r_MAX_WORDS : RelV (.int 2) A.c_MAX_WORDS
  c_MAX_POSTS : mg "MAX_POSTS" = some A.c_MAX_POSTS
  r_MAX_POSTS : RelV (.int 40) A.c_MAX_POSTS
  c_MAX_LETTERS : mg "MAX_LETTERS" = some A.c_MAX_LETTERS
  r_MAX_LETTERS : RelV (.int 8) A.c_MAX_LETTERS
  c_LETTERS : mg "LETTERS" = some A.c_LETTERS
  r_LETTERS : RelV (.str "abcdefghijklmnopqrstuvwxyz") A.c_LETTERS
  n_KeyError : mg "KeyError" = none
  n_TypeError : mg "TypeError" = none
  n_abs : mg "abs" = none
  n_all : mg "all" = none
  n_bool : mg "bool" = none
  n_classmethod : mg "classmethod" = none
  n_dict : mg "dict" = none
  n_int : mg "int" = none
  n_isinstance : mg "isinstance" = none
  n_len : mg "len" = none
  n_list : mg "list" = none
  n_max : mg "max" = none
  n_min : mg "min" = none
  n_property : mg "property" = none
  n_range : mg "range" = none
  n_repr : mg "repr" = none
  n_sorted : mg "sorted" = none
  n_str : mg "str" = none
  n_tuple : mg "tuple" = none
  gf_getitem : PySem.W.fnIn K A.a_Web_getitem = true
  xf_UnknownName : L2.xfB K A.C_UnknownName = true
  o_UnknownName : PySem.Kx.oxB K A.C_UnknownName PySem.Kx.tKey "LookupError.__new__" = true
  sa_UnknownName : PySem.W.findIn K (.ref A.C_UnknownName) "__setattr__" = some (some (.builtin "object.__setattr__"))
  v_KeyError : PySem.W.findCls K (.type "KeyError") (.type "type") "__init__" = some (.val (.builtin "KeyError.__init__"))
end K2
namespace K2
open PySem L2 Kd Evl
abbrev LET : List Nat := ("abcdefghijklmnopqrstuvwxyz" : Str).cps.toList
def isName (z : Str) : Bool := (decide (1 ≤ (z.length : Int)) && decide ((z.length : Int) ≤ 8)) && z.cps.toList.all fun c => decide (c ∈ LET)
def isNameD : PyData → Bool
  | .str z => isName z
  | _ => false
def shortD (d : PyData) : Prop := ∀ z, d = .str z → z.length ≤ 1000 ∧ PyData.strOk z = true
def spIsName (K : PySem.W.Frag) : Sp := fun vs H Q _ => ∃ (v : V) (d : PyData), vs = [v] ∧ Dv K H v d ∧ shortD d ∧ ∀ H', Ex H H' → Q (.bl (isNameD d)) H'
theorem dv_str {K : PySem.W.Frag} {H : Hp} {v : V} {d : PyData} (h : Dv K H v d) (e : tyN d = "str") : ∃ z, v = .str z ∧ d = .str z := by
  cases d with
  | str z =>
    rcases h with h | ⟨_, _, _, _, h⟩
    · cases h; exact ⟨z, rfl, rfl⟩
    · cases h
  | none => exact absurd (show "NoneType" = "str" from e) (by decide)
  | bool _ => exact absurd (show "bool" = "str" from e) (by decide)
  | int _ => exact absurd (show "int" = "str" from e) (by decide)
  | list _ => exact absurd (show "list" = "str" from e) (by decide)
  | tuple _ => exact absurd (show "tuple" = "str" from e) (by decide)
  | dict _ => exact absurd (show "dict" = "str" from e) (by decide)
theorem isNameD_no {d : PyData} (e : ¬ tyN d = "str") : isNameD d = false := by
  cases d <;> first | rfl | exact absurd rfl e
theorem len_line {n : Nat} (h : n ≤ 1000) : n ≤ sizeLine := Nat.le_trans h (by decide)
theorem len_lt {n : Nat} (h : n ≤ 1000) : n < sizeLine := Nat.lt_of_le_of_lt h (by decide)
theorem hu64 {k : Nat} {A : Around} (r : Room k A) : A.units + 64 < cLine := by have := r.un; omega
section
variable {P : Program} {w : World} {K : PySem.W.Frag} {mg : Str → Option Value} {base : Heap} {AA : Ads}
def signs (z : Str) : List V := z.cps.toList.map fun c => .str ⟨#[c]⟩
def signIn (L : List Nat) : V → V
  | .str x => .bl (x.cps.toList.any fun c => decide (c ∈ L))
  | _ => .non
theorem signs_mem {z : Str} {x : V} (h : x ∈ signs z) : ∃ c, x = .str ⟨#[c]⟩ := by
  obtain ⟨c, _, e⟩ := List.mem_map.mp h
  exact ⟨c, e.symm⟩
theorem signs_at (z : Str) : ∀ (k : Nat) (H : Hp) (x : V) (H' : Hp), (H' = H ∧ ∃ c, z.cps[k]? = some c ∧ x = .str ⟨#[c]⟩) → H' = H ∧ (signs z)[k]? = some x := fun k H x H' ⟨e, c, h1, h2⟩ => ⟨e, by
  unfold signs
  rw [List.getElem?_map, Array.getElem?_toList, h1, h2]
  rfl⟩
theorem signIn_one (L : List Nat) (c : Nat) : signIn L (.str ⟨#[c]⟩) = .bl (decide (c ∈ L)) := by
  show V.bl ([c].any _) = _
  simp
theorem signs_bl {z : Str} {L : List Nat} : some (HO.lst (((signs z).filter fun _ => true).map (signIn L))) = some (HO.lst ((z.cps.toList.map fun c => decide (c ∈ L)).map V.bl)) := by
  rw [List.filter_eq_self.mpr (fun _ _ => rfl)]
  unfold signs
  rw [List.map_map, List.map_map]
  congr 2
  exact List.map_congr_left fun c _ => signIn_one L c
theorem ev_true {σ : L2.St} {H : Hp} : EvT tYes σ H true := fun H1 _ Q q => q H1 (Ex.refl H1)
theorem ok_is_name (T : Txt K mg AA) : FnOk P w K mg base CX0 1 AA.a_is_name AA.d_is_name ["value"] (spIsName K) := by
  refine T.F_is_name.ok sc_is_name (fun vs H Q E h => ?_) (fun cdv A outer s H vs Q E hr h => ?_)
  · obtain ⟨v, d, rfl, _⟩ := h
    rfl
  · obtain ⟨v, d, rfl, hv, hs, k⟩ := h
    have r1 := T.r_MAX_LETTERS
    have r2 := T.r_LETTERS
    refine ⟨_, (pss_cons (ps_if (pw_or (pt_not (pt_val (pe_callB call_isi (by rfl) T.n_isinstance (by decide +kernel) (pa_cons (pv 0) (pa_cons (pe_bltn (v := .ty "str") (u := .type "str") (by rfl) T.n_str (by decide +kernel) rfl) pa_nil))))) (pw_or1 (pt_not (pt_chain op_le op_le pe_int (pe_callB call_len_str (by rfl) T.n_len (by decide +kernel) (pa_cons (pv 0) pa_nil)) (pe_glob (by rfl) T.c_MAX_LETTERS T.r_MAX_LETTERS))))).pt (pss_one (ps_ret pe_bl)) pss_nil)
    (pss_one (ps_ret (pe_callB (cr_all rfl) (by rfl) T.n_all (by decide +kernel) (pa_cons (pe_lc (own := [("letter", 1)]) (g := gName 1) rfl sc_is_name.nd  (pi_str (pv 0)) (blkOk_by (N := N_is_name) (sc := defScope s_is_name) (by decide +kernel)) (fun _ _ _ _ _ => (pg_name (i := 1) sc_is_name.nd rfl (Or.inl rfl))) (fun _ _ _ _ _ => pts_nil) (fun _ _ _ _ _ => by exact (pe_cmpR op_in_sign (pv 1) (pe_glob (by rfl) T.c_LETTERS T.r_LETTERS) rfl))) pa_nil))))), ?_⟩
    refine ⟨_, rfl, _, _, _, _, _, rfl, .ty "str", tyX_of hv, isi_kit "str" _ (kit_str d), _, rfl, ?_⟩
    by_cases c : tyN d = "str"
    · refine if_f (by rw [decide_eq_true c]; rfl) ?_
      obtain ⟨z, rfl, rfl⟩ := dv_str hv c
      obtain ⟨hz, hok⟩ := hs z rfl
      refine ⟨_, rfl, z, rfl, len_line hz, _, _, rfl, rfl, _, rfl, ?_⟩
      by_cases c1 : (1 : Int) ≤ (z.length : Int)
      · refine if_t (decide_eq_true c1) ⟨_, _, rfl, rfl, _, rfl, ?_⟩
        by_cases c2 : (z.length : Int) ≤ 8
        · refine if_f (by rw [decide_eq_true c2]; rfl) ?_
          refine ⟨_, rfl, z, rfl, fun D hD => lcS walk_str hD (signs z) (by simp [signs]) (len_lt hz) (fun _ => true) (signIn LET) (fun _ _ => True.intro) (signs_at z) (fun v => rfl) (fun x H _ _ => ev_true) ?_ ?_⟩
          · intro x H1 hx _ _
            obtain ⟨c, rfl⟩ := signs_mem hx
            exact ev_op (ev_var rfl) ev_c (rv_val fun H1 _ Q q => ⟨c, _, rfl, rfl, by rw [signIn_one] at q; exact q⟩)
          · intro H1 e h1
            refine ⟨D, (z.cps.toList.map fun c => decide (c ∈ LET)), rfl, SqL.of (by rw [h1, signs_bl]), ?_⟩
            have q := k H1 e
            have e1 : isNameD (.str z) = (z.cps.toList.map fun c => decide (c ∈ LET)).all id := by
              show ((decide _ && decide _) && _) = _
              rw [decide_eq_true c1, decide_eq_true c2, List.all_map]
              rfl
            rw [e1] at q
            exact q
        · refine if_t (by rw [decide_eq_false c2]; rfl) ?_
          have q := k H (Ex.refl H)
          have e1 : isNameD (.str z) = false := by
            show ((decide _ && decide _) && _) = _
            rw [decide_eq_false c2]
            simp
          rw [e1] at q
          exact q
      · refine if_f (decide_eq_false c1) ⟨_, rfl, if_t rfl ?_⟩
        have q := k H (Ex.refl H)
        have e1 : isNameD (.str z) = false := by
          show ((decide _ && decide _) && _) = _
          rw [decide_eq_false c1]
          simp
        rw [e1] at q
        exact q
    · refine if_t (by rw [decide_eq_false c]; rfl) ?_
      have q := k H (Ex.refl H)
      rw [isNameD_no c] at q
      exact if_t rfl q
theorem ok_one {z : Str} {c : Nat} (h : PyData.strOk z = true) (hc : c ∈ z.cps.toList) : PyData.strOk ⟨#[c]⟩ = true := by
  have h1 : ∀ x ∈ z.cps, decide (x < 0x110000) = true := by
    unfold PyData.strOk at h
    rw [Array.all_eq_true'] at h
    exact h
  have h2 := h1 c (by simpa using hc)
  unfold PyData.strOk
  simpa using h2
theorem canLay_strs : ∀ (zs : List Str), (∀ z ∈ zs, PyData.strOk z = true) → PyData.canLayAll0 (zs.map PyData.str) = true
  | [], _ => rfl
  | z :: zs, h => by
    show (PyData.canLay0 (.str z) && PyData.canLayAll0 (zs.map PyData.str)) = true
    rw [canLay_strs zs fun y hy => h y (List.mem_cons_of_mem _ hy)]
    have h1 := h z List.mem_cons_self
    show (PyData.strOk z && true) = true
    rw [h1]
    rfl
theorem depth_strs : ∀ (zs : List Str), PyData.depthAll (zs.map PyData.str) = 0
  | [] => rfl
  | z :: zs => by
    show max 0 (PyData.depthAll (zs.map PyData.str)) = 0
    rw [depth_strs zs]
    rfl
theorem shaped_ls {zs : List Str} (h : ∀ z ∈ zs, PyData.strOk z = true) : SeqAt.shaped (.list (zs.map PyData.str)) = true := by
  show (PyData.canLayAll0 _ && decide (PyData.depthAll _ + 1 ≤ 64)) = true
  rw [canLay_strs zs h, depth_strs]
  rfl
theorem shaped_ts {zs : List Str} (h : ∀ z ∈ zs, PyData.strOk z = true) : SeqAt.shaped (.tuple (zs.map PyData.str)) = true := by
  show (PyData.canLayAll0 _ && decide (PyData.depthAll _ + 1 ≤ 64)) = true
  rw [canLay_strs zs h, depth_strs]
  rfl
theorem eqv_nil (ds : List PyData) : PyData.eqv (.list ds) (.list []) = ds.isEmpty := by
  cases ds <;> simp [PyData.eqv, PyData.eqvAll]
def signOut (L : List Nat) : V → Bool
  | .str x => !(x.cps.toList.any fun c => decide (c ∈ L))
  | _ => true
theorem signOut_one (L : List Nat) (c : Nat) : signOut L (.str ⟨#[c]⟩) = !decide (c ∈ L) := by
  show (!([c].any _)) = _
  simp
theorem outs_eq (L : List Nat) : ∀ (cs : List Nat), ((cs.map fun c => V.str ⟨#[c]⟩).filter (signOut L)).map id = ((cs.filter fun c => !decide (c ∈ L)).map fun c => (⟨#[c]⟩ : Str)).map V.str
  | [] => rfl
  | c :: cs => by
    have ih := outs_eq L cs
    rw [List.map_id] at ih ⊢
    rw [List.map_cons, List.filter_cons, List.filter_cons, signOut_one]
    cases hc : !decide (c ∈ L) with
    | true => rw [if_pos rfl, if_pos rfl, ih]; rfl
    | false => rw [if_neg Bool.false_ne_true, if_neg Bool.false_ne_true, ih]
theorem outs_all (L : List Nat) : ∀ (cs : List Nat), (((cs.filter fun c => !decide (c ∈ L)).map fun c => (⟨#[c]⟩ : Str)).map PyData.str).isEmpty = cs.all fun c => decide (c ∈ L)
  | [] => rfl
  | c :: cs => by
    have ih := outs_all L cs
    rw [List.filter_cons, List.all_cons]
    cases hc : decide (c ∈ L) with
    | true =>
      rw [if_neg (by simp), ih]
      rfl
    | false =>
      rw [if_pos (by simp)]
      rfl
end
end K2
namespace K2
open PySem L2 Kd Evl Ks
/-- the names of a tuple, if it is one of texts alone -/
def strsOf : List PyData → List Str
  | .str z :: r => z :: strsOf r
  | _ :: r => strsOf r
  | [] => []
def areNamesD : PyData → Int → Bool
  | .tuple ds, m => ((decide (1 ≤ (ds.length : Int)) && decide ((ds.length : Int) ≤ m)) && ds.all isNameD) && decide ((uniq ((strsOf ds).map fun z => (Sum.inr z : Key))).length = ds.length)
  | _, _ => false
def fewD (d : PyData) : Prop := ∀ ds, d = .tuple ds → ds.length ≤ 1000 ∧ ∀ e ∈ ds, shortD e
def spAre (K : PySem.W.Frag) : Sp := fun vs H Q _ => ∃ (v : V) (d : PyData) (m : Int), vs = [v, .int m] ∧ Dv K H v d ∧ fewD d ∧ ∀ H', Ex H H' → Q (.bl (areNamesD d m)) H'
theorem dv_tuple {K : PySem.W.Frag} {H : Hp} {v : V} {d : PyData} (h : Dv K H v d) (e : tyN d = "tuple") : ∃ a xs ds, v = .ref a ∧ d = .tuple ds ∧ SqT K H a xs ∧ DpAll K H xs ds := by
  cases d with
  | tuple ds =>
    rcases h with h | ⟨_, _, _, _, h⟩
    · cases h with | tup hs ha => exact ⟨_, _, ds, rfl, rfl, hs, ha⟩
    · cases h
  | none => exact absurd (show "NoneType" = "tuple" from e) (by decide)
  | bool _ => exact absurd (show "bool" = "tuple" from e) (by decide)
  | int _ => exact absurd (show "int" = "tuple" from e) (by decide)
  | list _ => exact absurd (show "list" = "tuple" from e) (by decide)
  | str _ => exact absurd (show "str" = "tuple" from e) (by decide)
  | dict _ => exact absurd (show "dict" = "tuple" from e) (by decide)
theorem areNamesD_no {d : PyData} (e : ¬ tyN d = "tuple") (m : Int) : areNamesD d m = false := by
  cases d <;> first | rfl | exact absurd rfl e
theorem dpAll_len {K : PySem.W.Frag} {H : Hp} : ∀ {xs : List V} {ds : List PyData}, DpAll K H xs ds → xs.length = ds.length
  | [], _, h => by cases h; rfl
  | x :: xs, _, h => by cases h with | cons _ h2 => exact congrArg Nat.succ (dpAll_len h2)
theorem dpAll_get {K : PySem.W.Frag} {H : Hp} : ∀ {xs : List V} {ds : List PyData} {i : Nat} {x : V}, DpAll K H xs ds → xs[i]? = some x → ∃ d, ds[i]? = some d ∧ Dp K H x d
  | [], _, i, x, _, e => by simp at e
  | y :: xs, _, 0, x, h, e => by
    cases h with
    | cons h1 _ =>
      obtain rfl : y = x := Option.some.inj e
      exact ⟨_, rfl, h1⟩
  | y :: xs, _, i + 1, x, h, e => by
    cases h with
    | cons _ h2 => exact dpAll_get (i := i) h2 e
theorem all_strs : ∀ {ds : List PyData}, ds.all isNameD = true → ds = (strsOf ds).map PyData.str
  | [], _ => rfl
  | .str z :: r, h => by
    have h1 := (Bool.and_eq_true_iff.mp (by rw [List.all_cons] at h; exact h)).2
    show _ = PyData.str z :: _
    rw [← all_strs h1]
  | .none :: r, h => by rw [List.all_cons] at h; exact absurd (Bool.and_eq_true_iff.mp h).1 Bool.false_ne_true
  | .bool _ :: r, h => by rw [List.all_cons] at h; exact absurd (Bool.and_eq_true_iff.mp h).1 Bool.false_ne_true
  | .int _ :: r, h => by rw [List.all_cons] at h; exact absurd (Bool.and_eq_true_iff.mp h).1 Bool.false_ne_true
  | .list _ :: r, h => by rw [List.all_cons] at h; exact absurd (Bool.and_eq_true_iff.mp h).1 Bool.false_ne_true
  | .tuple _ :: r, h => by rw [List.all_cons] at h; exact absurd (Bool.and_eq_true_iff.mp h).1 Bool.false_ne_true
  | .dict _ :: r, h => by rw [List.all_cons] at h; exact absurd (Bool.and_eq_true_iff.mp h).1 Bool.false_ne_true
theorem dpAll_vals {K : PySem.W.Frag} {H : Hp} : ∀ {zs : List Str} {xs : List V}, DpAll K H xs (zs.map PyData.str) → xs = zs.map V.str
  | [], _, h => by cases h; rfl
  | z :: zs, _, h => by
    cases h with
    | cons h1 h2 =>
      cases h1
      rw [dpAll_vals h2]
      rfl
section
variable {P : Program} {w : World} {K : PySem.W.Frag} {mg : Str → Option Value} {base : Heap} {AA : Ads}
theorem ok_are_names (T : Txt K mg AA) : FnOk P w K mg base CX0 2 AA.a_are_names AA.d_are_names ["value", "most"] (spAre K) := by
  have G_is_name : FnOk P w K mg base CX0 1 AA.a_is_name AA.d_is_name ["value"] (spIsName K) := ok_is_name T
  refine T.F_are_names.ok sc_are_names (fun vs H Q E h => ?_) (fun cdv A outer s H vs Q E hr h => ?_)
  · obtain ⟨v, d, m, rfl, _⟩ := h
    rfl
  · obtain ⟨v, d, m, rfl, hv, hs, k⟩ := h
    refine ⟨_, (pss_cons (ps_if (pw_or (pt_not (pt_val (pe_callB call_isi (by rfl) T.n_isinstance (by decide +kernel) (pa_cons (pv 0) (pa_cons (pe_bltn (v := .ty "tuple") (u := .type "tuple") (by rfl) T.n_tuple (by decide +kernel) rfl) pa_nil))))) (pw_or (pt_not (pt_chain op_le op_le pe_int (pe_callB call_len_seq (by rfl) T.n_len (by decide +kernel) (pa_cons (pv 0) pa_nil)) (pv 1))) (pw_or1 (pt_not (pt_val (pe_callB (cr_all rfl) (by rfl) T.n_all (by decide +kernel) (pa_cons (pe_lc (own := [("name", 2)]) (g := gName 2) rfl sc_are_names.nd  (pi_tup (pv 0)) (blkOk_by (N := N_are_names) (sc := defScope s_are_names) (by decide +kernel)) (fun _ _ _ _ _ => (pg_name (i := 2) sc_are_names.nd rfl (Or.inl rfl))) (fun _ _ _ _ _ => pts_nil) (fun _ _ _ _ _ => by exact (pe_call G_is_name (hr.mono (by decide)) (by rfl) T.g_is_name T.k_is_name T.b_is_name .nil pass0 (pa_cons (pv 2) pa_nil)))) pa_nil))))))).pt (pss_one (ps_ret pe_bl)) pss_nil)
    (pss_one (ps_ret (pe_cmpR op_eq (pe_callB call_lenD (by rfl) T.n_len (by decide +kernel) (pa_cons (pe_dc (own := [("name", 2)]) (g := gName 2) rfl sc_are_names.nd  (pi_tup (pv 0)) (blkOk_by (N := N_are_names) (sc := defScope s_are_names) (by decide +kernel)) (fun _ _ _ _ _ => (pg_name (i := 2) sc_are_names.nd rfl (Or.inl rfl))) (fun _ _ _ _ _ => pts_nil) (fun _ _ _ _ _ => by exact (pv 2)) (fun _ _ _ _ _ => by exact pe_bl)) pa_nil)) (pe_callB call_len_seq (by rfl) T.n_len (by decide +kernel) (pa_cons (pv 0) pa_nil)) (nomark _))))), ?_⟩
    refine ⟨_, rfl, _, _, _, _, _, rfl, .ty "tuple", tyX_of hv, isi_kit "tuple" _ (kit_tuple d), _, rfl, ?_⟩
    by_cases c : tyN d = "tuple"
    · refine if_f (by rw [decide_eq_true c]; rfl) ?_
      obtain ⟨a, xs, ds, rfl, rfl, hsq, hda⟩ := dv_tuple hv c
      obtain ⟨hlen, hsh⟩ := hs ds rfl
      have lx := dpAll_len hda
      have ln : xs.length ≤ 1000 := by rw [lx]; exact hlen
      refine ⟨_, rfl, a, xs, rfl, .inr hsq, _, _, rfl, rfl, _, rfl, ?_⟩
      rw [lx]
      by_cases c1 : (1 : Int) ≤ (ds.length : Int)
      · refine if_t (decide_eq_true c1) ⟨_, rfl, _, _, rfl, rfl, _, rfl, ?_⟩
        by_cases c2 : (ds.length : Int) ≤ m
        · refine if_f (by rw [decide_eq_true c2]; rfl) ?_
          refine ⟨_, rfl, a, rfl, ⟨_, hsq⟩, fun D hD => lcR walk_tup hD xs (ds.map fun d => (true, .bl (isNameD d))) (by rw [List.length_map, lx]) (len_lt ln) (fun H1 e => ex_t e hsq) (fun _ _ _ _ z => z) (fun v => rfl) ?_ ?_ ?_⟩
          · intro k x b y H1 _ hr _
            rw [List.getElem?_map] at hr
            cases e : ds[k]? with
            | none => rw [e] at hr; cases hr
            | some d => rw [e] at hr; cases hr; exact ev_true
          · intro k x y H1 hx hr e1
            obtain ⟨d, hd, hp⟩ := dpAll_get hda hx
            rw [List.getElem?_map, hd] at hr
            cases hr
            exact ev_call (ea_cons (ev_var rfl) ea_nil) fun H2 e2 Q q E => ⟨x, d, rfl, dv_ex (e1.trans e2) (.inl hp), hsh d (List.mem_of_getElem? hd), fun H3 e3 => q H3 e3⟩
          · intro H1 e1 h1
            rw [lcR_all] at h1
            refine ⟨D, ds.map isNameD, rfl, SqL.of (by rw [h1, List.map_map]; rfl), _, rfl, ?_⟩
            rw [List.all_map]
            by_cases c3 : ds.all isNameD = true
            · refine if_f (by rw [show ds.all (id ∘ isNameD) = true from c3]; rfl) ?_
              have hstr := all_strs c3
              have hxs : xs = (strsOf ds).map V.str := dpAll_vals (by rw [← hstr]; exact hda)
              have hxk : xs = ((strsOf ds).map fun z => (Sum.inr z : Key)).map kV := by rw [hxs, List.map_map]; rfl
              have hsq1 := ex_t e1 hsq
              refine ⟨_, rfl, a, rfl, ⟨_, hsq1⟩, fun D2 hD2 => dcS hD2 ((strsOf ds).map fun z => (Sum.inr z : Key)) (.bl true) ?_ (by rw [← hxk]; exact hsq1) (fun v => rfl) (fun x H2 _ _ => ev_var rfl) (fun x H2 _ _ => ev_c) ?_⟩
              · have e := congrArg List.length hxk
                rw [List.length_map] at e
                rw [← e]
                exact len_lt ln
              · intro H2 e2 h2
                refine ⟨D2, _, rfl, h2, _, rfl, a, xs, rfl, .inr (ex_t e2 hsq1), rfl, ?_⟩
                have q := k H2 (e1.trans e2)
                have e3 : areNamesD (.tuple ds) m = decide (V.int ((((uniq ((strsOf ds).map fun z => (Sum.inr z : Key))).map fun k => (k, V.bl true)).length : Nat) : Int) = V.int ((xs.length : Nat) : Int)) := by
                  show (((decide _ && decide _) && _) && _) = _
                  rw [decide_eq_true c1, decide_eq_true c2, c3, List.length_map, lx]
                  show decide _ = _
                  refine decide_eq_decide.mpr ⟨fun z => by rw [z], fun z => ?_⟩
                  have z1 := V.int.inj z
                  omega
                rw [e3] at q
                exact q
            · have c3' : ds.all isNameD = false := Bool.eq_false_iff.mpr c3
              refine if_t (by rw [show ds.all (id ∘ isNameD) = false from c3']; rfl) ?_
              have q := k H1 e1
              have e3 : areNamesD (.tuple ds) m = false := by
                show (((decide _ && decide _) && _) && _) = _
                rw [c3']
                simp
              rw [e3] at q
              exact q
        · refine if_t (by rw [decide_eq_false c2]; rfl) ?_
          have q := k H (Ex.refl H)
          have e3 : areNamesD (.tuple ds) m = false := by
            show (((decide _ && decide _) && _) && _) = _
            rw [decide_eq_false c2]
            simp
          rw [e3] at q
          exact q
      · refine if_f (decide_eq_false c1) ⟨_, rfl, if_t rfl ?_⟩
        have q := k H (Ex.refl H)
        have e3 : areNamesD (.tuple ds) m = false := by
          show (((decide _ && decide _) && _) && _) = _
          rw [decide_eq_false c1]
          simp
        rw [e3] at q
        exact q
    · refine if_t (by rw [decide_eq_false c]; rfl) ?_
      have q := k H (Ex.refl H)
      rw [areNamesD_no c] at q
      exact if_t rfl q
def ones (n : Nat) : List PyData := List.replicate n (.int 1)
theorem dp_ones {H : Hp} : ∀ n : Nat, DpAll K H (List.replicate n (.int 1)) (ones n)
  | 0 => .nil
  | n + 1 => .cons (.int 1) (dp_ones n)
theorem lay_ones : ∀ n : Nat, PyData.canLayAll0 (ones n) = true ∧ PyData.depthAll (ones n) = 0
  | 0 => ⟨rfl, rfl⟩
  | n + 1 => by
    obtain ⟨h1, h2⟩ := lay_ones n
    refine ⟨?_, ?_⟩
    · show (true && PyData.canLayAll0 (ones n)) = true
      rw [h1]
      rfl
    · show max 0 (PyData.depthAll (ones n)) = 0
      rw [h2]
      rfl
theorem shaped_ones (n : Nat) : SeqAt.shaped (.list (ones n)) = true := by
  obtain ⟨h1, h2⟩ := lay_ones n
  show (PyData.canLayAll0 _ && decide (PyData.depthAll _ + 1 ≤ 64)) = true
  rw [h1, h2]
  rfl
theorem bad_ones (p : PyData → Bool) : ∀ ds : List PyData, ((ds.map fun d => (p d, V.int 1)).filter (·.1)).map (·.2) = List.replicate (ds.countP p) (V.int 1)
  | [] => rfl
  | d :: ds => by
    rw [List.map_cons, List.filter_cons, List.countP_cons]
    cases hp : p d with
    | true =>
      show (_ :: ((ds.map fun d => (p d, V.int 1)).filter (·.1))).map (·.2) = _
      rw [List.map_cons, bad_ones p ds]
      rfl
    | false =>
      show ((ds.map fun d => (p d, V.int 1)).filter (·.1)).map (·.2) = _
      rw [bad_ones p ds]
      rfl
theorem bad_none : ∀ ds : List PyData, (ones (ds.countP fun d => !isNameD d)).isEmpty = ds.all isNameD
  | [] => rfl
  | d :: ds => by
    rw [List.countP_cons, List.all_cons]
    cases hd : isNameD d with
    | true =>
      show (ones (ds.countP _ + 0)).isEmpty = _
      rw [Nat.add_zero, bad_none ds]
      rfl
    | false => rfl
end
end K2
namespace K2
open PySem L2 Kd Evl Ks
def strsD : PyData → List Str
  | .tuple ds => strsOf ds
  | _ => []
/-- a sheet stands at p -/
structure SheetAt (C : Addr) (H : Hp) (p : Addr) (ks ws : List Str) : Prop where
  at_ : ∃ dx fs pk pw, H p = some (.ins C dx fs) ∧ fs.lookup ("own_kinds" : Str) = some (.ref pk) ∧ fs.lookup ("own_words" : Str) = some (.ref pw) ∧ H pk = some (.tup (ks.map V.str)) ∧ H pw = some (.tup (ws.map V.str))
theorem SheetAt.ex {C : Addr} {H H' : Hp} {p : Addr} {ks ws : List Str} (h : SheetAt C H p ks ws) (e : Ex H H') : SheetAt C H' p ks ws := by
  obtain ⟨dx, fs, pk, pw, h1, h2, h3, h4, h5⟩ := h.at_
  exact ⟨dx, fs, pk, pw, e _ _ h1, h2, h3, e _ _ h4, e _ _ h5⟩
def ExBut (p : Addr) (H H' : Hp) : Prop := ∀ b o, H b = some o → b ≠ p → H' b = some o
def spInit (K : PySem.W.Frag) (AA : Ads) : Sp := fun vs H Q E => ∃ (p dx : Addr) (k w : V) (dk dw : PyData), vs = [.ref p, k, w] ∧ H p = some (.ins AA.C_Sheet dx []) ∧ Dv K H k dk ∧ Dv K H w dw ∧ fewD dk ∧ fewD dw ∧
  ((areNamesD dk 3 && areNamesD dw 2) = true → ∀ ks ws H', IsSort (strsD dk) ks → IsSort (strsD dw) ws → ExBut p H H' → SheetAt AA.C_Sheet H' p ks ws → Q .non H') ∧
  ((areNamesD dk 3 && areNamesD dw 2) = false → ∀ H', Ex H H' → E (.ref AA.C_InvalidSheet) none H')
theorem kw_ne : ¬ (("own_kinds" : Str) = "own_words") := by decide +kernel
theorem names_tup {K : PySem.W.Frag} {H : Hp} {v : V} {d : PyData} {m : Int} (hv : Dv K H v d) (h : areNamesD d m = true) : ∃ a, v = .ref a ∧ SqT K H a ((strsD d).map V.str) ∧ d = .tuple ((strsD d).map PyData.str) ∧ ((strsD d).length : Int) ≤ m ∧ 1 ≤ (strsD d).length ∧ (strsD d).Nodup ∧ ∀ z ∈ strsD d, isName z = true := by
  have c : tyN d = "tuple" := by
    cases d <;> first | rfl | (exact absurd h Bool.false_ne_true)
  obtain ⟨a, xs, ds, rfl, rfl, hs, ha⟩ := dv_tuple hv c
  have h' : (((decide (1 ≤ (ds.length : Int)) && decide ((ds.length : Int) ≤ m)) && ds.all isNameD) && decide ((uniq ((strsOf ds).map fun z => (Sum.inr z : Key))).length = ds.length)) = true := h
  obtain ⟨h1, h2⟩ := Bool.and_eq_true_iff.mp h'
  obtain ⟨h3, h4⟩ := Bool.and_eq_true_iff.mp h1
  obtain ⟨h5, h6⟩ := Bool.and_eq_true_iff.mp h3
  have e := all_strs h4
  have el : ds.length = (strsOf ds).length := by rw [congrArg List.length e, List.length_map]
  have h2' := of_decide_eq_true h2
  have h5' := of_decide_eq_true h5
  have h6' := of_decide_eq_true h6
  refine ⟨a, rfl, ?_, congrArg PyData.tuple e, ?_, ?_, ?_, ?_⟩
  · show SqT K H a ((strsOf ds).map V.str)
    rw [← dpAll_vals (by rw [← e]; exact ha)]
    exact hs
  · show ((strsOf ds).length : Int) ≤ m
    omega
  · show 1 ≤ (strsOf ds).length
    omega
  · have hn : ((strsOf ds).map fun z => (Sum.inr z : Key)).Nodup := (len_eq_uniq _).mp (by rw [h2', List.length_map]; exact el)
    show (strsOf ds).Nodup
    exact (List.pairwise_map.mp hn).imp fun q z => q (by rw [z])
  · intro z hz
    have hz' : z ∈ strsOf ds := hz
    have hm : PyData.str z ∈ ds := by rw [e]; exact List.mem_map.mpr ⟨z, hz', rfl⟩
    exact List.all_eq_true.mp h4 _ hm
theorem sqT_but {K : PySem.W.Frag} {H H' : Hp} {p a C dx : Addr} {fs : List (Str × V)} {xs : List V} (h : SqT K H a xs) (hp : H p = some (.ins C dx fs)) (e : ExBut p H H') : SqT K H' a xs := by
  rcases h with (h | ⟨o, h⟩) | h
  · exact .inl (.inl (e _ _ h (ne_of h hp (by intro q; cases q))))
  · exact .inl (.inr ⟨o, e _ _ h (ne_of h hp (by intro q; cases q))⟩)
  · exact .inr h
section
variable {P : Program} {w : World} {K : PySem.W.Frag} {mg : Str → Option Value} {base : Heap} {AA : Ads}
theorem ok_Sheet_init (T : Txt K mg AA) : FnOk P w K mg base (L2.CX P w) 3 AA.a_Sheet_init AA.d_Sheet_init ["self", "kinds", "words"] (spInit K AA) := by
  have G_are_names : FnOk P w K mg base CX0 2 AA.a_are_names AA.d_are_names ["value", "most"] (spAre K) := ok_are_names T
  refine T.F_Sheet_init.okX sc_Sheet_init (fun vs H Q E h => ?_) (fun cdv A outer s H vs Q E hr h => ?_)
  · obtain ⟨p, dx, k, w, dk, dw, rfl, _⟩ := h
    rfl
  · obtain ⟨p, dx, k, w, dk, dw, rfl, hp, hk, hw, fk, fw, good, bad⟩ := h
    refine ⟨_, (pss_cons (ps_if (pw_or (pt_not (pt_val (pe_call G_are_names (hr.mono (by decide)) (by rfl) T.g_are_names T.k_are_names T.b_are_names .nil pass0 (pa_cons (pv 1) (pa_cons (pe_glob (by rfl) T.c_MAX_KINDS T.r_MAX_KINDS) pa_nil))))) (pw_or1 (pt_not (pt_val (pe_call G_are_names (hr.mono (by decide)) (by rfl) T.g_are_names T.k_are_names T.b_are_names .nil pass0 (pa_cons (pv 2) (pa_cons (pe_glob (by rfl) T.c_MAX_WORDS T.r_MAX_WORDS) pa_nil))))))).pt (pss_one (ps_raise rfl (takes_of rfl rfl rfl rfl) (pmk_own PySem.F.excBase_ValueError T.x_InvalidSheet T.g_InvalidSheet T.k_InvalidSheet (raises_own T.s_InvalidSheet T.t_InvalidSheet) (by rfl)))) pss_nil)
    (pss_cons (ps_fld (pv 0) (pe_callTy call_tuple_of (by rfl) T.n_tuple (by decide +kernel) (pa_cons (pe_callB cr_sortU (by rfl) T.n_sorted (by decide +kernel) (pa_cons (pv 1) pa_nil)) pa_nil)) rfl)
    (pss_one (ps_fld (pv 0) (pe_callTy call_tuple_of (by rfl) T.n_tuple (by decide +kernel) (pa_cons (pe_callB cr_sortU (by rfl) T.n_sorted (by decide +kernel) (pa_cons (pv 2) pa_nil)) pa_nil)) rfl)))), ?_⟩
    refine ⟨_, rfl, k, dk, 3, rfl, hk, fk, fun H1 e1 => ⟨_, rfl, ?_⟩⟩
    cases ck : areNamesD dk 3 with
    | false =>
      refine if_t rfl (if_t rfl ?_)
      exact bad (by rw [ck]; rfl) H1 e1
    | true =>
      refine if_f rfl ?_
      refine ⟨_, rfl, w, dw, 2, rfl, dv_ex e1 hw, fw, fun H2 e2 => ⟨_, rfl, ?_⟩⟩
      have e02 := e1.trans e2
      cases cw : areNamesD dw 2 with
      | false =>
        refine if_t rfl ?_
        exact bad (by rw [ck, cw]; rfl) H2 e02
      | true =>
        refine if_f rfl ?_
        obtain ⟨ak, rfl, sk, _, lk, _⟩ := names_tup (dv_ex e02 hk) ck
        obtain ⟨aw, rfl, sw, _, lw, _⟩ := names_tup (dv_ex e02 hw) cw
        have hp2 := e02 _ _ hp
        refine ⟨_, rfl, ak, _, rfl, .inl sk, by omega, fun ks q1 pm1 so1 hq1 => ⟨q1, _, rfl, .inl ⟨SqL.of upd_same, fun t1 ht1 => ?_⟩⟩⟩
        have x1 : Ex H2 (upd (upd H2 q1 (.lst (ks.map V.str))) t1 (.tup (ks.map V.str))) := (Ex.new hq1).trans (Ex.new ht1)
        have hp3 := x1 _ _ hp2
        refine ⟨_, rfl, p, AA.C_Sheet, dx, [], rfl, hp3, T.cl_Sheet, T.n_Sheet_own_kinds, (by show 0 < 1000; decide), ?_⟩
        have npt : t1 ≠ p := (ne_of_none hp2 (fresh_back (Ex.new hq1) ht1)).symm
        have b1 : ExBut p H2 (upd (upd (upd H2 q1 (.lst (ks.map V.str))) t1 (.tup (ks.map V.str))) p (.ins AA.C_Sheet dx (putF "own_kinds" (.ref t1) []))) := fun b o h hb => by rw [upd_ne hb]; exact x1 _ _ h
        refine ⟨_, rfl, aw, _, rfl, .inl (sqT_but sw hp2 b1), by omega, fun ws q2 pm2 so2 hq2 => ⟨q2, _, rfl, .inl ⟨SqL.of upd_same, fun t2 ht2 => ?_⟩⟩⟩
        generalize hH3 : upd (upd (upd H2 q1 (.lst (ks.map V.str))) t1 (.tup (ks.map V.str))) p (.ins AA.C_Sheet dx (putF "own_kinds" (.ref t1) [])) = H3 at *
        have hp4 : H3 p = some (.ins AA.C_Sheet dx (putF "own_kinds" (.ref t1) [])) := by rw [← hH3]; exact upd_same
        have ht1' : H3 t1 = some (.tup (ks.map V.str)) := by rw [← hH3, upd_ne npt]; exact upd_same
        have x2 : Ex H3 (upd (upd H3 q2 (.lst (ws.map V.str))) t2 (.tup (ws.map V.str))) := (Ex.new hq2).trans (Ex.new ht2)
        have npt2 : t2 ≠ p := (ne_of_none hp4 (fresh_back (Ex.new hq2) ht2)).symm
        refine ⟨_, rfl, p, AA.C_Sheet, dx, _, rfl, x2 _ _ hp4, T.cl_Sheet, T.n_Sheet_own_words, (by show 1 < 1000; decide), ?_⟩
        refine good (by rw [ck, cw]; rfl) ks ws _ ⟨pm1, so1⟩ ⟨pm2, so2⟩ (fun b o h hb => by rw [upd_ne hb]; exact x2 _ _ (b1 _ _ (e02 _ _ h) hb)) ⟨dx, _, t1, t2, upd_same, ?_, ?_, ?_, ?_⟩
        · rw [lookup_putF, if_neg kw_ne, lookup_putF, if_pos rfl]
        · rw [lookup_putF, if_pos rfl]
        · rw [upd_ne npt]; exact x2 _ _ ht1'
        · rw [upd_ne npt2]; exact upd_same
end
end K2
namespace K2
open PySem L2 Kd Evl Ks
section
variable {P : Program} {w : World} {K : PySem.W.Frag} {mg : Str → Option Value} {base : Heap} {AA : Ads}
theorem eqv_strs : ∀ (xs ys : List Str), PyData.eqvAll (xs.map PyData.str) (ys.map PyData.str) = decide (xs = ys)
  | [], [] => rfl
  | [], _ :: _ => rfl
  | _ :: _, [] => rfl
  | x :: xs, y :: ys => by
    show (PyData.eqv (.str x) (.str y) && PyData.eqvAll (xs.map PyData.str) (ys.map PyData.str)) = _
    rw [eqv_strs xs ys]
    show ((x == y) && _) = _
    by_cases h1 : x = y
    · subst h1
      rw [beq_self_eq_true, Bool.true_and]
      exact decide_eq_decide.mpr ⟨fun e => by rw [e], fun e => (List.cons.inj e).2⟩
    · rw [beq_eq_false_iff_ne.mpr h1, Bool.false_and]
      exact (decide_eq_false fun e => h1 (List.cons.inj e).1).symm
/-- texts that may be compared -/
def OkS (zs : List Str) : Prop := ∀ z ∈ zs, PyData.strOk z = true
/-- what the second one of == may be -/
def Other (K : PySem.W.Frag) (C : Addr) (H : Hp) (y : V) (r : Option (List Str × List Str)) : Prop :=
  (∃ d, Dv K H y d ∧ r = none) ∨ ∃ b ks ws, y = .ref b ∧ SheetAt C H b ks ws ∧ OkS ks ∧ OkS ws ∧ r = some (ks, ws)
def spEqS (K : PySem.W.Frag) (C : Addr) : Sp := fun vs H Q _ => ∃ (a : Addr) (y : V) (ks ws : List Str) (r : Option (List Str × List Str)), vs = [.ref a, y] ∧ SheetAt C H a ks ws ∧ OkS ks ∧ OkS ws ∧ Other K C H y r ∧ Q (.bl (decide (r = some (ks, ws)))) H
theorem ok_Sheet_eq (T : Txt K mg AA) : FnOk P w K mg base CX0 1 AA.a_Sheet_eq AA.d_Sheet_eq ["self", "other"] (spEqS K AA.C_Sheet) := by
  refine T.F_Sheet_eq.ok sc_Sheet_eq (fun vs H Q E h => ?_) (fun cdv A outer s H vs Q E hr h => ?_)
  · obtain ⟨a, y, ks, ws, r, rfl, _⟩ := h
    rfl
  · obtain ⟨a, y, ks, ws, r, rfl, ha, ok1, ok2, ho, q⟩ := h
    have hu : _ + 64 < cLine := hu64 hr
    refine ⟨_, (pss_cons (ps_if (pt_not (pt_val (pe_callB call_isi (by rfl) T.n_isinstance (by decide +kernel) (pa_cons (pv 1) (pa_cons (pe_glob (v := .ref AA.C_Sheet) (by rfl) T.g_Sheet rfl) pa_nil))))) (pss_one (ps_ret pe_bl)) pss_nil)
    (pss_one (ps_ret (pe_and (pe_cmpR (op_eqD hu) (pe_fld (pv 0) rfl) (pe_fld (pv 1) rfl) (nomark _)) (pe_one (pe_cmpR (op_eqD hu) (pe_fld (pv 0) rfl) (pe_fld (pv 1) rfl) (nomark _))))))), ?_⟩
    rcases ho with ⟨d, hd, rfl⟩ | ⟨b, ks', ws', rfl, hb, ok3, ok4, rfl⟩
    · refine ⟨_, rfl, _, _, _, _, _, rfl, .own _, tyX_of hd, T.I_Sheet.no d, _, rfl, if_t rfl ?_⟩
      rw [decide_eq_false (by intro z; cases z)] at q
      exact q
    · obtain ⟨dx, fs, pk, pw, a1, a2, a3, a4, a5⟩ := ha.at_
      obtain ⟨dy, gs, qk, qw, b1, b2, b3, b4, b5⟩ := hb.at_
      refine ⟨_, rfl, _, _, _, _, _, rfl, .own _, T.I_Sheet.ty b1, kit_self, _, rfl, if_f rfl ?_⟩
      refine ⟨_, rfl, a, _, dx, fs, _, rfl, a1, T.cl_Sheet, T.n_Sheet_own_kinds, a2, _, rfl, b, _, dy, gs, _, rfl, b1, T.cl_Sheet, T.n_Sheet_own_kinds, b2, _, _, .tup (SqT.of a4) (dpAll_strs ks), .tup (SqT.of b4) (dpAll_strs ks'), shaped_ts ok1, shaped_ts ok3, _, rfl, ?_⟩
      have e1 : PyData.eqv (.tuple (ks.map PyData.str)) (.tuple (ks'.map PyData.str)) = decide (ks = ks') := eqv_strs ks ks'
      have e2 : PyData.eqv (.tuple (ws.map PyData.str)) (.tuple (ws'.map PyData.str)) = decide (ws = ws') := eqv_strs ws ws'
      rw [e1]
      by_cases c : ks = ks'
      · refine if_t (decide_eq_true c) ?_
        refine ⟨_, rfl, a, _, dx, fs, _, rfl, a1, T.cl_Sheet, T.n_Sheet_own_words, a3, _, rfl, b, _, dy, gs, _, rfl, b1, T.cl_Sheet, T.n_Sheet_own_words, b3, _, _, .tup (SqT.of a5) (dpAll_strs ws), .tup (SqT.of b5) (dpAll_strs ws'), shaped_ts ok2, shaped_ts ok4, ?_⟩
        rw [e2]
        have e3 : decide (some (ks', ws') = some (ks, ws)) = decide (ws = ws') := decide_eq_decide.mpr ⟨fun z => (Prod.mk.inj (Option.some.inj z)).2.symm, fun z => by rw [c, z]⟩
        rw [e3] at q
        exact q
      · refine if_f (decide_eq_false c) ?_
        rw [decide_eq_false (fun z => c (Prod.mk.inj (Option.some.inj z)).1.symm)] at q
        exact q
/-- how many, as a text -/
def numS (n : Nat) : Str := Str.ofString (toString (n : Int))
theorem numS_len {n : Nat} (h : n ≤ 3) : (numS n).length = 1 := by
  match n, h with
  | 0, _ => decide +kernel
  | 1, _ => decide +kernel
  | 2, _ => decide +kernel
  | 3, _ => decide +kernel
theorem log_small {n : Nat} (h : n ≤ 3) : ((n : Int)).natAbs.log2 < 1920 := by
  match n, h with
  | 0, _ => decide +kernel
  | 1, _ => decide +kernel
  | 2, _ => decide +kernel
  | 3, _ => decide +kernel
def sheetStr (n m : Nat) : Str := ((((Str.empty ++ ("sheet of " : Str)) ++ numS n) ++ (" kinds, " : Str)) ++ numS m) ++ (" words" : Str)
theorem len_app (x y : Str) : (x ++ y).length = x.length + y.length := Str.length_append x y
def spStrS (C : Addr) : Sp := fun vs H Q _ => ∃ (a : Addr) (ks ws : List Str), vs = [.ref a] ∧ SheetAt C H a ks ws ∧ ks.length ≤ 3 ∧ ws.length ≤ 3 ∧ Q (.str (sheetStr ks.length ws.length)) H
end
end K2
namespace K2
open PySem L2 Kd Evl Ks Kt Ky
open PySem.W (Datum DatumOrd T3)
abbrev Tie := T3 Int Str Int
abbrev Posts := List (Int × Str)
def kvP (ps : Posts) : List (Key × V) := ps.map fun p => (.inl p.1, .str p.2)
theorem kvP_len (ps : Posts) : (kvP ps).length = ps.length := List.length_map ..
theorem kvP_pl (ps : Posts) : ∀ p ∈ kvP ps, plV p.2 = true := fun p hp => by
  obtain ⟨q, _, rfl⟩ := List.mem_map.mp hp
  rfl
def numsP (ps : Posts) : List Int := ps.map (·.1)
/-- what stands under a number -/
def look (ps : Posts) (n : Int) : Option Str := (ps.find? fun p => decide (p.1 = n)).map (·.2)
theorem val_kvP (n : Int) : ∀ ps : Posts, valV (kvP ps) (.inl n) = (look ps n).map V.str
  | [] => rfl
  | p :: ps => by
    have ih := val_kvP n ps
    unfold kvP at ih ⊢
    rw [List.map_cons]
    by_cases c : p.1 = n
    · rw [valV_pos (by rw [c])]
      unfold look
      rw [List.find?_cons, decide_eq_true c]
      rfl
    · rw [valV_neg (fun z => c (Sum.inl.inj z)), ih]
      unfold look
      rw [List.find?_cons, decide_eq_false c]
theorem look_some (ps : Posts) (n : Int) : (look ps n).isSome = decide (n ∈ numsP ps) := by
  unfold look numsP
  rw [Option.isSome_map, Bool.eq_iff_iff, List.find?_isSome, decide_eq_true_iff, List.mem_map]
  constructor
  · rintro ⟨p, h1, h2⟩
    exact ⟨p, h1, of_decide_eq_true h2⟩
  · rintro ⟨p, h1, h2⟩
    exact ⟨p, h1, decide_eq_true h2⟩
def tieK (t : Tie) : List Key := [.inl t.a, .inr t.b, .inl t.c]
theorem tieK_inj (a b : Tie) (h : tieK a = tieK b) : a = b := by
  obtain ⟨x, y, z⟩ := a
  obtain ⟨u, v, w⟩ := b
  cases h
  rfl
/-- a tie as a tuple of its own -/
def TieV (H : Hp) (v : V) (t : Tie) : Prop := ∃ b, v = .ref b ∧ H b = some (.tup ((tieK t).map kV))
theorem TieV.ex {H H' : Hp} {v : V} {t : Tie} (h : TieV H v t) (e : Ex H H') : TieV H' v t := by
  obtain ⟨b, rfl, hb⟩ := h
  exact ⟨b, rfl, e _ _ hb⟩
theorem TieV.hd {K : PySem.W.Frag} {H : Hp} {v : V} {t : Tie} (h : TieV H v t) : Hd K H v t := by
  obtain ⟨b, rfl, hb⟩ := h
  exact hd_t3 (SqT.of hb) (hd_int _) (hd_str _) (hd_int _)
theorem ties_hd {K : PySem.W.Frag} {H : Hp} {vs : List V} {ts : List Tie} (h : Paired (TieV H) vs ts) : HdL K H vs ts := hdL_of (paired_imp (fun _ _ z => z.hd) h)
theorem ties_ex {H H' : Hp} {vs : List V} {ts : List Tie} (h : Paired (TieV H) vs ts) (e : Ex H H') : Paired (TieV H') vs ts := paired_imp (fun _ _ z => z.ex e) h
/-- right posts -/
structure PostsOk (ks : List Str) (ps : Posts) : Prop where
  few : ps.length ≤ 40
  nn : ∀ p ∈ ps, 0 ≤ p.1
  kd : ∀ p ∈ ps, p.2 ∈ ks
def tieOk (ws : List Str) (ps : Posts) (t : Tie) : Bool := decide (t.b ∈ ws) && (decide (t.a ∈ numsP ps) && decide (t.c ∈ numsP ps))
/-- one more than the greatest, 0 without any -/
def nextOf : List Int → Int
  | [] => 0
  | n :: r => max (n + 1) (nextOf r)
theorem nextOf_gt : ∀ {l : List Int} {n : Int}, n ∈ l → n < nextOf l
  | x :: r, n, h => by
    unfold nextOf
    rcases List.mem_cons.mp h with rfl | h
    · omega
    · have := nextOf_gt h
      omega
theorem nextOf_le : ∀ {l : List Int} {m : Int}, (∀ n ∈ l, n < m) → 0 ≤ m → nextOf l ≤ m
  | [], m, _, h => h
  | x :: r, m, h, h0 => by
    unfold nextOf
    have h1 := h x List.mem_cons_self
    have h2 := nextOf_le (l := r) (fun n hn => h n (List.mem_cons_of_mem _ hn)) h0
    omega
theorem nextOf_max {l : List Int} {m : Int} (h1 : m ∈ l) (h2 : ∀ z ∈ l, z ≤ m) (h0 : 0 ≤ m) : nextOf l = m + 1 := by
  have a := nextOf_gt h1
  have b := nextOf_le (l := l) (m := m + 1) (fun n hn => by have := h2 n hn; omega) (by omega)
  omega
theorem nextOf_nn : ∀ l : List Int, 0 ≤ nextOf l
  | [] => Int.le_refl 0
  | x :: r => by
    unfold nextOf
    have := nextOf_nn r
    omega
section
variable {P : Program} {w : World} {K : PySem.W.Frag} {mg : Str → Option Value} {base : Heap} {AA : Ads}
theorem SheetAt.lock {C : Addr} {H : Hp} {p d : Addr} {o : Obj} {kvs : List (Key × V)} {ks ws : List Str} (h : SheetAt C H p ks ws) (hd : H d = some (.dK kvs)) : SheetAt C (upd H d (.frz o (.dK kvs))) p ks ws := by
  obtain ⟨dx, fs, pk, pw, a1, a2, a3, a4, a5⟩ := h.at_
  exact ⟨dx, fs, pk, pw, lock_at hd a1 (fun _ z => by cases z), a2, a3, lock_at hd a4 (fun _ z => by cases z), lock_at hd a5 (fun _ z => by cases z)⟩
def spReq (AA : Ads) : Sp := fun vs H Q _ => ∃ sh ks ws, vs = [.ref sh] ∧ SheetAt AA.C_Sheet H sh ks ws ∧ Q .non H
theorem ok_require_sheet (T : Txt K mg AA) : FnOk P w K mg base CX0 1 AA.a_require_sheet AA.d_require_sheet ["sheet"] (spReq AA) := by
  refine T.F_require_sheet.ok sc_require_sheet (fun vs H Q E h => ?_) (fun cdv A outer s H vs Q E hr h => ?_)
  · obtain ⟨sh, ks, ws, rfl, _⟩ := h
    rfl
  · obtain ⟨sh, ks, ws, rfl, hs, q⟩ := h
    obtain ⟨dx, fs, pk, pw, a1, _⟩ := hs.at_
    refine ⟨_, (pss_one (ps_if (pt_not (pt_val (pe_callB call_isi (by rfl) T.n_isinstance (by decide +kernel) (pa_cons (pv 0) (pa_cons (pe_glob (v := .ref AA.C_Sheet) (by rfl) T.g_Sheet rfl) pa_nil))))) (pss_one ps_never) pss_nil)), ?_⟩
    exact ⟨_, rfl, _, _, _, _, _, rfl, .own _, T.I_Sheet.ty a1, kit_self, _, rfl, if_f rfl q⟩
def spKind (AA : Ads) : Sp := fun vs H Q _ => ∃ sh ks ws z, vs = [.ref sh, .str z] ∧ SheetAt AA.C_Sheet H sh ks ws ∧ Q (.bl (decide (z ∈ ks))) H
theorem ok_is_kind (T : Txt K mg AA) : FnOk P w K mg base CX0 1 AA.a_is_kind AA.d_is_kind ["sheet", "value"] (spKind AA) := by
  refine T.F_is_kind.ok sc_is_kind (fun vs H Q E h => ?_) (fun cdv A outer s H vs Q E hr h => ?_)
  · obtain ⟨sh, ks, ws, z, rfl, _⟩ := h
    rfl
  · obtain ⟨sh, ks, ws, z, rfl, hs, q⟩ := h
    have hu : _ + 64 < cLine := hu64 hr
    obtain ⟨dx, fs, pk, pw, a1, a2, a3, a4, a5⟩ := hs.at_
    refine ⟨_, (pss_one (ps_ret (pe_and (pe_callB call_isi (by rfl) T.n_isinstance (by decide +kernel) (pa_cons (pv 1) (pa_cons (pe_bltn (v := .ty "str") (u := .type "str") (by rfl) T.n_str (by decide +kernel) rfl) pa_nil))) (pe_one (pe_cmpR (op_inP (K := K) rfl hu) (pv 1) (pe_fld (pv 0) rfl) rfl))))), ?_⟩
    refine ⟨_, rfl, _, _, _, _, _, rfl, .ty "str", .base (.str z), kit_ty (by decide +kernel : kitB "str" "str" = some true), _, rfl, if_t rfl ?_⟩
    exact ⟨_, rfl, _, rfl, sh, _, dx, fs, _, rfl, a1, T.cl_Sheet, T.n_Sheet_own_kinds, a2, inTP (hd_str z) (SqT.of a4) (hdL_strs ks) q⟩
def spTie (AA : Ads) : Sp := fun vs H Q _ => ∃ sh ks ws v t, vs = [.ref sh, v] ∧ SheetAt AA.C_Sheet H sh ks ws ∧ TieV H v t ∧ Q (.bl (decide (t.b ∈ ws))) H
theorem ok_is_tie (T : Txt K mg AA) : FnOk P w K mg base CX0 1 AA.a_is_tie AA.d_is_tie ["sheet", "value"] (spTie AA) := by
  refine T.F_is_tie.ok sc_is_tie (fun vs H Q E h => ?_) (fun cdv A outer s H vs Q E hr h => ?_)
  · obtain ⟨sh, ks, ws, v, t, rfl, _⟩ := h
    rfl
  · obtain ⟨sh, ks, ws, v, t, rfl, hs, ⟨b, rfl, hb⟩, q⟩ := h
    have hu : _ + 64 < cLine := hu64 hr
    obtain ⟨dx, fs, pk, pw, a1, a2, a3, a4, a5⟩ := hs.at_
    refine ⟨_, (pss_one (ps_ret (pe_and (pe_callB call_isi (by rfl) T.n_isinstance (by decide +kernel) (pa_cons (pv 1) (pa_cons (pe_bltn (v := .ty "tuple") (u := .type "tuple") (by rfl) T.n_tuple (by decide +kernel) rfl) pa_nil))) (pe_and (pe_cmpR (op_eqP (K := K) rfl hu) (pe_callB call_len_seq (by rfl) T.n_len (by decide +kernel) (pa_cons (pv 1) pa_nil)) pe_int (nomark _)) (pe_and (pe_callB call_isi (by rfl) T.n_isinstance (by decide +kernel) (pa_cons (pe_ix ix_tup (pv 1) pe_int (fun _ _ => rfl)) (pa_cons (pe_bltn (v := .ty "str") (u := .type "str") (by rfl) T.n_str (by decide +kernel) rfl) pa_nil))) (pe_one (pe_cmpR (op_inP (K := K) rfl hu) (pe_ix ix_tup (pv 1) pe_int (fun _ _ => rfl)) (pe_fld (pv 0) rfl) rfl))))))), ?_⟩
    refine ⟨_, rfl, _, _, _, _, _, rfl, .ty "tuple", .base (.tup hb), kit_ty (by decide +kernel : kitB "tuple" "tuple" = some true), _, rfl, if_t rfl ?_⟩
    refine ⟨_, rfl, b, _, rfl, .inr (SqT.of hb), eqP (hd_int _) (hd_int _) ?_⟩
    refine ⟨_, rfl, if_t (decide_eq_true rfl) ?_⟩
    refine ⟨_, rfl, b, _, 1, _, rfl, rfl, SqT.of hb, rfl, ?_⟩
    refine ⟨_, _, _, _, _, rfl, .ty "str", .base (.str _), kit_ty (by decide +kernel : kitB "str" "str" = some true), _, rfl, if_t rfl ?_⟩
    exact ⟨_, rfl, b, _, 1, _, rfl, rfl, SqT.of hb, rfl, _, rfl, sh, _, dx, fs, _, rfl, a1, T.cl_Sheet, T.n_Sheet_own_words, a3, inTP (hd_str t.b) (SqT.of a5) (hdL_strs ws) q⟩
def spInt : Sp := fun vs H Q _ => ∃ i : Int, vs = [.int i] ∧ Q (.bl true) H
theorem ok_is_integer (T : Txt K mg AA) : FnOk P w K mg base CX0 1 AA.a_is_integer AA.d_is_integer ["value"] spInt := by
  refine T.F_is_integer.ok sc_is_integer (fun vs H Q E h => ?_) (fun cdv A outer s H vs Q E hr h => ?_)
  · obtain ⟨i, rfl, _⟩ := h
    rfl
  · obtain ⟨i, rfl, q⟩ := h
    refine ⟨_, (pss_one (ps_ret (pe_and (pe_callB call_isi (by rfl) T.n_isinstance (by decide +kernel) (pa_cons (pv 0) (pa_cons (pe_bltn (v := .ty "int") (u := .type "int") (by rfl) T.n_int (by decide +kernel) rfl) pa_nil))) (pe_one (pe_not (pe_callB call_isi (by rfl) T.n_isinstance (by decide +kernel) (pa_cons (pv 0) (pa_cons (pe_bltn (v := .ty "bool") (u := .type "bool") (by rfl) T.n_bool (by decide +kernel) rfl) pa_nil)))))))), ?_⟩
    refine ⟨_, rfl, _, _, _, _, _, rfl, .ty "int", .base (.int i), kit_ty (by decide +kernel : kitB "int" "int" = some true), _, rfl, if_t rfl ?_⟩
    exact ⟨_, rfl, _, _, _, _, _, rfl, .ty "bool", .base (.int i), kit_ty (by decide +kernel : kitB "int" "bool" = some false), _, rfl, q⟩
def spPost : Sp := fun vs H Q _ => ∃ i : Int, vs = [.int i] ∧ Q (.bl (decide (0 ≤ i))) H
theorem ok_is_post (T : Txt K mg AA) : FnOk P w K mg base CX0 2 AA.a_is_post AA.d_is_post ["value"] spPost := by
  have G_is_integer : FnOk P w K mg base CX0 1 AA.a_is_integer AA.d_is_integer ["value"] spInt := ok_is_integer T
  refine T.F_is_post.ok sc_is_post (fun vs H Q E h => ?_) (fun cdv A outer s H vs Q E hr h => ?_)
  · obtain ⟨i, rfl, _⟩ := h
    rfl
  · obtain ⟨i, rfl, q⟩ := h
    refine ⟨_, (pss_one (ps_ret (pe_and (pe_call G_is_integer (hr.mono (by decide)) (by rfl) T.g_is_integer T.k_is_integer T.b_is_integer .nil pass0 (pa_cons (pv 0) pa_nil)) (pe_one (pe_cmpR op_ge (pv 0) pe_int (nomark _)))))), ?_⟩
    exact ⟨_, rfl, i, rfl, _, rfl, if_t rfl ⟨_, rfl, _, _, rfl, rfl, q⟩⟩
def spPostOf : Sp := fun vs H Q _ => ∃ (d : Addr) (ps : Posts) (i : Int), vs = [.ref d, .int i] ∧ Rd H d (.dK (kvP ps)) ∧ Q (.bl (decide (i ∈ numsP ps))) H
theorem ok_is_post_of (T : Txt K mg AA) : FnOk P w K mg base CX0 2 AA.a_is_post_of AA.d_is_post_of ["posts", "value"] spPostOf := by
  have G_is_integer : FnOk P w K mg base CX0 1 AA.a_is_integer AA.d_is_integer ["value"] spInt := ok_is_integer T
  refine T.F_is_post_of.ok sc_is_post_of (fun vs H Q E h => ?_) (fun cdv A outer s H vs Q E hr h => ?_)
  · obtain ⟨d, ps, i, rfl, _⟩ := h
    rfl
  · obtain ⟨d, ps, i, rfl, hd, q⟩ := h
    have hu1 : _ + 1 < cLine := hu_of hr
    refine ⟨_, (pss_one (ps_ret (pe_and (pe_call G_is_integer (hr.mono (by decide)) (by rfl) T.g_is_integer T.k_is_integer T.b_is_integer .nil pass0 (pa_cons (pv 1) pa_nil)) (pe_one (pe_cmpR (op_inK hu1) (pv 1) (pv 0) rfl))))), ?_⟩
    refine ⟨_, rfl, i, rfl, _, rfl, if_t rfl ⟨_, rfl, _, rfl, d, _, rfl, .inl ⟨_, .inl i, hd, rfl, rfl⟩, ?_⟩⟩
    rw [val_kvP, Option.isSome_map, look_some]
    exact q
def spTieOf (AA : Ads) : Sp := fun vs H Q _ => ∃ sh ks ws d ps v t, vs = [.ref sh, .ref d, v] ∧ SheetAt AA.C_Sheet H sh ks ws ∧ Rd H d (.dK (kvP ps)) ∧ TieV H v t ∧ Q (.bl (tieOk ws ps t)) H
theorem ok_is_tie_of (T : Txt K mg AA) : FnOk P w K mg base CX0 3 AA.a_is_tie_of AA.d_is_tie_of ["sheet", "posts", "value"] (spTieOf AA) := by
  have G_is_tie : FnOk P w K mg base CX0 1 AA.a_is_tie AA.d_is_tie ["sheet", "value"] (spTie AA) := ok_is_tie T
  have G_is_post_of : FnOk P w K mg base CX0 2 AA.a_is_post_of AA.d_is_post_of ["posts", "value"] spPostOf := ok_is_post_of T
  refine T.F_is_tie_of.ok sc_is_tie_of (fun vs H Q E h => ?_) (fun cdv A outer s H vs Q E hr h => ?_)
  · obtain ⟨sh, ks, ws, d, ps, v, t, rfl, _⟩ := h
    rfl
  · obtain ⟨sh, ks, ws, d, ps, v, t, rfl, hs, hd, ⟨b, rfl, hb⟩, q⟩ := h
    refine ⟨_, (pss_one (ps_ret (pe_and (pe_call G_is_tie (hr.mono (by decide)) (by rfl) T.g_is_tie T.k_is_tie T.b_is_tie .nil pass0 (pa_cons (pv 0) (pa_cons (pv 2) pa_nil))) (pe_and (pe_call G_is_post_of (hr.mono (by decide)) (by rfl) T.g_is_post_of T.k_is_post_of T.b_is_post_of .nil pass0 (pa_cons (pv 1) (pa_cons (pe_ix ix_tup (pv 2) pe_int (fun _ _ => rfl)) pa_nil))) (pe_one (pe_call G_is_post_of (hr.mono (by decide)) (by rfl) T.g_is_post_of T.k_is_post_of T.b_is_post_of .nil pass0 (pa_cons (pv 1) (pa_cons (pe_ix ix_tup (pv 2) pe_int (fun _ _ => rfl)) pa_nil)))))))), ?_⟩
    refine ⟨_, rfl, _, rfl, sh, ks, ws, _, t, rfl, hs, ⟨b, rfl, hb⟩, _, rfl, ?_⟩
    unfold tieOk at q
    cases c : decide (t.b ∈ ws) with
    | false =>
      rw [c] at q
      exact if_f rfl q
    | true =>
      rw [c] at q
      refine if_t rfl ⟨_, rfl, _, rfl, b, _, 0, _, rfl, rfl, SqT.of hb, rfl, d, ps, t.a, rfl, hd, _, rfl, ?_⟩
      cases c2 : decide (t.a ∈ numsP ps) with
      | false =>
        rw [c2] at q
        exact if_f rfl q
      | true =>
        rw [c2] at q
        exact if_t rfl ⟨_, rfl, _, rfl, b, _, 2, _, rfl, rfl, SqT.of hb, rfl, d, ps, t.c, rfl, hd, q⟩
def spReqTies (K : PySem.W.Frag) (AA : Ads) : Sp := fun vs H Q _ => ∃ sh ks ws d ps l xs ts, vs = [.ref sh, .ref d, .ref l] ∧ SheetAt AA.C_Sheet H sh ks ws ∧ Rd H d (.dK (kvP ps)) ∧ SqT K H l xs ∧ Paired (TieV H) xs ts ∧ ts.all (tieOk ws ps) = true ∧ Q .non H
theorem ok_require_ties (T : Txt K mg AA) : FnOk P w K mg base CX0 4 AA.a_require_ties AA.d_require_ties ["sheet", "posts", "ties"] (spReqTies K AA) := by
  have G_is_tie_of : FnOk P w K mg base CX0 3 AA.a_is_tie_of AA.d_is_tie_of ["sheet", "posts", "value"] (spTieOf AA) := ok_is_tie_of T
  refine T.F_require_ties.ok sc_require_ties (fun vs H Q E h => ?_) (fun cdv A outer s H vs Q E hr h => ?_)
  · obtain ⟨sh, ks, ws, d, ps, l, xs, ts, rfl, _⟩ := h
    rfl
  · obtain ⟨sh, ks, ws, d, ps, l, xs, ts, rfl, hs, hd, hl, ht, ok, q⟩ := h
    refine ⟨_, (pss_one (ps_for PassesOwn.never rfl (pi_tup (pv 2)) (pg_name (i := 3) sc_require_ties.nd rfl (Or.inl rfl))
      (pss_one (ps_if (pt_not (pt_val (pe_call G_is_tie_of (hr.mono (by decide)) (by rfl) T.g_is_tie_of T.k_is_tie_of T.b_is_tie_of .nil pass0 (pa_cons (pv 0) (pa_cons (pv 1) (pa_cons (pv 3) pa_nil)))))) (pss_one ps_never) pss_nil)))), ?_⟩
    refine ⟨_, rfl, l, rfl, ⟨xs, hl⟩, ?_⟩
    refine for_tup (xs := xs) (fun i σ J => J = H ∧ ∃ v3 : Option V, σ = [some (.ref sh), some (.ref d), some (.ref l), v3]) ⟨rfl, none, rfl⟩ (fun i σ J _ h => by rw [h.1]; exact hl) ?_ ?_
    · rintro i x σ J hx ⟨rfl, v3, rfl⟩
      obtain ⟨t, ht1, hv⟩ := paired_get2 ht hx
      have ok1 := List.all_eq_true.mp ok t (List.mem_of_getElem? ht1)
      refine ⟨_, rfl, _, rfl, _, rfl, sh, ks, ws, d, ps, x, t, rfl, hs, hd, hv, _, rfl, ?_⟩
      rw [ok1]
      exact if_f rfl ⟨rfl, _, rfl⟩
    · rintro σ J ⟨rfl, v3, rfl⟩
      exact q
def spReqPosts (AA : Ads) : Sp := fun vs H Q _ => ∃ sh ks ws d ps, vs = [.ref sh, .ref d] ∧ SheetAt AA.C_Sheet H sh ks ws ∧ H d = some (.dK (kvP ps)) ∧ PostsOk ks ps ∧ ∀ H', Ex H H' → Q .non H'
theorem kvP_at {ps : Posts} {i : Nat} {k : Key} {v : V} (h : (kvP ps)[i]? = some (k, v)) : ∃ p, ps[i]? = some p ∧ k = .inl p.1 ∧ v = .str p.2 := by
  unfold kvP at h
  rw [List.getElem?_map] at h
  obtain ⟨p, hp, e⟩ := Option.map_eq_some_iff.mp h
  cases e
  exact ⟨p, hp, rfl, rfl⟩
theorem ok_require_posts (T : Txt K mg AA) : FnOk P w K mg base CX0 3 AA.a_require_posts AA.d_require_posts ["sheet", "posts"] (spReqPosts AA) := by
  have G_is_post : FnOk P w K mg base CX0 2 AA.a_is_post AA.d_is_post ["value"] spPost := ok_is_post T
  have G_is_kind : FnOk P w K mg base CX0 1 AA.a_is_kind AA.d_is_kind ["sheet", "value"] (spKind AA) := ok_is_kind T
  refine T.F_require_posts.ok sc_require_posts (fun vs H Q E h => ?_) (fun cdv A outer s H vs Q E hr h => ?_)
  · obtain ⟨sh, ks, ws, d, ps, rfl, _⟩ := h
    rfl
  · obtain ⟨sh, ks, ws, d, ps, rfl, hs, hd, ok, q⟩ := h
    have hl : ps.length ≤ 1000 := Nat.le_trans ok.few (by decide)
    have r1 := T.r_MAX_POSTS
    refine ⟨_, (pss_cons (ps_if (pw_or (pt_not (pt_val (pe_callB call_isi (by rfl) T.n_isinstance (by decide +kernel) (pa_cons (pv 1) (pa_cons (pe_bltn (v := .ty "dict") (u := .type "dict") (by rfl) T.n_dict (by decide +kernel) rfl) pa_nil))))) (pw_or (pt_cmpR op_gt (pe_callB call_lenD (by rfl) T.n_len (by decide +kernel) (pa_cons (pv 1) pa_nil)) (pe_glob (by rfl) T.c_MAX_POSTS T.r_MAX_POSTS) (nomark _)) (pw_or1 (pt_not (pt_val (pe_lock (pe_callB (cr_all rfl) (by rfl) T.n_all (by decide +kernel) (pa_cons (pe_lc (own := [("post", 3)]) (g := gName 3) rfl sc_require_posts.nd  (pi_keys (pv 1)) (blkOk_by (N := N_require_posts) (sc := defScope s_require_posts) (by decide +kernel)) (fun _ _ _ _ _ => (pg_name (i := 3) sc_require_posts.nd rfl (Or.inl rfl))) (fun _ _ _ _ _ => pts_nil) (fun _ _ _ _ _ => by exact (pe_call G_is_post (hr.mono (by decide)) (by rfl) T.g_is_post T.k_is_post T.b_is_post .nil pass0 (pa_cons (pv 3) pa_nil)))) pa_nil)))))))).pt (pss_one ps_never) pss_nil)
    (pss_one (ps_if (pt_not (pt_val (pe_lock (pe_callB (cr_all rfl) (by rfl) T.n_all (by decide +kernel) (pa_cons (pe_lc (own := [("kind", 2)]) (g := gName 2) rfl sc_require_posts.nd  (pi_values (pv 1)) (blkOk_by (N := N_require_posts) (sc := defScope s_require_posts) (by decide +kernel)) (fun _ _ _ _ _ => (pg_name (i := 2) sc_require_posts.nd rfl (Or.inl rfl))) (fun _ _ _ _ _ => pts_nil) (fun _ _ _ _ _ => by exact (pe_call G_is_kind (hr.mono (by decide)) (by rfl) T.g_is_kind T.k_is_kind T.b_is_kind .nil pass0 (pa_cons (pv 0) (pa_cons (pv 2) pa_nil))))) pa_nil))))) (pss_one ps_never) pss_nil))), ?_⟩
    refine ⟨_, rfl, _, _, _, _, _, rfl, .ty "dict", .base (.dK hd), kit_ty (by decide +kernel : kitB "dict" "dict" = some true), _, rfl, if_f rfl ?_⟩
    refine ⟨_, rfl, d, _, rfl, hd, _, _, rfl, rfl, _, rfl, ?_⟩
    rw [kvP_len]
    have c : ¬ (ps.length : Int) > 40 := by have := ok.few; omega
    refine if_f (decide_eq_false c) ?_
    have hz : (kvP ps).length < sizeLine := by rw [kvP_len]; exact len_lt hl
    refine ⟨d, _, hd, trivial, fun od => ⟨_, rfl, d, od, rfl, .inl ⟨_, upd_same, fun D hD => ?_⟩⟩⟩
    generalize hG : upd H d (.frz od (.dK (kvP ps))) = G at *
    have hGd : G d = some (.frz od (.dK (kvP ps))) := by rw [← hG]; exact upd_same
    refine lcR walk_keys hD ((kvP ps).map fun kv => kV kv.1) (ps.map fun p => (true, V.bl true)) (by rw [List.length_map, kvP_len]) hz (fun H2 e2 => e2 _ _ hGd) (fun k H2 x H3 ⟨e1, q1, v1, h1, h2⟩ => ⟨e1, by rw [List.getElem?_map, h1, h2]; rfl⟩) (fun _ => rfl) (fun k x b y H2 hx hr _ => ?_) (fun k x y H2 hx hr e2 => ?_) (fun H2 e2 h2 => ?_)
    · rw [List.getElem?_map] at hr
      obtain ⟨p, _, e⟩ := Option.map_eq_some_iff.mp hr
      cases e
      exact ev_true
    · rw [List.getElem?_map] at hr hx
      obtain ⟨p, hp, e⟩ := Option.map_eq_some_iff.mp hr
      obtain ⟨⟨k1, v1⟩, hp2, e3⟩ := Option.map_eq_some_iff.mp hx
      obtain ⟨p2, hp3, rfl, rfl⟩ := kvP_at hp2
      obtain rfl : p = p2 := Option.some.inj (hp.symm.trans hp3)
      cases e
      subst e3
      have nn := ok.nn p (List.mem_of_getElem? hp)
      refine ev_call (ea_cons (ev_var rfl) ea_nil) fun H3 e3 Q3 q3 _ => ⟨p.1, rfl, ?_⟩
      rw [decide_eq_true nn]
      exact q3 H3 (Ex.refl _)
    · refine ⟨D, ps.map fun p => true, rfl, SqL.of (by rw [h2, lcR_all, List.map_map]; rfl), e2 _ _ hGd, ?_⟩
      have x2 : Ex H (upd H2 d (.dK (kvP ps))) := ex_unlock hd (by rw [hG]; exact e2)
      generalize hH3 : upd H2 d (.dK (kvP ps)) = H3 at *
      have e1 : (ps.map fun p => true).all id = true := by rw [List.all_map]; exact List.all_eq_true.mpr fun _ _ => rfl
      rw [e1]
      refine ⟨_, rfl, if_f rfl ?_⟩
      have hd3 := x2 _ _ hd
      refine ⟨d, _, hd3, trivial, fun oe => ⟨_, rfl, d, oe, _, rfl, upd_same, fun D2 hD2 => ?_⟩⟩
      generalize hG2 : upd H3 d (.frz oe (.dK (kvP ps))) = G2 at *
      have hGd2 : G2 d = some (.frz oe (.dK (kvP ps))) := by rw [← hG2]; exact upd_same
      refine lcR walk_values hD2 ((kvP ps).map fun kv => kv.2) (ps.map fun p => (true, V.bl true)) (by rw [List.length_map, kvP_len]) hz (fun H4 e4 => e4 _ _ hGd2) (fun k H4 x H5 ⟨e1, q1, h1⟩ => ⟨e1, by rw [List.getElem?_map, h1]; rfl⟩) (fun _ => rfl) (fun k x b y H4 hx hr _ => ?_) (fun k x y H4 hx hr e4 => ?_) (fun H4 e4 h4 => ?_)
      · rw [List.getElem?_map] at hr
        obtain ⟨p, _, e⟩ := Option.map_eq_some_iff.mp hr
        cases e
        exact ev_true
      · rw [List.getElem?_map] at hr hx
        obtain ⟨p, hp, e⟩ := Option.map_eq_some_iff.mp hr
        obtain ⟨⟨k1, v1⟩, hp2, e3⟩ := Option.map_eq_some_iff.mp hx
        obtain ⟨p2, hp3, rfl, rfl⟩ := kvP_at hp2
        obtain rfl : p = p2 := Option.some.inj (hp.symm.trans hp3)
        cases e
        subst e3
        have kd := ok.kd p (List.mem_of_getElem? hp)
        refine ev_call (ea_cons (ev_var rfl) (ea_cons (ev_var rfl) ea_nil)) fun H5 e5 Q5 q5 _ => ⟨sh, ks, ws, p.2, rfl, (((hs.ex x2).lock (o := oe) hd3).ex (by rw [hG2]; exact e4)).ex e5, ?_⟩
        rw [decide_eq_true kd]
        exact q5 H5 (Ex.refl _)
      · refine ⟨D2, ps.map fun p => true, rfl, SqL.of (by rw [h4, lcR_all, List.map_map]; rfl), e4 _ _ hGd2, ?_⟩
        rw [e1]
        exact ⟨_, rfl, if_f rfl (q _ (x2.trans (ex_unlock hd3 (by rw [hG2]; exact e4))))⟩
theorem keys_P (ps : Posts) : ((kvP ps).map fun kv => kV kv.1) = (numsP ps).map V.int := by
  unfold kvP numsP
  rw [List.map_map, List.map_map]
  rfl
def spLeast : Sp := fun vs H Q _ => ∃ (d : Addr) (ps : Posts), vs = [.ref d] ∧ Rd H d (.dK (kvP ps)) ∧ (∀ p ∈ ps, 0 ≤ p.1) ∧ ∀ H', Ex H H' → Q (.int (nextOf (numsP ps))) H'
theorem ok_least_next (T : Txt K mg AA) : FnOk P w K mg base CX0 1 AA.a_least_next AA.d_least_next ["posts"] spLeast := by
  refine T.F_least_next.ok sc_least_next (fun vs H Q E h => ?_) (fun cdv A outer s H vs Q E hr h => ?_)
  · obtain ⟨d, ps, rfl, _⟩ := h
    rfl
  · obtain ⟨d, ps, rfl, hd, nn, q⟩ := h
    refine ⟨_, (pss_one (ps_ret (pe_op op_add (Kw.pe_maxD rfl (by rfl) T.n_max (pa_cons (pe_callTy (call_listD rfl) (by rfl) T.n_list (by decide +kernel) (pa_cons (pv 0) pa_nil)) pa_nil) (pk_cons (pe_un un_neg pe_int) pk_nil)) pe_int))), ?_⟩
    refine ⟨_, rfl, d, _, rfl, hd, fun l hl => ?_⟩
    have x1 : Ex H (upd H l (.lst ((kvP ps).map fun kv => kV kv.1))) := Ex.new hl
    refine ⟨_, rfl, l, numsP ps, _, rfl, rfl, SqL.of (by rw [upd_same, keys_P]), fun e => ?_, fun m h1 h2 => ?_⟩
    · have z := q _ x1
      rw [e] at z
      exact ⟨_, _, rfl, rfl, z⟩
    · have h0 : 0 ≤ m := by
        obtain ⟨p, hp, rfl⟩ := List.mem_map.mp h1
        exact nn p hp
      have z := q _ x1
      rw [nextOf_max h1 h2 h0] at z
      exact ⟨_, _, rfl, rfl, z⟩
/-- a next post, told or not -/
def nv : Option Int → V
  | none => .non
  | some n => .int n
def spReqNext : Sp := fun vs H Q _ => ∃ (d : Addr) (ps : Posts) (o : Option Int), vs = [.ref d, nv o] ∧ Rd H d (.dK (kvP ps)) ∧ (∀ p ∈ ps, 0 ≤ p.1) ∧ (∀ n, o = some n → nextOf (numsP ps) ≤ n) ∧ ∀ H', Ex H H' → Q .non H'
theorem ok_require_next (T : Txt K mg AA) : FnOk P w K mg base CX0 3 AA.a_require_next AA.d_require_next ["posts", "number"] spReqNext := by
  have G_is_post : FnOk P w K mg base CX0 2 AA.a_is_post AA.d_is_post ["value"] spPost := ok_is_post T
  have G_least_next : FnOk P w K mg base CX0 1 AA.a_least_next AA.d_least_next ["posts"] spLeast := ok_least_next T
  refine T.F_require_next.ok sc_require_next (fun vs H Q E h => ?_) (fun cdv A outer s H vs Q E hr h => ?_)
  · obtain ⟨d, ps, o, rfl, _⟩ := h
    rfl
  · obtain ⟨d, ps, o, rfl, hd, nn, ho, q⟩ := h
    refine ⟨_, (pss_one (ps_if (pw_and (pt_cmpR op_notN (pv 1) pe_non (nomark _)) (pw_and1 (pw_or (pt_not (pt_val (pe_call G_is_post (hr.mono (by decide)) (by rfl) T.g_is_post T.k_is_post T.b_is_post .nil pass0 (pa_cons (pv 1) pa_nil)))) (pw_or1 (pt_cmpR op_lt (pv 1) (pe_call G_least_next (hr.mono (by decide)) (by rfl) T.g_least_next T.k_least_next T.b_least_next .nil pass0 (pa_cons (pv 0) pa_nil)) (nomark _)))).pt)).pt (pss_one ps_never) pss_nil)), ?_⟩
    cases o with
    | none => exact ⟨_, rfl, rfl, _, rfl, if_f (by rw [decide_eq_true (show nv none = V.non from rfl)]; rfl) (q H (Ex.refl _))⟩
    | some n =>
      have hn := ho n rfl
      have h0 := nextOf_nn (numsP ps)
      refine ⟨_, rfl, rfl, _, rfl, if_t (by rw [decide_eq_false (show ¬ nv (some n) = V.non from fun z => by cases z)]; rfl) ⟨_, rfl, n, rfl, _, rfl, ?_⟩⟩
      rw [decide_eq_true (by omega : 0 ≤ n)]
      refine if_f rfl ⟨_, rfl, _, rfl, d, ps, rfl, hd, nn, fun H1 e1 => ⟨_, _, rfl, rfl, _, rfl, if_f (decide_eq_false (by omega)) (q H1 e1)⟩⟩
end
end K2
namespace K2
open PySem L2 Kd Evl Ks Kt Ky
open PySem.W (Datum DatumOrd T3)
theorem HdL.ints {K : PySem.W.Frag} {H : Hp} : ∀ {vs : List V} {ns : List Int}, HdL K H vs ns → vs = ns.map V.int
  | [], [], _ => rfl
  | [], _ :: _, h => by cases h
  | _ :: _, [], h => by cases h
  | _ :: _, _ :: _, h => by rw [Hd.int (HdL.head h), HdL.ints (HdL.tail h)]; rfl
theorem hdL_ints {K : PySem.W.Frag} {H : Hp} : ∀ ns : List Int, HdL K H (ns.map V.int) ns
  | [] => HdL.nil
  | n :: ns => HdL.cons (hd_int n) (hdL_ints ns)
def sortP (ps : Posts) : Posts := (srt (numsP ps)).map fun n => (n, (look ps n).getD Str.empty)
/-- the fields of a web -/
def wf (sh po ti : Addr) (n : Int) : List (Str × V) := [("own_sheet", .ref sh), ("own_posts", .ref po), ("own_ties", .ref ti), ("own_next", .int n)]
/-- a web stands at p -/
structure WebAt (C : Addr) (H : Hp) (p sh : Addr) (ps : Posts) (ts : List Tie) (n : Int) : Prop where
  at_ : ∃ dx po ti, H p = some (.ins C dx (wf sh po ti n)) ∧ H po = some (.dK (kvP ps)) ∧ H ti = some (tru (ts.map tieK))
theorem WebAt.ex {C : Addr} {H H' : Hp} {p sh : Addr} {ps : Posts} {ts : List Tie} {n : Int} (h : WebAt C H p sh ps ts n) (e : Ex H H') : WebAt C H' p sh ps ts n := by
  obtain ⟨dx, po, ti, h1, h2, h3⟩ := h.at_
  exact ⟨dx, po, ti, e _ _ h1, e _ _ h2, e _ _ h3⟩
/-- a web stands at p; its tables are new behind H0 -/
structure WebN (C : Addr) (H0 H : Hp) (p sh : Addr) (ps : Posts) (ts : List Tie) (n : Int) : Prop where
  at_ : ∃ dx po ti, H p = some (.ins C dx (wf sh po ti n)) ∧ H po = some (.dK (kvP ps)) ∧ H ti = some (tru (ts.map tieK)) ∧ H0 po = none ∧ H0 ti = none
theorem WebN.web {C : Addr} {H0 H : Hp} {p sh : Addr} {ps : Posts} {ts : List Tie} {n : Int} (h : WebN C H0 H p sh ps ts n) : WebAt C H p sh ps ts n := by
  obtain ⟨dx, po, ti, h1, h2, h3, _⟩ := h.at_
  exact ⟨dx, po, ti, h1, h2, h3⟩
theorem WebN.back {C : Addr} {H0 H1 H : Hp} {p sh : Addr} {ps : Posts} {ts : List Tie} {n : Int} (h : WebN C H1 H p sh ps ts n) (e : Ex H0 H1) : WebN C H0 H p sh ps ts n := by
  obtain ⟨dx, po, ti, h1, h2, h3, h4, h5⟩ := h.at_
  exact ⟨dx, po, ti, h1, h2, h3, fresh_back e h4, fresh_back e h5⟩
theorem f1 : ¬ (("own_sheet" : Str) = "own_posts") := by decide +kernel
theorem f2 : ¬ (("own_sheet" : Str) = "own_ties") := by decide +kernel
theorem f3 : ¬ (("own_sheet" : Str) = "own_next") := by decide +kernel
theorem f4 : ¬ (("own_posts" : Str) = "own_ties") := by decide +kernel
theorem f5 : ¬ (("own_posts" : Str) = "own_next") := by decide +kernel
theorem f6 : ¬ (("own_ties" : Str) = "own_next") := by decide +kernel
theorem put1 {x v : V} : putF "own_posts" v ([("own_sheet", x)] : List (Str × V)) = ([("own_sheet", x), ("own_posts", v)] : List (Str × V)) := by
  rw [putF, if_neg f1]
  rfl
theorem put2 {x y v : V} : putF "own_ties" v ([("own_sheet", x), ("own_posts", y)] : List (Str × V)) = ([("own_sheet", x), ("own_posts", y), ("own_ties", v)] : List (Str × V)) := by
  rw [putF, if_neg f2, putF, if_neg f4]
  rfl
theorem put3 {x y z v : V} : putF "own_next" v ([("own_sheet", x), ("own_posts", y), ("own_ties", z)] : List (Str × V)) = ([("own_sheet", x), ("own_posts", y), ("own_ties", z), ("own_next", v)] : List (Str × V)) := by
  rw [putF, if_neg f3, putF, if_neg f5, putF, if_neg f6]
  rfl
theorem set1 {sh po ti q : Addr} {n : Int} : putF "own_posts" (.ref q) (wf sh po ti n) = wf sh q ti n := by
  unfold wf
  rw [putF, if_neg f1, putF, if_pos rfl]
theorem set2 {sh po ti q : Addr} {n : Int} : putF "own_ties" (.ref q) (wf sh po ti n) = wf sh po q n := by
  unfold wf
  rw [putF, if_neg f2, putF, if_neg f4, putF, if_pos rfl]
theorem set3 {sh po ti : Addr} {n m : Int} : putF "own_next" (.int m) (wf sh po ti n) = wf sh po ti m := by
  unfold wf
  rw [putF, if_neg f3, putF, if_neg f5, putF, if_neg f6, putF, if_pos rfl]
theorem val_nums (f : Int → V) (n : Int) : ∀ l : List Int, n ∉ l → valV (l.map fun q => ((.inl q : Key), f q)) (.inl n) = none
  | [], _ => rfl
  | x :: l, h => by
    rw [List.map_cons, valV_neg (fun z => h (by rw [← Sum.inl.inj z]; exact List.mem_cons_self))]
    exact val_nums f n l fun z => h (List.mem_cons_of_mem _ z)
theorem put_nums (f : Int → V) {n : Int} {l : List Int} (h : n ∉ l) : putK (l.map fun q => ((.inl q : Key), f q)) (.inl n) (f n) = (l ++ [n]).map fun q => ((.inl q : Key), f q) := by
  rw [putK_new _ (val_nums f n l h), List.map_append]
  rfl
theorem not_taken {l : List Int} (h : l.Nodup) {k : Nat} {n : Int} (e : l[k]? = some n) : n ∉ l.take k := fun z => by
  obtain ⟨i, hi⟩ := List.getElem?_of_mem z
  obtain ⟨hk, ek⟩ := List.getElem?_eq_some_iff.mp e
  rw [List.getElem?_take] at hi
  split at hi
  · rename_i hik
    obtain ⟨hi', ei⟩ := List.getElem?_eq_some_iff.mp hi
    have := (List.getElem_inj h).mp (ei.trans ek.symm)
    omega
  · cases hi
theorem TieV.but {H H' : Hp} {p C dx : Addr} {fs : List (Str × V)} {v : V} {t : Tie} (h : TieV H v t) (hp : H p = some (.ins C dx fs)) (e : ExBut p H H') : TieV H' v t := by
  obtain ⟨b, rfl, hb⟩ := h
  exact ⟨b, rfl, e _ _ hb (ne_of hb hp (by intro q; cases q))⟩
theorem ExBut.trans {p : Addr} {H H1 H2 : Hp} (a : ExBut p H H1) (b : ExBut p H1 H2) : ExBut p H H2 := fun c o h hc => b c o (a c o h hc) hc
theorem ExBut.of {p : Addr} {H H' : Hp} (e : Ex H H') : ExBut p H H' := fun c o h _ => e c o h
theorem ExBut.put {p : Addr} {H : Hp} {o : HO} : ExBut p H (upd H p o) := fun c u h hc => by rw [upd_ne hc]; exact h
/-- the ties of a row, each once, as a dict: the reading of {tie: True for tie in ..} -/
theorem ties_dc {K : PySem.W.Frag} {i : Nat} {σ : L2.St} {H1 : Hp} {D : Addr} {Qd : Hp → Prop} {a : Addr} {us : List V} {ss : List Tie} (hD : H1 D = none) (ha : SqL K H1 a us) (hu : Paired (TieV H1) us ss) (hl : ss.length ≤ 1000) (hw : ∀ v, wipe ((wipe σ [i]).set i v) [i] = wipe σ [i])
    (hi : ∀ v : V, ((wipe σ [i]).set i (some v))[i]? = some (some v)) (hq : ∀ H, Ex H1 H → H D = some (tru ((once ss).map tieK)) → Qd H) :
    ∃ W : Nat → Nat → Hp → Prop, (∃ m, W 0 m (upd H1 D (.dT []))) ∧ ∀ k m H, W k m H →
      ((Itl K a).stop k H ∧ Qd H) ∨ ((Itl K a).go k H ∧ ∃ Nx : Hp → Prop, (∀ H', Nx H' → ∃ m', m' < m ∧ W (k + 1) m' H') ∧ ∀ x H', (Itl K a).yld k H x H' → gName i x (wipe σ [i]) H' fun σ2 H2 => wipe σ2 [i] = wipe σ [i] ∧ tYes σ2 H2 fun b H3 =>
        if b = true then tVar i σ2 H3 fun y H4 => tC (.bl true) σ2 H4 fun z H5 => ∃ H6, DPut H5 D y z H6 ∧ Nx H6 else Nx H3) := by
  refine dcR (walk_list (xs := us)) (tk := tVar i) (tv := tC (.bl true)) hD us (fun k => tru (once ((ss.take k).map tieK))) rfl (fun H e => ex_l e ha) (fun k H x H' h => h) hw (fun k x H hx e hd => ?_) (fun H e h => hq H e ?_)
  · obtain ⟨t, ht, b, rfl, hb⟩ := paired_get2 hu hx
    refine ⟨_, hi _, _, DPut.t hd (e _ _ hb) ?_, Ex.mut e hD, ?_⟩
    · rw [List.length_map]
      have h1 := once_len ((ss.take k).map tieK)
      rw [List.length_map, List.length_take] at h1
      exact len_lt (by omega)
    · rw [upd_same, put_tru, ← once_snoc]
      show some (tru (once ((ss.take k).map tieK ++ [tieK t]))) = _
      rw [List.take_add_one, ht, List.map_append]
      rfl
  · rw [h, List.take_of_length_le (Nat.le_of_eq (paired_len hu).symm), once_map tieK tieK_inj]
/-- the posts by their numbers: the reading of {post: posts[post] for post in sorted(list(posts))} -/
theorem posts_dc {K : PySem.W.Frag} {i j : Nat} {σ : L2.St} {H1 : Hp} {D d : Addr} {Qd : Hp → Prop} {a : Addr} {ps : Posts} (hD : H1 D = none) (ha : SqL K H1 a ((srt (numsP ps)).map V.int)) (nd : (numsP ps).Nodup) (hd : H1 d = some (.dK (kvP ps))) (hl : ps.length ≤ 1000) (hw : ∀ v, wipe ((wipe σ [i]).set i v) [i] = wipe σ [i])
    (hi : ∀ v : V, ((wipe σ [i]).set i (some v))[i]? = some (some v)) (hj : ∀ v : V, ((wipe σ [i]).set i (some v))[j]? = some (some (.ref d))) (hq : ∀ H, Ex H1 H → H D = some (.dK (kvP (sortP ps))) → Qd H) :
    ∃ W : Nat → Nat → Hp → Prop, (∃ m, W 0 m (upd H1 D (.dK []))) ∧ ∀ k m H, W k m H →
      ((Itl K a).stop k H ∧ Qd H) ∨ ((Itl K a).go k H ∧ ∃ Nx : Hp → Prop, (∀ H', Nx H' → ∃ m', m' < m ∧ W (k + 1) m' H') ∧ ∀ x H', (Itl K a).yld k H x H' → gName i x (wipe σ [i]) H' fun σ2 H2 => wipe σ2 [i] = wipe σ [i] ∧ tYes σ2 H2 fun b H3 =>
        if b = true then tVar i σ2 H3 fun y H4 => tDGet (tVar j) (tVar i) σ2 H4 fun z H5 => ∃ H6, DPut H5 D y z H6 ∧ Nx H6 else Nx H3) := by
  have nds : (srt (numsP ps)).Nodup := (srt_perm _).nodup_iff.mpr nd
  have lsr : (srt (numsP ps)).length = ps.length := by rw [(srt_perm _).length_eq]; exact List.length_map ..
  refine dcR (walk_list (xs := (srt (numsP ps)).map V.int)) hD ((srt (numsP ps)).map V.int) (fun k => .dK (((srt (numsP ps)).take k).map fun q => ((.inl q : Key), V.str ((look ps q).getD Str.empty)))) rfl (fun H8 e8 => ex_l e8 ha) (fun k H8 x H9 h => h) hw (fun k x H8 hx e8 h8 => ?_) (fun H8 e8 h8 => hq H8 e8 ?_)
  · rw [List.getElem?_map] at hx
    obtain ⟨n, hn1, rfl⟩ := Option.map_eq_some_iff.mp hx
    have hm : n ∈ numsP ps := (srt_perm _).mem_iff.mp (List.mem_of_getElem? hn1)
    have hlk : (look ps n).isSome = true := by rw [look_some]; exact decide_eq_true hm
    obtain ⟨o, ho⟩ := Option.isSome_iff_exists.mp hlk
    refine ⟨_, hi _, _, hj _, _, hi _, d, .str o, rfl, .inl ⟨_, .inl n, .inl (e8 _ _ hd), rfl, by rw [val_kvP, ho]; rfl⟩, _, DPut.k (k := .inl n) h8 ?_, Ex.mut e8 hD, ?_⟩
    · rw [List.length_map, List.length_take]
      exact len_lt (by omega)
    · rw [upd_same]
      have ef : V.str o = (fun q => V.str ((look ps q).getD Str.empty)) n := by show V.str o = V.str ((look ps n).getD Str.empty); rw [ho]; rfl
      rw [ef, put_nums (fun q => V.str ((look ps q).getD Str.empty)) (not_taken nds hn1), List.take_add_one, hn1]
      rfl
  · rw [h8, List.take_of_length_le (by rw [List.length_map]; exact Nat.le_refl _)]
    unfold kvP sortP
    rw [List.map_map]
    rfl
section
variable {P : Program} {w : World} {K : PySem.W.Frag} {mg : Str → Option Value} {base : Heap} {AA : Ads}
def spInitW (K : PySem.W.Frag) (AA : Ads) : Sp := fun vs H Q _ => ∃ (p dx sh d t : Addr) (ks ws : List Str) (ps : Posts) (o : Option Int) (xs : List V) (ts : List Tie), vs = [.ref p, .ref sh, .ref d, nv o, .ref t] ∧ H p = some (.ins AA.C_Web dx []) ∧ SheetAt AA.C_Sheet H sh ks ws ∧
  H d = some (.dK (kvP ps)) ∧ (numsP ps).Nodup ∧ PostsOk ks ps ∧ SqT K H t xs ∧ Paired (TieV H) xs ts ∧ ts.all (tieOk ws ps) = true ∧ ts.length ≤ 1000 ∧ (∀ n, o = some n → nextOf (numsP ps) ≤ n) ∧
  ∀ H', ExBut p H H' → WebN AA.C_Web H H' p sh (sortP ps) (once (srt ts)) (o.getD (nextOf (numsP ps))) → Q .non H'
theorem body_Web_init (T : Txt K mg AA) {ks0 : List Str} {dz : List V} {dw : List Value} (hdz : Vals dz dw) (hq : ks0.length + dz.length = 1) (hb : Kw.StarB K AA.d_Web_init ["self", "sheet", "posts"] ["next_post"] ks0 "ties" dw) :
    Kw.FnA P w K mg base CX0 5 AA.a_Web_init ks0 (fun vs zs H Q E => ∃ ws rest, vs = ws ++ rest ∧ ws.length = 3 ∧ rest.length ≤ sizeLine ∧ ∀ p, H p = Option.none → spInitW K AA (ws ++ ((zs ++ dz) ++ [V.ref p])) (upd H p (.tup rest)) Q E) := by
  have G_require_sheet : FnOk P w K mg base CX0 1 AA.a_require_sheet AA.d_require_sheet ["sheet"] (spReq AA) := ok_require_sheet T
  have G_require_posts : FnOk P w K mg base CX0 3 AA.a_require_posts AA.d_require_posts ["sheet", "posts"] (spReqPosts AA) := ok_require_posts T
  have G_require_ties : FnOk P w K mg base CX0 4 AA.a_require_ties AA.d_require_ties ["sheet", "posts", "ties"] (spReqTies K AA) := ok_require_ties T
  have G_require_next : FnOk P w K mg base CX0 3 AA.a_require_next AA.d_require_next ["posts", "number"] spReqNext := ok_require_next T
  have G_least_next : FnOk P w K mg base CX0 1 AA.a_least_next AA.d_least_next ["posts"] spLeast := ok_least_next T
  refine Kw.star_ok (sp := spInitW K AA) T.F_Web_init sc_Web_init hdz hq hb (fun cdv A outer s H vs Q E hr h => ?_)
  obtain ⟨p, dx, sh, d, t, ks, ws, ps, o, xs, ts, rfl, hp, hs, hd, nd, ok, ht, hx, okt, lt, ho, q⟩ := h
  have hu : _ + 64 < cLine := hu64 hr
  have hu1 : _ + 1 < cLine := hu_of hr
  have hu0 : _ < cLine := Nat.lt_of_succ_lt hu1
  refine ⟨_, (pss_cons (ps_expr (pe_call G_require_sheet (hr.mono (by decide)) (by rfl) T.g_require_sheet T.k_require_sheet T.b_require_sheet .nil pass0 (pa_cons (pv 1) pa_nil)))
    (pss_cons (ps_expr (pe_call G_require_posts (hr.mono (by decide)) (by rfl) T.g_require_posts T.k_require_posts T.b_require_posts .nil pass0 (pa_cons (pv 1) (pa_cons (pv 2) pa_nil))))
    (pss_cons (ps_expr (pe_call G_require_ties (hr.mono (by decide)) (by rfl) T.g_require_ties T.k_require_ties T.b_require_ties .nil pass0 (pa_cons (pv 1) (pa_cons (pv 2) (pa_cons (pv 4) pa_nil)))))
    (pss_cons (ps_expr (pe_call G_require_next (hr.mono (by decide)) (by rfl) T.g_require_next T.k_require_next T.b_require_next .nil pass0 (pa_cons (pv 2) (pa_cons (pv 3) pa_nil))))
    (pss_cons (ps_fld (pv 0) (pv 1) rfl)
    (pss_cons (ps_fld (pv 0) (pe_dcP (o0 := .dK []) (.inl rfl) hu0 (own := [("post", 5)]) (g := gName 5) rfl sc_Web_init.nd  (pi_list (pe_callB (cr_sortD (K := K) rfl hu) (by rfl) T.n_sorted (by decide +kernel) (pa_cons (pe_callTy (call_listD rfl) (by rfl) T.n_list (by decide +kernel) (pa_cons (pv 2) pa_nil)) pa_nil))) (blkOk_by (N := N_Web_init) (sc := defScope s_Web_init) (by decide +kernel)) (fun _ _ _ _ _ => (pg_name (i := 5) sc_Web_init.nd rfl (Or.inl rfl))) (fun _ _ _ _ _ => pts_nil) (fun _ _ _ _ _ => by exact (pv 5)) (fun _ _ _ _ _ => by exact ((pe_dget hu1) (pv 2) (pv 5) (fun _ _ => rfl)))) rfl)
    (pss_cons (ps_fld (pv 0) (pe_dcP (o0 := .dT []) (.inr rfl) hu0 (own := [("tie", 6)]) (g := gName 6) rfl sc_Web_init.nd  (pi_list (pe_callB (cr_sortT (K := K) rfl hu) (by rfl) T.n_sorted (by decide +kernel) (pa_cons (pv 4) pa_nil))) (blkOk_by (N := N_Web_init) (sc := defScope s_Web_init) (by decide +kernel)) (fun _ _ _ _ _ => (pg_name (i := 6) sc_Web_init.nd rfl (Or.inl rfl))) (fun _ _ _ _ _ => pts_nil) (fun _ _ _ _ _ => by exact (pv 6)) (fun _ _ _ _ _ => by exact pe_bl)) rfl)
    (pss_one (ps_fld (pv 0) (pe_ifExp (pt_cmpR op_isN (pv 3) pe_non (nomark _)) (pe_call G_least_next (hr.mono (by decide)) (by rfl) T.g_least_next T.k_least_next T.b_least_next .nil pass0 (pa_cons (pv 2) pa_nil)) (pv 3)) rfl))))))))), ?_⟩
  refine ⟨_, rfl, sh, ks, ws, rfl, hs, ?_⟩
  refine ⟨_, rfl, _, rfl, sh, ks, ws, d, ps, rfl, hs, hd, ok, fun H1 e1 => ?_⟩
  refine ⟨_, rfl, _, rfl, _, rfl, sh, ks, ws, d, ps, t, xs, ts, rfl, hs.ex e1, .inl (e1 _ _ hd), ex_t e1 ht, ties_ex hx e1, okt, ?_⟩
  refine ⟨_, rfl, _, rfl, d, ps, o, rfl, .inl (e1 _ _ hd), ok.nn, ho, fun H4 e2 => ?_⟩
  have e04 := e1.trans e2
  have hp4 := e04 _ _ hp
  refine ⟨_, rfl, _, rfl, p, AA.C_Web, dx, [], rfl, hp4, T.cl_Web, T.n_Web_own_sheet, (by show 0 < 1000; decide), ?_⟩
  have b5 : ExBut p H4 (upd H4 p (.ins AA.C_Web dx (putF "own_sheet" (.ref sh) []))) := ExBut.put
  have hp5 : upd H4 p (.ins AA.C_Web dx (putF "own_sheet" (.ref sh) [])) p = some (.ins AA.C_Web dx (putF "own_sheet" (.ref sh) [])) := upd_same
  generalize upd H4 p (.ins AA.C_Web dx (putF "own_sheet" (.ref sh) [])) = H5 at b5 hp5 ⊢
  have b05 : ExBut p H H5 := (ExBut.of e04).trans b5
  have hd5 := b05 _ _ hd (ne_of hd hp (by intro q; cases q))
  refine ⟨_, rfl, d, _, rfl, .inl hd5, fun q1 hq1 => sortedP (α := Int) (xs := numsP ps) (SqL.of upd_same) (by rw [keys_P]; exact hdL_ints _) fun us1 s1 hu1' pm1 hs1 => ?_⟩
  rw [HdL.ints hu1']
  have x1 : Ex H5 (upd H5 q1 (.lst ((kvP ps).map fun kv => kV kv.1))) := Ex.new hq1
  generalize upd H5 q1 (.lst ((kvP ps).map fun kv => kV kv.1)) = H6 at x1 hs1 ⊢
  have x2 : Ex H5 (upd H6 s1 (.lst ((srt (numsP ps)).map V.int))) := x1.trans (Ex.new hs1)
  have hs1' : upd H6 s1 (.lst ((srt (numsP ps)).map V.int)) s1 = some (.lst ((srt (numsP ps)).map V.int)) := upd_same
  generalize upd H6 s1 (.lst ((srt (numsP ps)).map V.int)) = H7 at x2 hs1' ⊢
  have hl : ps.length ≤ 1000 := Nat.le_trans ok.few (by decide)
  refine ⟨s1, rfl, ⟨_, SqL.of hs1'⟩, fun D1 hD1 => posts_dc hD1 (SqL.of hs1') nd (x2 _ _ hd5) hl (fun _ => rfl) (fun _ => rfl) (fun _ => rfl) fun H8 e8 hf8 => ?_⟩
  have x8 : Ex H5 H8 := x2.trans e8
  have hp8 := x8 _ _ hp5
  refine ⟨_, rfl, p, AA.C_Web, dx, _, rfl, hp8, T.cl_Web, T.n_Web_own_posts, (by show 1 < 1000; decide), ?_⟩
  have np1 : D1 ≠ p := fun z => by rw [z, x2 _ _ hp5] at hD1; cases hD1
  rw [show putF "own_posts" (.ref D1) (putF "own_sheet" (.ref sh) []) = _ from put1]
  have b9 : ExBut p H8 (upd H8 p (.ins AA.C_Web dx [("own_sheet", .ref sh), ("own_posts", .ref D1)])) := ExBut.put
  have hp9 : upd H8 p (.ins AA.C_Web dx [("own_sheet", .ref sh), ("own_posts", .ref D1)]) p = some (.ins AA.C_Web dx [("own_sheet", .ref sh), ("own_posts", .ref D1)]) := upd_same
  generalize upd H8 p (.ins AA.C_Web dx [("own_sheet", .ref sh), ("own_posts", .ref D1)]) = H9 at b9 hp9 ⊢
  have b09 : ExBut p H H9 := (b05.trans (ExBut.of x8)).trans b9
  have hf9 := b9 _ _ hf8 np1
  have ht9 := sqT_but ht hp b09
  have hx9 : Paired (TieV H9) xs ts := paired_imp (fun _ _ z => z.but hp b09) hx
  refine ⟨_, rfl, sortedRT (α := Tie) (xs := ts) (R := TieV H9) ht9 (ties_hd hx9) hx9 fun us2 s2 hu2 pm2 hs2 => ?_⟩
  have x4 : Ex H9 (upd H9 s2 (.lst us2)) := Ex.new hs2
  have hs2' : upd H9 s2 (.lst us2) s2 = some (.lst us2) := upd_same
  generalize upd H9 s2 (.lst us2) = H11 at x4 hs2' ⊢
  refine ⟨s2, rfl, ⟨_, SqL.of hs2'⟩, fun D2 hD2 => ?_⟩
  refine ties_dc hD2 (SqL.of hs2') (ties_ex hu2 x4) (by rw [(srt_perm ts).length_eq]; exact lt) (fun _ => rfl) (fun _ => rfl) fun H12 e12 h12 => ?_
  have x12 : Ex H9 H12 := x4.trans e12
  have hp12 := x12 _ _ hp9
  refine ⟨_, rfl, p, AA.C_Web, dx, _, rfl, hp12, T.cl_Web, T.n_Web_own_ties, (by show 2 < 1000; decide), ?_⟩
  have np2 : D2 ≠ p := fun z => by rw [z, x4 _ _ hp9] at hD2; cases hD2
  rw [show putF "own_ties" (.ref D2) [("own_sheet", V.ref sh), ("own_posts", V.ref D1)] = _ from put2]
  have b13 : ExBut p H12 (upd H12 p (.ins AA.C_Web dx [("own_sheet", .ref sh), ("own_posts", .ref D1), ("own_ties", .ref D2)])) := ExBut.put
  have hp13 : upd H12 p (.ins AA.C_Web dx [("own_sheet", .ref sh), ("own_posts", .ref D1), ("own_ties", .ref D2)]) p = some (.ins AA.C_Web dx [("own_sheet", .ref sh), ("own_posts", .ref D1), ("own_ties", .ref D2)]) := upd_same
  generalize upd H12 p (.ins AA.C_Web dx [("own_sheet", .ref sh), ("own_posts", .ref D1), ("own_ties", .ref D2)]) = H13 at b13 hp13 ⊢
  have b013 : ExBut p H H13 := (b09.trans (ExBut.of x12)).trans b13
  have hf13 := b13 _ _ (x12 _ _ hf9) np1
  have hg13 := b13 _ _ h12 np2
  have hd13 := b013 _ _ hd (ne_of hd hp (by intro q; cases q))
  have fr1 : H D1 = none := by
    cases z : H D1 with
    | none => rfl
    | some v => rw [(b05.trans (ExBut.of x2)) _ _ z np1] at hD1; cases hD1
  have fr2 : H D2 = none := by
    cases z : H D2 with
    | none => rfl
    | some v => rw [(b09.trans (ExBut.of x4)) _ _ z np2] at hD2; cases hD2
  have fin : ∀ H14, Ex H13 H14 → ExBut p H (upd H14 p (.ins AA.C_Web dx (wf sh D1 D2 (o.getD (nextOf (numsP ps)))))) ∧ WebN AA.C_Web H (upd H14 p (.ins AA.C_Web dx (wf sh D1 D2 (o.getD (nextOf (numsP ps)))))) p sh (sortP ps) (once (srt ts)) (o.getD (nextOf (numsP ps))) := fun H14 e14 =>
    ⟨(b013.trans (ExBut.of e14)).trans ExBut.put, ⟨dx, D1, D2, upd_same, by rw [upd_ne np1]; exact e14 _ _ hf13, by rw [upd_ne np2]; exact e14 _ _ hg13, fr1, fr2⟩⟩
  cases o with
  | none =>
    refine ⟨_, rfl, rfl, _, rfl, if_t (decide_eq_true rfl) ⟨_, rfl, d, ps, rfl, .inl hd13, ok.nn, fun H14 e14 => ?_⟩⟩
    refine ⟨_, rfl, p, AA.C_Web, dx, _, rfl, e14 _ _ hp13, T.cl_Web, T.n_Web_own_next, (by show 3 < 1000; decide), ?_⟩
    rw [show putF "own_next" (.int (nextOf (numsP ps))) [("own_sheet", V.ref sh), ("own_posts", V.ref D1), ("own_ties", V.ref D2)] = _ from put3]
    exact q _ (fin H14 e14).1 (fin H14 e14).2
  | some n =>
    refine ⟨_, rfl, rfl, _, rfl, if_f (decide_eq_false (fun z => by cases z)) ⟨_, rfl, _, rfl, p, AA.C_Web, dx, _, rfl, hp13, T.cl_Web, T.n_Web_own_next, (by show 3 < 1000; decide), ?_⟩⟩
    rw [show putF "own_next" (nv (some n)) [("own_sheet", V.ref sh), ("own_posts", V.ref D1), ("own_ties", V.ref D2)] = _ from put3]
    exact q _ (fin H13 (Ex.refl _)).1 (fin H13 (Ex.refl _)).2
end
end K2
namespace K2
open PySem L2 Kd Evl Ks Kt Ky
open PySem.W (Datum DatumOrd T3)
/-- a new object of a class: what stood stands -/
theorem made_ex {H : Hp} {x dx C : Addr} (hx : H x = none) (hdx : H dx = none) (hne : dx ≠ x) : Ex H (upd (upd H dx (.own x)) x (.ins C dx [])) :=
  (Ex.new hdx).trans (Ex.new (by rw [upd_ne hne.symm]; exact hx))
theorem but_ex {H H1 H' : Hp} {x : Addr} (e : Ex H H1) (hx : H x = none) (b : ExBut x H1 H') : Ex H H' := fun c o h => b c o (e c o h) fun z => by rw [z, hx] at h; cases h
section
variable {P : Program} {w : World} {K : PySem.W.Frag} {mg : Str → Option Value} {base : Heap} {AA : Ads}
def spIni (K : PySem.W.Frag) (AA : Ads) (dz : List V) : Kw.Sp2 := fun vs zs H Q E => ∃ ws rest, vs = ws ++ rest ∧ ws.length = 3 ∧ rest.length ≤ sizeLine ∧ ∀ p, H p = Option.none → spInitW K AA (ws ++ ((zs ++ dz) ++ [V.ref p])) (upd H p (.tup rest)) Q E
theorem ok_Web_init (T : Txt K mg AA) : Kw.FnA P w K mg base CX0 5 AA.a_Web_init [] (spIni K AA [.non]) := body_Web_init T (.cons rfl .nil) rfl T.sb_Web_init_0
theorem ok_Web_init_K (T : Txt K mg AA) : Kw.FnA P w K mg base CX0 5 AA.a_Web_init ["next_post"] (spIni K AA []) := body_Web_init T .nil rfl T.sb_Web_init_1
/-- what a web is made of -/
structure MkW (K : PySem.W.Frag) (AA : Ads) (H : Hp) (sh d : Addr) (xs : List V) (ks ws : List Str) (ps : Posts) (ts : List Tie) : Prop where
  sh : SheetAt AA.C_Sheet H sh ks ws
  d : H d = some (.dK (kvP ps))
  nd : (numsP ps).Nodup
  ok : PostsOk ks ps
  xs : Paired (TieV H) xs ts
  okt : ts.all (tieOk ws ps) = true
  few : ts.length ≤ 1000
theorem MkW.ex {H H' : Hp} {sh d : Addr} {xs : List V} {ks ws : List Str} {ps : Posts} {ts : List Tie} (h : MkW K AA H sh d xs ks ws ps ts) (e : Ex H H') : MkW K AA H' sh d xs ks ws ps ts := ⟨h.sh.ex e, e _ _ h.d, h.nd, h.ok, ties_ex h.xs e, h.okt, h.few⟩
/-- a web made: from the promise of __init__ -/
theorem made_web {H : Hp} {x dx sh d : Addr} {xs zs dz : List V} {ks ws : List Str} {ps : Posts} {ts : List Tie} {o : Option Int} {R : Hp → Prop} {E : XK} (hx : H x = none) (hdx : H dx = none) (hne : dx ≠ x) (m : MkW K AA H sh d xs ks ws ps ts) (ez : zs ++ dz = [nv o]) (ho : ∀ n, o = some n → nextOf (numsP ps) ≤ n)
    (q : ∀ H', Ex H H' → WebN AA.C_Web H H' x sh (sortP ps) (once (srt ts)) (o.getD (nextOf (numsP ps))) → R H') :
    spIni K AA dz (.ref x :: .ref sh :: .ref d :: xs) zs (upd (upd H dx (.own x)) x (.ins AA.C_Web dx [])) (fun v H2 => v = .non ∧ R H2) E := by
  have e1 : Ex H (upd (upd H dx (.own x)) x (.ins AA.C_Web dx [])) := made_ex hx hdx hne
  have lx := paired_len m.xs
  refine ⟨[.ref x, .ref sh, .ref d], xs, rfl, rfl, by rw [lx]; exact Nat.le_trans m.few (by decide), fun p hp => ?_⟩
  have e2 : Ex H (upd (upd (upd H dx (.own x)) x (.ins AA.C_Web dx [])) p (.tup xs)) := e1.trans (Ex.new hp)
  have m2 := m.ex e2
  rw [ez]
  refine ⟨x, dx, sh, d, p, ks, ws, ps, o, xs, ts, rfl, Ex.new hp _ _ upd_same, m2.sh, m2.d, m.nd, m.ok, SqT.of upd_same, m2.xs, m.okt, m.few, ho, fun H' b wa => ⟨rfl, q H' (but_ex e2 hx b) (wa.back e2)⟩⟩
end
end K2
namespace K2
open PySem L2 Kd Evl Ks Kt Ky
open PySem.W (Datum DatumOrd T3)
def isIntD : PyData → Bool
  | .int _ => true
  | _ => false
/-- one of the posts, True and False are none -/
def isPostD (ps : Posts) : PyData → Bool
  | .int i => decide (i ∈ numsP ps)
  | _ => false
/-- what "in" a web is asked of: no tuple, or a tuple of data -/
def Cand (K : PySem.W.Frag) (H : Hp) (v : V) (r : Option (List PyData)) : Prop := (∃ d, Dv K H v d ∧ ¬ tyN d = "tuple" ∧ r = none) ∨ ∃ t xs ds, v = .ref t ∧ H t = some (.tup xs) ∧ Paired (Dv K H) xs ds ∧ r = some ds
def isTieC (ws : List Str) : Option (List PyData) → Bool
  | some [_, .str b, _] => decide (b ∈ ws)
  | _ => false
def isTieOfC (ws : List Str) (ps : Posts) : Option (List PyData) → Bool
  | some [a, .str b, c] => decide (b ∈ ws) && (isPostD ps a && isPostD ps c)
  | _ => false
def inWebC (ws : List Str) (ps : Posts) (ts : List Tie) : Option (List PyData) → Bool
  | some [.int a, .str b, .int c] => decide (b ∈ ws) && (decide (a ∈ numsP ps) && decide (c ∈ numsP ps)) && decide ((⟨a, b, c⟩ : Tie) ∈ ts)
  | _ => false
theorem dv_int {K : PySem.W.Frag} {H : Hp} {v : V} {i : Int} (h : Dv K H v (.int i)) : v = .int i := by
  rcases h with h | ⟨_, _, _, _, h⟩
  · cases h; rfl
  · cases h
theorem isTieC_len (ws : List Str) {ds : List PyData} (h : ¬ ds.length = 3) : isTieC ws (some ds) = false := by
  unfold isTieC
  split
  · rename_i r a b c e
    cases e
    exact absurd rfl h
  · rfl
theorem isTieOfC_no {ws : List Str} {ps : Posts} {r : Option (List PyData)} (h : isTieC ws r = false) : isTieOfC ws ps r = false := by
  unfold isTieOfC
  split
  · rename_i a b c
    have h1 : decide (b ∈ ws) = false := h
    rw [h1]
    rfl
  · rfl
theorem inWebC_no {ws : List Str} {ps : Posts} {ts : List Tie} {r : Option (List PyData)} (h : isTieOfC ws ps r = false) : inWebC ws ps ts r = false := by
  unfold inWebC
  split
  · rename_i a b c
    have h1 : (decide (b ∈ ws) && (decide (a ∈ numsP ps) && decide (c ∈ numsP ps))) = false := h
    rw [h1]
    rfl
  · rfl
/-- a right tie -/
theorem isTieC_at {K : PySem.W.Frag} {H : Hp} {ws : List Str} {xs : List V} {ds : List PyData} (h : isTieC ws (some ds) = true) (hp : Paired (Dv K H) xs ds) : ∃ x b y a c, xs = [x, .str b, y] ∧ ds = [a, .str b, c] ∧ Dv K H x a ∧ Dv K H y c ∧ b ∈ ws := by
  unfold isTieC at h
  split at h
  · rename_i r a b c e
    cases e
    cases hp with
    | cons h1 hp =>
      cases hp with
      | cons h2 hp =>
        cases hp with
        | cons h3 hp =>
          cases hp
          obtain ⟨z, rfl, e⟩ := dv_str h2 rfl
          cases e
          exact ⟨_, _, _, _, _, rfl, rfl, h1, h3, of_decide_eq_true h⟩
  · cases h
theorem isPostD_int {ps : Posts} {d : PyData} (h : isPostD ps d = true) : ∃ i, d = .int i ∧ i ∈ numsP ps := by
  cases d with
  | int i => exact ⟨i, rfl, of_decide_eq_true h⟩
  | _ => cases h
section
variable {P : Program} {w : World} {K : PySem.W.Frag} {mg : Str → Option Value} {base : Heap} {AA : Ads}
theorem Cand.ty {H : Hp} {v : V} {r : Option (List PyData)} (h : Cand K H v r) : ∃ t, TyX K H v t ∧ PySem.W.kitOne K t (.type "tuple") = some r.isSome := by
  rcases h with ⟨d, hd, hn, rfl⟩ | ⟨t, xs, ds, rfl, ht, _, rfl⟩
  · refine ⟨_, tyX_of hd, ?_⟩
    cases d with
    | none => exact kit_ty (by decide +kernel : kitB "NoneType" "tuple" = some false)
    | bool _ => exact kit_ty (by decide +kernel : kitB "bool" "tuple" = some false)
    | int _ => exact kit_ty (by decide +kernel : kitB "int" "tuple" = some false)
    | str _ => exact kit_ty (by decide +kernel : kitB "str" "tuple" = some false)
    | list _ => exact kit_ty (by decide +kernel : kitB "list" "tuple" = some false)
    | tuple _ => exact absurd rfl hn
    | dict _ => exact kit_ty (by decide +kernel : kitB "dict" "tuple" = some false)
  · exact ⟨_, .base (.tup ht), kit_ty (by decide +kernel : kitB "tuple" "tuple" = some true)⟩
theorem kit_str' (d : PyData) : PySem.W.kitOne K (.type (tyN d)) (.type "str") = some (decide (tyN d = "str")) := kit_str d
theorem kit_intD (d : PyData) : ∃ b, PySem.W.kitOne K (.type (tyN d)) (.type "int") = some b ∧ (b = false → isIntD d = false) ∧ (b = true → ∃ c, PySem.W.kitOne K (.type (tyN d)) (.type "bool") = some c ∧ isIntD d = !c) := by
  cases d with
  | none => exact ⟨_, kit_ty (by decide +kernel : kitB "NoneType" "int" = some false), fun _ => rfl, fun z => by cases z⟩
  | bool _ => exact ⟨_, kit_ty (by decide +kernel : kitB "bool" "int" = some true), (fun z => by cases z), fun _ => ⟨_, kit_ty (by decide +kernel : kitB "bool" "bool" = some true), rfl⟩⟩
  | int _ => exact ⟨_, kit_ty (by decide +kernel : kitB "int" "int" = some true), (fun z => by cases z), fun _ => ⟨_, kit_ty (by decide +kernel : kitB "int" "bool" = some false), rfl⟩⟩
  | str _ => exact ⟨_, kit_ty (by decide +kernel : kitB "str" "int" = some false), fun _ => rfl, fun z => by cases z⟩
  | list _ => exact ⟨_, kit_ty (by decide +kernel : kitB "list" "int" = some false), fun _ => rfl, fun z => by cases z⟩
  | tuple _ => exact ⟨_, kit_ty (by decide +kernel : kitB "tuple" "int" = some false), fun _ => rfl, fun z => by cases z⟩
  | dict _ => exact ⟨_, kit_ty (by decide +kernel : kitB "dict" "int" = some false), fun _ => rfl, fun z => by cases z⟩
def spIntD (K : PySem.W.Frag) : Sp := fun vs H Q _ => ∃ v d, vs = [v] ∧ Dv K H v d ∧ Q (.bl (isIntD d)) H
theorem ok_is_integerD (T : Txt K mg AA) : FnOk P w K mg base CX0 1 AA.a_is_integer AA.d_is_integer ["value"] (spIntD K) := by
  refine T.F_is_integer.ok sc_is_integer (fun vs H Q E h => ?_) (fun cdv A outer s H vs Q E hr h => ?_)
  · obtain ⟨v, d, rfl, _⟩ := h
    rfl
  · obtain ⟨v, d, rfl, hv, q⟩ := h
    refine ⟨_, (pss_one (ps_ret (pe_and (pe_callB call_isi (by rfl) T.n_isinstance (by decide +kernel) (pa_cons (pv 0) (pa_cons (pe_bltn (v := .ty "int") (u := .type "int") (by rfl) T.n_int (by decide +kernel) rfl) pa_nil))) (pe_one (pe_not (pe_callB call_isi (by rfl) T.n_isinstance (by decide +kernel) (pa_cons (pv 0) (pa_cons (pe_bltn (v := .ty "bool") (u := .type "bool") (by rfl) T.n_bool (by decide +kernel) rfl) pa_nil)))))))), ?_⟩
    obtain ⟨b, k1, n1, y1⟩ := kit_intD (K := K) d
    refine ⟨_, rfl, _, _, _, _, _, rfl, .ty "int", tyX_of hv, k1, _, rfl, ?_⟩
    cases b with
    | false =>
      rw [n1 rfl] at q
      exact if_f rfl q
    | true =>
      obtain ⟨c, k2, e⟩ := y1 rfl
      rw [e] at q
      exact if_t rfl ⟨_, rfl, _, _, _, _, _, rfl, .ty "bool", tyX_of hv, k2, _, rfl, q⟩
def spPostOfD (K : PySem.W.Frag) : Sp := fun vs H Q _ => ∃ (a : Addr) (ps : Posts) (v : V) (d : PyData), vs = [.ref a, v] ∧ Rd H a (.dK (kvP ps)) ∧ Dv K H v d ∧ Q (.bl (isPostD ps d)) H
theorem ok_is_post_ofD (T : Txt K mg AA) : FnOk P w K mg base CX0 2 AA.a_is_post_of AA.d_is_post_of ["posts", "value"] (spPostOfD K) := by
  have G_is_integer : FnOk P w K mg base CX0 1 AA.a_is_integer AA.d_is_integer ["value"] (spIntD K) := ok_is_integerD T
  refine T.F_is_post_of.ok sc_is_post_of (fun vs H Q E h => ?_) (fun cdv A outer s H vs Q E hr h => ?_)
  · obtain ⟨a, ps, v, d, rfl, _⟩ := h
    rfl
  · obtain ⟨a, ps, v, d, rfl, ha, hv, q⟩ := h
    have hu1 : _ + 1 < cLine := hu_of hr
    refine ⟨_, (pss_one (ps_ret (pe_and (pe_call G_is_integer (hr.mono (by decide)) (by rfl) T.g_is_integer T.k_is_integer T.b_is_integer .nil pass0 (pa_cons (pv 1) pa_nil)) (pe_one (pe_cmpR (op_inK hu1) (pv 1) (pv 0) rfl))))), ?_⟩
    refine ⟨_, rfl, v, d, rfl, hv, _, rfl, ?_⟩
    cases c : isIntD d with
    | false =>
      have e : isPostD ps d = false := by cases d <;> first | rfl | cases c
      rw [e] at q
      exact if_f rfl q
    | true =>
      obtain ⟨i, rfl⟩ : ∃ i, d = .int i := by
        cases d with
        | int i => exact ⟨i, rfl⟩
        | _ => cases c
      cases dv_int hv
      refine if_t rfl ⟨_, rfl, _, rfl, a, _, rfl, .inl ⟨_, .inl i, ha, rfl, rfl⟩, ?_⟩
      rw [val_kvP, Option.isSome_map, look_some]
      exact q
def spTieD (K : PySem.W.Frag) (AA : Ads) : Sp := fun vs H Q _ => ∃ sh ks ws v r, vs = [.ref sh, v] ∧ SheetAt AA.C_Sheet H sh ks ws ∧ Cand K H v r ∧ Q (.bl (isTieC ws r)) H
theorem ok_is_tieD (T : Txt K mg AA) : FnOk P w K mg base CX0 1 AA.a_is_tie AA.d_is_tie ["sheet", "value"] (spTieD K AA) := by
  refine T.F_is_tie.ok sc_is_tie (fun vs H Q E h => ?_) (fun cdv A outer s H vs Q E hr h => ?_)
  · obtain ⟨sh, ks, ws, v, r, rfl, _⟩ := h
    rfl
  · obtain ⟨sh, ks, ws, v, r, rfl, hs, hv, q⟩ := h
    have hu : _ + 64 < cLine := hu64 hr
    obtain ⟨dx, fs, pk, pw, a1, a2, a3, a4, a5⟩ := hs.at_
    refine ⟨_, (pss_one (ps_ret (pe_and (pe_callB call_isi (by rfl) T.n_isinstance (by decide +kernel) (pa_cons (pv 1) (pa_cons (pe_bltn (v := .ty "tuple") (u := .type "tuple") (by rfl) T.n_tuple (by decide +kernel) rfl) pa_nil))) (pe_and (pe_cmpR (op_eqP (K := K) rfl hu) (pe_callB call_len_seq (by rfl) T.n_len (by decide +kernel) (pa_cons (pv 1) pa_nil)) pe_int (nomark _)) (pe_and (pe_callB call_isi (by rfl) T.n_isinstance (by decide +kernel) (pa_cons (pe_ix ix_tup (pv 1) pe_int (fun _ _ => rfl)) (pa_cons (pe_bltn (v := .ty "str") (u := .type "str") (by rfl) T.n_str (by decide +kernel) rfl) pa_nil))) (pe_one (pe_cmpR (op_inP (K := K) rfl hu) (pe_ix ix_tup (pv 1) pe_int (fun _ _ => rfl)) (pe_fld (pv 0) rfl) rfl))))))), ?_⟩
    obtain ⟨t, t1, t2⟩ := hv.ty
    refine ⟨_, rfl, _, _, _, _, _, rfl, .ty "tuple", t1, t2, _, rfl, ?_⟩
    rcases hv with ⟨d, hd, hn, rfl⟩ | ⟨b, xs, ds, rfl, hb, hp, rfl⟩
    · exact if_f rfl q
    · have ln := paired_len hp
      refine if_t rfl ⟨_, rfl, b, _, rfl, .inr (SqT.of hb), eqP (hd_int _) (hd_int _) ?_⟩
      refine ⟨_, rfl, ?_⟩
      by_cases c : ds.length = 3
      · obtain ⟨x, y, z, rfl⟩ : ∃ x y z, ds = [x, y, z] := by
          match ds, c with
          | [x, y, z], _ => exact ⟨x, y, z, rfl⟩
        obtain ⟨x', y', z', rfl⟩ : ∃ x y z, xs = [x, y, z] := by
          match xs, ln with
          | [x, y, z], _ => exact ⟨x, y, z, rfl⟩
        have hy : Dv K H y' y := by
          cases hp with
          | cons _ hp => cases hp with | cons h _ => exact h
        refine if_t (decide_eq_true rfl) ⟨_, rfl, b, _, 1, _, rfl, rfl, SqT.of hb, rfl, ?_⟩
        refine ⟨_, _, _, _, _, rfl, .ty "str", tyX_of hy, kit_str y, _, rfl, ?_⟩
        by_cases cy : tyN y = "str"
        · obtain ⟨s1, rfl, rfl⟩ := dv_str hy cy
          refine if_t (decide_eq_true cy) ⟨_, rfl, b, _, 1, _, rfl, rfl, SqT.of hb, rfl, _, rfl, sh, _, dx, fs, _, rfl, a1, T.cl_Sheet, T.n_Sheet_own_words, a3, inTP (hd_str s1) (SqT.of a5) (hdL_strs ws) q⟩
        · refine if_f (decide_eq_false cy) ?_
          have e : isTieC ws (some [x, y, z]) = false := by
            cases y <;> first | rfl | exact absurd rfl cy
          rw [e] at q
          exact q
      · rw [isTieC_len ws c] at q
        refine if_f (decide_eq_false ?_) q
        intro z
        exact c (by rw [ln] at z; omega)
def spTieOfD (K : PySem.W.Frag) (AA : Ads) : Sp := fun vs H Q _ => ∃ sh ks ws d ps v r, vs = [.ref sh, .ref d, v] ∧ SheetAt AA.C_Sheet H sh ks ws ∧ Rd H d (.dK (kvP ps)) ∧ Cand K H v r ∧ Q (.bl (isTieOfC ws ps r)) H
theorem ok_is_tie_ofD (T : Txt K mg AA) : FnOk P w K mg base CX0 3 AA.a_is_tie_of AA.d_is_tie_of ["sheet", "posts", "value"] (spTieOfD K AA) := by
  have G_is_tie : FnOk P w K mg base CX0 1 AA.a_is_tie AA.d_is_tie ["sheet", "value"] (spTieD K AA) := ok_is_tieD T
  have G_is_post_of : FnOk P w K mg base CX0 2 AA.a_is_post_of AA.d_is_post_of ["posts", "value"] (spPostOfD K) := ok_is_post_ofD T
  refine T.F_is_tie_of.ok sc_is_tie_of (fun vs H Q E h => ?_) (fun cdv A outer s H vs Q E hr h => ?_)
  · obtain ⟨sh, ks, ws, d, ps, v, r, rfl, _⟩ := h
    rfl
  · obtain ⟨sh, ks, ws, d, ps, v, r, rfl, hs, hd, hv, q⟩ := h
    refine ⟨_, (pss_one (ps_ret (pe_and (pe_call G_is_tie (hr.mono (by decide)) (by rfl) T.g_is_tie T.k_is_tie T.b_is_tie .nil pass0 (pa_cons (pv 0) (pa_cons (pv 2) pa_nil))) (pe_and (pe_call G_is_post_of (hr.mono (by decide)) (by rfl) T.g_is_post_of T.k_is_post_of T.b_is_post_of .nil pass0 (pa_cons (pv 1) (pa_cons (pe_ix ix_tup (pv 2) pe_int (fun _ _ => rfl)) pa_nil))) (pe_one (pe_call G_is_post_of (hr.mono (by decide)) (by rfl) T.g_is_post_of T.k_is_post_of T.b_is_post_of .nil pass0 (pa_cons (pv 1) (pa_cons (pe_ix ix_tup (pv 2) pe_int (fun _ _ => rfl)) pa_nil)))))))), ?_⟩
    refine ⟨_, rfl, _, rfl, sh, ks, ws, _, r, rfl, hs, hv, _, rfl, ?_⟩
    cases c : isTieC ws r with
    | false =>
      rw [isTieOfC_no c] at q
      exact if_f rfl q
    | true =>
      rcases hv with ⟨d, hd, hn, rfl⟩ | ⟨b, xs, ds, rfl, hb, hp, rfl⟩
      · cases c
      obtain ⟨x, z, y, a, e, rfl, rfl, hx, hy, hz⟩ := isTieC_at c hp
      have q : Q (.bl (decide (z ∈ ws) && (isPostD ps a && isPostD ps e))) H := q
      rw [decide_eq_true hz] at q
      refine if_t rfl ⟨_, rfl, _, rfl, b, _, 0, _, rfl, rfl, SqT.of hb, rfl, d, ps, x, a, rfl, hd, hx, _, rfl, ?_⟩
      cases c2 : isPostD ps a with
      | false =>
        rw [c2] at q
        exact if_f rfl q
      | true =>
        rw [c2] at q
        exact if_t rfl ⟨_, rfl, _, rfl, b, _, 2, _, rfl, rfl, SqT.of hb, rfl, d, ps, y, e, rfl, hd, hy, q⟩
def memK {K : Type} [DecidableEq K] (k : K) (ks : List K) : Bool := decide (k ∈ ks)
theorem memK_eq {K : Type} [DecidableEq K] (k : K) (ks : List K) (b : Bool) (h : b = true ↔ k ∈ ks) : memK k ks = b := by
  unfold memK
  cases b with
  | true => exact decide_eq_true (h.mp rfl)
  | false => exact decide_eq_false fun z => by cases h.mpr z
theorem memK_iff {K : Type} [DecidableEq K] {k : K} {ks : List K} : memK k ks = true ↔ k ∈ ks := decide_eq_true_iff
theorem val_tru (k : List Key) : ∀ ks : List (List Key), (valV (ks.map fun k => (k, V.bl true)) k).isSome = memK k ks
  | [] => rfl
  | x :: ks => by
    have ih := val_tru k ks
    rw [List.map_cons]
    by_cases c : x = k
    · rw [valV_pos c]
      exact (memK_eq _ _ true ⟨fun _ => by rw [c]; exact List.mem_cons_self, fun _ => rfl⟩).symm
    · rw [valV_neg c, ih]
      refine (memK_eq _ _ _ ?_).symm
      rw [memK_iff]
      exact ⟨List.mem_cons_of_mem _, fun h => (List.mem_cons.mp h).resolve_left fun z => c z.symm⟩
/-- a web with its sheet -/
def WebS (AA : Ads) (H : Hp) (p : Addr) (ks ws : List Str) (ps : Posts) (ts : List Tie) (n : Int) : Prop := ∃ sh, WebAt AA.C_Web H p sh ps ts n ∧ SheetAt AA.C_Sheet H sh ks ws ∧ OkS ks ∧ OkS ws
theorem WebS.ex {H H' : Hp} {p : Addr} {ks ws : List Str} {ps : Posts} {ts : List Tie} {n : Int} (h : WebS AA H p ks ws ps ts n) (e : Ex H H') : WebS AA H' p ks ws ps ts n := by
  obtain ⟨sh, h1, h2, h3, h4⟩ := h
  exact ⟨sh, h1.ex e, h2.ex e, h3, h4⟩
theorem lk_sheet {sh po ti : Addr} {n : Int} : (wf sh po ti n).lookup ("own_sheet" : Str) = some (.ref sh) := by
  unfold wf
  rw [List.lookup_cons, beq_self_eq_true]
theorem lk_posts {sh po ti : Addr} {n : Int} : (wf sh po ti n).lookup ("own_posts" : Str) = some (.ref po) := by
  unfold wf
  rw [List.lookup_cons, beq_eq_false_iff_ne.mpr (Ne.symm f1), List.lookup_cons, beq_self_eq_true]
theorem lk_ties {sh po ti : Addr} {n : Int} : (wf sh po ti n).lookup ("own_ties" : Str) = some (.ref ti) := by
  unfold wf
  rw [List.lookup_cons, beq_eq_false_iff_ne.mpr (Ne.symm f2), List.lookup_cons, beq_eq_false_iff_ne.mpr (Ne.symm f4), List.lookup_cons, beq_self_eq_true]
theorem lk_next {sh po ti : Addr} {n : Int} : (wf sh po ti n).lookup ("own_next" : Str) = some (.int n) := by
  unfold wf
  rw [List.lookup_cons, beq_eq_false_iff_ne.mpr (Ne.symm f3), List.lookup_cons, beq_eq_false_iff_ne.mpr (Ne.symm f5), List.lookup_cons, beq_eq_false_iff_ne.mpr (Ne.symm f6), List.lookup_cons, beq_self_eq_true]
theorem nl_require_post {sh po ti : Addr} {n : Int} : (wf sh po ti n).lookup ("require_post" : Str) = none := by
  unfold wf
  have g1 : (("require_post" : Str) == "own_sheet") = false := by decide +kernel
  have g2 : (("require_post" : Str) == "own_posts") = false := by decide +kernel
  have g3 : (("require_post" : Str) == "own_ties") = false := by decide +kernel
  have g4 : (("require_post" : Str) == "own_next") = false := by decide +kernel
  rw [List.lookup_cons, g1, List.lookup_cons, g2, List.lookup_cons, g3, List.lookup_cons, g4]
  rfl
def spInWeb (K : PySem.W.Frag) (AA : Ads) : Sp := fun vs H Q _ => ∃ p ks ws ps ts n v r, vs = [.ref p, v] ∧ WebS AA H p ks ws ps ts n ∧ Cand K H v r ∧ Q (.bl (inWebC ws ps ts r)) H
theorem ok_Web_contains (T : Txt K mg AA) : FnOk P w K mg base CX0 4 AA.a_Web_contains AA.d_Web_contains ["self", "value"] (spInWeb K AA) := by
  have G_is_tie_of : FnOk P w K mg base CX0 3 AA.a_is_tie_of AA.d_is_tie_of ["sheet", "posts", "value"] (spTieOfD K AA) := ok_is_tie_ofD T
  refine T.F_Web_contains.ok sc_Web_contains (fun vs H Q E h => ?_) (fun cdv A outer s H vs Q E hr h => ?_)
  · obtain ⟨p, ks, ws, ps, ts, n, v, r, rfl, _⟩ := h
    rfl
  · obtain ⟨p, ks, ws, ps, ts, n, v, r, rfl, ⟨sh, wa, hs, o1, o2⟩, hv, q⟩ := h
    have hu1 : _ + 1 < cLine := hu_of hr
    obtain ⟨dx, po, ti, h1, h2, h3⟩ := wa.at_
    refine ⟨_, (pss_one (ps_ret (pe_and (pe_call G_is_tie_of (hr.mono (by decide)) (by rfl) T.g_is_tie_of T.k_is_tie_of T.b_is_tie_of .nil pass0 (pa_cons (pe_fld (pv 0) rfl) (pa_cons (pe_fld (pv 0) rfl) (pa_cons (pv 1) pa_nil)))) (pe_one (pe_cmpR (op_inK hu1) (pv 1) (pe_fld (pv 0) rfl) rfl))))), ?_⟩
    refine ⟨_, rfl, p, _, dx, _, _, rfl, h1, T.cl_Web, T.n_Web_own_sheet, lk_sheet, _, rfl, p, _, dx, _, _, rfl, h1, T.cl_Web, T.n_Web_own_posts, lk_posts, _, rfl, sh, ks, ws, po, ps, v, r, rfl, hs, .inl h2, hv, _, rfl, ?_⟩
    cases c : isTieOfC ws ps r with
    | false =>
      rw [inWebC_no c] at q
      exact if_f rfl q
    | true =>
      have c0 : isTieC ws r = true := by
        cases z : isTieC ws r with
        | true => rfl
        | false => rw [isTieOfC_no z] at c; cases c
      rcases hv with ⟨d, hd, hn, rfl⟩ | ⟨b, xs, ds, rfl, hb, hp, rfl⟩
      · cases c0
      obtain ⟨x, z, y, a, e, rfl, rfl, hx, hy, hz⟩ := isTieC_at c0 hp
      have c' : (decide (z ∈ ws) && (isPostD ps a && isPostD ps e)) = true := c
      obtain ⟨_, c2⟩ := Bool.and_eq_true_iff.mp c'
      obtain ⟨c3, c4⟩ := Bool.and_eq_true_iff.mp c2
      obtain ⟨i, rfl, m1⟩ := isPostD_int c3
      obtain ⟨j, rfl, m2⟩ := isPostD_int c4
      cases dv_int hx
      cases dv_int hy
      have q : Q (.bl (decide (z ∈ ws) && (decide (i ∈ numsP ps) && decide (j ∈ numsP ps)) && decide ((⟨i, z, j⟩ : Tie) ∈ ts))) H := q
      rw [decide_eq_true hz, decide_eq_true m1, decide_eq_true m2] at q
      refine if_t rfl ⟨_, rfl, _, rfl, p, _, dx, _, _, rfl, h1, T.cl_Web, T.n_Web_own_ties, lk_ties, ti, _, rfl, .inr ⟨_, tieK ⟨i, z, j⟩, b, .inl h3, rfl, hb, rfl⟩, ?_⟩
      rw [val_tru]
      have e : memK (tieK ⟨i, z, j⟩) (ts.map tieK) = decide ((⟨i, z, j⟩ : Tie) ∈ ts) := memK_eq _ _ _ (by
        rw [decide_eq_true_iff]
        refine ⟨fun h => List.mem_map.mpr ⟨_, h, rfl⟩, fun h => ?_⟩
        obtain ⟨t, ht, e⟩ := List.mem_map.mp h
        rw [← tieK_inj _ _ e]
        exact ht)
      rw [e]
      exact q
/-! posts that are not there -/
theorem ox_UnknownName (T : Txt K mg AA) : OxC K AA.C_UnknownName "KeyError" "LookupError.__new__" "KeyError.__init__" PySem.Kx.tKey := ⟨PySem.Kx.bs_Key, T.o_UnknownName, T.sa_UnknownName, T.k_UnknownName⟩
def spXIni (f : Str) (C : Addr) : Sp := fun vs H Q _ => ∃ (a : Addr) (v : V), vs = [.ref a, v] ∧ H a = some (exo a C none) ∧ ∀ d, H d = none → d ≠ a → Q .non (upd (upd H d (exd d [(f, v)])) a (exo a C (some d)))
theorem ok_UnknownName_init (T : Txt K mg AA) : FnOk P w K mg base CX0 1 AA.a_UnknownName_init AA.d_UnknownName_init ["self", "name"] (spXIni "name" AA.C_UnknownName) := by
  refine T.F_UnknownName_init.ok sc_UnknownName_init (fun vs H Q E h => ?_) (fun cdv A outer s H vs Q E hr h => ?_)
  · obtain ⟨a, v, rfl, _⟩ := h
    rfl
  · obtain ⟨a, v, rfl, ha, q⟩ := h
    refine ⟨_, (pss_cons (ps_expr (pe_xinit (B := "KeyError") (newId := "LookupError.__new__") (initId := "KeyError.__init__") (tl := PySem.Kx.tKey) (by rfl) T.n_KeyError PyProof.Rows.Boot.«KeyError» (by kernel_rfl) (by decide +kernel) (by decide +kernel) T.v_KeyError (pa_cons (pv 0) (pa_cons pe_str pa_nil))))
    (pss_one (ps_xset (pv 0) (pv 1)))), ?_⟩
    refine ⟨_, rfl, a, AA.C_UnknownName, _, rfl, (by show 1 ≤ 1000; decide), ox_UnknownName T, ha, ?_⟩
    exact ⟨_, rfl, _, rfl, a, AA.C_UnknownName, rfl, ⟨_, _, _, _, ox_UnknownName T⟩, T.n_UnknownName_name, .inl ⟨ha, fun d hd ne => q d hd ne⟩⟩
/-- the error of an unknown name -/
def Unk (AA : Ads) (E : XK) (H : Hp) (v : V) : Prop := ∀ H' d, Ex H H' → H' d = some (.xd [("name", v)]) → E (.ref AA.C_UnknownName) (some d) H'
def spReqPost (K : PySem.W.Frag) (AA : Ads) : Sp := fun vs H Q E => ∃ p ks ws ps ts n v d, vs = [.ref p, v] ∧ WebS AA H p ks ws ps ts n ∧ Dv K H v d ∧ (isPostD ps d = true → Q .non H) ∧ (isPostD ps d = false → Unk AA E H v)
theorem ok_Web_require_post (T : Txt K mg AA) : FnOk P w K mg base (L2.CX P w) 3 AA.a_Web_require_post AA.d_Web_require_post ["self", "post"] (spReqPost K AA) := by
  have G_is_post_of : FnOk P w K mg base CX0 2 AA.a_is_post_of AA.d_is_post_of ["posts", "value"] (spPostOfD K) := ok_is_post_ofD T
  have G_UnknownName_init : FnOk P w K mg base CX0 1 AA.a_UnknownName_init AA.d_UnknownName_init ["self", "name"] (spXIni "name" AA.C_UnknownName) := ok_UnknownName_init T
  refine T.F_Web_require_post.okX sc_Web_require_post (fun vs H Q E h => ?_) (fun cdv A outer s H vs Q E hr h => ?_)
  · obtain ⟨p, ks, ws, ps, ts, n, v, d, rfl, _⟩ := h
    rfl
  · obtain ⟨p, ks, ws, ps, ts, n, v, d, rfl, ⟨sh, wa, hs, o1, o2⟩, hv, yes, no⟩ := h
    obtain ⟨dx, po, ti, h1, h2, h3⟩ := wa.at_
    refine ⟨_, (pss_one (ps_if (pt_not (pt_val (pe_call G_is_post_of (hr.mono (by decide)) (by rfl) T.g_is_post_of T.k_is_post_of T.b_is_post_of .nil pass0 (pa_cons (pe_fld (pv 0) rfl) (pa_cons (pv 1) pa_nil))))) (pss_one (ps_raise rfl (takes_of rfl rfl rfl rfl) (pmk_ox (ox_UnknownName T) T.s_UnknownName T.t_UnknownName T.m_UnknownName_init.at_ (beq_iff_eq.mp T.m_UnknownName_init.fn) G_UnknownName_init (hr.mono (by decide)) T.b_UnknownName_init pass0 (by rfl) T.g_UnknownName (pa_cons (pv 1) pa_nil)))) pss_nil)), ?_⟩
    refine ⟨_, rfl, p, _, dx, _, _, rfl, h1, T.cl_Web, T.n_Web_own_posts, lk_posts, _, rfl, po, ps, v, d, rfl, .inl h2, hv, _, rfl, ?_⟩
    cases c : isPostD ps d with
    | true => exact if_f rfl (yes c)
    | false =>
      refine if_t rfl ⟨_, rfl, (by show 1 ≤ 1000; decide), fun a ha => ⟨a, v, rfl, upd_same, fun e he ne => ⟨rfl, e, _, upd_same, by rw [upd_ne ne]; exact upd_same, ?_, ?_⟩⟩⟩
      · rw [upd_ne ne] at he
        exact he
      · refine no c _ e (fun b o h => ?_) upd_same
        have nb : b ≠ a := fun z => by rw [z, ha] at h; cases h
        have ne2 : b ≠ e := fun z => by rw [upd_ne ne, ← z, h] at he; cases he
        rw [upd_ne ne2]
        show (if b = a then none else _) = some o
        rw [if_neg nb, upd_ne nb, upd_ne ne2, upd_ne nb]
        exact h
def spGetW (K : PySem.W.Frag) (AA : Ads) : Sp := fun vs H Q E => ∃ p ks ws ps ts n v d, vs = [.ref p, v] ∧ WebS AA H p ks ws ps ts n ∧ Dv K H v d ∧ (∀ i z, d = .int i → look ps i = some z → Q (.str z) H) ∧ (isPostD ps d = false → Unk AA E H v)
theorem ok_Web_getitem (T : Txt K mg AA) : FnOk P w K mg base (L2.CX P w) 4 AA.a_Web_getitem AA.d_Web_getitem ["self", "post"] (spGetW K AA) := by
  have G_Web_require_post : FnOk P w K mg base (L2.CX P w) 3 AA.a_Web_require_post AA.d_Web_require_post ["self", "post"] (spReqPost K AA) := ok_Web_require_post T
  refine T.F_Web_getitem.okX sc_Web_getitem (fun vs H Q E h => ?_) (fun cdv A outer s H vs Q E hr h => ?_)
  · obtain ⟨p, ks, ws, ps, ts, n, v, d, rfl, _⟩ := h
    rfl
  · obtain ⟨p, ks, ws, ps, ts, n, v, d, rfl, hw, hv, yes, no⟩ := h
    have hu1 : _ + 1 < cLine := hu_of hr
    have hw0 := hw
    obtain ⟨sh, wa, hs, o1, o2⟩ := hw0
    obtain ⟨dx, po, ti, h1, h2, h3⟩ := wa.at_
    refine ⟨_, (pss_cons (ps_expr (pe_meth (pv 0) T.cl_Web T.m_Web_require_post G_Web_require_post (hr.mono (by decide)) T.b_Web_require_post .nil (passes_call (takes_of rfl rfl rfl rfl) (fun _ _ _ _ h => h)) (pa_cons (pv 1) pa_nil)))
    (pss_one (ps_ret ((pe_dget hu1) (pe_fld (pv 0) rfl) (pv 1) (fun _ _ => rfl))))), ?_⟩
    refine ⟨_, rfl, p, dx, _, rfl, h1, nl_require_post, _, rfl, p, ks, ws, ps, ts, n, v, d, rfl, hw, hv, fun c => ?_, no⟩
    obtain ⟨i, rfl, m⟩ := isPostD_int c
    cases dv_int hv
    have hk : (look ps i).isSome = true := by rw [look_some]; exact decide_eq_true m
    obtain ⟨z, hz⟩ := Option.isSome_iff_exists.mp hk
    exact ⟨_, rfl, p, _, dx, _, _, rfl, h1, T.cl_Web, T.n_Web_own_posts, lk_posts, _, rfl, po, .str z, rfl, .inl ⟨_, .inl i, .inl h2, rfl, by rw [val_kvP, hz]; rfl⟩, yes i z rfl hz⟩
end
end K2
namespace K2
open PySem L2 Kd Evl Ks Kt Ky
open PySem.W (Datum DatumOrd T3)
section
variable {P : Program} {w : World} {K : PySem.W.Frag} {mg : Str → Option Value} {base : Heap} {AA : Ads}
def spOf (K : PySem.W.Frag) (AA : Ads) : Sp := fun vs H Q _ => ∃ (sh d t : Addr) (o : Option Int) (ks ws : List Str) (ps : Posts) (xs : List V) (ts : List Tie), vs = [.ref AA.C_Web, .ref sh, .ref d, .ref t, nv o] ∧ MkW K AA H sh d xs ks ws ps ts ∧ SqT K H t xs ∧ (∀ n, o = some n → nextOf (numsP ps) ≤ n) ∧
  ∀ H' p, Ex H H' → WebN AA.C_Web H H' p sh (sortP ps) (once (srt ts)) (o.getD (nextOf (numsP ps))) → Q (.ref p) H'
theorem ok_Web_of0 (T : Txt K mg AA) : FnOk P w K mg base CX0 7 AA.a_Web_of AA.d_Web_of ["cls", "sheet", "posts", "ties", "next_post"] (spOf K AA) := by
  have G_Web_init_K : Kw.FnA P w K mg base CX0 5 AA.a_Web_init ["next_post"] (spIni K AA []) := ok_Web_init_K T
  have G_require_sheet : FnOk P w K mg base CX0 1 AA.a_require_sheet AA.d_require_sheet ["sheet"] (spReq AA) := ok_require_sheet T
  have G_require_posts : FnOk P w K mg base CX0 3 AA.a_require_posts AA.d_require_posts ["sheet", "posts"] (spReqPosts AA) := ok_require_posts T
  refine T.F_Web_of.ok sc_Web_of (fun vs H Q E h => ?_) (fun cdv A outer s H vs Q E hr h => ?_)
  · obtain ⟨sh, d, t, n, ks, ws, ps, xs, ts, rfl, _⟩ := h
    rfl
  obtain ⟨sh, d, t, o, ks, ws, ps, xs, ts, rfl, m, ht, hn, q⟩ := h
  refine ⟨_, (pss_cons (ps_expr (pe_call G_require_sheet (hr.mono (by decide)) (by rfl) T.g_require_sheet T.k_require_sheet T.b_require_sheet .nil pass0 (pa_cons (pv 1) pa_nil)))
    (pss_cons (ps_expr (pe_call G_require_posts (hr.mono (by decide)) (by rfl) T.g_require_posts T.k_require_posts T.b_require_posts .nil pass0 (pa_cons (pv 1) (pa_cons (pv 2) pa_nil))))
    (pss_cons (ps_if (pt_not (pt_val (pe_callB call_isi (by rfl) T.n_isinstance (by decide +kernel) (pa_cons (pv 3) (pa_cons (pe_bltn (v := .ty "tuple") (u := .type "tuple") (by rfl) T.n_tuple (by decide +kernel) rfl) pa_nil))))) (pss_one ps_never) pss_nil)
    (pss_one (ps_ret (Kw.pe_makeSK T.M_Web G_Web_init_K (hr.mono (by decide)) pass0 (pv 0) (pa_cons (pv 1) (pa_cons (pv 2) (StX.pa_star (pv 3) pa_nil))) (pk_cons (pv 4) pk_nil))))))), ?_⟩
  refine ⟨_, rfl, sh, ks, ws, rfl, m.sh, ?_⟩
  refine ⟨_, rfl, _, rfl, sh, ks, ws, d, ps, rfl, m.sh, m.d, m.ok, fun H1 e1 => ?_⟩
  have m1 := m.ex e1
  have tyl : TyX K H1 (.ref t) (.type "tuple") := tyX_of (d := .tuple (ts.map Datum.toD)) (.inl (.tup (ex_t e1 ht) (ties_hd m1.xs)))
  refine ⟨_, rfl, _, _, _, _, _, rfl, .ty "tuple", tyl, kit_ty (by decide +kernel : kitB "tuple" "tuple" = some true), _, rfl, if_f rfl ?_⟩
  refine ⟨_, rfl, rfl, _, rfl, _, rfl, _, rfl, t, xs, rfl, .inl (ex_t e1 ht), _, rfl, rfl, fun x dx hx hdx hne => ?_⟩
  rw [List.append_nil]
  exact made_web (K := K) (zs := [nv o]) (dz := []) (o := o) hx hdx hne m1 rfl hn fun H' e' wa => q H' x (e1.trans e') (wa.back e1)
abbrev spOfA (K : PySem.W.Frag) (AA : Ads) : Kw.Sp2 := fun vs zs H Q E => vs.length = 4 ∧ spOf K AA (vs ++ zs) H Q E
theorem ok_Web_ofA (T : Txt K mg AA) : Kw.FnA P w K mg base CX0 7 AA.a_Web_of ["next_post"] (spOfA K AA) := Kw.fnA_of (ok_Web_of0 T) T.kb_Web_of
/-! what a web tells -/
structure Wb where
  ks : List Str
  ws : List Str
  ps : Posts
  ts : List Tie
  n : Int
def WbAt (AA : Ads) (H : Hp) (p : Addr) (x : Wb) : Prop := WebS AA H p x.ks x.ws x.ps x.ts x.n
theorem WbAt.ex {H H' : Hp} {p : Addr} {x : Wb} (h : WbAt AA H p x) (e : Ex H H') : WbAt AA H' p x := WebS.ex h e
theorem ok_Web_sheet (T : Txt K mg AA) : FnOk P w K mg base CX0 1 AA.a_Web_sheet AA.d_Web_sheet ["self"] (getSp AA.C_Web "own_sheet") := by
  refine T.F_Web_sheet.ok sc_Web_sheet (fun vs H Q E h => ?_) (fun cdv A outer s H vs Q E hr h => ?_)
  · obtain ⟨a, dx, fs, v, rfl, _⟩ := h
    rfl
  · obtain ⟨a, dx, fs, v, rfl, ha, hf, q⟩ := h
    exact ⟨_, (pss_one (ps_ret (pe_fld (pv 0) rfl))), _, rfl, a, _, dx, fs, v, rfl, ha, T.cl_Web, T.n_Web_own_sheet, hf, q⟩
def spNext (AA : Ads) : Sp := fun vs H Q _ => ∃ (a : Addr) (x : Wb), vs = [.ref a] ∧ WbAt AA H a x ∧ Q (.int x.n) H
theorem ok_Web_next_post (T : Txt K mg AA) : FnOk P w K mg base CX0 1 AA.a_Web_next_post AA.d_Web_next_post ["self"] (spNext AA) := by
  refine T.F_Web_next_post.ok sc_Web_next_post (fun vs H Q E h => ?_) (fun cdv A outer s H vs Q E hr h => ?_)
  · obtain ⟨a, x, rfl, _⟩ := h
    rfl
  obtain ⟨a, x, rfl, ⟨sh, wa, hs, o1, o2⟩, q⟩ := h
  obtain ⟨dx, po, ti, h1, h2, h3⟩ := wa.at_
  exact ⟨_, (pss_one (ps_ret (pe_fld (pv 0) rfl))), _, rfl, a, _, dx, _, _, rfl, h1, T.cl_Web, T.n_Web_own_next, lk_next, q⟩
def spPostsW (AA : Ads) : Sp := fun vs H Q _ => ∃ (a : Addr) (x : Wb), vs = [.ref a] ∧ WbAt AA H a x ∧ ∀ q, H q = none → Q (.ref q) (upd H q (.dK (kvP x.ps)))
theorem ok_Web_posts (T : Txt K mg AA) : FnOk P w K mg base CX0 1 AA.a_Web_posts AA.d_Web_posts ["self"] (spPostsW AA) := by
  refine T.F_Web_posts.ok sc_Web_posts (fun vs H Q E h => ?_) (fun cdv A outer s H vs Q E hr h => ?_)
  · obtain ⟨a, x, rfl, _⟩ := h
    rfl
  obtain ⟨a, x, rfl, ⟨sh, wa, hs, o1, o2⟩, q⟩ := h
  obtain ⟨dx, po, ti, h1, h2, h3⟩ := wa.at_
  exact ⟨_, (pss_one (ps_ret (pe_callTy call_dictD (by rfl) T.n_dict (by decide +kernel) (pa_cons (pe_fld (pv 0) rfl) pa_nil)))), _, rfl, a, _, dx, _, _, rfl, h1, T.cl_Web, T.n_Web_own_posts, lk_posts, po, _, rfl, .inl h2, q⟩
theorem keys_ties {H : Hp} : ∀ {ts : List Tie} {bs : List Addr}, IsKeys H ((ts.map tieK).map fun k => (k, V.bl true)) bs → Paired (TieV H) (bs.map V.ref) ts
  | [], _, h => by cases h; exact .nil
  | t :: ts, _, h => by cases h with | cons h1 h2 => exact .cons ⟨_, rfl, h1⟩ (keys_ties h2)
def spTiesW (AA : Ads) : Sp := fun vs H Q _ => ∃ (a : Addr) (x : Wb), vs = [.ref a] ∧ WbAt AA H a x ∧ ∀ q xs H', Ex H H' → H' q = some (.tup xs) → Paired (TieV H') xs x.ts → Q (.ref q) H'
theorem ok_Web_ties (T : Txt K mg AA) : FnOk P w K mg base CX0 1 AA.a_Web_ties AA.d_Web_ties ["self"] (spTiesW AA) := by
  refine T.F_Web_ties.ok sc_Web_ties (fun vs H Q E h => ?_) (fun cdv A outer s H vs Q E hr h => ?_)
  · obtain ⟨a, x, rfl, _⟩ := h
    rfl
  obtain ⟨a, x, rfl, ⟨sh, wa, hs, o1, o2⟩, q⟩ := h
  obtain ⟨dx, po, ti, h1, h2, h3⟩ := wa.at_
  refine ⟨_, (pss_one (ps_ret (pe_callTy call_tuple_of (by rfl) T.n_tuple (by decide +kernel) (pa_cons (pe_callTy (call_list_dT rfl) (by rfl) T.n_list (by decide +kernel) (pa_cons (pe_fld (pv 0) rfl) pa_nil)) pa_nil)))), _, rfl, a, _, dx, _, _, rfl, h1, T.cl_Web, T.n_Web_own_ties, lk_ties, ti, _, rfl, .inl h3, fun l bs hl kb => ⟨l, _, rfl, .inl ⟨SqL.of upd_same, fun l2 hl2 => ?_⟩⟩⟩
  have e := (Ex.new (o := .lst (bs.map V.ref)) hl).trans (Ex.new (o := .tup (bs.map V.ref)) hl2)
  exact q l2 _ _ e upd_same (ties_ex (keys_ties kb) e)
def spLenW (AA : Ads) : Sp := fun vs H Q _ => ∃ (a : Addr) (x : Wb), vs = [.ref a] ∧ WbAt AA H a x ∧ Q (.int (x.ps.length : Nat)) H
theorem ok_Web_len (T : Txt K mg AA) : FnOk P w K mg base CX0 1 AA.a_Web_len AA.d_Web_len ["self"] (spLenW AA) := by
  refine T.F_Web_len.ok sc_Web_len (fun vs H Q E h => ?_) (fun cdv A outer s H vs Q E hr h => ?_)
  · obtain ⟨a, x, rfl, _⟩ := h
    rfl
  obtain ⟨a, x, rfl, ⟨sh, wa, hs, o1, o2⟩, q⟩ := h
  obtain ⟨dx, po, ti, h1, h2, h3⟩ := wa.at_
  exact ⟨_, (pss_one (ps_ret (pe_callB call_lenD (by rfl) T.n_len (by decide +kernel) (pa_cons (pe_fld (pv 0) rfl) pa_nil)))), _, rfl, a, _, dx, _, _, rfl, h1, T.cl_Web, T.n_Web_own_posts, lk_posts, po, _, rfl, h2, by rw [kvP_len]; exact q⟩
def spBoolW (AA : Ads) : Sp := fun vs H Q _ => ∃ (a : Addr) (x : Wb), vs = [.ref a] ∧ WbAt AA H a x ∧ Q (.bl (decide (0 < x.ps.length))) H
theorem ok_Web_bool (T : Txt K mg AA) : FnOk P w K mg base CX0 1 AA.a_Web_bool AA.d_Web_bool ["self"] (spBoolW AA) := by
  refine T.F_Web_bool.ok sc_Web_bool (fun vs H Q E h => ?_) (fun cdv A outer s H vs Q E hr h => ?_)
  · obtain ⟨a, x, rfl, _⟩ := h
    rfl
  obtain ⟨a, x, rfl, ⟨sh, wa, hs, o1, o2⟩, q⟩ := h
  obtain ⟨dx, po, ti, h1, h2, h3⟩ := wa.at_
  refine ⟨_, (pss_one (ps_ret (pe_cmpR op_gt (pe_callB call_lenD (by rfl) T.n_len (by decide +kernel) (pa_cons (pe_fld (pv 0) rfl) pa_nil)) pe_int (nomark _)))), _, rfl, a, _, dx, _, _, rfl, h1, T.cl_Web, T.n_Web_own_posts, lk_posts, po, _, rfl, h2, _, _, rfl, rfl, ?_⟩
  rw [kvP_len]
  have e : decide ((x.ps.length : Int) > 0) = decide (0 < x.ps.length) := decide_eq_decide.mpr (by omega)
  rw [← e] at q
  exact q
theorem numS_ok : ∀ n : Nat, n < 61 → (numS n).length ≤ 2 ∧ ((n : Int)).natAbs.log2 < 1920 := by decide +kernel
def webStr (n m : Nat) : Str := ((((Str.empty ++ ("web of " : Str)) ++ numS n) ++ (" posts, " : Str)) ++ numS m) ++ (" ties" : Str)
def spStrW (AA : Ads) : Sp := fun vs H Q _ => ∃ (a : Addr) (x : Wb), vs = [.ref a] ∧ WbAt AA H a x ∧ x.ps.length ≤ 40 ∧ x.ts.length ≤ 40 ∧ Q (.str (webStr x.ps.length x.ts.length)) H
theorem ok_Web_str (T : Txt K mg AA) : FnOk P w K mg base CX0 1 AA.a_Web_str AA.d_Web_str ["self"] (spStrW AA) := by
  refine T.F_Web_str.ok sc_Web_str (fun vs H Q E h => ?_) (fun cdv A outer s H vs Q E hr h => ?_)
  · obtain ⟨a, x, rfl, _⟩ := h
    rfl
  obtain ⟨a, x, rfl, ⟨sh, wa, hs, o1, o2⟩, lp, lt, q⟩ := h
  obtain ⟨dx, po, ti, h1, h2, h3⟩ := wa.at_
  obtain ⟨n1, g1⟩ := numS_ok x.ps.length (by omega)
  obtain ⟨n2, g2⟩ := numS_ok x.ts.length (by omega)
  refine ⟨_, (pss_one (ps_ret (pe_joined (.cons pe_str (.cons (pe_fmt (pe_callB call_lenD (by rfl) T.n_len (by decide +kernel) (pa_cons (pe_fld (pv 0) rfl) pa_nil))) (.cons pe_str (.cons (pe_fmt (pe_callB call_len_dT (by rfl) T.n_len (by decide +kernel) (pa_cons (pe_fld (pv 0) rfl) pa_nil))) (.cons pe_str .nil)))))))), ?_⟩
  have z1 : (Str.empty ++ ("web of " : Str)).length = 7 := by decide +kernel
  have z2 : ((" posts, " : Str)).length = 8 := by decide +kernel
  have z3 : ((" ties" : Str)).length = 5 := by decide +kernel
  have line : (100 : Nat) ≤ sizeLine := by decide
  have t1 : ((x.ts.map tieK).map fun k => (k, V.bl true)).length = x.ts.length := by rw [List.length_map, List.length_map]
  refine ⟨_, rfl, by rw [z1]; omega, _, rfl, a, _, dx, _, _, rfl, h1, T.cl_Web, T.n_Web_own_posts, lk_posts, po, _, rfl, h2, .inr ⟨_, rfl, by rw [kvP_len]; exact g1, numS x.ps.length, by rw [kvP_len]; rfl, by rw [len_app]; omega, ?_⟩⟩
  refine ⟨_, rfl, by rw [len_app, len_app]; omega, _, rfl, a, _, dx, _, _, rfl, h1, T.cl_Web, T.n_Web_own_ties, lk_ties, ti, _, rfl, h3, .inr ⟨_, rfl, by rw [t1]; exact g2, numS x.ts.length, by rw [t1]; rfl, by rw [len_app, len_app, len_app]; omega, ?_⟩⟩
  exact ⟨_, rfl, by rw [len_app, len_app, len_app, len_app]; omega, q⟩
/-! == -/
def eqWb (a b : Wb) : Bool := decide (some (b.ks, b.ws) = some (a.ks, a.ws)) && (decide (a.n = b.n) && (sameD (kvP a.ps) (kvP b.ps) && sameK (a.ts.map tieK) (b.ts.map tieK)))
def eqO (a : Wb) : Option Wb → Bool
  | none => false
  | some b => eqWb a b
/-- what the second one of == may be -/
def OtherW (K : PySem.W.Frag) (AA : Ads) (H : Hp) (y : V) (r : Option Wb) : Prop :=
  (∃ d : PyData, TyX K H y (.type (tyN d)) ∧ r = none) ∨ ∃ b x, y = .ref b ∧ WbAt AA H b x ∧ r = some x
def spEqW (K : PySem.W.Frag) (AA : Ads) : Sp := fun vs H Q _ => ∃ (a : Addr) (y : V) (x : Wb) (r : Option Wb), vs = [.ref a, y] ∧ WbAt AA H a x ∧ OtherW K AA H y r ∧ Q (.bl (eqO x r)) H
theorem ok_Web_eq (T : Txt K mg AA) : FnOk P w K mg base CX0 3 AA.a_Web_eq AA.d_Web_eq ["self", "other"] (spEqW K AA) := by
  have G_Sheet_eq : FnOk P w K mg base CX0 1 AA.a_Sheet_eq AA.d_Sheet_eq ["self", "other"] (spEqS K AA.C_Sheet) := ok_Sheet_eq T
  refine T.F_Web_eq.ok sc_Web_eq (fun vs H Q E h => ?_) (fun cdv A outer s H vs Q E hr h => ?_)
  · obtain ⟨a, y, x, r, rfl, _⟩ := h
    rfl
  obtain ⟨a, y, x, r, rfl, ⟨sh, wa, hs, o1, o2⟩, ho, q⟩ := h
  have hu : _ + 64 < cLine := hu64 hr
  have hu1 : _ + 1 < cLine := hu_of hr
  obtain ⟨dx, po, ti, a1, a2, a3⟩ := wa.at_
  refine ⟨_, (pss_cons (ps_if (pw_or (pt_not (pt_val (pe_callB call_isi (by rfl) T.n_isinstance (by decide +kernel) (pa_cons (pv 1) (pa_cons (pe_glob (v := .ref AA.C_Web) (by rfl) T.g_Web rfl) pa_nil))))) (pw_or (pt_cmpR (op_ownNe G_Sheet_eq (T.I_Sheet.own T.m_Sheet_eq) T.b_Sheet_eq (hr.mono (by decide))) (pe_fld (pv 0) rfl) (pe_fld (pv 1) rfl) (nomark _)) (pw_or1 (pt_cmpR (op_neP (K := K) rfl hu) (pe_fld (pv 0) rfl) (pe_fld (pv 1) rfl) (nomark _))))).pt (pss_one (ps_ret pe_bl)) pss_nil)
    (pss_one (ps_ret (pe_and (pe_cmpR (op_eqK hu1) (pe_fld (pv 0) rfl) (pe_fld (pv 1) rfl) (nomark _)) (pe_one (pe_cmpR (op_eqT hu1) (pe_fld (pv 0) rfl) (pe_fld (pv 1) rfl) (nomark _))))))), ?_⟩
  rcases ho with ⟨d, hd, rfl⟩ | ⟨b, z, rfl, ⟨si, wb, hi, o3, o4⟩, rfl⟩
  · exact ⟨_, rfl, _, _, _, _, _, rfl, .own _, hd, T.I_Web.no d, _, rfl, if_t rfl (if_t rfl q)⟩
  · obtain ⟨dy, qo, ui, b1, b2, b3⟩ := wb.at_
    obtain ⟨d1, f1, k1, w1, s1, _⟩ := hs.at_
    obtain ⟨d2, f2, k2, w2, s2, _⟩ := hi.at_
    refine ⟨_, rfl, _, _, _, _, _, rfl, .own _, T.I_Web.ty b1, kit_self, _, rfl, if_f rfl ?_⟩
    refine ⟨_, rfl, a, _, dx, _, _, rfl, a1, T.cl_Web, T.n_Web_own_sheet, lk_sheet, _, rfl, b, _, dy, _, _, rfl, b1, T.cl_Web, T.n_Web_own_sheet, lk_sheet, ?_⟩
    refine ⟨sh, d1, f1, _, rfl, s1, T.I_Sheet.ty s2, not_first_self, sh, _, x.ks, x.ws, some (z.ks, z.ws), rfl, hs, o1, o2, .inr ⟨si, _, _, rfl, hi, o3, o4, rfl⟩, _, rfl, _, rfl, ?_⟩
    have q : Q (.bl (decide (some (z.ks, z.ws) = some (x.ks, x.ws)) && (decide (x.n = z.n) && (sameD (kvP x.ps) (kvP z.ps) && sameK (x.ts.map tieK) (z.ts.map tieK))))) H := q
    cases c1 : decide (some (z.ks, z.ws) = some (x.ks, x.ws)) with
    | false =>
      rw [c1] at q
      exact if_t rfl (if_t rfl q)
    | true =>
      rw [c1] at q
      refine if_f rfl ⟨_, rfl, a, _, dx, _, _, rfl, a1, T.cl_Web, T.n_Web_own_next, lk_next, _, rfl, b, _, dy, _, _, rfl, b1, T.cl_Web, T.n_Web_own_next, lk_next, neP (hd_int _) (hd_int _) ⟨_, rfl, ?_⟩⟩
      by_cases c2 : x.n = z.n
      · rw [decide_eq_true c2] at q
        refine if_f (by rw [decide_eq_true c2]; rfl) ⟨_, rfl, a, _, dx, _, _, rfl, a1, T.cl_Web, T.n_Web_own_posts, lk_posts, _, rfl, b, _, dy, _, _, rfl, b1, T.cl_Web, T.n_Web_own_posts, lk_posts, po, qo, _, _, rfl, rfl, .inl a2, .inl b2, kvP_pl _, kvP_pl _, _, rfl, ?_⟩
        cases c3 : sameD (kvP x.ps) (kvP z.ps) with
        | false =>
          rw [c3] at q
          exact if_f rfl q
        | true =>
          rw [c3] at q
          exact if_t rfl ⟨_, rfl, a, _, dx, _, _, rfl, a1, T.cl_Web, T.n_Web_own_ties, lk_ties, _, rfl, b, _, dy, _, _, rfl, b1, T.cl_Web, T.n_Web_own_ties, lk_ties, ti, ui, _, _, rfl, rfl, a3, b3, q⟩
      · rw [decide_eq_false c2] at q
        exact if_t (by rw [decide_eq_false c2]; rfl) q
end
end K2
namespace K2
open PySem L2 Kd Evl Ks Kt Ky
open PySem.W (Datum DatumOrd T3)
theorem look_of {ps : Posts} (nd : (numsP ps).Nodup) {p : Int × Str} (h : p ∈ ps) : look ps p.1 = some p.2 := by
  induction ps with
  | nil => cases h
  | cons q r ih =>
    have nd' : (q.1 :: numsP r).Nodup := nd
    obtain ⟨h1, h2⟩ := List.nodup_cons.mp nd'
    unfold look
    rw [List.find?_cons]
    by_cases c : q.1 = p.1
    · rw [decide_eq_true c]
      rcases List.mem_cons.mp h with rfl | h
      · rfl
      · exact absurd (show q.1 ∈ numsP r by rw [c]; exact List.mem_map.mpr ⟨p, h, rfl⟩) h1
    · rw [decide_eq_false c]
      rcases List.mem_cons.mp h with rfl | h
      · exact absurd rfl c
      · exact ih h2 h
theorem hit_self (qs : Posts) (nq : (numsP qs).Nodup) : ∀ ps : Posts, (∀ p ∈ ps, p ∈ qs) → hitB (kvP qs) (kvP ps) = true
  | [], _ => rfl
  | p :: ps, h => by
    have e : hitB (kvP qs) (kvP (p :: ps)) = (match valV (kvP qs) (.inl p.1) with | none => false | some y => Kt.eqV (.str p.2) y && hitB (kvP qs) (kvP ps)) := rfl
    rw [e, val_kvP, look_of nq (h p List.mem_cons_self), hit_self qs nq ps fun q hq => h q (List.mem_cons_of_mem _ hq)]
    show (decide (p.2 = p.2) && true) = true
    rw [decide_eq_true rfl]
    rfl
theorem sameD_self {ps : Posts} (nd : (numsP ps).Nodup) : sameD (kvP ps) (kvP ps) = true := by
  unfold sameD
  rw [hit_self ps nd ps fun _ h => h]
  simp
theorem sameK_self {κ : Type} [DecidableEq κ] (ks : List κ) : sameK ks ks = true := by
  unfold sameK
  rw [Bool.and_eq_true_iff, beq_iff_eq, List.all_eq_true]
  exact ⟨rfl, fun k hk => decide_eq_true hk⟩
def putP (ps : Posts) (n : Int) (z : Str) : Posts := if n ∈ numsP ps then ps.map (fun p => if p.1 = n then (p.1, z) else p) else ps ++ [(n, z)]
theorem put_kvP (ps : Posts) (n : Int) (z : Str) : putK (kvP ps) (.inl n) (.str z) = kvP (putP ps n z) := by
  unfold putK putP
  have e : ((kvP ps).any fun kv => decide (kv.1 = (.inl n : Key))) = decide (n ∈ numsP ps) := by
    unfold kvP numsP
    rw [List.any_map, Bool.eq_iff_iff, List.any_eq_true, decide_eq_true_iff, List.mem_map]
    constructor
    · rintro ⟨p, h1, h2⟩
      exact ⟨p, h1, Sum.inl.inj (of_decide_eq_true h2)⟩
    · rintro ⟨p, h1, h2⟩
      exact ⟨p, h1, decide_eq_true (by rw [← h2])⟩
  rw [e]
  by_cases c : n ∈ numsP ps
  · rw [decide_eq_true c, if_pos rfl, if_pos c]
    unfold kvP
    rw [List.map_map, List.map_map]
    refine List.map_congr_left fun p _ => ?_
    show (if (.inl p.1 : Key) = .inl n then ((.inl p.1 : Key), V.str z) else (.inl p.1, V.str p.2)) = (.inl (if p.1 = n then (p.1, z) else p).1, V.str (if p.1 = n then (p.1, z) else p).2)
    by_cases d : p.1 = n
    · rw [if_pos (by rw [d]), if_pos d]
    · rw [if_neg (fun h => d (Sum.inl.inj h)), if_neg d]
  · rw [decide_eq_false c, if_neg Bool.false_ne_true, if_neg c]
    unfold kvP
    rw [List.map_append]
    rfl
theorem merge_nil : ∀ (more acc : Posts), (numsP (acc ++ more)).Nodup → mergeK (kvP acc) (kvP more) = kvP (acc ++ more)
  | [], acc, _ => by rw [List.append_nil]; rfl
  | p :: r, acc, h => by
    have hn : p.1 ∉ numsP acc := fun z => by
      unfold numsP at h z
      rw [List.map_append, List.nodup_append] at h
      exact h.2.2 _ z _ List.mem_cons_self rfl
    have e : mergeK (kvP acc) (kvP (p :: r)) = mergeK (putK (kvP acc) (.inl p.1) (.str p.2)) (kvP r) := rfl
    have e2 : putP acc p.1 p.2 = acc ++ [p] := by unfold putP; rw [if_neg hn]
    rw [e, put_kvP, e2, merge_nil r (acc ++ [p]) (by rw [List.append_assoc]; exact h), List.append_assoc]
    rfl
theorem merge_kvP {ps : Posts} (nd : (numsP ps).Nodup) : mergeK [] (kvP ps) = kvP ps := merge_nil ps [] nd
theorem TieV.put {H : Hp} {D : Addr} {xs : List V} {v : V} {t : Tie} {o : HO} (h : TieV H v t) (hD : H D = some (.lst xs)) : TieV (upd H D o) v t := by
  obtain ⟨b, rfl, hb⟩ := h
  exact ⟨b, rfl, by rw [upd_ne (fun z => by rw [z, hD] at hb; cases hb)]; exact hb⟩
def upto (n : Nat) : List Int := (List.range n).map fun i : Nat => (i : Int)
theorem rgV_upto (n : Nat) : rgV 0 (n : Int) = (upto n).map V.int := by
  unfold rgV upto
  rw [List.map_map, Int.sub_zero, Int.toNat_natCast]
  refine List.map_congr_left fun i _ => ?_
  show V.int (0 + (i : Int)) = V.int (i : Int)
  rw [Int.zero_add]
theorem upto_len (n : Nat) : (upto n).length = n := by unfold upto; rw [List.length_map, List.length_range]
theorem upto_nd (n : Nat) : (upto n).Nodup := by
  unfold upto
  rw [List.nodup_iff_pairwise_ne, List.pairwise_map]
  exact (List.nodup_iff_pairwise_ne.mp List.nodup_range).imp fun h z => h (by omega)
theorem upto_nn {n : Nat} {i : Int} (h : i ∈ upto n) : 0 ≤ i := by
  obtain ⟨k, _, rfl⟩ := List.mem_map.mp h
  exact Int.natCast_nonneg k
theorem kvP_snoc (ps : Posts) (n : Int) (z : Str) : kvP (ps ++ [(n, z)]) = kvP ps ++ [(.inl n, .str z)] := by
  unfold kvP
  rw [List.map_append]
  rfl
theorem numsP_snoc (ps : Posts) (n : Int) (z : Str) : numsP (ps ++ [(n, z)]) = numsP ps ++ [n] := by
  unfold numsP
  rw [List.map_append]
  rfl
theorem numsP_len (ps : Posts) : (numsP ps).length = ps.length := List.length_map ..
/-- pairs of a list, as dict(..) reads them -/
abbrev PairsAt (H : Hp) (bs : List Addr) (kvs : List (Key × V)) : Prop := Paired (fun (b : Addr) (kv : Key × V) => H b = some (.tup [kV kv.1, kv.2])) bs kvs
theorem pair_put {H : Hp} {D : Addr} {ys : List V} {o : HO} (hD : H D = some (.lst ys)) : ∀ {bs : List Addr} {kvs : List (Key × V)}, PairsAt H bs kvs → PairsAt (upd H D o) bs kvs
  | _, _, .nil => .nil
  | _, _, .cons h t => .cons (by rw [upd_ne (ne_of h hD (by intro z; cases z))]; exact h) (pair_put hD t)
theorem pair_ex {H H' : Hp} (e : Ex H H') : ∀ {bs : List Addr} {kvs : List (Key × V)}, PairsAt H bs kvs → PairsAt H' bs kvs
  | _, _, .nil => .nil
  | _, _, .cons h t => .cons (e _ _ h) (pair_ex e t)
theorem pair_sq {K : PySem.W.Frag} {H : Hp} : ∀ {bs : List Addr} {kvs : List (Key × V)}, PairsAt H bs kvs → Paired (fun (b : Addr) (kv : Key × V) => SqT K H b [kV kv.1, kv.2]) bs kvs
  | _, _, .nil => .nil
  | _, _, .cons h t => .cons (SqT.of h) (pair_sq t)
theorem pair_snoc {F : Addr → Key × V → Prop} : ∀ {bs : List Addr} {kvs : List (Key × V)} {b : Addr} {kv : Key × V}, Paired F bs kvs → F b kv → Paired F (bs ++ [b]) (kvs ++ [kv])
  | _, _, _, _, .nil, h => .cons h .nil
  | _, _, _, _, .cons h t, q => .cons h (pair_snoc t q)
theorem numsP_sort (ps : Posts) : numsP (sortP ps) = srt (numsP ps) := by
  unfold sortP numsP
  rw [List.map_map]
  exact List.map_id' _
theorem sortP_len (ps : Posts) : (sortP ps).length = ps.length := by
  unfold sortP
  rw [List.length_map, (srt_perm _).length_eq]
  exact List.length_map ..
theorem sortP_perm {ps : Posts} (nd : (numsP ps).Nodup) : (sortP ps).Perm ps := by
  have h1 : (sortP ps).Perm ((numsP ps).map fun n => (n, (look ps n).getD Str.empty)) := (srt_perm (numsP ps)).map _
  have h2 : (numsP ps).map (fun n => (n, (look ps n).getD Str.empty)) = ps := by
    unfold numsP
    rw [List.map_map]
    conv => rhs; rw [← List.map_id ps]
    refine List.map_congr_left fun p hp => ?_
    show (p.1, (look ps p.1).getD Str.empty) = p
    rw [look_of nd hp]
    rfl
  rw [h2] at h1
  exact h1
theorem nd_sortP {ps : Posts} (nd : (numsP ps).Nodup) : (numsP (sortP ps)).Nodup := by
  rw [numsP_sort]
  exact (srt_perm _).nodup_iff.mpr nd
theorem nums_perm {ps qs : Posts} (h : qs.Perm ps) : (numsP qs).Perm (numsP ps) := h.map _
theorem look_none {ps : Posts} {n : Int} (h : n ∉ numsP ps) : look ps n = none := by
  have z := look_some ps n
  rw [decide_eq_false h] at z
  cases c : look ps n with
  | none => rfl
  | some x => rw [c] at z; cases z
theorem look_perm {ps qs : Posts} (h : qs.Perm ps) (nd : (numsP ps).Nodup) (n : Int) : look qs n = look ps n := by
  have nq : (numsP qs).Nodup := (nums_perm h).nodup_iff.mpr nd
  by_cases c : n ∈ numsP ps
  · obtain ⟨p, hp, rfl⟩ := List.mem_map.mp c
    rw [look_of nd hp, look_of nq (h.mem_iff.mpr hp)]
  · rw [look_none c, look_none (fun z => c ((nums_perm h).mem_iff.mp z))]
theorem sortP_one {ps qs : Posts} (h : qs.Perm ps) (nd : (numsP ps).Nodup) : sortP qs = sortP ps := by
  unfold sortP
  rw [srt_one (nums_perm h)]
  exact List.map_congr_left fun n _ => by rw [look_perm h nd]
theorem once_srt {L ts : List Tie} (nd : ts.Nodup) (h : ∀ t, t ∈ L ↔ t ∈ ts) : once (srt L) = srt ts := by
  refine up_one ((srt_up L).sublist (once_sub _)) (srt_up ts) ?_
  refine (List.perm_ext_iff_of_nodup (nodup_once _) ((srt_perm ts).nodup_iff.mpr nd)).mpr fun t => ?_
  rw [mem_once, (srt_perm L).mem_iff, (srt_perm ts).mem_iff]
  exact h t
theorem once_self {ts : List Tie} (nd : ts.Nodup) : once (srt ts) = srt ts := once_srt nd fun _ => Iff.rfl
theorem mem_srt {ts : List Tie} {t : Tie} : t ∈ srt ts ↔ t ∈ ts := (srt_perm ts).mem_iff
theorem nextOf_perm {l m : List Int} (h : l.Perm m) : nextOf l = nextOf m := by
  have a := nextOf_le (l := l) (m := nextOf m) (fun n hn => nextOf_gt (h.mem_iff.mp hn)) (nextOf_nn m)
  have b := nextOf_le (l := m) (m := nextOf l) (fun n hn => nextOf_gt (h.mem_iff.mpr hn)) (nextOf_nn l)
  omega
theorem nextOf_sub {l m : List Int} (h : ∀ n ∈ l, n ∈ m) : nextOf l ≤ nextOf m := nextOf_le (fun n hn => nextOf_gt (h n hn)) (nextOf_nn m)
end K2
namespace K2
open PySem L2 Kd Evl Ks Kt Ky
open PySem.W (Datum DatumOrd T3)
def spDice (K : PySem.W.Frag) : Sp := fun vs H Q _ => ∃ (a : Addr) (ns : List Int) (k : Int), vs = [.ref a, .int k] ∧ SqL K H a (ns.map V.int) ∧ 0 ≤ k ∧ ∀ p, H p = none → Q (.ref p) (upd H p (diceO p))
def spRoll : Sp := fun vs H Q _ => ∃ (a : Addr) (n : Int), vs = [.ref a, .int n] ∧ H a = some (diceO a) ∧ 0 < n ∧ n < 2 ^ 30 ∧ ∀ i : Int, 0 ≤ i → i < n → Q (.int i) H
theorem small_mul {i j : Int} (h0 : 0 ≤ i) (h1 : i < 2 ^ 64) : (-(2 ^ 64) < i ∧ i < 2 ^ 64) ∨ (-(2 ^ 64) < j ∧ j < 2 ^ 64) := .inl ⟨by omega, h1⟩
theorem divW {i n : Int} (h0 : 0 < n) (h1 : n < 2 ^ 30) : CDivW i n := wide_div (b := 30) h0 (by omega) (by decide) (by decide)
section
variable {P : Program} {w : World} {K : PySem.W.Frag} {mg : Str → Option Value} {base : Heap} {AA : Ads}
theorem ok_law_roll (T : Txt K mg AA) : FnOk P w K mg base CX0 1 AA.a_law_roll AA.d_law_roll ["_law_dice_here", "_law_total"] spRoll := by
  refine T.F_law_roll.ok sc_law_roll (fun vs H Q E h => ?_) (fun cdv A outer s H vs Q E hr h => ?_)
  · obtain ⟨a, n, rfl, _⟩ := h
    rfl
  · obtain ⟨a, n, rfl, ha, h0, h1, k⟩ := h
    refine ⟨_, (pss_cons (ps_if (pt_cmpR op_gt (pe_ix ix_dice (pv 0) pe_int (fun _ _ => rfl)) pe_int (nomark _)) (pss_cons (ps_set (i := 4) sc_law_roll.nd rfl (Or.inl rfl) (pe_op op_mod (pe_callTy call_int1 (by rfl) T.n_int (by decide +kernel) (pa_cons (pe_ix ix_dice (pv 0) pe_int (fun _ _ => rfl)) pa_nil)) (pv 1)))
    (pss_cons (ps_asg (pe_op op_fdivW (pe_ix ix_dice (pv 0) pe_int (fun _ _ => rfl)) (pv 1)) (pg_sub (pv 0) pe_int set_dice))
    (pss_one (ps_ret (pv 4))))) pss_nil)
    (pss_cons (ps_asg (pe_op op_add (pe_ix ix_dice (pv 0) pe_int (fun _ _ => rfl)) pe_int) (pg_sub (pv 0) pe_int set_dice))
    (pss_cons (ps_set (i := 2) sc_law_roll.nd rfl (Or.inl rfl) (pe_op op_mod (pe_callTy call_int1 (by rfl) T.n_int (by decide +kernel) (pa_cons (pe_op op_add (pe_ix ix_dice (pv 0) pe_int (fun _ _ => rfl)) (pe_op op_mul pe_int (pe_ix ix_dice (pv 0) pe_int (fun _ _ => rfl)))) pa_nil)) pe_int))
    (pss_cons (ps_set (i := 3) sc_law_roll.nd rfl (Or.inl rfl) (pe_op op_add (pe_op op_mul (pe_op op_mod (pe_callTy call_int1 (by rfl) T.n_int (by decide +kernel) (pa_cons (pe_op op_mul (pv 2) (pv 2)) pa_nil)) pe_int) (pv 2)) (pe_op op_mul pe_int (pe_ix ix_dice (pv 0) pe_int (fun _ _ => rfl)))))
    (pss_cons (ps_set (i := 3) sc_law_roll.nd rfl (Or.inl rfl) (pe_op op_mod (pe_callTy call_int1 (by rfl) T.n_int (by decide +kernel) (pa_cons (pv 3) pa_nil)) pe_int))
    (pss_one (ps_ret (pe_op op_mod (pe_callTy call_int1 (by rfl) T.n_int (by decide +kernel) (pa_cons (pe_op op_fdivW (pv 3) pe_int) pa_nil)) (pv 1))))))))), ?_⟩
    refine ⟨_, rfl, a, 0, rfl, rfl, ha, .inl rfl, fun x0 => ⟨_, _, rfl, rfl, _, rfl, ?_⟩⟩
    by_cases c : 0 < x0
    · refine if_t (decide_eq_true c) ?_
      refine ⟨_, rfl, a, 0, rfl, rfl, ha, .inl rfl, fun x1 => .inl ⟨_, rfl, _, rfl, _, _, rfl, rfl, h0, ?_⟩⟩
      refine ⟨_, rfl, a, 0, rfl, rfl, ha, .inl rfl, fun x2 => ⟨_, rfl, _, _, rfl, rfl, divW h0 h1, _, rfl, a, 0, _, rfl, rfl, rfl, ha, .inl rfl, ?_⟩⟩
      exact ⟨_, rfl, k _ (Int.emod_nonneg _ (by omega)) (Int.emod_lt_of_pos _ h0)⟩
    · refine if_f (decide_eq_false c) ?_
      refine ⟨_, rfl, a, 2, rfl, rfl, ha, .inr (.inr rfl), fun x1 => ⟨_, _, rfl, rfl, _, rfl, a, 2, _, rfl, rfl, rfl, ha, .inr (.inr rfl), ?_⟩⟩
      refine ⟨_, rfl, a, 1, rfl, rfl, ha, .inr (.inl rfl), fun x2 => ⟨_, rfl, a, 2, rfl, rfl, ha, .inr (.inr rfl), fun x3 => ⟨_, _, rfl, rfl, .inl (by decide), _, _, rfl, rfl, .inl ⟨_, rfl, _, _, rfl, rfl, (by dsimp only; omega), ?_⟩⟩⟩⟩
      have y0 : 0 ≤ (x2 + 1000193 * x3) % 2305843009213693951 := Int.emod_nonneg _ (by decide)
      have y1 : (x2 + 1000193 * x3) % 2305843009213693951 < 2305843009213693951 := Int.emod_lt_of_pos _ (by decide)
      refine ⟨_, rfl, _, rfl, _, _, rfl, rfl, small_mul y0 (by omega), .inl ⟨_, rfl, _, _, rfl, rfl, (by dsimp only; omega), _, rfl, _, _, rfl, rfl, ?_, _, rfl, a, 2, rfl, rfl, ha, .inr (.inr rfl), fun x4 => ⟨_, _, rfl, rfl, .inl (by decide), _, _, rfl, rfl, ?_⟩⟩⟩
      · exact .inr ⟨by omega, by omega⟩
      refine ⟨_, rfl, .inl ⟨_, rfl, _, _, rfl, rfl, (by dsimp only; omega), ?_⟩⟩
      refine ⟨_, rfl, _, _, rfl, rfl, divW (by decide) (by decide), .inl ⟨_, rfl, _, rfl, _, _, rfl, rfl, h0, k _ (Int.emod_nonneg _ (by omega)) (Int.emod_lt_of_pos _ h0)⟩⟩
theorem ok_law_dice (T : Txt K mg AA) : FnOk P w K mg base CX0 1 AA.a_law_dice AA.d_law_dice ["_law_script", "_law_at"] (spDice K) := by
  refine T.F_law_dice.ok sc_law_dice (fun vs H Q E h => ?_) (fun cdv A outer s H vs Q E hr h => ?_)
  · obtain ⟨a, ns, k, rfl, _⟩ := h
    rfl
  · obtain ⟨a, ns, k, rfl, ha, h0, q⟩ := h
    refine ⟨_, (pss_cons (ps_set (i := 2) sc_law_dice.nd rfl (Or.inl rfl) (pe_op op_add (pe_op op_mul pe_int (pv 1)) pe_int))
    (pss_cons (ps_if (pt_cmpR op_lt (pv 1) (pe_callB call_len_seq (by rfl) T.n_len (by decide +kernel) (pa_cons (pv 0) pa_nil)) (nomark _)) (pss_one (ps_set (i := 2) sc_law_dice.nd rfl (Or.inl rfl) (pe_ix ix_list (pv 0) (pv 1) (fun _ _ => rfl)))) pss_nil)
    (pss_cons (ps_set (i := 3) sc_law_dice.nd rfl (Or.inl rfl) (pe_op op_mod (pe_callTy call_int1 (by rfl) T.n_int (by decide +kernel) (pa_cons (pe_callB call_abs (by rfl) T.n_abs (by decide +kernel) (pa_cons (pv 2) pa_nil)) pa_nil)) (pe_op op_powW (pe_op op_pow pe_int pe_int) pe_int)))
    (pss_cons (ps_set (i := 4) sc_law_dice.nd rfl (Or.inl rfl) (pe_op op_add (pe_op op_add (pe_op op_add (pe_op op_mul (pe_op op_mod (pe_callTy call_int1 (by rfl) T.n_int (by decide +kernel) (pa_cons (pv 3) pa_nil)) pe_int) pe_int) (pe_op op_mul pe_int (pv 1))) (pe_op op_mul pe_int (pe_callTy call_int1 (by rfl) T.n_int (by decide +kernel) (pa_cons (pe_cmpR op_lt (pv 2) pe_int (nomark _)) pa_nil)))) pe_int))
    (pss_one (ps_ret (pe_shut (pe_lst (pa_cons (pe_callB (call_max2 rfl) (by rfl) T.n_max (by decide +kernel) (pa_cons pe_int (pa_cons (pe_op op_sub (pv 3) (pe_op op_pow pe_int pe_int)) pa_nil))) (pa_cons (pe_op op_mod (pe_callTy call_int1 (by rfl) T.n_int (by decide +kernel) (pa_cons (pv 4) pa_nil)) pe_int) (pa_cons pe_int pa_nil))))))))))), ?_⟩
    refine ⟨_, rfl, _, _, rfl, rfl, .inl (by decide), _, _, rfl, rfl, ?_⟩
    refine ⟨_, rfl, _, rfl, a, _, rfl, .inl ha, _, _, rfl, rfl, _, rfl, ?_⟩
    have hpow : CPowW ((10 : Int) ^ (60 : Int).toNat) 10 := ⟨by decide, by decide +kernel⟩
    have hpos : (0 : Int) < ((10 : Int) ^ (60 : Int).toNat) ^ (10 : Int).toNat := by decide +kernel
    by_cases c : k < ((ns.map V.int).length : Int)
    · refine if_t (decide_eq_true c) ?_
      rw [List.length_map] at c
      obtain ⟨j, ej⟩ : ∃ j : Nat, k = (j : Int) := ⟨k.toNat, by omega⟩
      obtain ⟨x, hx⟩ : ∃ x, ns[j]? = some x := ⟨ns[j]'(by omega), List.getElem?_eq_getElem _⟩
      refine ⟨_, rfl, _, rfl, a, _, _, _, rfl, rfl, ha, at_of (j := j) (v := V.int x) ej (by rw [List.getElem?_map, hx]; rfl), ?_⟩
      refine ⟨_, rfl, _, rfl, .inl ⟨_, rfl, _, _, rfl, rfl, ⟨by decide, by decide, by decide⟩, _, _, rfl, rfl, hpow, _, _, rfl, rfl, hpos, ?_⟩⟩
      refine ⟨_, rfl, .inl ⟨_, rfl, _, _, rfl, rfl, (by dsimp only; omega), _, _, rfl, rfl, .inr (by decide), _, rfl, _, _, rfl, rfl, .inl (by decide), _, _, rfl, rfl, _, rfl, _, _, rfl, rfl, .inr ⟨_, rfl, _, _, rfl, rfl, .inl (by decide), _, _, rfl, rfl, _, _, rfl, rfl, ?_⟩⟩⟩
      refine ⟨_, rfl, _, _, rfl, rfl, ⟨by decide, by decide, by decide⟩, _, _, rfl, rfl, _, _, rfl, _, rfl, .inl ⟨_, rfl, _, _, rfl, rfl, (by dsimp only; omega), (by show 3 ≤ sizeLine; decide), fun p hp => ⟨p, _, _, _, rfl, upd_same, ?_⟩⟩⟩
      rw [upd_upd]
      exact q p hp
    · refine if_f (decide_eq_false c) ?_
      refine ⟨_, rfl, _, rfl, .inl ⟨_, rfl, _, _, rfl, rfl, ⟨by decide, by decide, by decide⟩, _, _, rfl, rfl, hpow, _, _, rfl, rfl, hpos, ?_⟩⟩
      refine ⟨_, rfl, .inl ⟨_, rfl, _, _, rfl, rfl, (by dsimp only; omega), _, _, rfl, rfl, .inr (by decide), _, rfl, _, _, rfl, rfl, .inl (by decide), _, _, rfl, rfl, _, rfl, _, _, rfl, rfl, .inr ⟨_, rfl, _, _, rfl, rfl, .inl (by decide), _, _, rfl, rfl, _, _, rfl, rfl, ?_⟩⟩⟩
      refine ⟨_, rfl, _, _, rfl, rfl, ⟨by decide, by decide, by decide⟩, _, _, rfl, rfl, _, _, rfl, _, rfl, .inl ⟨_, rfl, _, _, rfl, rfl, (by dsimp only; omega), (by show 3 ≤ sizeLine; decide), fun p hp => ⟨p, _, _, _, rfl, upd_same, ?_⟩⟩⟩
      rw [upd_upd]
      exact q p hp
end
end K2
namespace K2
open PySem L2 Kd Evl Ks Kt Ky
open PySem.W (Datum DatumOrd T3)
/-- one of a row of values, a list or a tuple -/
def spOne (K : PySem.W.Frag) : Sp := fun vs H Q _ => ∃ (a l : Addr) (xs : List V), vs = [.ref a, .ref l] ∧ H a = some (diceO a) ∧ (SqL K H l xs ∨ SqT K H l xs) ∧ 0 < xs.length ∧ xs.length ≤ 1000 ∧ ∀ x ∈ xs, Q x H
def spMixed (K : PySem.W.Frag) : Sp := fun vs H Q _ => ∃ (a l : Addr) (xs : List V), vs = [.ref a, .ref l] ∧ H a = some (diceO a) ∧ (SqL K H l xs ∨ SqT K H l xs) ∧ xs.length ≤ 1000 ∧ ∀ ys p H', ys.Perm xs → Ex H H' → H' p = some (.lst ys) → Q (.ref p) H'
theorem ixAt {k : Nat} {n : Nat} (h : k < n) (hn : n ≤ 1000) : seqIndex? (k : Int) n = some k := seqIndex_of (by omega) (by omega)
theorem erase_perm {α : Type} : ∀ (l : List α) (i : Nat) (h : i < l.length), (l[i] :: l.eraseIdx i).Perm l
  | x :: l, 0, _ => List.Perm.refl _
  | x :: l, i + 1, h => by
    have h' : i < l.length := Nat.lt_of_succ_lt_succ h
    show (l[i] :: x :: l.eraseIdx i).Perm (x :: l)
    exact (List.Perm.swap _ _ _).trans ((erase_perm l i h').cons x)
section
variable {P : Program} {w : World} {K : PySem.W.Frag} {mg : Str → Option Value} {base : Heap} {AA : Ads}
theorem ok_law_one_of (T : Txt K mg AA) : FnOk P w K mg base CX0 2 AA.a_law_one_of AA.d_law_one_of ["_law_dice_here", "_law_items"] (spOne K) := by
  have G_law_roll : FnOk P w K mg base CX0 1 AA.a_law_roll AA.d_law_roll ["_law_dice_here", "_law_total"] spRoll := ok_law_roll T
  refine T.F_law_one_of.ok sc_law_one_of (fun vs H Q E h => ?_) (fun cdv A outer s H vs Q E hr h => ?_)
  · obtain ⟨a, l, xs, rfl, _⟩ := h
    rfl
  · obtain ⟨a, l, xs, rfl, ha, hl, h0, h1, q⟩ := h
    refine ⟨_, (pss_one (ps_ret (pe_ix ix_seq (pv 1) (pe_call G_law_roll (hr.mono (by decide)) (by rfl) T.g_law_roll T.k_law_roll T.b_law_roll .nil pass0 (pa_cons (pv 0) (pa_cons (pe_callB call_len_seq (by rfl) T.n_len (by decide +kernel) (pa_cons (pv 1) pa_nil)) pa_nil))) (fun _ _ => rfl)))), ?_⟩
    refine ⟨_, rfl, _, rfl, _, rfl, l, xs, rfl, hl, a, _, rfl, ha, by omega, by omega, fun i i0 i1 => ?_⟩
    obtain ⟨j, ej⟩ : ∃ j : Nat, i = (j : Int) := ⟨i.toNat, by omega⟩
    have hj : j < xs.length := by omega
    rcases hl with hl | hl
    · exact .inl ⟨l, xs, i, xs[j], rfl, rfl, hl, at_of ej (List.getElem?_eq_getElem hj), q _ (List.getElem_mem hj)⟩
    · exact .inr (.inl ⟨l, xs, i, xs[j], rfl, rfl, hl, at_of ej (List.getElem?_eq_getElem hj), q _ (List.getElem_mem hj)⟩)
theorem ok_law_mixed (T : Txt K mg AA) : FnOk P w K mg base CX0 2 AA.a_law_mixed AA.d_law_mixed ["_law_dice_here", "_law_items"] (spMixed K) := by
  have G_law_roll : FnOk P w K mg base CX0 1 AA.a_law_roll AA.d_law_roll ["_law_dice_here", "_law_total"] spRoll := ok_law_roll T
  refine T.F_law_mixed.ok sc_law_mixed (fun vs H Q E h => ?_) (fun cdv A outer s H vs Q E hr h => ?_)
  · obtain ⟨a, l, xs, rfl, _⟩ := h
    rfl
  · obtain ⟨a, l, xs, rfl, ha, hl, h1, q⟩ := h
    refine ⟨_, (pss_cons (ps_set (i := 2) sc_law_mixed.nd rfl (Or.inr rfl) (pe_callTy call_list_of (by rfl) T.n_list (by decide +kernel) (pa_cons (pv 1) pa_nil)))
    (pss_one (ps_ret (pe_lc (own := [("_law_turn", 3)]) (g := gName 3) rfl sc_law_mixed.nd  (pi_range1 rfl T.n_range (pa_cons (pe_callB call_len_seq (by rfl) T.n_len (by decide +kernel) (pa_cons (pv 1) pa_nil)) pa_nil)) (blkOk_by (N := N_law_mixed) (sc := defScope s_law_mixed) (by decide +kernel)) (fun _ _ _ _ _ => (pg_name (i := 3) sc_law_mixed.nd rfl (Or.inl rfl))) (fun _ _ _ _ _ => pts_nil) (fun _ _ _ _ _ => by exact (Kv.pe_bm (K := K) (r := rPopAt) rfl PySem.F.plainAttrs_list PySem.F.slot_list_pop PySem.F.type_list_pop mt_popAt (pv 2) (pa_cons (pe_call G_law_roll (hr.mono (by decide)) (by rfl) T.g_law_roll T.k_law_roll T.b_law_roll .nil pass0 (pa_cons (pv 0) (pa_cons (pe_callB (Kv.call_len (K := K) rfl) (by rfl) T.n_len (by decide +kernel) (pa_cons (pv 2) pa_nil)) pa_nil))) pa_nil))))))), ?_⟩
    refine ⟨_, rfl, l, xs, rfl, hl, fun p hp => ?_⟩
    have x1 : Ex H (upd H p (.lst xs)) := Ex.new hp
    have hl1 : SqL K (upd H p (.lst xs)) l xs ∨ SqT K (upd H p (.lst xs)) l xs := hl.imp (ex_l x1) (ex_t x1)
    refine ⟨_, rfl, l, xs, rfl, hl1, _, rfl, by omega, by omega, fun D hD => ?_⟩
    have nDp : D ≠ p := (ne_of_none upd_same hD).symm
    refine lc_range (fun i H2 => ∃ acc left, H2 D = some (.lst acc) ∧ H2 p = some (.lst left) ∧ (acc ++ left).Perm xs ∧ acc.length = i ∧ Ex H H2) ⟨[], xs, upd_same, by rw [upd_ne nDp.symm]; exact upd_same, List.Perm.refl _, rfl, Ex.mut x1 (fresh_back x1 hD)⟩ ?_ ?_
    · rintro i H2 hi ⟨acc, left, hDa, hpl, perm, hacc, ex⟩
      have hln := perm.length_eq
      rw [List.length_append] at hln
      have hleft : 0 < left.length := by omega
      refine ⟨rfl, ?_⟩
      show tBM K "list" rPopAt (tVar 2) (tCons (tCall spRoll [] E0 (tCons (tVar 0) (tCons (tCB (Kv.rLen K) (tCons (tVar 2) tNil)) tNil))) tNil) _ H2 _
      refine ⟨_, rfl, .inl ⟨rfl, _, SqL.of hpl⟩, _, rfl, _, rfl, p, left, rfl, .inl (SqL.of hpl), a, _, rfl, ex _ _ ha, by omega, by omega, fun r r0 r1 => ?_⟩
      obtain ⟨j, ej⟩ : ∃ j : Nat, r = (j : Int) := ⟨r.toNat, by omega⟩
      have hj : j < left.length := by omega
      subst ej
      refine ⟨p, left, _, j, left[j], rfl, rfl, hpl, by omega, by omega, ixAt hj (by omega), List.getElem?_eq_getElem hj, acc, by rw [upd_ne nDp]; exact hDa, len_lt (by omega), acc ++ [left[j]], left.eraseIdx j, upd_same, ?_, ?_, ?_, ?_⟩
      · rw [upd_ne nDp.symm, upd_same]
      · rw [List.append_assoc]
        exact ((List.Perm.append_left acc (erase_perm left j hj)).trans perm)
      · rw [List.length_append, hacc]
        rfl
      · exact Ex.mut (Ex.mut ex hp) (fresh_back x1 hD)
    · rintro H2 ⟨acc, left, hDa, hpl, perm, hacc, ex⟩
      have hln := perm.length_eq
      rw [List.length_append] at hln
      have e : left = [] := List.length_eq_zero_iff.mp (by omega)
      subst e
      rw [List.append_nil] at perm
      exact q acc D H2 perm ex hDa
/-- a row of numbers; a row of words -/
def RowI (K : PySem.W.Frag) (H : Hp) (l : Addr) (ns : List Int) : Prop := SqL K H l (ns.map V.int) ∨ SqT K H l (ns.map V.int)
def RowS (K : PySem.W.Frag) (H : Hp) (l : Addr) (zs : List Str) : Prop := SqL K H l (zs.map V.str) ∨ SqT K H l (zs.map V.str)
end
end K2
namespace K2
open PySem L2 Kd Evl Ks Kt Ky
open PySem.W (Datum DatumOrd T3)
section
variable {P : Program} {w : World} {K : PySem.W.Frag} {mg : Str → Option Value} {base : Heap} {AA : Ads}
def kindsL : List Str := ["item", "shop", "k"]
def wordsL : List Str := ["link", "owns", "to"]
/-- names as they are drawn: some of a row, each once -/
structure Drawn (all : List Str) (most : Nat) (zs : List Str) : Prop where
  nd : zs.Nodup
  mem : ∀ z ∈ zs, z ∈ all
  le : zs.length ≤ most
  pos : 1 ≤ zs.length
theorem drawn_cut {all : List Str} {most i : Nat} {ys : List V} (nd : all.Nodup) (i1 : 1 ≤ i) (i2 : i ≤ most) (perm : ys.Perm (all.map V.str)) (h3 : 3 = all.length) : ∃ zs, Drawn all most zs ∧ cutV ys none (some (i : Int)) = zs.map V.str := by
  obtain ⟨zs, pz, hz⟩ := HdL.perm (K := []) (H := fun _ => none) perm (hdL_strs all)
  have e := hz.strs
  subst e
  have ln := pz.length_eq
  refine ⟨zs.take i, ⟨(List.take_sublist _ _).nodup (pz.nodup_iff.mpr nd), fun z hz => pz.mem_iff.mp (List.mem_of_mem_take hz), by rw [List.length_take]; omega, by rw [List.length_take]; omega⟩, ?_⟩
  unfold cutV
  rw [HT.sIx_nat, HT.sIx_none, List.drop_zero, Nat.sub_zero, List.length_map, List.map_take]
  by_cases c : i ≤ zs.length
  · rw [Nat.min_eq_left c]
  · rw [Nat.min_eq_right (by omega), List.take_of_length_le (by rw [List.length_map]; exact Nat.le_refl _), List.take_of_length_le (by rw [List.length_map]; omega)]
def spSheetL : Sp := fun vs H Q _ => ∃ (a : Addr), vs = [.ref a] ∧ H a = some (diceO a) ∧ ∀ H' p pk pw ks ws, Ex H H' → H' p = some (.tup [.ref pk, .ref pw]) → H' pk = some (.tup (ks.map V.str)) → H' pw = some (.tup (ws.map V.str)) → Drawn kindsL 3 ks → Drawn wordsL 2 ws → Q (.ref p) H'
theorem ok_law_sheet (T : Txt K mg AA) : FnOk P w K mg base CX0 3 AA.a_law_sheet AA.d_law_sheet ["_law_dice_here"] spSheetL := by
  have G_law_one_of : FnOk P w K mg base CX0 2 AA.a_law_one_of AA.d_law_one_of ["_law_dice_here", "_law_items"] (spOne K) := ok_law_one_of T
  have G_law_mixed : FnOk P w K mg base CX0 2 AA.a_law_mixed AA.d_law_mixed ["_law_dice_here", "_law_items"] (spMixed K) := ok_law_mixed T
  refine T.F_law_sheet.ok sc_law_sheet (fun vs H Q E h => ?_) (fun cdv A outer s H vs Q E hr h => ?_)
  · obtain ⟨a, rfl, _⟩ := h
    rfl
  · obtain ⟨a, rfl, ha, q⟩ := h
    refine ⟨_, (pss_cons (ps_set (i := 1) sc_law_sheet.nd rfl (Or.inl rfl) (pe_slice sl_list (pe_call G_law_mixed (hr.mono (by decide)) (by rfl) T.g_law_mixed T.k_law_mixed T.b_law_mixed .nil pass0 (pa_cons (pv 0) (pa_cons (pe_lst (pa_cons pe_str (pa_cons pe_str (pa_cons pe_str pa_nil)))) pa_nil))) po_none (po_some (pe_call G_law_one_of (hr.mono (by decide)) (by rfl) T.g_law_one_of T.k_law_one_of T.b_law_one_of .nil pass0 (pa_cons (pv 0) (pa_cons (pe_lst (pa_cons pe_int (pa_cons pe_int (pa_cons pe_int (pa_cons pe_int pa_nil))))) pa_nil))))))
    (pss_cons (ps_set (i := 2) sc_law_sheet.nd rfl (Or.inl rfl) (pe_slice sl_list (pe_call G_law_mixed (hr.mono (by decide)) (by rfl) T.g_law_mixed T.k_law_mixed T.b_law_mixed .nil pass0 (pa_cons (pv 0) (pa_cons (pe_lst (pa_cons pe_str (pa_cons pe_str (pa_cons pe_str pa_nil)))) pa_nil))) po_none (po_some (pe_call G_law_one_of (hr.mono (by decide)) (by rfl) T.g_law_one_of T.k_law_one_of T.b_law_one_of .nil pass0 (pa_cons (pv 0) (pa_cons (pe_lst (pa_cons pe_int (pa_cons pe_int (pa_cons pe_int pa_nil)))) pa_nil))))))
    (pss_one (ps_ret (pe_tup (pa_cons (pe_callTy call_tuple_of (by rfl) T.n_tuple (by decide +kernel) (pa_cons (pv 1) pa_nil)) (pa_cons (pe_callTy call_tuple_of (by rfl) T.n_tuple (by decide +kernel) (pa_cons (pv 2) pa_nil)) pa_nil))))))), ?_⟩
    refine ⟨_, rfl, (by show 3 ≤ sizeLine; decide), fun l hl => ⟨a, l, _, rfl, Ex.new hl _ _ ha, .inl (SqL.of upd_same), (by decide), fun ys p H1 perm e1 h1 => ?_⟩⟩
    have x1 : Ex H H1 := (Ex.new hl).trans e1
    refine ⟨_, rfl, (by show 4 ≤ sizeLine; decide), fun l2 hl2 => ⟨a, l2, _, rfl, Ex.new hl2 _ _ (x1 _ _ ha), .inl (SqL.of upd_same), (by decide), (by decide), fun x hx => ?_⟩⟩
    obtain ⟨i, rfl, i1, i3⟩ : ∃ i : Nat, x = .int (i : Int) ∧ 1 ≤ i ∧ i ≤ 3 := by
      rcases List.mem_cons.mp hx with rfl | hx
      · exact ⟨1, rfl, by omega, by omega⟩
      rcases List.mem_cons.mp hx with rfl | hx
      · exact ⟨2, rfl, by omega, by omega⟩
      rcases List.mem_cons.mp hx with rfl | hx
      · exact ⟨2, rfl, by omega, by omega⟩
      rcases List.mem_cons.mp hx with rfl | hx
      · exact ⟨3, rfl, by omega, by omega⟩
      · cases hx
    have x2 : Ex H (upd H1 l2 (.lst [.int 1, .int 2, .int 2, .int 3])) := x1.trans (Ex.new hl2)
    refine ⟨_, rfl, p, ys, rfl, SqL.of (Ex.new hl2 _ _ h1), fun c1 hc1 => ?_⟩
    obtain ⟨ks, dk, ek⟩ := drawn_cut (all := kindsL) (by decide +kernel) i1 i3 perm (by decide +kernel)
    rw [ek]
    have x3 := x2.trans (Ex.new (o := HO.lst (ks.map V.str)) hc1)
    have g1 : upd (upd H1 l2 (.lst [.int 1, .int 2, .int 2, .int 3])) c1 (.lst (ks.map V.str)) c1 = some (.lst (ks.map V.str)) := upd_same
    generalize upd (upd H1 l2 (.lst [.int 1, .int 2, .int 2, .int 3])) c1 (.lst (ks.map V.str)) = H3 at x3 g1 ⊢
    refine ⟨_, rfl, (by show 3 ≤ sizeLine; decide), fun l3 hl3 => ⟨a, l3, _, rfl, Ex.new hl3 _ _ (x3 _ _ ha), .inl (SqL.of upd_same), (by decide), fun ys2 p2 H4 perm2 e4 h4 => ?_⟩⟩
    have y4 : Ex H3 H4 := (Ex.new hl3).trans e4
    have x4 := x3.trans y4
    refine ⟨_, rfl, (by show 3 ≤ sizeLine; decide), fun l4 hl4 => ⟨a, l4, _, rfl, Ex.new hl4 _ _ (x4 _ _ ha), .inl (SqL.of upd_same), (by decide), (by decide), fun x hx => ?_⟩⟩
    obtain ⟨j, rfl, j1, j3⟩ : ∃ j : Nat, x = .int (j : Int) ∧ 1 ≤ j ∧ j ≤ 2 := by
      rcases List.mem_cons.mp hx with rfl | hx
      · exact ⟨1, rfl, by omega, by omega⟩
      rcases List.mem_cons.mp hx with rfl | hx
      · exact ⟨1, rfl, by omega, by omega⟩
      rcases List.mem_cons.mp hx with rfl | hx
      · exact ⟨2, rfl, by omega, by omega⟩
      · cases hx
    refine ⟨_, rfl, p2, ys2, rfl, SqL.of (Ex.new hl4 _ _ h4), fun c2 hc2 => ?_⟩
    obtain ⟨ws, dw, ew⟩ := drawn_cut (all := wordsL) (by decide +kernel) j1 j3 perm2 (by decide +kernel)
    rw [ew]
    have y5 := (y4.trans (Ex.new (o := HO.lst [.int 1, .int 1, .int 2]) hl4)).trans (Ex.new (o := HO.lst (ws.map V.str)) hc2)
    have g2 : upd (upd H4 l4 (.lst [.int 1, .int 1, .int 2])) c2 (.lst (ws.map V.str)) c2 = some (.lst (ws.map V.str)) := upd_same
    generalize upd (upd H4 l4 (.lst [.int 1, .int 1, .int 2])) c2 (.lst (ws.map V.str)) = H5 at y5 g2 ⊢
    refine ⟨_, rfl, c1, _, rfl, .inl ⟨SqL.of (y5 _ _ g1), fun t1 ht1 => ⟨_, rfl, c2, _, rfl, .inl ⟨SqL.of (Ex.new ht1 _ _ g2), fun t2 ht2 => ⟨by show 2 ≤ sizeLine; decide, fun r hr => ?_⟩⟩⟩⟩⟩
    have y6 := ((Ex.new (o := HO.tup (ks.map V.str)) ht1).trans (Ex.new (o := HO.tup (ws.map V.str)) ht2))
    have y7 := y6.trans (Ex.new (o := HO.tup [V.ref t1, V.ref t2]) hr)
    exact q _ r t1 t2 ks ws ((x3.trans y5).trans y7) upd_same (((Ex.new ht2).trans (Ex.new hr)) _ _ upd_same) (Ex.new hr _ _ upd_same) dk dw
/-- ties of some posts and words, each once -/
structure TiesIn (ns : List Int) (zs : List Str) (ts : List Tie) : Prop where
  nd : ts.Nodup
  mem : ∀ t ∈ ts, t.a ∈ ns ∧ t.b ∈ zs ∧ t.c ∈ ns
def spTiesL (K : PySem.W.Frag) : Sp := fun vs H Q _ => ∃ (a l m : Addr) (ns : List Int) (zs : List Str) (k : Int), vs = [.ref a, .ref l, .ref m, .int k] ∧ H a = some (diceO a) ∧ SqL K H l (ns.map V.int) ∧ RowS K H m zs ∧ ns.length ≤ 100 ∧ 0 < zs.length ∧ zs.length ≤ 100 ∧ 0 ≤ k ∧ k ≤ 100 ∧
  ∀ H' p xs ts, Ex H H' → H p = none → H' p = some (.lst xs) → Paired (TieV H') xs ts → TiesIn ns zs ts → (ts.length : Int) ≤ k → Q (.ref p) H'
theorem ok_law_ties (T : Txt K mg AA) : FnOk P w K mg base CX0 3 AA.a_law_ties AA.d_law_ties ["_law_dice_here", "_law_posts", "_law_words", "_law_much"] (spTiesL K) := by
  have G_law_one_of : FnOk P w K mg base CX0 2 AA.a_law_one_of AA.d_law_one_of ["_law_dice_here", "_law_items"] (spOne K) := ok_law_one_of T
  have G_law_roll : FnOk P w K mg base CX0 1 AA.a_law_roll AA.d_law_roll ["_law_dice_here", "_law_total"] spRoll := ok_law_roll T
  refine T.F_law_ties.ok sc_law_ties (fun vs H Q E h => ?_) (fun cdv A outer s H vs Q E hr h => ?_)
  · obtain ⟨a, l, m, ns, zs, k, rfl, _⟩ := h
    rfl
  · obtain ⟨a, l, m, ns, zs, k, rfl, ha, hl, hm, n1, z0, z1, k0, k1, q⟩ := h
    have hu : _ + 64 < cLine := hu64 hr
    refine ⟨_, (pss_cons (ps_set (i := 4) sc_law_ties.nd rfl (Or.inl rfl) (pe_lst pa_nil))
    (pss_cons (ps_for PassesOwn.never rfl (pi_range1 rfl T.n_range (pa_cons (pe_ifExp (pt_cmpR op_gt (pe_callB call_len_seq (by rfl) T.n_len (by decide +kernel) (pa_cons (pv 1) pa_nil)) pe_int (nomark _)) (pe_call G_law_roll (hr.mono (by decide)) (by rfl) T.g_law_roll T.k_law_roll T.b_law_roll .nil pass0 (pa_cons (pv 0) (pa_cons (pe_op op_add (pv 3) pe_int) pa_nil))) pe_int) pa_nil)) (pg_name (i := 5) sc_law_ties.nd rfl (Or.inl rfl))
      (pss_cons (ps_set (i := 6) sc_law_ties.nd rfl (Or.inl rfl) (pe_tup (pa_cons (pe_call G_law_one_of (hr.mono (by decide)) (by rfl) T.g_law_one_of T.k_law_one_of T.b_law_one_of .nil pass0 (pa_cons (pv 0) (pa_cons (pv 1) pa_nil))) (pa_cons (pe_call G_law_one_of (hr.mono (by decide)) (by rfl) T.g_law_one_of T.k_law_one_of T.b_law_one_of .nil pass0 (pa_cons (pv 0) (pa_cons (pv 2) pa_nil))) (pa_cons (pe_call G_law_one_of (hr.mono (by decide)) (by rfl) T.g_law_one_of T.k_law_one_of T.b_law_one_of .nil pass0 (pa_cons (pv 0) (pa_cons (pv 1) pa_nil))) pa_nil)))))
    (pss_one (ps_if (pt_cmpR (op_notInP (K := K) rfl hu) (pv 6) (pv 4) rfl) (pss_one (ps_expr (pe_bm PySem.F.plainAttrs_list PySem.F.slot_list_append PySem.F.type_list_append mt_append (pv 4) (pa_cons (pv 6) pa_nil)))) pss_nil))))
    (pss_one (ps_ret (pv 4))))), ?_⟩
    refine ⟨(by show 0 ≤ sizeLine; decide), fun p hp => ?_⟩
    have x0 : Ex H (upd H p (.lst [])) := Ex.new hp
    have g0 : upd H p (.lst []) p = some (.lst []) := upd_same
    generalize upd H p (.lst []) = H0 at x0 g0 ⊢
    refine ⟨_, rfl, l, _, rfl, .inl (ex_l x0 hl), _, _, rfl, rfl, _, rfl, ?_⟩
    by_cases c : ((ns.map V.int).length : Int) > 0
    · refine if_t (decide_eq_true c) ⟨_, rfl, _, rfl, _, _, rfl, rfl, a, _, rfl, x0 _ _ ha, by omega, by omega, fun r r0 r1 => ⟨r, rfl, by omega, by omega, ?_⟩⟩
      refine for_range (fun i σ J => ∃ (v5 v6 : Option V) (xs : List V) (ts : List Tie), σ = [some (.ref a), some (.ref l), some (.ref m), some (.int k), some (.ref p), v5, v6] ∧ Ex H J ∧ J p = some (.lst xs) ∧ Paired (TieV J) xs ts ∧ TiesIn ns zs ts ∧ ts.length ≤ i) ⟨none, none, [], [], rfl, x0, g0, .nil, ⟨List.nodup_nil, fun _ h => nomatch h⟩, Nat.le_refl _⟩ ?_ ?_
      · rintro i σ J hi ⟨v5, v6, xs, ts, rfl, b1, b2, b3, b4, b5⟩
        have da := b1 _ _ ha
        have hl1 := ex_l b1 hl
        have hm1 : RowS K J m zs := hm.imp (ex_l b1) (ex_t b1)
        refine ⟨_, rfl, _, rfl, a, l, _, rfl, da, .inl hl1, by omega, by rw [List.length_map]; omega, fun x1 hx1 => ⟨_, rfl, _, rfl, a, m, _, rfl, da, hm1, by rw [List.length_map]; omega, by rw [List.length_map]; omega, fun x2 hx2 => ⟨_, rfl, _, rfl, a, l, _, rfl, da, .inl hl1, by omega, by rw [List.length_map]; omega, fun x3 hx3 => ?_⟩⟩⟩
        obtain ⟨s1, hs1, rfl⟩ := List.mem_map.mp hx1
        obtain ⟨s2, hs2, rfl⟩ := List.mem_map.mp hx2
        obtain ⟨s3, hs3, rfl⟩ := List.mem_map.mp hx3
        refine ⟨(by show 3 ≤ sizeLine; decide), fun t nt => ?_⟩
        have z1 : Ex J (upd J t (.tup [.int s1, .str s2, .int s3])) := Ex.new nt
        have gt : TieV (upd J t (.tup [.int s1, .str s2, .int s3])) (.ref t) ⟨s1, s2, s3⟩ := ⟨t, rfl, upd_same⟩
        generalize upd J t (.tup [.int s1, .str s2, .int s3]) = J6 at z1 gt ⊢
        have c3 := z1 _ _ b2
        have lx := paired_len b3
        refine ⟨_, rfl, _, rfl, notInLP gt.hd (SqL.of c3) (ties_hd (ties_ex b3 z1)) ⟨_, rfl, ?_⟩⟩
        by_cases ci : (⟨s1, s2, s3⟩ : Tie) ∈ ts
        · exact if_f (by rw [decide_eq_true ci]; rfl) ⟨_, _, xs, ts, rfl, b1.trans z1, c3, ties_ex b3 z1, b4, by omega⟩
        · refine if_t (by rw [decide_eq_false ci]; rfl) ⟨_, rfl, .inl ⟨rfl, _, SqL.of c3⟩, _, rfl, p, _, _, rfl, rfl, c3, len_lt (by omega), ?_⟩
          refine ⟨_, _, xs ++ [.ref t], ts ++ [⟨s1, s2, s3⟩], rfl, Ex.mut (b1.trans z1) hp, upd_same, paired_app (paired_imp (fun _ _ y => (TieV.ex y z1).put c3) b3) (.cons (gt.put c3) .nil), ⟨?_, ?_⟩, by rw [List.length_append]; show ts.length + 1 ≤ i + 1; omega⟩
          · rw [List.nodup_append]
            exact ⟨b4.nd, List.nodup_cons.mpr ⟨(fun z => nomatch z), List.nodup_nil⟩, fun x hx y hy e => ci (by rw [List.mem_singleton] at hy; rw [← hy, ← e]; exact hx)⟩
          · intro t1 ht1
            rcases List.mem_append.mp ht1 with h | h
            · exact b4.mem t1 h
            · rw [List.mem_singleton] at h
              subst h
              exact ⟨hs1, hs2, hs3⟩
      · rintro σ J ⟨v5, v6, xs, ts, rfl, b1, b2, b3, b4, b5⟩
        exact ⟨_, rfl, q J p xs ts b1 hp b2 b3 b4 (by omega)⟩
    · refine if_f (decide_eq_false c) ⟨0, rfl, by decide, by decide, ?_⟩
      refine for_range (fun i σ J => ∃ (v5 v6 : Option V) (xs : List V) (ts : List Tie), σ = [some (.ref a), some (.ref l), some (.ref m), some (.int k), some (.ref p), v5, v6] ∧ Ex H J ∧ J p = some (.lst xs) ∧ Paired (TieV J) xs ts ∧ TiesIn ns zs ts ∧ ts.length ≤ i) ⟨none, none, [], [], rfl, x0, g0, .nil, ⟨List.nodup_nil, fun _ h => nomatch h⟩, Nat.le_refl _⟩ (fun i σ J hi => absurd hi (Nat.not_lt_zero i)) ?_
      rintro σ J ⟨v5, v6, xs, ts, rfl, b1, b2, b3, b4, b5⟩
      exact ⟨_, rfl, q J p xs ts b1 hp b2 b3 b4 (by have : ts.length ≤ 0 := b5; omega)⟩
end
end K2
namespace K2
open PySem L2 Kd Evl Ks Kt Ky
open PySem.W (Datum DatumOrd T3)
theorem let_ok : ∀ c ∈ LET, c < 0x110000 := by decide +kernel
theorem name_ok {z : Str} (h : isName z = true) : PyData.strOk z = true := by
  have h1 := (Bool.and_eq_true_iff.mp h).2
  unfold PyData.strOk
  rw [Array.all_eq_true']
  intro c hc
  have h2 := List.all_eq_true.mp h1 c (by simpa using hc)
  exact decide_eq_true (let_ok c (of_decide_eq_true h2))
def namesD (zs : List Str) : PyData := .tuple (zs.map .str)
theorem strs_names : ∀ zs : List Str, strsOf (zs.map PyData.str) = zs
  | [] => rfl
  | z :: zs => congrArg (z :: ·) (strs_names zs)
theorem all_names : ∀ zs : List Str, (zs.map PyData.str).all isNameD = zs.all isName
  | [] => rfl
  | z :: zs => by
    rw [List.map_cons, List.all_cons, List.all_cons, all_names zs]
    rfl
/-- names that a sheet takes -/
structure Nm (zs : List Str) (m : Nat) : Prop where
  lo : 1 ≤ zs.length
  hi : zs.length ≤ m
  nm : ∀ z ∈ zs, isName z = true
  nd : zs.Nodup
theorem Nm.are {zs : List Str} {m : Nat} (h : Nm zs m) : areNamesD (namesD zs) m = true := by
  have e1 : ((zs.map PyData.str).length : Int) = (zs.length : Int) := by rw [List.length_map]
  have e2 : (uniq (zs.map fun z => (Sum.inr z : Key))).length = zs.length := by
    have hn : (zs.map fun z => (Sum.inr z : Key)).Nodup := List.pairwise_map.mpr (h.nd.imp fun q z => q (Sum.inr.inj z))
    rw [(len_eq_uniq _).mpr hn, List.length_map]
  show (((decide (1 ≤ ((zs.map PyData.str).length : Int)) && decide (((zs.map PyData.str).length : Int) ≤ (m : Int))) && (zs.map PyData.str).all isNameD) && decide ((uniq ((strsOf (zs.map PyData.str)).map fun z => (Sum.inr z : Key))).length = (zs.map PyData.str).length)) = true
  rw [strs_names, e2, all_names, List.all_eq_true.mpr h.nm, List.length_map]
  have a1 := h.lo
  have a2 := h.hi
  rw [decide_eq_true (by omega), decide_eq_true (by omega), decide_eq_true rfl]
  rfl
theorem Nm.few {zs : List Str} {m : Nat} (h : Nm zs m) (hm : m ≤ 3) : fewD (namesD zs) := fun ds e => by
  cases e
  rw [List.length_map]
  have a2 := h.hi
  refine ⟨by omega, fun x hx => ?_⟩
  obtain ⟨z, hz, rfl⟩ := List.mem_map.mp hx
  intro y e
  cases e
  have b := h.nm z hz
  refine ⟨?_, name_ok b⟩
  have b1 := of_decide_eq_true (Bool.and_eq_true_iff.mp (Bool.and_eq_true_iff.mp b).1).2
  omega
theorem Nm.ok {zs : List Str} {m : Nat} (h : Nm zs m) : OkS zs := fun z hz => name_ok (h.nm z hz)
theorem Nm.perm {zs ys : List Str} {m : Nat} (h : Nm zs m) (p : ys.Perm zs) : Nm ys m := ⟨by rw [p.length_eq]; exact h.lo, by rw [p.length_eq]; exact h.hi, fun z hz => h.nm z (p.mem_iff.mp hz), p.nodup_iff.mpr h.nd⟩
theorem Nm.le {zs : List Str} {m n : Nat} (h : Nm zs m) (hm : m ≤ n) : Nm zs n := ⟨h.lo, Nat.le_trans h.hi hm, h.nm, h.nd⟩
theorem Nm.take {zs : List Str} {m : Nat} (h : Nm zs m) {k : Nat} (hk : 1 ≤ k) : Nm (zs.take k) k := by
  have a := h.lo
  refine ⟨by rw [List.length_take]; omega, by rw [List.length_take]; omega, fun z hz => h.nm z (List.mem_of_mem_take hz), h.nd.sublist (List.take_sublist _ _)⟩
theorem dv_names {K : PySem.W.Frag} {H : Hp} {a : Addr} {zs : List Str} (h : SqT K H a (zs.map V.str)) : Dv K H (.ref a) (namesD zs) := .inl (.tup h (dpAll_strs zs))
theorem strsD_names (zs : List Str) : strsD (namesD zs) = zs := strs_names zs
theorem mk_ok {K : PySem.W.Frag} {AA : Ads} {H1 : Hp} {k w : V} {kz wz : List Str} {Qx : Addr → Hp → Prop} {E : XK} (hk : Dv K H1 k (namesD kz)) (hw : Dv K H1 w (namesD wz)) (nk : Nm kz 3) (nw : Nm wz 2)
    (q : ∀ x H2 ks ws, Ex H1 H2 → IsSort kz ks → IsSort wz ws → SheetAt AA.C_Sheet H2 x ks ws → Qx x H2) :
    ∀ x dx, H1 x = none → H1 dx = none → dx ≠ x → spInit K AA (.ref x :: ([k, w] ++ [])) (upd (upd H1 dx (.own x)) x (.ins AA.C_Sheet dx [])) (fun v H2 => v = .non ∧ Qx x H2) E := by
  intro x dx nx nd ne
  have e := made_ex (C := AA.C_Sheet) nx nd ne
  have hg : (areNamesD (namesD kz) ((3 : Nat) : Int) && areNamesD (namesD wz) ((2 : Nat) : Int)) = true := by
    rw [nk.are, nw.are]
    rfl
  refine ⟨x, dx, k, w, namesD kz, namesD wz, rfl, upd_same, dv_ex e hk, dv_ex e hw, nk.few (by decide), nw.few (by decide), fun _ ks ws H2 s1 s2 eb hs => ⟨rfl, ?_⟩, fun hb => ?_⟩
  · rw [strsD_names] at s1 s2
    exact q x H2 ks ws (but_ex e nx eb) s1 s2 hs
  · have hb' : (areNamesD (namesD kz) ((3 : Nat) : Int) && areNamesD (namesD wz) ((2 : Nat) : Int)) = false := hb
    rw [hg] at hb'
    cases hb'
theorem nodup_leA {α : Type} [DecidableEq α] : ∀ {xs zs : List α}, xs.Nodup → (∀ x ∈ xs, x ∈ zs) → xs.length ≤ zs.length
  | [], _, _, _ => Nat.zero_le _
  | x :: xs, zs, nd, sub => by
    obtain ⟨n1, n2⟩ := List.nodup_cons.mp nd
    have hx : x ∈ zs := sub x List.mem_cons_self
    have ih := nodup_leA (xs := xs) (zs := zs.erase x) n2 fun y hy => (List.mem_erase_of_ne (show y ≠ x from fun z => n1 (by rw [← z]; exact hy))).mpr (sub y (List.mem_cons_of_mem _ hy))
    rw [List.length_erase_of_mem hx] at ih
    have := List.length_pos_of_mem hx
    rw [List.length_cons]
    omega
theorem nm_drawn {all zs : List Str} {m : Nat} (h : Drawn all m zs) (ok : ∀ z ∈ all, isName z = true) : Nm zs m := ⟨h.pos, h.le, fun z hz => ok z (h.mem z hz), h.nd⟩
theorem kinds_ok : ∀ z ∈ kindsL, isName z = true := by decide +kernel
theorem words_ok : ∀ z ∈ wordsL, isName z = true := by decide +kernel
end K2
namespace K2
open PySem L2 Kd Evl Ks Kt Ky
open PySem.W (Datum DatumOrd T3)
theorem upto_lt {n : Nat} {i : Int} (h : i ∈ upto n) : i < n := by
  obtain ⟨k, hk, rfl⟩ := List.mem_map.mp h
  have := List.mem_range.mp hk
  omega
section
variable {P : Program} {w : World} {K : PySem.W.Frag} {mg : Str → Option Value} {base : Heap} {AA : Ads}
def spWebL (K : PySem.W.Frag) : Sp := fun vs H Q _ => ∃ (a lk lw : Addr) (ks ws : List Str), vs = [.ref a, .ref lk, .ref lw, .int 7] ∧ H a = some (diceO a) ∧ SqT K H lk (ks.map V.str) ∧ SqT K H lw (ws.map V.str) ∧ 0 < ks.length ∧ ks.length ≤ 100 ∧ 0 < ws.length ∧ ws.length ≤ 100 ∧
  ∀ H' p d l ps xs ts, Ex H H' → H' p = some (.lst [.ref d, .ref l]) → H' d = some (.dK (kvP ps)) → H' l = some (.lst xs) → Paired (TieV H') xs ts → (numsP ps).Nodup → ps.length ≤ 7 → (∀ p ∈ ps, (0 ≤ p.1 ∧ p.1 < 100) ∧ p.2 ∈ ks) → TiesIn (numsP ps) ws ts → ts.length ≤ 14 → Q (.ref p) H'
theorem ok_law_web (T : Txt K mg AA) : FnOk P w K mg base CX0 4 AA.a_law_web AA.d_law_web ["_law_dice_here", "_law_kinds", "_law_words", "_law_most"] (spWebL K) := by
  have G_law_roll : FnOk P w K mg base CX0 1 AA.a_law_roll AA.d_law_roll ["_law_dice_here", "_law_total"] spRoll := ok_law_roll T
  have G_law_one_of : FnOk P w K mg base CX0 2 AA.a_law_one_of AA.d_law_one_of ["_law_dice_here", "_law_items"] (spOne K) := ok_law_one_of T
  have G_law_ties : FnOk P w K mg base CX0 3 AA.a_law_ties AA.d_law_ties ["_law_dice_here", "_law_posts", "_law_words", "_law_much"] (spTiesL K) := ok_law_ties T
  refine T.F_law_web.ok sc_law_web (fun vs H Q E h => ?_) (fun cdv A outer s H vs Q E hr h => ?_)
  · obtain ⟨a, lk, lw, ks, ws, rfl, _⟩ := h
    rfl
  obtain ⟨a, lk, lw, ks, ws, rfl, ha, hk, hw, k0, k1, w0, w1, q⟩ := h
  refine ⟨_, (pss_cons (ps_set (i := 4) sc_law_web.nd rfl (Or.inl rfl) (pe_listRg rfl (by rfl) T.n_list (prg_1 (by rfl) T.n_range (pe_call G_law_roll (hr.mono (by decide)) (by rfl) T.g_law_roll T.k_law_roll T.b_law_roll .nil pass0 (pa_cons (pv 0) (pa_cons (pe_op op_add (pv 3) pe_int) pa_nil))))))
    (pss_cons (ps_join (ps_if (pt_cmpR op_eq (pe_call G_law_roll (hr.mono (by decide)) (by rfl) T.g_law_roll T.k_law_roll T.b_law_roll .nil pass0 (pa_cons (pv 0) (pa_cons pe_int pa_nil))) pe_int (nomark _)) (pss_one (ps_setLc (i := 4) (own := [("_law_number", 6)]) (g := gName 6) rfl sc_law_web.nd rfl rfl (sw_true rfl rfl rfl (by decide +kernel)) (pi_list (pv 4)) (blkOk_by (N := N_law_web) (sc := defScope s_law_web) (by decide +kernel)) (fun _ _ _ _ _ => (pg_name (i := 6) sc_law_web.nd rfl (Or.inl rfl))) (fun _ _ _ _ _ => pts_nil) (fun _ _ _ _ _ => by exact (pe_op op_add (pe_op op_mul pe_int (pv 6)) pe_int)))) pss_nil))
    (pss_cons (ps_set (i := 5) sc_law_web.nd rfl (Or.inl rfl) (pe_callTy (call_dictP rfl) (by rfl) T.n_dict (by decide +kernel) (pa_cons (pe_lc (own := [("_law_number", 6)]) (g := gName 6) rfl sc_law_web.nd  (pi_list (pv 4)) (blkOk_by (N := N_law_web) (sc := defScope s_law_web) (by decide +kernel)) (fun _ _ _ _ _ => (pg_name (i := 6) sc_law_web.nd rfl (Or.inl rfl))) (fun _ _ _ _ _ => pts_nil) (fun _ _ _ _ _ => by exact (pe_tup (pa_cons (pv 6) (pa_cons (pe_call G_law_one_of (hr.mono (by decide)) (by rfl) T.g_law_one_of T.k_law_one_of T.b_law_one_of .nil pass0 (pa_cons (pv 0) (pa_cons (pv 1) pa_nil))) pa_nil))))) pa_nil)))
    (pss_one (ps_ret (pe_lst (pa_cons (pv 5) (pa_cons (pe_call G_law_ties (hr.mono (by decide)) (by rfl) T.g_law_ties T.k_law_ties T.b_law_ties .nil pass0 (pa_cons (pv 0) (pa_cons (pv 4) (pa_cons (pv 2) (pa_cons (pe_op op_mul pe_int (pe_callB call_len_seq (by rfl) T.n_len (by decide +kernel) (pa_cons (pv 4) pa_nil))) pa_nil))))) pa_nil)))))))), ?_⟩
  refine ⟨_, rfl, _, rfl, _, _, rfl, rfl, a, _, rfl, ha, by decide, by decide, fun r r0 r1 => ⟨r, rfl, RgOk.of_le (by decide) (by omega) (by decide) (by omega), fun p hp => ?_⟩⟩
  obtain ⟨n, rfl⟩ : ∃ n : Nat, r = (n : Int) := ⟨r.toNat, by omega⟩
  rw [rgV_upto]
  have e1 : Ex H (upd H p (.lst ((upto n).map V.int))) := Ex.new hp
  have gp : upd H p (.lst ((upto n).map V.int)) p = some (.lst ((upto n).map V.int)) := upd_same
  generalize upd H p (.lst ((upto n).map V.int)) = H1 at e1 gp ⊢
  refine ⟨fun σ J => ∃ (p : Addr) (ns : List Int), σ = [some (.ref a), some (.ref lk), some (.ref lw), some (.int 7), some (.ref p), none, none] ∧ Ex H J ∧ J p = some (.lst (ns.map V.int)) ∧ ns.Nodup ∧ ns.length ≤ 7 ∧ ∀ i ∈ ns, 0 ≤ i ∧ i < 100, ?_, ?_⟩
  · refine ⟨_, rfl, a, _, rfl, e1 _ _ ha, by decide, by decide, fun r2 _ _ => ⟨rfl, _, rfl, ?_⟩⟩
    by_cases c : V.int r2 = V.int 0
    · refine if_t (decide_eq_true c) ⟨_, rfl, p, rfl, ⟨_, SqL.of gp⟩, fun D hD => lc_list (K := K) (a := p) (xs := (upto n).map V.int) (fun i J => Ex H1 J ∧ J D = some (.lst (((upto n).take i).map fun i => V.int (2 * i + 1)))) ⟨Ex.mut (Ex.refl _) hD, upd_same⟩ (fun i J _ h => SqL.of (h.1 _ _ gp)) ?_ ?_⟩
      · rintro i x J hx ⟨e, hJ⟩
        rw [List.getElem?_map] at hx
        obtain ⟨m, hm, rfl⟩ := Option.map_eq_some_iff.mp hx
        refine ⟨rfl, ?_⟩
        unfold tYes
        dsimp only
        rw [if_pos rfl]
        refine ⟨_, rfl, _, _, rfl, rfl, .inl (by decide), _, _, rfl, rfl, _, hJ, ?_, Ex.mut e hD, ?_⟩
        · rw [List.length_map, List.length_take, upto_len]
          exact len_lt (by omega)
        · rw [upd_same, List.take_add_one, hm, List.map_append]
          rfl
      · rintro J ⟨e, hJ⟩
        rw [List.length_map, List.take_of_length_le (Nat.le_refl _)] at hJ
        refine ⟨D, (upto n).map fun i => 2 * i + 1, rfl, e1.trans e, by rw [hJ, List.map_map]; rfl, ?_, by rw [List.length_map, upto_len]; omega, fun i hi => ?_⟩
        · rw [List.nodup_iff_pairwise_ne, List.pairwise_map]
          exact (List.nodup_iff_pairwise_ne.mp (upto_nd n)).imp fun h z => h (by omega)
        · obtain ⟨m, hm, rfl⟩ := List.mem_map.mp hi
          have := upto_nn hm
          have := upto_lt hm
          constructor <;> omega
    · exact if_f (decide_eq_false c) ⟨p, upto n, rfl, e1, gp, upto_nd n, by rw [upto_len]; omega, fun i hi => ⟨upto_nn hi, by have := upto_lt hi; omega⟩⟩
  rintro σ J ⟨p, ns, rfl, e2, gp, nd, len, nn⟩
  clear e1
  refine ⟨_, rfl, p, rfl, ⟨_, SqL.of gp⟩, fun D hD => lc_list (K := K) (a := p) (xs := ns.map V.int) (fun i G => ∃ (bs : List Addr) (ps : Posts), G D = some (.lst (bs.map V.ref)) ∧ PairsAt G bs (kvP ps) ∧ numsP ps = ns.take i ∧ (∀ p ∈ ps, p.2 ∈ ks) ∧ Ex J G)
    ⟨[], [], upd_same, .nil, rfl, (fun _ z => nomatch z), Ex.mut (Ex.refl _) hD⟩ (fun i G _ ⟨_, _, _, _, _, _, e⟩ => SqL.of (e _ _ gp)) ?_ ?_⟩
  · rintro i x G hx ⟨bs, ps, h1, h2, h3, h4, e⟩
    rw [List.getElem?_map] at hx
    obtain ⟨m, hm, rfl⟩ := Option.map_eq_some_iff.mp hx
    have lbs : bs.length ≤ 7 := by
      have := Paired.length h2
      rw [kvP_len, ← numsP_len, h3, List.length_take] at this
      omega
    have x2 := e2.trans e
    refine ⟨rfl, ?_⟩
    unfold tYes
    dsimp only
    rw [if_pos rfl]
    refine ⟨_, rfl, _, rfl, _, rfl, a, lk, _, rfl, x2 _ _ ha, .inr (ex_t x2 hk), by rw [List.length_map]; exact k0, by rw [List.length_map]; omega, fun y hy => ⟨(by show 2 ≤ sizeLine; decide), fun t nt => ?_⟩⟩
    obtain ⟨z, hz, rfl⟩ := List.mem_map.mp hy
    have y3 : Ex G (upd G t (.tup [.int m, .str z])) := Ex.new nt
    have g3 : upd G t (.tup [.int m, .str z]) t = some (.tup [.int m, .str z]) := upd_same
    generalize upd G t (.tup [.int m, .str z]) = G3 at y3 g3 ⊢
    refine ⟨_, y3 _ _ h1, len_lt (by rw [List.length_map]; omega), bs ++ [t], ps ++ [(m, z)], by rw [upd_same, List.map_append]; rfl, ?_, ?_, fun p hp => ?_, Ex.mut (e.trans y3) hD⟩
    · rw [kvP_snoc]
      exact pair_put (y3 _ _ h1) (pair_snoc (pair_ex y3 h2) g3)
    · rw [numsP_snoc, h3, List.take_add_one, hm]
      rfl
    · rcases List.mem_append.mp hp with hp | hp
      · exact h4 p hp
      · rw [List.mem_singleton.mp hp]
        exact hz
  rintro G ⟨bs, ps, h1, h2, h3, h4, e⟩
  rw [List.length_map, List.take_length] at h3
  refine ⟨D, bs, kvP ps, rfl, SqL.of h1, pair_sq h2, fun d nd2 => ?_⟩
  rw [merge_kvP (by rw [h3]; exact nd)]
  have y1 : Ex G (upd G d (.dK (kvP ps))) := Ex.new nd2
  have gd : upd G d (.dK (kvP ps)) d = some (.dK (kvP ps)) := upd_same
  generalize upd G d (.dK (kvP ps)) = G4 at y1 gd ⊢
  have x4 : Ex J G4 := e.trans y1
  have xH : Ex H G4 := e2.trans x4
  have lps : ps.length = ns.length := by rw [← numsP_len, h3]
  refine ⟨_, rfl, _, rfl, _, rfl, _, rfl, _, rfl, p, _, rfl, .inl (SqL.of (x4 _ _ gp)), _, _, rfl, rfl, .inl (by decide), a, p, lw, ns, ws, _, rfl, xH _ _ ha, SqL.of (x4 _ _ gp), .inr (ex_t xH hw), by omega, w0, w1, by omega, by rw [List.length_map]; omega, fun H' l xs ts e5 _ hl hx ti tl => ⟨(by show 2 ≤ sizeLine; decide), fun r hr => ?_⟩⟩
  rw [List.length_map] at tl
  have e6 : Ex H' (upd H' r (.lst [.ref d, .ref l])) := Ex.new hr
  refine q _ r d l ps xs ts ((xH.trans e5).trans e6) upd_same (e6 _ _ (e5 _ _ gd)) (e6 _ _ hl) (ties_ex hx e6) (by rw [h3]; exact nd) (by omega) (fun p hp => ⟨nn _ (by rw [← h3]; exact List.mem_map.mpr ⟨p, hp, rfl⟩), h4 p hp⟩) (by rw [h3]; exact ti) (by omega)
end
end K2
namespace K2
open PySem L2 Kd Evl Ks Kt Ky
open PySem.W (Datum DatumOrd T3)
def mvP (f : Int → Int) (ps : Posts) : Posts := ps.map fun p => (f p.1, p.2)
def mvT (f : Int → Int) (ts : List Tie) : List Tie := ts.map fun t => ⟨f t.a, t.b, f t.c⟩
theorem mvP_snoc (f : Int → Int) (ps : Posts) (p : Int × Str) : mvP f (ps ++ [p]) = mvP f ps ++ [(f p.1, p.2)] := by
  unfold mvP
  rw [List.map_append]
  rfl
theorem nums_mv (f : Int → Int) (ps : Posts) : numsP (mvP f ps) = (numsP ps).map f := by
  unfold numsP mvP
  rw [List.map_map, List.map_map]
  rfl
/-- a plain web [posts, ties] -/
def PlL (H : Hp) (p d l : Addr) (xs : List V) (ps : Posts) (ts : List Tie) : Prop := H p = some (.lst [.ref d, .ref l]) ∧ H d = some (.dK (kvP ps)) ∧ H l = some (.lst xs) ∧ Paired (TieV H) xs ts
theorem PlL.ex {H H' : Hp} {p d l : Addr} {xs : List V} {ps : Posts} {ts : List Tie} (h : PlL H p d l xs ps ts) (e : Ex H H') : PlL H' p d l xs ps ts := ⟨e _ _ h.1, e _ _ h.2.1, e _ _ h.2.2.1, ties_ex h.2.2.2 e⟩
structure Pl (kr wr : List Str) (ps : Posts) (ts : List Tie) : Prop where
  nd : (numsP ps).Nodup
  nn : ∀ p ∈ ps, 0 ≤ p.1 ∧ p.1 < 10000000000000
  kd : ∀ p ∈ ps, p.2 ∈ kr
  ti : TiesIn (numsP ps) wr ts
  few : ps.length ≤ 7
  tl : ts.length ≤ 14
theorem Pl.mv {kr wr : List Str} {ps : Posts} {ts : List Tie} (h : Pl kr wr ps ts) {mu : Int} (m0 : 0 ≤ mu) (m1 : mu ≤ 999999999900) (sm : ∀ p ∈ ps, p.1 < 100) : Pl kr wr (mvP (· + mu) ps) (mvT (· + mu) ts) where
  nd := by
    rw [nums_mv, List.nodup_iff_pairwise_ne, List.pairwise_map]
    exact (List.nodup_iff_pairwise_ne.mp h.nd).imp fun q z => q (by omega)
  nn := fun p hp => by
    obtain ⟨q, hq, rfl⟩ := List.mem_map.mp hp
    have a := h.nn q hq
    have b := sm q hq
    show 0 ≤ q.1 + mu ∧ q.1 + mu < 10000000000000
    omega
  kd := fun p hp => by
    obtain ⟨q, hq, rfl⟩ := List.mem_map.mp hp
    exact h.kd q hq
  ti := by
    refine ⟨?_, fun t ht => ?_⟩
    · show (List.map _ ts).Nodup
      rw [List.nodup_iff_pairwise_ne, List.pairwise_map]
      refine (List.nodup_iff_pairwise_ne.mp h.ti.nd).imp ?_
      intro x y q z
      apply q
      obtain ⟨a, b, c⟩ := x
      obtain ⟨a', b', c'⟩ := y
      injection z with z1 z2 z3
      dsimp only at z1 z2 z3
      have e1 : a = a' := by omega
      have e3 : c = c' := by omega
      rw [e1, z2, e3]
    · obtain ⟨q, hq, rfl⟩ := List.mem_map.mp ht
      obtain ⟨a, b, c⟩ := h.ti.mem q hq
      rw [nums_mv]
      exact ⟨List.mem_map.mpr ⟨_, a, rfl⟩, b, List.mem_map.mpr ⟨_, c, rfl⟩⟩
  few := by
    unfold mvP
    rw [List.length_map]
    exact h.few
  tl := by
    unfold mvT
    rw [List.length_map]
    exact h.tl
theorem pair_un {H' : Hp} {d : Addr} {o : Obj} {u : HO} (hd : H' d = some (.frz o u)) : ∀ {bs : List Addr} {kvs : List (Key × V)}, PairsAt H' bs kvs → PairsAt (upd H' d u) bs kvs
  | _, _, .nil => .nil
  | _, _, .cons h t => .cons (un_at hd h (fun _ _ z => by cases z)) (pair_un hd t)
theorem next_max {os : List Int} {m : Int} (nn : ∀ o ∈ os, 0 ≤ o) (h1 : m ∈ os ++ [-1]) (h2 : ∀ y ∈ os ++ [-1], y ≤ m) : m + 1 = nextOf os := by
  rcases List.mem_append.mp h1 with h | h
  · rw [nextOf_max h (fun z hz => h2 z (List.mem_append.mpr (.inl hz))) (nn m h)]
  · have e := List.mem_singleton.mp h
    subst e
    have z : nextOf os ≤ 0 := nextOf_le (fun o ho => by have := nn o ho; have := h2 o (List.mem_append.mpr (.inl ho)); omega) (Int.le_refl 0)
    have := nextOf_nn os
    omega
theorem Pl.next {kr wr : List Str} {ps : Posts} {ts : List Tie} (h : Pl kr wr ps ts) : 0 ≤ nextOf (numsP ps) ∧ nextOf (numsP ps) ≤ 10000000000000 := ⟨nextOf_nn _, nextOf_le (fun n hn => by
  obtain ⟨p, hp, rfl⟩ := List.mem_map.mp hn
  exact (h.nn p hp).2) (by decide)⟩
section
variable {P : Program} {w : World} {K : PySem.W.Frag} {mg : Str → Option Value} {base : Heap} {AA : Ads}
def spCase : Sp := fun vs H Q _ => ∃ (a : Addr), vs = [.ref a] ∧ H a = some (diceO a) ∧ ∀ H' r tk tw p d l xs kr wr ps ts o, Ex H H' → H' r = some (.tup [.ref tk, .ref tw, .ref p, .int (nextOf (numsP ps)), nv o]) → H' tk = some (.tup (kr.map V.str)) → H' tw = some (.tup (wr.map V.str)) →
  Drawn kindsL 3 kr → Drawn wordsL 2 wr → PlL H' p d l xs ps ts → Pl kr wr ps ts → (∀ n, o = some n → nextOf (numsP ps) ≤ n ∧ n ≤ nextOf (numsP ps) + 31) → Q (.ref r) H'
theorem ok_law_case (T : Txt K mg AA) : FnOk P w K mg base CX0 5 AA.a_law_case AA.d_law_case ["_law_dice_here"] spCase := by
  have G_law_roll : FnOk P w K mg base CX0 1 AA.a_law_roll AA.d_law_roll ["_law_dice_here", "_law_total"] spRoll := ok_law_roll T
  have G_law_one_of : FnOk P w K mg base CX0 2 AA.a_law_one_of AA.d_law_one_of ["_law_dice_here", "_law_items"] (spOne K) := ok_law_one_of T
  have G_law_sheet : FnOk P w K mg base CX0 3 AA.a_law_sheet AA.d_law_sheet ["_law_dice_here"] spSheetL := ok_law_sheet T
  have G_law_web : FnOk P w K mg base CX0 4 AA.a_law_web AA.d_law_web ["_law_dice_here", "_law_kinds", "_law_words", "_law_most"] (spWebL K) := ok_law_web T
  refine T.F_law_case.ok sc_law_case (fun vs H Q E h => ?_) (fun cdv A outer s H vs Q E hr h => ?_)
  · obtain ⟨a, rfl, _⟩ := h
    rfl
  obtain ⟨a, rfl, ha, q⟩ := h
  have hu : _ + 64 < cLine := hu64 hr
  have hu1 : _ + 1 < cLine := hu_of hr
  refine ⟨_, (pss_cons (ps_asg (pe_call G_law_sheet (hr.mono (by decide)) (by rfl) T.g_law_sheet T.k_law_sheet T.b_law_sheet .nil pass0 (pa_cons (pv 0) pa_nil)) (pg_tup rfl (pgs_cons (pg_name (i := 3) sc_law_case.nd rfl (Or.inl rfl)) (pgs_cons (pg_name (i := 4) sc_law_case.nd rfl (Or.inl rfl)) pgs_nil))))
    (pss_cons (ps_set (i := 1) sc_law_case.nd rfl (Or.inr rfl) (pe_call G_law_web (hr.mono (by decide)) (by rfl) T.g_law_web T.k_law_web T.b_law_web .nil pass0 (pa_cons (pv 0) (pa_cons (pv 3) (pa_cons (pv 4) (pa_cons pe_int pa_nil))))))
    (pss_cons (ps_join (ps_if (pt_cmpR op_eq (pe_call G_law_roll (hr.mono (by decide)) (by rfl) T.g_law_roll T.k_law_roll T.b_law_roll .nil pass0 (pa_cons (pv 0) (pa_cons pe_int pa_nil))) pe_int (nomark _)) (pss_cons (ps_set (i := 5) sc_law_case.nd rfl (Or.inr rfl) (pe_call G_law_one_of (hr.mono (by decide)) (by rfl) T.g_law_one_of T.k_law_one_of T.b_law_one_of .nil pass0 (pa_cons (pv 0) (pa_cons (pe_lst (pa_cons pe_int (pa_cons (pe_op op_pow pe_int pe_int) (pa_cons pe_int pa_nil)))) pa_nil))))
    (pss_cons (ps_set (i := 6) sc_law_case.nd rfl (Or.inl rfl) (pe_callTy (call_dictP rfl) (by rfl) T.n_dict (by decide +kernel) (pa_cons (pe_lock (pe_lc (own := [("_law_post", 7)]) (g := gName 7) rfl sc_law_case.nd  (pi_keys (pe_ix ix_list (pv 1) pe_int (fun _ _ => rfl))) (blkOk_by (N := N_law_case) (sc := defScope s_law_case) (by decide +kernel)) (fun _ _ _ _ _ => (pg_name (i := 7) sc_law_case.nd rfl (Or.inl rfl))) (fun _ _ _ _ _ => pts_nil) (fun _ _ _ _ _ => by exact (pe_tup (pa_cons (pe_op op_add (pv 7) (pv 5)) (pa_cons ((pe_dget hu1) (pe_ix (Kv.ix_list (K := K) rfl) (pv 1) pe_int (fun _ _ => rfl)) (pv 7) (fun _ _ => rfl)) pa_nil)))))) pa_nil)))
    (pss_one (ps_set (i := 1) sc_law_case.nd rfl (Or.inr rfl) (pe_lst (pa_cons (pv 6) (pa_cons (pe_lc (own := [("_law_one", 8), ("_law_word", 9), ("_law_other", 10)]) (g := gTup K 3 (gCons (gName 8) (gCons (gName 9) (gCons (gName 10) (gNil))))) rfl sc_law_case.nd  (pi_list (pe_ix ix_list (pv 1) pe_int (fun _ _ => rfl))) (blkOk_by (N := N_law_case) (sc := defScope s_law_case) (by decide +kernel)) (fun _ _ _ _ _ => by exact (pg_tup rfl (pgs_cons (pg_name (i := 8) sc_law_case.nd rfl (Or.inl rfl)) (pgs_cons (pg_name (i := 9) sc_law_case.nd rfl (Or.inl rfl)) (pgs_cons (pg_name (i := 10) sc_law_case.nd rfl (Or.inl rfl)) pgs_nil))))) (fun _ _ _ _ _ => pts_nil) (fun _ _ _ _ _ => by exact (pe_tup (pa_cons (pe_op op_add (pv 8) (pv 5)) (pa_cons (pv 9) (pa_cons (pe_op op_add (pv 10) (pv 5)) pa_nil)))))) pa_nil))))))) pss_nil))
    (pss_cons (ps_set (i := 2) sc_law_case.nd rfl (Or.inl rfl) (pe_op op_add (pe_callB (cr_max rfl) (by rfl) T.n_max (by decide +kernel) (pa_cons (pe_op op_cat (pe_callTy (call_listD rfl) (by rfl) T.n_list (by decide +kernel) (pa_cons (pe_ix ix_list (pv 1) pe_int (fun _ _ => rfl)) pa_nil)) (pe_lst (pa_cons (pe_un un_neg pe_int) pa_nil))) pa_nil)) pe_int))
    (pss_one (ps_ret (pe_tup (pa_cons (pv 3) (pa_cons (pv 4) (pa_cons (pv 1) (pa_cons (pv 2) (pa_cons (pe_call G_law_one_of (hr.mono (by decide)) (by rfl) T.g_law_one_of T.k_law_one_of T.b_law_one_of .nil pass0 (pa_cons (pv 0) (pa_cons (pe_lst (pa_cons pe_non (pa_cons pe_non (pa_cons (pv 2) (pa_cons (pe_op op_add (pe_op op_add (pv 2) pe_int) (pe_call G_law_roll (hr.mono (by decide)) (by rfl) T.g_law_roll T.k_law_roll T.b_law_roll .nil pass0 (pa_cons (pv 0) (pa_cons pe_int pa_nil)))) pa_nil))))) pa_nil))) pa_nil)))))))))))), ?_⟩
  refine ⟨_, rfl, a, rfl, ha, fun H1 tp tk tw kr wr e1 gtp gtk gtw dk dw => ⟨tp, _, rfl, SqT.of gtp, rfl, _, _, rfl, _, _, rfl, rfl, ?_⟩⟩
  have nK := nm_drawn dk kinds_ok
  have nW := nm_drawn dw words_ok
  have k0 := nK.lo
  have k1 := nK.hi
  have w0 := nW.lo
  have w1 := nW.hi
  refine ⟨_, rfl, _, rfl, _, rfl, a, tk, tw, kr, wr, rfl, e1 _ _ ha, SqT.of gtk, SqT.of gtw, by omega, by omega, by omega, by omega, fun H2 p d l ps xs ts e2 gp gd gl tv nd lps pok tin lts => ?_⟩
  have x2 := e1.trans e2
  replace gtk := e2 _ _ gtk
  replace gtw := e2 _ _ gtw
  have pl : Pl kr wr ps ts := ⟨nd, fun p hp => by have := (pok p hp).1; omega, fun p hp => (pok p hp).2, tin, by omega, by omega⟩
  refine ⟨fun σ J => ∃ (p d l : Addr) (xs : List V) (ps : Posts) (ts : List Tie) (v5 v6 : Option V), σ = [some (.ref a), some (.ref p), none, some (.ref tk), some (.ref tw), v5, v6, none, none, none, none] ∧ Ex H2 J ∧ PlL J p d l xs ps ts ∧ Pl kr wr ps ts, ?_, ?_⟩
  · refine ⟨_, rfl, a, _, rfl, x2 _ _ ha, by decide, by decide, fun r2 _ _ => ⟨rfl, _, rfl, ?_⟩⟩
    by_cases c : V.int r2 = V.int 0
    · refine if_t (decide_eq_true c) ?_
      refine ⟨_, rfl, _, _, rfl, rfl, ⟨by decide, by decide, by decide⟩, (by show 3 ≤ sizeLine; decide), fun lm nlm => ⟨a, lm, _, rfl, Ex.new nlm _ _ (x2 _ _ ha), .inl (SqL.of upd_same), (by decide), (by decide), fun x hx => ?_⟩⟩
      obtain ⟨mu, rfl, m0, m1⟩ : ∃ mu : Int, x = .int mu ∧ 0 ≤ mu ∧ mu ≤ 999999999900 := by
        rcases List.mem_cons.mp hx with rfl | hx
        · exact ⟨7, rfl, by decide, by decide⟩
        rcases List.mem_cons.mp hx with rfl | hx
        · exact ⟨_, rfl, by decide, by decide⟩
        rcases List.mem_cons.mp hx with rfl | hx
        · exact ⟨_, rfl, by decide, by decide⟩
        · cases hx
      have e3 : Ex H2 (upd H2 lm (.lst [.int 7, .int ((10 : Int) ^ (6 : Int).toNat), .int 999999999900])) := Ex.new nlm
      show _
      generalize upd H2 lm _ = H3 at e3 ⊢
      have x3 := x2.trans e3
      replace gd := e3 _ _ gd
      replace gp := e3 _ _ gp
      replace gl := e3 _ _ gl
      replace tv := ties_ex tv e3
      refine ⟨d, _, gd, trivial, fun od => ?_⟩
      have bp : upd H3 d (.frz od (.dK (kvP ps))) p = _ := lock_at gd gp (fun _ z => by cases z)
      have hL : upd H3 d (.frz od (.dK (kvP ps))) d = some (.frz od (.dK (kvP ps))) := upd_same
      have un : ∀ H2, Ex (upd H3 d (.frz od (.dK (kvP ps)))) H2 → Ex H3 (upd H2 d (.dK (kvP ps))) := fun H2 e => ex_unlock gd e
      generalize upd H3 d (.frz od (.dK (kvP ps))) = G at bp hL un ⊢
      refine ⟨_, rfl, p, _, 0, _, rfl, rfl, SqL.of bp, rfl, d, od, rfl, .inl ⟨_, hL, fun D hD => ?_⟩⟩
      refine lc_it walk_keys (fun i J => ∃ bs : List Addr, J D = some (.lst (bs.map V.ref)) ∧ PairsAt J bs (kvP (mvP (· + mu) (ps.take i))) ∧ Ex G J) ⟨[], upd_same, .nil, Ex.mut (Ex.refl _) hD⟩ (fun i J _ ⟨_, _, _, e⟩ => e _ _ hL) ?_ ?_
      · rintro i x J J' hi ⟨bs, h1, h2, e⟩ ⟨rfl, k, v, hkv, rfl⟩
        obtain ⟨p1, hp1, rfl, rfl⟩ := kvP_at hkv
        have ht1 : ps.take (i + 1) = ps.take i ++ [p1] := by rw [List.take_add_one, hp1]; rfl
        have lbs : bs.length ≤ 40 := by
          have := Paired.length h2
          rw [kvP_len] at this
          unfold mvP at this
          rw [List.length_map, List.length_take] at this
          omega
        refine ⟨rfl, ?_⟩
        unfold tYes
        dsimp only
        rw [if_pos rfl]
        refine ⟨_, rfl, _, rfl, _, _, rfl, rfl, _, rfl, p, _, 0, _, rfl, rfl, SqL.of (e _ _ bp), rfl, _, rfl, d, .str p1.2, rfl, .inl ⟨_, .inl p1.1, .inr ⟨od, e _ _ hL⟩, rfl, by rw [val_kvP, look_of pl.nd (List.mem_of_getElem? hp1)]; rfl⟩, (by show 2 ≤ sizeLine; decide), fun t nt => ?_⟩
        have y : Ex J' (upd J' t (.tup [.int (p1.1 + mu), .str p1.2])) := Ex.new nt
        have gt : upd J' t (.tup [.int (p1.1 + mu), .str p1.2]) t = some (.tup [.int (p1.1 + mu), .str p1.2]) := upd_same
        generalize upd J' t (.tup [.int (p1.1 + mu), .str p1.2]) = J2 at y gt ⊢
        refine ⟨_, y _ _ h1, len_lt (by rw [List.length_map]; omega), bs ++ [t], by rw [upd_same, List.map_append]; rfl, ?_, Ex.mut (e.trans y) hD⟩
        rw [ht1, mvP_snoc, kvP_snoc]
        exact pair_put (y _ _ h1) (pair_snoc (kv := (.inl (p1.1 + mu), .str p1.2)) (pair_ex y h2) gt)
      rintro J ⟨bs, h1, h2, e⟩
      rw [kvP_len, List.take_of_length_le (Nat.le_refl _)] at h2
      have hLJ := e _ _ hL
      refine ⟨hLJ, ?_⟩
      have e4 := un J e
      have hbs : upd J d (.dK (kvP ps)) D = some (.lst (bs.map V.ref)) := un_at hLJ h1 (fun _ _ z => by cases z)
      have hpr : PairsAt (upd J d (.dK (kvP ps))) bs (kvP (mvP (· + mu) ps)) := pair_un hLJ h2
      generalize upd J d (.dK (kvP ps)) = H4 at e4 hbs hpr ⊢
      have plm := pl.mv m0 m1 fun p hp => by have := (pok p hp).1; omega
      refine ⟨D, bs, _, rfl, SqL.of hbs, pair_sq hpr, fun le nle => ?_⟩
      rw [merge_kvP plm.nd]
      have y1 : Ex H4 (upd H4 le (.dK (kvP (mvP (· + mu) ps)))) := Ex.new nle
      have gle : upd H4 le (.dK (kvP (mvP (· + mu) ps))) le = some (.dK (kvP (mvP (· + mu) ps))) := upd_same
      generalize upd H4 le (.dK (kvP (mvP (· + mu) ps))) = H5 at y1 gle ⊢
      have x5 := e4.trans y1
      replace gp := x5 _ _ gp
      replace gl := x5 _ _ gl
      replace tv := ties_ex tv x5
      have lxs := paired_len tv
      refine ⟨_, rfl, _, rfl, p, _, 1, _, rfl, rfl, SqL.of gp, rfl, l, rfl, ⟨_, SqL.of gl⟩, fun D2 hD2 => ?_⟩
      refine lc_list (K := K) (a := l) (xs := xs) (fun i J => ∃ ys : List V, J D2 = some (.lst ys) ∧ Paired (TieV J) ys (mvT (· + mu) (ts.take i)) ∧ Ex H5 J) ⟨[], upd_same, .nil, Ex.mut (Ex.refl _) hD2⟩ (fun i J _ ⟨_, _, _, e⟩ => SqL.of (e _ _ gl)) ?_ ?_
      · rintro i x J hx ⟨ys, k1, k2, e⟩
        obtain ⟨t1, ht1, hv⟩ := paired_get2 (ties_ex tv e) hx
        obtain ⟨b, rfl, hb⟩ := hv
        have htk : ts.take (i + 1) = ts.take i ++ [t1] := by rw [List.take_add_one, ht1]; rfl
        have lys : ys.length ≤ 34 := by
          have := paired_len k2
          unfold mvT at this
          rw [List.length_map, List.length_take] at this
          omega
        refine ⟨b, _, rfl, SqT.of hb, rfl, _, _, rfl, _, _, rfl, _, _, rfl, rfl, rfl, ?_⟩
        unfold tYes
        dsimp only
        rw [if_pos rfl]
        refine ⟨_, rfl, _, rfl, _, _, rfl, rfl, _, rfl, _, rfl, _, rfl, _, _, rfl, rfl, (by show 3 ≤ sizeLine; decide), fun t nt => ?_⟩
        have y : Ex J (upd J t (.tup [.int (t1.a + mu), kV (.inr t1.b), .int (t1.c + mu)])) := Ex.new nt
        have gt : TieV (upd J t (.tup [.int (t1.a + mu), kV (.inr t1.b), .int (t1.c + mu)])) (.ref t) ⟨t1.a + mu, t1.b, t1.c + mu⟩ := ⟨t, rfl, upd_same⟩
        generalize upd J t (.tup [.int (t1.a + mu), kV (.inr t1.b), .int (t1.c + mu)]) = G2 at y gt ⊢
        refine ⟨_, y _ _ k1, len_lt (by omega), ys ++ [.ref t], upd_same, ?_, Ex.mut (e.trans y) hD2⟩
        rw [htk]
        unfold mvT
        rw [List.map_append]
        exact paired_app (paired_imp (fun _ _ z => z.put (y _ _ k1)) (ties_ex k2 y)) (.cons (gt.put (y _ _ k1)) .nil)
      rintro H6 ⟨ys, k1, k2, e6⟩
      rw [lxs, List.take_of_length_le (Nat.le_refl _)] at k2
      refine ⟨(by show 2 ≤ sizeLine; decide), fun r nr => ?_⟩
      have y6 : Ex H6 (upd H6 r (.lst [.ref le, .ref D2])) := Ex.new nr
      exact ⟨r, le, D2, ys, _, _, _, _, rfl, ((e3.trans x5).trans e6).trans y6, ⟨upd_same, y6 _ _ (e6 _ _ gle), y6 _ _ k1, ties_ex k2 y6⟩, plm⟩
    · exact if_f (decide_eq_false c) ⟨p, d, l, xs, ps, ts, none, none, rfl, Ex.refl _, ⟨gp, gd, gl, tv⟩, pl⟩
  clear gp gd gl tv nd lps pok tin lts pl
  rintro σ J ⟨p, d, l, xs, ps, ts, v5, v6, rfl, e3, ⟨gp, gd, gl, tv⟩, pl⟩
  have x3 := x2.trans e3
  replace gtk := e3 _ _ gtk
  replace gtw := e3 _ _ gtw
  refine ⟨_, rfl, p, _, 0, _, rfl, rfl, SqL.of gp, rfl, d, _, rfl, .inl gd, fun l1 nl1 => ?_⟩
  rw [keys_P]
  have e4 : Ex J (upd J l1 (.lst ((numsP ps).map V.int))) := Ex.new nl1
  have gl1 : upd J l1 (.lst ((numsP ps).map V.int)) l1 = some (.lst ((numsP ps).map V.int)) := upd_same
  generalize upd J l1 (.lst ((numsP ps).map V.int)) = H4 at e4 gl1 ⊢
  refine ⟨_, rfl, (by show 1 ≤ sizeLine; decide), fun l2 nl2 => ?_⟩
  have e5 : Ex H4 (upd H4 l2 (.lst [.int (-1)])) := Ex.new nl2
  have gl2 : upd H4 l2 (.lst [.int (-1)]) l2 = some (.lst [.int (-1)]) := upd_same
  show rCat _ _ (upd H4 l2 (.lst [.int (-1)])) _
  generalize upd H4 l2 (.lst [.int (-1)]) = H5 at e5 gl2 ⊢
  have lnp : (numsP ps).length = ps.length := List.length_map ..
  have few := pl.few
  refine ⟨l1, l2, _, _, rfl, rfl, e5 _ _ gl1, gl2, len_line (by rw [List.length_map]; show (numsP ps).length + 1 ≤ 1000; omega), fun c nc => ?_⟩
  have e6 : Ex H5 (upd H5 c (.lst ((numsP ps).map V.int ++ [.int (-1)]))) := Ex.new nc
  have gc : upd H5 c (.lst ((numsP ps).map V.int ++ [.int (-1)])) c = some (.lst ((numsP ps ++ [-1]).map V.int)) := by rw [upd_same, List.map_append]; rfl
  generalize upd H5 c (.lst ((numsP ps).map V.int ++ [.int (-1)])) = H6 at e6 gc ⊢
  have x36 : Ex J H6 := (e4.trans e5).trans e6
  have x6 : Ex H H6 := x3.trans x36
  refine ⟨c, numsP ps ++ [-1], rfl, SqL.of gc, by rw [List.length_append]; show 0 < (numsP ps).length + 1; omega, fun m hm1 hm2 => ⟨_, _, rfl, rfl, ?_⟩⟩
  have em := next_max (os := numsP ps) (fun o ho => by
    obtain ⟨p, hp, rfl⟩ := List.mem_map.mp ho
    exact (pl.nn p hp).1) hm1 hm2
  dsimp only
  rw [em]
  refine ⟨_, rfl, _, rfl, _, rfl, _, rfl, _, rfl, _, rfl, _, rfl, _, _, rfl, rfl, _, rfl, a, _, rfl, x6 _ _ ha, by decide, by decide, fun r r0 r1 => ⟨_, _, rfl, rfl, (by show 4 ≤ sizeLine; decide), fun l3 nl3 => ⟨a, l3, _, rfl, Ex.new nl3 _ _ (x6 _ _ ha), .inl (SqL.of upd_same), (by show 0 < 4; decide), (by show 4 ≤ 1000; decide), fun x hx => ?_⟩⟩⟩
  obtain ⟨o, rfl, ho⟩ : ∃ o : Option Int, x = nv o ∧ ∀ n, o = some n → nextOf (numsP ps) ≤ n ∧ n ≤ nextOf (numsP ps) + 31 := by
    rcases List.mem_cons.mp hx with rfl | hx
    · exact ⟨none, rfl, fun n z => by cases z⟩
    rcases List.mem_cons.mp hx with rfl | hx
    · exact ⟨none, rfl, fun n z => by cases z⟩
    rcases List.mem_cons.mp hx with rfl | hx
    · exact ⟨some (nextOf (numsP ps)), rfl, fun n z => by cases z; omega⟩
    rcases List.mem_cons.mp hx with rfl | hx
    · exact ⟨some (nextOf (numsP ps) + 1 + r), rfl, fun n z => by cases z; omega⟩
    · cases hx
  refine ⟨(by show 5 ≤ sizeLine; decide), fun rr hrr => ?_⟩
  have y8 := (Ex.new (o := HO.lst [V.non, V.non, V.int (nextOf (numsP ps)), V.int (nextOf (numsP ps) + 1 + r)]) nl3).trans (Ex.new (o := HO.tup [V.ref tk, V.ref tw, V.ref p, V.int (nextOf (numsP ps)), nv o]) hrr)
  have y9 := x36.trans y8
  exact q _ rr tk tw p d l xs kr wr ps ts o (x3.trans y9) upd_same (y9 _ _ gtk) (y9 _ _ gtw) dk dw ⟨y9 _ _ gp, y9 _ _ gd, y9 _ _ gl, ties_ex tv y9⟩ pl ho
/-- the same dict in another order -/
def spMixD : Sp := fun vs H Q _ => ∃ (a d : Addr) (ps : Posts), vs = [.ref a, .ref d] ∧ H a = some (diceO a) ∧ H d = some (.dK (kvP ps)) ∧ (numsP ps).Nodup ∧ ps.length ≤ 40 ∧ ∀ H' e qs, Ex H H' → H e = none → H' e = some (.dK (kvP qs)) → qs.Perm ps → Q (.ref e) H'
theorem ok_law_mixed_dict (T : Txt K mg AA) : FnOk P w K mg base CX0 3 AA.a_law_mixed_dict AA.d_law_mixed_dict ["_law_dice_here", "_law_table"] spMixD := by
  have G_law_mixed : FnOk P w K mg base CX0 2 AA.a_law_mixed AA.d_law_mixed ["_law_dice_here", "_law_items"] (spMixed K) := ok_law_mixed T
  refine T.F_law_mixed_dict.ok sc_law_mixed_dict (fun vs H Q E h => ?_) (fun cdv A outer s H vs Q E hr h => ?_)
  · obtain ⟨a, d, ps, rfl, _⟩ := h
    rfl
  obtain ⟨a, d, ps, rfl, ha, hd, nd, few, q⟩ := h
  have hu : _ + 64 < cLine := hu64 hr
  have hu1 : _ + 1 < cLine := hu_of hr
  refine ⟨_, (pss_one (ps_ret (pe_callTy (call_dictP rfl) (by rfl) T.n_dict (by decide +kernel) (pa_cons (pe_lc (own := [("_law_key", 2)]) (g := gName 2) rfl sc_law_mixed_dict.nd  (pi_list (pe_call G_law_mixed (hr.mono (by decide)) (by rfl) T.g_law_mixed T.k_law_mixed T.b_law_mixed .nil pass0 (pa_cons (pv 0) (pa_cons (pe_callTy (call_listD rfl) (by rfl) T.n_list (by decide +kernel) (pa_cons (pv 1) pa_nil)) pa_nil)))) (blkOk_by (N := N_law_mixed_dict) (sc := defScope s_law_mixed_dict) (by decide +kernel)) (fun _ _ _ _ _ => (pg_name (i := 2) sc_law_mixed_dict.nd rfl (Or.inl rfl))) (fun _ _ _ _ _ => pts_nil) (fun _ _ _ _ _ => by exact (pe_tup (pa_cons (pv 2) (pa_cons ((pe_dget hu1) (pv 1) (pv 2) (fun _ _ => rfl)) pa_nil))))) pa_nil)))), ?_⟩
  refine ⟨_, rfl, _, rfl, d, _, rfl, .inl hd, fun l1 nl1 => ?_⟩
  rw [keys_P]
  have e1 : Ex H (upd H l1 (.lst ((numsP ps).map V.int))) := Ex.new nl1
  have gl1 : upd H l1 (.lst ((numsP ps).map V.int)) l1 = some (.lst ((numsP ps).map V.int)) := upd_same
  generalize upd H l1 (.lst ((numsP ps).map V.int)) = H1 at e1 gl1 ⊢
  refine ⟨a, l1, _, rfl, e1 _ _ ha, .inl (SqL.of gl1), by rw [List.length_map, numsP_len]; omega, fun ys p1 H2 perm e2 gp1 => ?_⟩
  obtain ⟨ns, pn, hn⟩ := HdL.perm (K := []) (H := fun _ => none) perm (hdL_ints (numsP ps))
  have en := HdL.ints hn
  subst en
  have x2 := e1.trans e2
  have gd := x2 _ _ hd
  have ln := pn.length_eq
  rw [numsP_len] at ln
  let qs : Posts := ns.map fun n => (n, (look ps n).getD Str.empty)
  have nq : numsP qs = ns := by
    show (List.map _ (List.map _ ns)) = ns
    rw [List.map_map]
    exact List.map_id' _
  have pq : qs.Perm ps := by
    have h1 : qs.Perm ((numsP ps).map fun n => (n, (look ps n).getD Str.empty)) := pn.map _
    have h2 : (numsP ps).map (fun n => (n, (look ps n).getD Str.empty)) = ps := by
      unfold numsP
      rw [List.map_map]
      conv => rhs; rw [← List.map_id ps]
      refine List.map_congr_left fun p hp => ?_
      show (p.1, (look ps p.1).getD Str.empty) = p
      rw [look_of nd hp]
      rfl
    rw [h2] at h1
    exact h1
  refine ⟨p1, rfl, ⟨_, SqL.of gp1⟩, fun D hD => lc_list (K := K) (a := p1) (xs := ns.map V.int) (fun i G => ∃ (bs : List Addr), G D = some (.lst (bs.map V.ref)) ∧ PairsAt G bs (kvP (qs.take i)) ∧ Ex H2 G)
    ⟨[], upd_same, .nil, Ex.mut (Ex.refl _) hD⟩ (fun i G _ ⟨_, _, _, e⟩ => SqL.of (e _ _ gp1)) ?_ ?_⟩
  · rintro i x G hx ⟨bs, h1, h2, e⟩
    rw [List.getElem?_map] at hx
    obtain ⟨m, hm, rfl⟩ := Option.map_eq_some_iff.mp hx
    have hm2 : m ∈ numsP ps := pn.mem_iff.mp (List.mem_of_getElem? hm)
    have hk : (look ps m).isSome = true := by rw [look_some]; exact decide_eq_true hm2
    obtain ⟨z, hz⟩ := Option.isSome_iff_exists.mp hk
    have hq : qs[i]? = some (m, z) := by
      show (List.map _ ns)[i]? = _
      rw [List.getElem?_map, hm]
      show some (m, (look ps m).getD Str.empty) = _
      rw [hz]
      rfl
    have htk : qs.take (i + 1) = qs.take i ++ [(m, z)] := by rw [List.take_add_one, hq]; rfl
    have lq : qs.length = ns.length := List.length_map ..
    have lbs : bs.length ≤ 40 := by
      have := Paired.length h2
      rw [kvP_len, List.length_take] at this
      omega
    refine ⟨rfl, ?_⟩
    unfold tYes
    dsimp only
    rw [if_pos rfl]
    refine ⟨_, rfl, _, rfl, _, rfl, d, .str z, rfl, .inl ⟨_, .inl m, .inl (e _ _ gd), rfl, by rw [val_kvP, hz]; rfl⟩, (by show 2 ≤ sizeLine; decide), fun t nt => ?_⟩
    have y3 : Ex G (upd G t (.tup [.int m, .str z])) := Ex.new nt
    have g3 : upd G t (.tup [.int m, .str z]) t = some (.tup [.int m, .str z]) := upd_same
    generalize upd G t (.tup [.int m, .str z]) = G3 at y3 g3 ⊢
    refine ⟨_, y3 _ _ h1, len_lt (by rw [List.length_map]; omega), bs ++ [t], by rw [upd_same, List.map_append]; rfl, ?_, Ex.mut (e.trans y3) hD⟩
    rw [htk, kvP_snoc]
    exact pair_put (y3 _ _ h1) (pair_snoc (kv := (.inl m, .str z)) (pair_ex y3 h2) g3)
  rintro G ⟨bs, h1, h2, e⟩
  have lq : qs.length = ns.length := List.length_map ..
  rw [List.length_map, List.take_of_length_le (by omega)] at h2
  refine ⟨D, bs, kvP qs, rfl, SqL.of h1, pair_sq h2, fun f nf => ?_⟩
  rw [merge_kvP (by rw [nq]; exact pn.nodup_iff.mpr nd)]
  exact q _ f qs ((x2.trans e).trans (Ex.new nf)) (fresh_back (x2.trans e) nf) upd_same pq
end
end K2
namespace K2
open PySem L2 Kd Evl Ks Kt Ky
open PySem.W (Datum DatumOrd T3)
section
variable {P : Program} {w : World} {K : PySem.W.Frag} {mg : Str → Option Value} {base : Heap} {AA : Ads}
def spGetting (K : PySem.W.Frag) (AA : Ads) : Sp := fun vs H Q _ => ∃ (p : Addr) (x : Wb) (v : V) (d : PyData), vs = [.ref p, v] ∧ WbAt AA H p x ∧ Dv K H v d ∧ shortB v ∧ (∀ i z, d = .int i → look x.ps i = some z → Q (.str z) H) ∧
  (isPostD x.ps d = false → ∀ H' q, Ex H H' → H' q = some (.lst [.str "unknown", .str (repB v)]) → Q (.ref q) H')
theorem ok_law_getting (T : Txt K mg AA) : FnOk P w K mg base CX0 6 AA.a_law_getting AA.d_law_getting ["_law_web_here", "_law_post"] (spGetting K AA) := by
  have G_Web_getitem : FnOk P w K mg base (L2.CX P w) 4 AA.a_Web_getitem AA.d_Web_getitem ["self", "post"] (spGetW K AA) := ok_Web_getitem T
  refine T.F_law_getting.ok sc_law_getting (fun vs H Q E h => ?_) (fun cdv A outer s H vs Q E hr h => ?_)
  · obtain ⟨p, x, v, d, rfl, _⟩ := h
    rfl
  · obtain ⟨p, x, v, d, rfl, hw, hv, hz, yes, no⟩ := h
    refine ⟨_, pss_one (ps_try_as (i := 2) (tb := fun W => tRet (tGetO AA.C_Web (spGetW K AA) (WE W) (tVar 0) (tVar 1))) (ts := fun a cls d => tRet (tLst (tCons (tC (.str "unknown")) (tCons (tCB rReprB (tCons (tXf a cls d AA.C_UnknownName "name" (tVar 2)) tNil)) tNil)))) (Wout := fun _ _ _ _ => False) rfl rfl sc_law_getting.nd rfl rfl ⟨rfl, by decide, Or.inl T.g_UnknownName⟩ takes0
      (fun W pn xe tk _ => pss_one (ps_ret (by exact (pe_getO G_Web_getitem T.m_Web_getitem.at_ T.m_Web_getitem.fn T.gf_getitem T.b_Web_getitem (fun σ => passAt tk σ) (hr.mono (by decide)) (pv 0) (pv 1)))))
      (fun a oe cls d pn hz hf => pss_one (ps_ret (by exact (pe_lst (pa_cons pe_str (pa_cons (pe_callB call_reprB (by rfl) T.n_repr (by decide +kernel) (pa_cons (pe_xf (xfB_ok T.xf_UnknownName) T.n_UnknownName_name hz hf (pv 2)) pa_nil)) pa_nil))))))), ?_⟩
    have hw0 := hw
    obtain ⟨sh, wa, hs, o1, o2⟩ := hw0
    obtain ⟨dx, po, ti, h1, h2, h3⟩ := wa.at_
    refine ⟨_, rfl, _, rfl, p, dx, _, rfl, h1, p, x.ks, x.ws, x.ps, x.ts, x.n, v, d, rfl, hw, hv, yes, fun c H' e x' he => ⟨true, T.e_UnknownName, fun _ a na => ?_, fun z => Bool.noConfusion z⟩⟩
    exact ⟨_, rfl, rfl, rfl, e, _, v, rfl, he, rfl, v, rfl, hz, (by show 2 ≤ sizeLine; decide), fun q hq => no c _ q (x'.trans (Ex.new hq)) upd_same⟩
end
end K2
namespace K2
open PySem L2 Kd Evl Ks Kt Ky
open PySem.W (Datum DatumOrd T3)
theorem own_webW {K : PySem.W.Frag} {mg : Str → Option Value} {AA : Ads} (T : Txt K mg AA) {J : Hp} {a : Addr} {y : V} {x : Wb} {r : Option Wb} {g : Bool → Bool} {Q : VK} (ha : WbAt AA J a x) (ho : OtherW K AA J y r) (q : Q (.bl (g (eqO x r))) J) : rOwnC K AA.C_Web (spEqW K AA) g (.ref a) y J Q := by
  obtain ⟨sh, wa, hs, o1, o2⟩ := id ha
  obtain ⟨dx, po, ti, a1, _⟩ := wa.at_
  obtain ⟨t, t1, t2⟩ : ∃ t, TyX K J y t ∧ PySem.W.notFirst K AA.C_Web t = true := by
    rcases ho with ⟨d, hd, rfl⟩ | ⟨b, z, rfl, ⟨si, wb, _⟩, rfl⟩
    · exact ⟨_, hd, not_first d⟩
    · obtain ⟨dy, _, _, b1, _⟩ := wb.at_
      exact ⟨_, T.I_Web.ty b1, not_first_self⟩
  exact ⟨a, dx, _, t, rfl, a1, t1, t2, a, y, x, r, rfl, ha, ho, _, rfl, q⟩
theorem eqWb_self {x : Wb} (nd : (numsP x.ps).Nodup) : eqWb x x = true := by
  unfold eqWb
  rw [decide_eq_true rfl, decide_eq_true rfl, sameD_self nd, sameK_self]
  rfl
theorem cut_last (xs : List V) : cutV xs none (some (-1)) = xs.dropLast := by
  unfold cutV
  rw [HT.sIx_none, List.drop_zero, Nat.sub_zero, List.dropLast_eq_take]
  congr 1
  unfold HT.sIx
  dsimp only
  split <;> omega
structure Rr (K : PySem.W.Frag) (AA : Ads) (J : Hp) (a w p tk tw sh d l yl : Addr) (x : Wb) (kr wr : List Str) (xs ys : List V) (ps : Posts) (ts us : List Tie) (n : Int) : Prop where
  da : J a = some (diceO a)
  wa : WbAt AA J w x
  ep : x.ps = sortP ps
  et : x.ts = srt ts
  en : x.n = n
  hs : SheetAt AA.C_Sheet J sh x.ks x.ws
  sk : IsSort kr x.ks
  sw : IsSort wr x.ws
  gp : PlL J p d l xs ps ts
  pl : Pl kr wr ps ts
  gk : J tk = some (.tup (kr.map V.str))
  gw : J tw = some (.tup (wr.map V.str))
  nK : Nm kr 3
  nW : Nm wr 2
  kl : ∀ z ∈ kr, z ∈ kindsL
  nx : nextOf (numsP ps) ≤ n
  n1 : n < 20000000000000
  gy : J yl = some (.lst ys)
  ty : Paired (TieV J) ys us
  mu : ∀ t, t ∈ us ↔ t ∈ ts
  lu : us.length ≤ 16
section
variable {K : PySem.W.Frag} {AA : Ads} {J J' : Hp} {a w p tk tw sh d l yl : Addr} {x : Wb} {kr wr : List Str} {xs ys : List V} {ps : Posts} {ts us : List Tie} {n : Int}
theorem Rr.ex (g : Rr K AA J a w p tk tw sh d l yl x kr wr xs ys ps ts us n) (e : Ex J J') : Rr K AA J' a w p tk tw sh d l yl x kr wr xs ys ps ts us n :=
  ⟨e _ _ g.da, g.wa.ex e, g.ep, g.et, g.en, g.hs.ex e, g.sk, g.sw, g.gp.ex e, g.pl, e _ _ g.gk, e _ _ g.gw, g.nK, g.nW, g.kl, g.nx, g.n1, e _ _ g.gy, ties_ex g.ty e, g.mu, g.lu⟩
theorem sort_ok2 {zs ks : List Str} {m : Nat} (n : Nm zs m) (s : IsSort zs ks) : OkS ks := fun z hz => name_ok (n.nm z (s.1.mem_iff.mp hz))
/-- what a web can be made of: some of the posts -/
theorem Pl.mkw (pl : Pl kr wr ps ts) {ks ws : List Str} {sh e : Addr} {vs : List V} {qs : Posts} {rs : List Tie} (hs : SheetAt AA.C_Sheet J sh ks ws) (sk : IsSort kr ks) (sw : IsSort wr ws) (he : J e = some (.dK (kvP qs))) (nd : (numsP qs).Nodup) (sub : ∀ q ∈ qs, q ∈ ps) (lq : qs.length ≤ 40) (tv : Paired (TieV J) vs rs)
    (ok : ∀ t ∈ rs, t.a ∈ numsP qs ∧ t.b ∈ wr ∧ t.c ∈ numsP qs) (lr : rs.length ≤ 1000) : MkW K AA J sh e vs ks ws qs rs where
  sh := hs
  d := he
  nd := nd
  ok := ⟨lq, fun q hq => (pl.nn q (sub q hq)).1, fun q hq => sk.1.mem_iff.mpr (pl.kd q (sub q hq))⟩
  xs := tv
  okt := List.all_eq_true.mpr fun t ht => by
    obtain ⟨m1, m2, m3⟩ := ok t ht
    unfold tieOk
    rw [decide_eq_true (sw.1.mem_iff.mpr m2), decide_eq_true m1, decide_eq_true m3]
    rfl
  few := lr
end
/-- one of the others -/
structure Oth (K : PySem.W.Frag) (J : Hp) (d : Addr) (x : Wb) (kr wr : List Str) (ps : Posts) (ts : List Tie) (n : Int) (v : V) (t dd ll : Addr) (qs : Posts) (vs : List V) (rs : List Tie) (m : Int) : Prop where
  ev : v = .ref t
  gt : J t = some (.tup [.ref dd, .ref ll, .int m])
  gd : J dd = some (.dK (kvP qs))
  gl : J ll = some (.lst vs)
  tv : Paired (TieV J) vs rs
  nd : (numsP qs).Nodup
  sub : ∀ q ∈ qs, q ∈ ps
  lq : qs.length ≤ 7
  ok : ∀ t ∈ rs, t.a ∈ numsP qs ∧ t.b ∈ wr ∧ t.c ∈ numsP qs
  lr : rs.length ≤ 14
  nx : nextOf (numsP qs) ≤ m
  sm : dd = d → sameD (kvP qs) (kvP ps) = true
  eq : eqWb x ⟨x.ks, x.ws, sortP qs, once (srt rs), m⟩ = (sameD (kvP qs) (kvP ps) && (decide (rs = ts) && decide (m = n)))
theorem sameD_len {ks ls : List (Key × V)} (h : ks.length ≠ ls.length) : sameD ks ls = false := by
  unfold sameD
  rw [beq_eq_false_iff_ne.mpr h]
  rfl
theorem sameK_nil {κ : Type} [DecidableEq κ] (ks : List κ) : sameK ks [] = decide (ks = []) := by
  cases ks with
  | nil => rfl
  | cons k ks => exact (by unfold sameK; rfl)
theorem srt_nil_iff (ts : List Tie) : decide ((srt ts).map tieK = []) = decide (([] : List Tie) = ts) := by
  have h := (srt_perm ts).length_eq
  refine decide_eq_decide.mpr ⟨fun e => ?_, fun e => ?_⟩
  · have h2 : (srt ts).length = 0 := by
      have := congrArg List.length e
      rw [List.length_map] at this
      exact this
    exact (List.length_eq_zero_iff.mp (by omega)).symm
  · subst e
    have h2 : (srt ([] : List Tie)).length = 0 := h
    rw [List.length_eq_zero_iff.mp h2]
    rfl
theorem once_nil : once (srt ([] : List Tie)) = [] := by
  have h : (srt ([] : List Tie)).length = 0 := (srt_perm ([] : List Tie)).length_eq
  rw [List.length_eq_zero_iff.mp h]
  rfl
end K2
namespace K2
open PySem L2 Kd Evl Ks Kt Ky
open PySem.W (Datum DatumOrd T3)
/-! what repr([posts, ties]) tells -/
def repK (ps : Posts) : List (PyData × PyData) := ((kvP ps).map fun p => kD p.1).zip (ps.map fun p => .str p.2)
def repD (ps : Posts) (ts : List Tie) : List PyData := [.dict (repK ps), .tuple (ts.map Datum.toD)]
theorem repK_cons (p : Int × Str) (ps : Posts) : repK (p :: ps) = (.int p.1, .str p.2) :: repK ps := rfl
theorem th_strs {K : PySem.W.Frag} {H : Hp} : ∀ ps : Posts, ThAll K H ((kvP ps).map (·.2)) (ps.map fun p => PyData.str p.2)
  | [] => .nil
  | p :: ps => .cons (.str p.2) (th_strs ps)
theorem th_ties {K : PySem.W.Frag} {H : Hp} : ∀ {ys : List V} {ts : List Tie}, Paired (TieV H) ys ts → ThAll K H ys (ts.map (Datum.toD : Tie → PyData))
  | _, _, .nil => .nil
  | _, _, .cons h t => by
    obtain ⟨b, rfl, hb⟩ := h
    exact .cons (.tup (SqT.of hb) (.cons (.int _) (.cons (.str _) (.cons (.int _) .nil)))) (th_ties t)
theorem th_rep {K : PySem.W.Frag} {H : Hp} {p q1 q2 : Addr} {ys : List V} {ps : Posts} {ts : List Tie} (hp : H p = some (.lst [.ref q1, .ref q2])) (hs : p ≠ sysModules) (h1 : H q1 = some (.dK (kvP ps))) (h2 : H q2 = some (.tup ys)) (ht : Paired (TieV H) ys ts) : Th K H (.ref p) (.list (repD ps ts)) :=
  .lst (SqL.of hp) hs (.cons (.dic h1 (th_strs ps)) (.cons (.tup (SqT.of h2) (th_ties ht)) .nil))
/-- a short name -/
def Sm (z : Str) : Prop := z.length ≤ 8 ∧ PyData.strOk z = true
def Nr (i : Int) : Prop := -1 ≤ i ∧ i < 20000000000000
theorem nr_log {i : Int} (h : Nr i) : i.natAbs.log2 < 1920 := by
  obtain ⟨h0, h1⟩ := h
  by_cases c : i.natAbs = 0
  · rw [c]; decide
  · refine (Nat.log2_lt c).mpr ?_
    have h2 : i.natAbs < 2 ^ 64 := by omega
    exact Nat.lt_of_lt_of_le h2 (Nat.pow_le_pow_right (by decide) (by decide))
theorem leaf_int {i : Int} (h : Nr i) : (PyData.int i).leavesShort 1921 = true := by
  simp only [PyData.leavesShort, PyData.shown]
  exact decide_eq_true (PyProof.Rows.int_text_len_1921 (nr_log h))
theorem leaf_str {z : Str} (h : Sm z) : (PyData.str z).leavesShort 1921 = true := by
  simp only [PyData.leavesShort, List.all_eq_true, decide_eq_true_eq]
  intro c hc
  have h1 : ∀ x ∈ z.cps, decide (x < 0x110000) = true := by
    have := h.2
    unfold PyData.strOk at this
    rw [Array.all_eq_true'] at this
    exact this
  have h2 := of_decide_eq_true (h1 c (by simpa using hc))
  exact Nat.lt_trans h2 (by decide)
theorem rep_kv : ∀ ps : Posts, (∀ p ∈ ps, Nr p.1 ∧ Sm p.2) → PyData.showableKv (repK ps) = true ∧ PyData.depthKv (repK ps) = 0 ∧ PyData.leavesShortKv 1921 (repK ps) = true ∧ PyData.bulkKv (repK ps) ≤ 10 * ps.length
  | [], _ => ⟨rfl, rfl, rfl, Nat.le_refl _⟩
  | p :: ps, h => by
    obtain ⟨a, b, c, d⟩ := rep_kv ps fun q hq => h q (List.mem_cons_of_mem _ hq)
    obtain ⟨h1, h2⟩ := h p List.mem_cons_self
    rw [repK_cons]
    refine ⟨?_, ?_, ?_, ?_⟩
    · simp only [PyData.showableKv, PyData.showable, a, decide_eq_true (nr_log h1), Bool.and_self]
    · simp only [PyData.depthKv, PyData.depth, b]
      rfl
    · simp only [PyData.leavesShortKv, leaf_int h1, leaf_str h2, c, Bool.and_self]
    · have h3 : p.2.cps.size ≤ 8 := h2.1
      simp only [PyData.bulkKv, PyData.bulk, List.length_cons]
      omega
theorem toD_tie (t : Tie) : (Datum.toD t : PyData) = .tuple [.int t.a, .str t.b, .int t.c] := rfl
theorem rep_ties : ∀ ts : List Tie, (∀ t ∈ ts, Nr t.a ∧ Sm t.b ∧ Nr t.c) → PyData.showableAll (ts.map (Datum.toD : Tie → PyData)) = true ∧ PyData.depthAll (ts.map (Datum.toD : Tie → PyData)) ≤ 1 ∧ PyData.leavesShortAll 1921 (ts.map (Datum.toD : Tie → PyData)) = true ∧ PyData.bulkAll (ts.map (Datum.toD : Tie → PyData)) ≤ 12 * ts.length
  | [], _ => ⟨rfl, by decide, rfl, Nat.le_refl _⟩
  | t :: ts, h => by
    obtain ⟨a, b, c, d⟩ := rep_ties ts fun q hq => h q (List.mem_cons_of_mem _ hq)
    obtain ⟨h1, h2, h3⟩ := h t List.mem_cons_self
    rw [List.map_cons, toD_tie]
    refine ⟨?_, ?_, ?_, ?_⟩
    · simp only [PyData.showableAll, PyData.showable, a, decide_eq_true (nr_log h1), decide_eq_true (nr_log h3), Bool.and_self]
    · simp only [PyData.depthAll, PyData.depth]
      omega
    · have e : (PyData.tuple [.int t.a, .str t.b, .int t.c]).leavesShort 1921 = ((PyData.int t.a).leavesShort 1921 && ((PyData.str t.b).leavesShort 1921 && ((PyData.int t.c).leavesShort 1921 && true))) := by
        rw [PyData.leavesShort]
        rfl
      rw [PyData.leavesShortAll, e, leaf_int h1, leaf_int h3, leaf_str h2, c]
      rfl
    · have h4 : t.b.cps.size ≤ 8 := h2.1
      simp only [PyData.bulkAll, PyData.bulk, List.length_cons]
      omega
theorem rep_fits {ps : Posts} {ts : List Tie} (hp : ∀ p ∈ ps, Nr p.1 ∧ Sm p.2) (ht : ∀ t ∈ ts, Nr t.a ∧ Sm t.b ∧ Nr t.c) (lp : ps.length ≤ 7) (lt : ts.length ≤ 14) : PyData.showable (.list (repD ps ts)) = true ∧ (PyData.list (repD ps ts)).depth ≤ 40 ∧ (PyData.list (repD ps ts)).shown.length ≤ sizeLine := by
  obtain ⟨a1, a2, a3, a4⟩ := rep_kv ps hp
  obtain ⟨b1, b2, b3, b4⟩ := rep_ties ts ht
  unfold repD
  refine ⟨?_, ?_, ?_⟩
  · simp only [PyData.showable, PyData.showableAll, a1, b1, Bool.and_self]
  · simp only [PyData.depth, PyData.depthAll, a2]
    omega
  · refine Nat.le_trans (PyData.shown_le_bulk 1921 (by decide) _ ?_) ?_
    · simp only [PyData.leavesShort, PyData.leavesShortAll, a3, b3, Bool.and_self]
    · simp only [PyData.bulk, PyData.bulkAll]
      have : sizeLine = 16777216 := by decide
      omega
end K2
namespace K2
open PySem L2 Kd Evl Ks Kt Ky
open PySem.W (Datum DatumOrd T3)
abbrev rdS (w p : Addr) (n : Int) (tk tw so d l : Addr) (v6 v7 v10 v11 v12 : Option V) : L2.St := [some (.ref w), some (.ref p), some (.int n), some (.ref tk), some (.ref tw), some (.ref so), v6, v7, some (.ref d), some (.ref l), v10, v11, v12, none]
/-- what stands behind the first rows of _law_reads -/
structure Rc (AA : Ads) (J : Hp) (w p tk tw so d l : Addr) (x : Wb) (kr wr : List Str) (xs : List V) (ps : Posts) (ts : List Tie) (n : Int) (sl : List Int) : Prop where
  wa : WbAt AA J w x
  ep : x.ps = sortP ps
  et : x.ts = srt ts
  hw : ∀ z ∈ wr, z ∈ x.ws
  gp : PlL J p d l xs ps ts
  pl : Pl kr wr ps ts
  gk : J tk = some (.tup (kr.map V.str))
  gw : J tw = some (.tup (wr.map V.str))
  nw : Nm wr 2
  n0 : 0 ≤ n ∧ n < 20000000000000
  gs : J so = some (.lst (sl.map V.int))
  ls : 3 ≤ sl.length ∧ sl.length ≤ 10
  bs : ∀ i ∈ sl, -1 ≤ i ∧ i < 20000000000000
theorem Rc.ex {AA : Ads} {J J' : Hp} {w p tk tw so d l : Addr} {x : Wb} {kr wr : List Str} {xs : List V} {ps : Posts} {ts : List Tie} {n : Int} {sl : List Int} (g : Rc AA J w p tk tw so d l x kr wr xs ps ts n sl) (e : Ex J J') : Rc AA J' w p tk tw so d l x kr wr xs ps ts n sl :=
  ⟨g.wa.ex e, g.ep, g.et, g.hw, g.gp.ex e, g.pl, e _ _ g.gk, e _ _ g.gw, g.nw, g.n0, e _ _ g.gs, g.ls, g.bs⟩
/-- a tail of _law_reads: from there on True is answered -/
def RdTail (AA : Ads) (X : Cx) (i : Nat) : Prop := ∃ t, PSs X ((defBody s_law_reads).drop i) t ∧ ∀ (Q : VK) (J : Hp) (w p tk tw so d l : Addr) (x : Wb) (kr wr : List Str) (xs : List V) (ps : Posts) (ts : List Tie) (n : Int) (sl : List Int) (v6 v10 v11 v12 : Option V),
  Rc AA J w p tk tw so d l x kr wr xs ps ts n sl → (∀ H', Ex J H' → Q (.bl true) H') → t { nx := fun _ H' => Q .non H', rt := Q } (rdS w p n tk tw so d l v6 none v10 v11 v12) J
section
variable {P : Program} {w : World} {K : PySem.W.Frag} {mg : Str → Option Value} {base : Heap} {AA : Ads}
theorem Cand.ex {H H' : Hp} {v : V} {r : Option (List PyData)} (h : Cand K H v r) (e : Ex H H') : Cand K H' v r := by
  rcases h with ⟨d, hd, n, rfl⟩ | ⟨t, xs, ds, rfl, ht, hp, rfl⟩
  · exact .inl ⟨d, dv_ex e hd, n, rfl⟩
  · refine .inr ⟨t, xs, ds, rfl, e _ _ ht, ?_, rfl⟩
    clear ht
    induction hp with
    | nil => exact .nil
    | cons h _ ih => exact .cons (dv_ex e h) ih
/-- no tie of a web -/
def Odd (K : PySem.W.Frag) (H : Hp) (v : V) : Prop := ∃ r, Cand K H v r ∧ ∀ ws ps ts, inWebC ws ps ts r = false
theorem Odd.dat {H : Hp} {v : V} {d : PyData} (h : Dv K H v d) (n : ¬ tyN d = "tuple") : Odd K H v := ⟨none, .inl ⟨d, h, n, rfl⟩, fun _ _ _ => rfl⟩
theorem Odd.tup {H : Hp} {t : Addr} {xs : List V} {ds : List PyData} (h : H t = some (.tup xs)) (hp : Paired (Dv K H) xs ds) (n : ∀ ws ps ts, inWebC ws ps ts (some ds) = false) : Odd K H (.ref t) := ⟨some ds, .inr ⟨t, xs, ds, rfl, h, hp, rfl⟩, n⟩
theorem dvi {H : Hp} (i : Int) : Dv K H (.int i) (.int i) := .inl (.int i)
theorem dvs {H : Hp} (z : Str) : Dv K H (.str z) (.str z) := .inl (.str z)
theorem dvb {H : Hp} (b : Bool) : Dv K H (.bl b) (.bool b) := .inl (.bl b)
set_option maxHeartbeats 16000000 in
theorem rd_odd (T : Txt K mg AA) {cdv : Value} {A : Around} {outer : List Env} {s : Shared} {H0 : Hp} {E : XK} (hr : Room 7 (A.deeper (PyProof.Rows.envOfC "_law_reads" (defScope s_law_reads) s.heap.objs.size AA.a_law_reads cdv))) :
    RdTail AA (cxOf CX0 P w K mg base N_law_reads "_law_reads" (defScope s_law_reads) AA.a_law_reads cdv A outer s H0 E).nox 6 := by
  have G_Web_contains : FnOk P w K mg base CX0 4 AA.a_Web_contains AA.d_Web_contains ["self", "value"] (spInWeb K AA) := ok_Web_contains T
  have hu : _ + 64 < cLine := hu64 hr
  have hu1 : _ + 1 < cLine := hu_of hr
  refine ⟨_, (pss_cons (ps_set (i := 7) sc_law_reads.nd rfl (Or.inl rfl) (pe_lst (pa_cons pe_non (pa_cons (pe_tup pa_nil) (pa_cons (pe_tup (pa_cons pe_int (pa_cons (pe_ix ix_tup (pv 4) pe_int (fun _ _ => rfl)) pa_nil))) (pa_cons (pe_lst (pa_cons pe_int (pa_cons (pe_ix ix_tup (pv 4) pe_int (fun _ _ => rfl)) (pa_cons pe_int pa_nil)))) (pa_cons (pe_tup (pa_cons pe_int (pa_cons pe_int (pa_cons pe_int pa_nil)))) (pa_cons (pe_ix ix_tup (pv 4) pe_int (fun _ _ => rfl)) (pa_cons (pe_disp (pps_cons pe_str pe_int pps_nil) rfl rfl (by intro q; cases q) (by decide)) (pa_cons (pe_tup (pa_cons pe_bl (pa_cons (pe_ix ix_tup (pv 4) pe_int (fun _ _ => rfl)) (pa_cons pe_bl pa_nil)))) pa_nil))))))))))
    (pss_cons (ps_set (i := 7) sc_law_reads.nd rfl (Or.inl rfl) (pe_op op_cat (pv 7) (pe_lst (pa_cons (pe_tup (pa_cons (pe_lst (pa_cons pe_int pa_nil)) (pa_cons (pe_ix ix_tup (pv 4) pe_int (fun _ _ => rfl)) (pa_cons pe_int pa_nil)))) (pa_cons (pe_tup (pa_cons pe_int (pa_cons (pe_lst (pa_cons (pe_ix ix_tup (pv 4) pe_int (fun _ _ => rfl)) pa_nil)) (pa_cons pe_int pa_nil)))) (pa_cons (pe_tup (pa_cons pe_int (pa_cons (pe_ix ix_tup (pv 4) pe_int (fun _ _ => rfl)) (pa_cons pe_dnewK pa_nil)))) (pa_cons (pe_tup (pa_cons pe_int (pa_cons (pe_ix ix_tup (pv 4) pe_int (fun _ _ => rfl)) (pa_cons (pe_lst (pa_cons pe_int pa_nil)) pa_nil)))) (pa_cons (pe_tup (pa_cons (pe_tup (pa_cons pe_int pa_nil)) (pa_cons (pe_ix ix_tup (pv 4) pe_int (fun _ _ => rfl)) (pa_cons pe_int pa_nil)))) pa_nil))))))))
    (pss_one (ps_ret (pe_cmpR (op_eqD hu) (pe_lc (own := [("_law_value", 13)]) (g := gName 13) rfl sc_law_reads.nd  (pi_list (pv 7)) (blkOk_by (N := N_law_reads) (sc := defScope s_law_reads) (by decide +kernel)) (fun _ _ _ _ _ => (pg_name (i := 13) sc_law_reads.nd rfl (Or.inl rfl))) (fun _ _ _ _ _ => (by exact pts_one (pt_cmpR (op_inOwn (K := K) rfl G_Web_contains T.m_Web_contains.at_ T.m_Web_contains.fn T.b_Web_contains (hr.mono (by decide))) (pv 13) (pv 0) rfl))) (fun _ _ _ _ _ => by exact pe_int)) (pe_lst pa_nil) (nomark _)))))), ?_⟩
  intro Q H0 w p tk tw so d l x kr wr xs ps ts n sl v6 v10 v11 v12 g q
  obtain ⟨w0, wr', rfl⟩ : ∃ w0 wr', wr = w0 :: wr' := by
    have := g.nw.lo
    match wr, this with
    | a :: b, _ => exact ⟨a, b, rfl⟩
  have x0 := Ex.refl H0
  refine ⟨(by show 0 ≤ sizeLine; decide), fun t1 nt1 => ?_⟩
  have et1 : Ex H0 (upd H0 t1 (.tup [])) := Ex.new nt1
  have gt1 : upd H0 t1 (.tup []) t1 = some (.tup []) := upd_same
  generalize upd H0 t1 (.tup []) = H1 at et1 gt1 ⊢
  have x1 := x0.trans et1
  refine ⟨_, rfl, tw, _, 0, _, rfl, rfl, SqT.of (x1 _ _ g.gw), at_of (j := 0) (v := V.str w0) rfl rfl, (by show 2 ≤ sizeLine; decide), fun t2 nt2 => ?_⟩
  have et2 : Ex H1 (upd H1 t2 (.tup [.int 0, .str w0])) := Ex.new nt2
  have gt2 : upd H1 t2 (.tup [.int 0, .str w0]) t2 = some (.tup [.int 0, .str w0]) := upd_same
  generalize upd H1 t2 (.tup [.int 0, .str w0]) = H2 at et2 gt2 ⊢
  have x2 := x1.trans et2
  replace gt1 := et2 _ _ gt1
  refine ⟨_, rfl, tw, _, 0, _, rfl, rfl, SqT.of (x2 _ _ g.gw), at_of (j := 0) (v := V.str w0) rfl rfl, (by show 3 ≤ sizeLine; decide), fun l3 nl3 => ?_⟩
  have el3 : Ex H2 (upd H2 l3 (.lst [.int 0, .str w0, .int 0])) := Ex.new nl3
  have gl3 : upd H2 l3 (.lst [.int 0, .str w0, .int 0]) l3 = some (.lst [.int 0, .str w0, .int 0]) := upd_same
  generalize upd H2 l3 (.lst [.int 0, .str w0, .int 0]) = H3 at el3 gl3 ⊢
  have x3 := x2.trans el3
  replace gt1 := el3 _ _ gt1
  replace gt2 := el3 _ _ gt2
  refine ⟨(by show 3 ≤ sizeLine; decide), fun t4 nt4 => ?_⟩
  have et4 : Ex H3 (upd H3 t4 (.tup [.int 0, .int 0, .int 0])) := Ex.new nt4
  have gt4 : upd H3 t4 (.tup [.int 0, .int 0, .int 0]) t4 = some (.tup [.int 0, .int 0, .int 0]) := upd_same
  generalize upd H3 t4 (.tup [.int 0, .int 0, .int 0]) = H4 at et4 gt4 ⊢
  have x4 := x3.trans et4
  replace gt1 := et4 _ _ gt1
  replace gt2 := et4 _ _ gt2
  replace gl3 := et4 _ _ gl3
  refine ⟨_, rfl, tw, _, 0, _, rfl, rfl, SqT.of (x4 _ _ g.gw), at_of (j := 0) (v := V.str w0) rfl rfl, fun d5 nd5 => ?_⟩
  refine ⟨upd_same, [(.inr "a", .int 0)], rfl, by decide, ?_⟩
  rw [upd_upd]
  have ed5 : Ex H4 (upd H4 d5 (.dK (mergeK [] [(.inr "a", .int 0)]))) := Ex.new nd5
  have gd5 : upd H4 d5 (.dK (mergeK [] [(.inr "a", .int 0)])) d5 = some (.dK (mergeK [] [(.inr "a", .int 0)])) := upd_same
  generalize upd H4 d5 (.dK (mergeK [] [(.inr "a", .int 0)])) = H5 at ed5 gd5 ⊢
  have x5 := x4.trans ed5
  replace gt1 := ed5 _ _ gt1
  replace gt2 := ed5 _ _ gt2
  replace gl3 := ed5 _ _ gl3
  replace gt4 := ed5 _ _ gt4
  refine ⟨_, rfl, tw, _, 0, _, rfl, rfl, SqT.of (x5 _ _ g.gw), at_of (j := 0) (v := V.str w0) rfl rfl, (by show 3 ≤ sizeLine; decide), fun t6 nt6 => ?_⟩
  have et6 : Ex H5 (upd H5 t6 (.tup [.bl true, .str w0, .bl true])) := Ex.new nt6
  have gt6 : upd H5 t6 (.tup [.bl true, .str w0, .bl true]) t6 = some (.tup [.bl true, .str w0, .bl true]) := upd_same
  generalize upd H5 t6 (.tup [.bl true, .str w0, .bl true]) = H6 at et6 gt6 ⊢
  have x6 := x5.trans et6
  replace gt1 := et6 _ _ gt1
  replace gt2 := et6 _ _ gt2
  replace gl3 := et6 _ _ gl3
  replace gt4 := et6 _ _ gt4
  replace gd5 := et6 _ _ gd5
  refine ⟨(by show 8 ≤ sizeLine; decide), fun o1 no1 => ?_⟩
  have eo1 : Ex H6 (upd H6 o1 (.lst [.non, .ref t1, .ref t2, .ref l3, .ref t4, .str w0, .ref d5, .ref t6])) := Ex.new no1
  have go1 : upd H6 o1 (.lst [.non, .ref t1, .ref t2, .ref l3, .ref t4, .str w0, .ref d5, .ref t6]) o1 = some (.lst [.non, .ref t1, .ref t2, .ref l3, .ref t4, .str w0, .ref d5, .ref t6]) := upd_same
  generalize upd H6 o1 (.lst [.non, .ref t1, .ref t2, .ref l3, .ref t4, .str w0, .ref d5, .ref t6]) = H7 at eo1 go1 ⊢
  have x7 := x6.trans eo1
  replace gt1 := eo1 _ _ gt1
  replace gt2 := eo1 _ _ gt2
  replace gl3 := eo1 _ _ gl3
  replace gt4 := eo1 _ _ gt4
  replace gd5 := eo1 _ _ gd5
  replace gt6 := eo1 _ _ gt6
  refine ⟨_, rfl, ?_⟩
  refine ⟨(by show 1 ≤ sizeLine; decide), fun l7 nl7 => ?_⟩
  have el7 : Ex H7 (upd H7 l7 (.lst [.int 0])) := Ex.new nl7
  have gl7 : upd H7 l7 (.lst [.int 0]) l7 = some (.lst [.int 0]) := upd_same
  generalize upd H7 l7 (.lst [.int 0]) = H8 at el7 gl7 ⊢
  have x8 := x7.trans el7
  replace gt1 := el7 _ _ gt1
  replace gt2 := el7 _ _ gt2
  replace gl3 := el7 _ _ gl3
  replace gt4 := el7 _ _ gt4
  replace gd5 := el7 _ _ gd5
  replace gt6 := el7 _ _ gt6
  replace go1 := el7 _ _ go1
  refine ⟨_, rfl, tw, _, 0, _, rfl, rfl, SqT.of (x8 _ _ g.gw), at_of (j := 0) (v := V.str w0) rfl rfl, (by show 3 ≤ sizeLine; decide), fun t8 nt8 => ?_⟩
  have et8 : Ex H8 (upd H8 t8 (.tup [.ref l7, .str w0, .int 0])) := Ex.new nt8
  have gt8 : upd H8 t8 (.tup [.ref l7, .str w0, .int 0]) t8 = some (.tup [.ref l7, .str w0, .int 0]) := upd_same
  generalize upd H8 t8 (.tup [.ref l7, .str w0, .int 0]) = H9 at et8 gt8 ⊢
  have x9 := x8.trans et8
  replace gt1 := et8 _ _ gt1
  replace gt2 := et8 _ _ gt2
  replace gl3 := et8 _ _ gl3
  replace gt4 := et8 _ _ gt4
  replace gd5 := et8 _ _ gd5
  replace gt6 := et8 _ _ gt6
  replace go1 := et8 _ _ go1
  replace gl7 := et8 _ _ gl7
  refine ⟨_, rfl, tw, _, 0, _, rfl, rfl, SqT.of (x9 _ _ g.gw), at_of (j := 0) (v := V.str w0) rfl rfl, (by show 1 ≤ sizeLine; decide), fun l9 nl9 => ?_⟩
  have el9 : Ex H9 (upd H9 l9 (.lst [.str w0])) := Ex.new nl9
  have gl9 : upd H9 l9 (.lst [.str w0]) l9 = some (.lst [.str w0]) := upd_same
  generalize upd H9 l9 (.lst [.str w0]) = H10 at el9 gl9 ⊢
  have x10 := x9.trans el9
  replace gt1 := el9 _ _ gt1
  replace gt2 := el9 _ _ gt2
  replace gl3 := el9 _ _ gl3
  replace gt4 := el9 _ _ gt4
  replace gd5 := el9 _ _ gd5
  replace gt6 := el9 _ _ gt6
  replace go1 := el9 _ _ go1
  replace gl7 := el9 _ _ gl7
  replace gt8 := el9 _ _ gt8
  refine ⟨(by show 3 ≤ sizeLine; decide), fun t10 nt10 => ?_⟩
  have et10 : Ex H10 (upd H10 t10 (.tup [.int 0, .ref l9, .int 0])) := Ex.new nt10
  have gt10 : upd H10 t10 (.tup [.int 0, .ref l9, .int 0]) t10 = some (.tup [.int 0, .ref l9, .int 0]) := upd_same
  generalize upd H10 t10 (.tup [.int 0, .ref l9, .int 0]) = H11 at et10 gt10 ⊢
  have x11 := x10.trans et10
  replace gt1 := et10 _ _ gt1
  replace gt2 := et10 _ _ gt2
  replace gl3 := et10 _ _ gl3
  replace gt4 := et10 _ _ gt4
  replace gd5 := et10 _ _ gd5
  replace gt6 := et10 _ _ gt6
  replace go1 := et10 _ _ go1
  replace gl7 := et10 _ _ gl7
  replace gt8 := et10 _ _ gt8
  replace gl9 := et10 _ _ gl9
  refine ⟨_, rfl, tw, _, 0, _, rfl, rfl, SqT.of (x11 _ _ g.gw), at_of (j := 0) (v := V.str w0) rfl rfl, ?_⟩
  intro d11 nd11
  have ed11 : Ex H11 (upd H11 d11 (.dK [])) := Ex.new nd11
  have gd11 : upd H11 d11 (.dK []) d11 = some (.dK []) := upd_same
  generalize upd H11 d11 (.dK []) = H12 at ed11 gd11 ⊢
  have x12 := x11.trans ed11
  replace gt1 := ed11 _ _ gt1
  replace gt2 := ed11 _ _ gt2
  replace gl3 := ed11 _ _ gl3
  replace gt4 := ed11 _ _ gt4
  replace gd5 := ed11 _ _ gd5
  replace gt6 := ed11 _ _ gt6
  replace go1 := ed11 _ _ go1
  replace gl7 := ed11 _ _ gl7
  replace gt8 := ed11 _ _ gt8
  replace gl9 := ed11 _ _ gl9
  replace gt10 := ed11 _ _ gt10
  refine ⟨(by show 3 ≤ sizeLine; decide), fun t12 nt12 => ?_⟩
  have et12 : Ex H12 (upd H12 t12 (.tup [.int 0, .str w0, .ref d11])) := Ex.new nt12
  have gt12 : upd H12 t12 (.tup [.int 0, .str w0, .ref d11]) t12 = some (.tup [.int 0, .str w0, .ref d11]) := upd_same
  generalize upd H12 t12 (.tup [.int 0, .str w0, .ref d11]) = H13 at et12 gt12 ⊢
  have x13 := x12.trans et12
  replace gt1 := et12 _ _ gt1
  replace gt2 := et12 _ _ gt2
  replace gl3 := et12 _ _ gl3
  replace gt4 := et12 _ _ gt4
  replace gd5 := et12 _ _ gd5
  replace gt6 := et12 _ _ gt6
  replace go1 := et12 _ _ go1
  replace gl7 := et12 _ _ gl7
  replace gt8 := et12 _ _ gt8
  replace gl9 := et12 _ _ gl9
  replace gt10 := et12 _ _ gt10
  replace gd11 := et12 _ _ gd11
  refine ⟨_, rfl, tw, _, 0, _, rfl, rfl, SqT.of (x13 _ _ g.gw), at_of (j := 0) (v := V.str w0) rfl rfl, (by show 1 ≤ sizeLine; decide), fun l13 nl13 => ?_⟩
  have el13 : Ex H13 (upd H13 l13 (.lst [.int 0])) := Ex.new nl13
  have gl13 : upd H13 l13 (.lst [.int 0]) l13 = some (.lst [.int 0]) := upd_same
  generalize upd H13 l13 (.lst [.int 0]) = H14 at el13 gl13 ⊢
  have x14 := x13.trans el13
  replace gt1 := el13 _ _ gt1
  replace gt2 := el13 _ _ gt2
  replace gl3 := el13 _ _ gl3
  replace gt4 := el13 _ _ gt4
  replace gd5 := el13 _ _ gd5
  replace gt6 := el13 _ _ gt6
  replace go1 := el13 _ _ go1
  replace gl7 := el13 _ _ gl7
  replace gt8 := el13 _ _ gt8
  replace gl9 := el13 _ _ gl9
  replace gt10 := el13 _ _ gt10
  replace gd11 := el13 _ _ gd11
  replace gt12 := el13 _ _ gt12
  refine ⟨(by show 3 ≤ sizeLine; decide), fun t14 nt14 => ?_⟩
  have et14 : Ex H14 (upd H14 t14 (.tup [.int 0, .str w0, .ref l13])) := Ex.new nt14
  have gt14 : upd H14 t14 (.tup [.int 0, .str w0, .ref l13]) t14 = some (.tup [.int 0, .str w0, .ref l13]) := upd_same
  generalize upd H14 t14 (.tup [.int 0, .str w0, .ref l13]) = H15 at et14 gt14 ⊢
  have x15 := x14.trans et14
  replace gt1 := et14 _ _ gt1
  replace gt2 := et14 _ _ gt2
  replace gl3 := et14 _ _ gl3
  replace gt4 := et14 _ _ gt4
  replace gd5 := et14 _ _ gd5
  replace gt6 := et14 _ _ gt6
  replace go1 := et14 _ _ go1
  replace gl7 := et14 _ _ gl7
  replace gt8 := et14 _ _ gt8
  replace gl9 := et14 _ _ gl9
  replace gt10 := et14 _ _ gt10
  replace gd11 := et14 _ _ gd11
  replace gt12 := et14 _ _ gt12
  replace gl13 := et14 _ _ gl13
  refine ⟨(by show 1 ≤ sizeLine; decide), fun t15 nt15 => ?_⟩
  have et15 : Ex H15 (upd H15 t15 (.tup [.int 0])) := Ex.new nt15
  have gt15 : upd H15 t15 (.tup [.int 0]) t15 = some (.tup [.int 0]) := upd_same
  generalize upd H15 t15 (.tup [.int 0]) = H16 at et15 gt15 ⊢
  have x16 := x15.trans et15
  replace gt1 := et15 _ _ gt1
  replace gt2 := et15 _ _ gt2
  replace gl3 := et15 _ _ gl3
  replace gt4 := et15 _ _ gt4
  replace gd5 := et15 _ _ gd5
  replace gt6 := et15 _ _ gt6
  replace go1 := et15 _ _ go1
  replace gl7 := et15 _ _ gl7
  replace gt8 := et15 _ _ gt8
  replace gl9 := et15 _ _ gl9
  replace gt10 := et15 _ _ gt10
  replace gd11 := et15 _ _ gd11
  replace gt12 := et15 _ _ gt12
  replace gl13 := et15 _ _ gl13
  replace gt14 := et15 _ _ gt14
  refine ⟨_, rfl, tw, _, 0, _, rfl, rfl, SqT.of (x16 _ _ g.gw), at_of (j := 0) (v := V.str w0) rfl rfl, (by show 3 ≤ sizeLine; decide), fun t16 nt16 => ?_⟩
  have et16 : Ex H16 (upd H16 t16 (.tup [.ref t15, .str w0, .int 0])) := Ex.new nt16
  have gt16 : upd H16 t16 (.tup [.ref t15, .str w0, .int 0]) t16 = some (.tup [.ref t15, .str w0, .int 0]) := upd_same
  generalize upd H16 t16 (.tup [.ref t15, .str w0, .int 0]) = H17 at et16 gt16 ⊢
  have x17 := x16.trans et16
  replace gt1 := et16 _ _ gt1
  replace gt2 := et16 _ _ gt2
  replace gl3 := et16 _ _ gl3
  replace gt4 := et16 _ _ gt4
  replace gd5 := et16 _ _ gd5
  replace gt6 := et16 _ _ gt6
  replace go1 := et16 _ _ go1
  replace gl7 := et16 _ _ gl7
  replace gt8 := et16 _ _ gt8
  replace gl9 := et16 _ _ gl9
  replace gt10 := et16 _ _ gt10
  replace gd11 := et16 _ _ gd11
  replace gt12 := et16 _ _ gt12
  replace gl13 := et16 _ _ gl13
  replace gt14 := et16 _ _ gt14
  replace gt15 := et16 _ _ gt15
  refine ⟨(by show 5 ≤ sizeLine; decide), fun o2 no2 => ?_⟩
  have eo2 : Ex H17 (upd H17 o2 (.lst [.ref t8, .ref t10, .ref t12, .ref t14, .ref t16])) := Ex.new no2
  have go2 : upd H17 o2 (.lst [.ref t8, .ref t10, .ref t12, .ref t14, .ref t16]) o2 = some (.lst [.ref t8, .ref t10, .ref t12, .ref t14, .ref t16]) := upd_same
  generalize upd H17 o2 (.lst [.ref t8, .ref t10, .ref t12, .ref t14, .ref t16]) = H18 at eo2 go2 ⊢
  have x18 := x17.trans eo2
  replace gt1 := eo2 _ _ gt1
  replace gt2 := eo2 _ _ gt2
  replace gl3 := eo2 _ _ gl3
  replace gt4 := eo2 _ _ gt4
  replace gd5 := eo2 _ _ gd5
  replace gt6 := eo2 _ _ gt6
  replace go1 := eo2 _ _ go1
  replace gl7 := eo2 _ _ gl7
  replace gt8 := eo2 _ _ gt8
  replace gl9 := eo2 _ _ gl9
  replace gt10 := eo2 _ _ gt10
  replace gd11 := eo2 _ _ gd11
  replace gt12 := eo2 _ _ gt12
  replace gl13 := eo2 _ _ gl13
  replace gt14 := eo2 _ _ gt14
  replace gt15 := eo2 _ _ gt15
  replace gt16 := eo2 _ _ gt16
  show rCat _ _ H18 _
  refine ⟨o1, o2, _, _, rfl, rfl, go1, go2, (by show 13 ≤ sizeLine; decide), fun o3 no3 => ?_⟩
  have eo3 : Ex H18 (upd H18 o3 (.lst [.non, .ref t1, .ref t2, .ref l3, .ref t4, .str w0, .ref d5, .ref t6, .ref t8, .ref t10, .ref t12, .ref t14, .ref t16])) := Ex.new no3
  have go3 : upd H18 o3 (.lst [.non, .ref t1, .ref t2, .ref l3, .ref t4, .str w0, .ref d5, .ref t6, .ref t8, .ref t10, .ref t12, .ref t14, .ref t16]) o3 = some (.lst [.non, .ref t1, .ref t2, .ref l3, .ref t4, .str w0, .ref d5, .ref t6, .ref t8, .ref t10, .ref t12, .ref t14, .ref t16]) := upd_same
  show _
  replace go3 : upd H18 o3 (.lst ([.non, .ref t1, .ref t2, .ref l3, .ref t4, .str w0, .ref d5, .ref t6] ++ [.ref t8, .ref t10, .ref t12, .ref t14, .ref t16])) o3 = some (.lst [.non, .ref t1, .ref t2, .ref l3, .ref t4, .str w0, .ref d5, .ref t6, .ref t8, .ref t10, .ref t12, .ref t14, .ref t16]) := go3
  replace eo3 : Ex H18 (upd H18 o3 (.lst ([.non, .ref t1, .ref t2, .ref l3, .ref t4, .str w0, .ref d5, .ref t6] ++ [.ref t8, .ref t10, .ref t12, .ref t14, .ref t16]))) := eo3
  generalize upd H18 o3 (.lst ([.non, .ref t1, .ref t2, .ref l3, .ref t4, .str w0, .ref d5, .ref t6] ++ [.ref t8, .ref t10, .ref t12, .ref t14, .ref t16])) = H19 at eo3 go3 ⊢
  have x19 := x18.trans eo3
  replace gt1 := eo3 _ _ gt1
  replace gt2 := eo3 _ _ gt2
  replace gl3 := eo3 _ _ gl3
  replace gt4 := eo3 _ _ gt4
  replace gd5 := eo3 _ _ gd5
  replace gt6 := eo3 _ _ gt6
  replace go1 := eo3 _ _ go1
  replace gl7 := eo3 _ _ gl7
  replace gt8 := eo3 _ _ gt8
  replace gl9 := eo3 _ _ gl9
  replace gt10 := eo3 _ _ gt10
  replace gd11 := eo3 _ _ gd11
  replace gt12 := eo3 _ _ gt12
  replace gl13 := eo3 _ _ gl13
  replace gt14 := eo3 _ _ gt14
  replace gt15 := eo3 _ _ gt15
  replace gt16 := eo3 _ _ gt16
  replace go2 := eo3 _ _ go2
  have all : ∀ v ∈ ([.non, .ref t1, .ref t2, .ref l3, .ref t4, .str w0, .ref d5, .ref t6, .ref t8, .ref t10, .ref t12, .ref t14, .ref t16] : List V), Odd K H19 v := by
    intro v hv
    simp only [List.mem_cons, List.not_mem_nil, or_false] at hv
    rcases hv with rfl | rfl | rfl | rfl | rfl | rfl | rfl | rfl | rfl | rfl | rfl | rfl | rfl
    · exact Odd.dat (d := .none) (.inl .non) (by decide)
    · exact Odd.tup gt1 .nil fun _ _ _ => rfl
    · exact Odd.tup gt2 (.cons (dvi 0) (.cons (dvs w0) .nil)) fun _ _ _ => rfl
    · exact Odd.dat (d := .list [.int 0, .str w0, .int 0]) (.inl (.lst (SqL.of gl3) (.cons (.int 0) (.cons (.str w0) (.cons (.int 0) .nil))))) (show ¬ "list" = "tuple" by decide)
    · exact Odd.tup gt4 (.cons (dvi 0) (.cons (dvi 0) (.cons (dvi 0) .nil))) fun _ _ _ => rfl
    · exact Odd.dat (dvs w0) (show ¬ "str" = "tuple" by decide)
    · exact Odd.dat (.inr ⟨_, _, rfl, gd5, rfl⟩) (show ¬ "dict" = "tuple" by decide)
    · exact Odd.tup gt6 (.cons (dvb true) (.cons (dvs w0) (.cons (dvb true) .nil))) fun _ _ _ => rfl
    · exact Odd.tup gt8 (.cons (.inl (.lst (SqL.of gl7) (.cons (.int 0) .nil))) (.cons (dvs w0) (.cons (dvi 0) .nil))) fun _ _ _ => rfl
    · exact Odd.tup gt10 (.cons (dvi 0) (.cons (.inl (.lst (SqL.of gl9) (.cons (.str w0) .nil))) (.cons (dvi 0) .nil))) fun _ _ _ => rfl
    · exact Odd.tup gt12 (.cons (dvi 0) (.cons (dvs w0) (.cons (.inr ⟨_, _, rfl, gd11, rfl⟩) .nil))) fun _ _ _ => rfl
    · exact Odd.tup gt14 (.cons (dvi 0) (.cons (dvs w0) (.cons (.inl (.lst (SqL.of gl13) (.cons (.int 0) .nil))) .nil))) fun _ _ _ => rfl
    · exact Odd.tup gt16 (.cons (.inl (.tup (SqT.of gt15) (.cons (.int 0) .nil))) (.cons (dvs w0) (.cons (dvi 0) .nil))) fun _ _ _ => rfl
  refine ⟨_, rfl, o3, rfl, ⟨_, SqL.of go3⟩, fun D hD => ?_⟩
  refine lc_list (K := K) (a := o3) (xs := [.non, .ref t1, .ref t2, .ref l3, .ref t4, .str w0, .ref d5, .ref t6, .ref t8, .ref t10, .ref t12, .ref t14, .ref t16]) (fun i J => J D = some (.lst []) ∧ Ex H19 J) ⟨upd_same, Ex.mut (Ex.refl _) hD⟩ (fun i J _ h => SqL.of (h.2 _ _ go3)) ?_ ?_
  · rintro i v J hx ⟨h1, e⟩
    obtain ⟨r, hc, hn⟩ := all v (List.mem_of_getElem? hx)
    have hw := (g.wa.ex (x19.trans e))
    obtain ⟨sh, wa, hs, o1, o2⟩ := id hw
    obtain ⟨dx, po, ti, a1, a2, a3⟩ := wa.at_
    refine ⟨rfl, _, rfl, _, rfl, w, dx, _, rfl, a1, w, x.ks, x.ws, x.ps, x.ts, x.n, v, r, rfl, hw, hc.ex e, _, rfl, _, rfl, ?_⟩
    rw [hn]
    exact if_f rfl ⟨h1, e⟩
  rintro J ⟨h1, e⟩
  refine ⟨(by show 0 ≤ sizeLine; decide), fun f nf => ?_⟩
  have y := Ex.new (o := HO.lst []) nf
  exact ⟨.list [], .list [], .lst (SqL.of (y _ _ h1)) .nil, .lst (SqL.of upd_same) .nil, rfl, rfl, q _ ((x19.trans e).trans y)⟩
end
end K2
namespace K2
open PySem L2 Kd Evl Ks Kt Ky
open PySem.W (Datum DatumOrd T3)
instance : Low Bool := ⟨by decide⟩
/-- what is asked for -/
def AskV (v : V) (d : PyData) : Prop := (∃ i, v = .int i ∧ d = .int i ∧ -1 ≤ i ∧ i < 20000000000000) ∨ (v = .bl true ∧ d = .bool true) ∨ (v = .non ∧ d = .none) ∨ (v = .str "a" ∧ d = .str "a")
def AskW (v : V) (d : PyData) : Prop := (∃ z, v = .str z ∧ d = .str z) ∨ (v = .int 0 ∧ d = .int 0)
def isB : PyData → Bool
  | .bool _ => true
  | _ => false
theorem log_low {i : Int} (h0 : -1 ≤ i) (h1 : i < 20000000000000) : i.natAbs.log2 < 1920 := by
  by_cases c : i.natAbs = 0
  · rw [c]; decide
  · refine (Nat.log2_lt c).mpr ?_
    have h2 : i.natAbs < 2 ^ 64 := by omega
    exact Nat.lt_of_lt_of_le h2 (Nat.pow_le_pow_right (by decide) (by decide))
theorem AskV.dp {K : PySem.W.Frag} {H : Hp} {v : V} {d : PyData} (h : AskV v d) : Dp K H v d := by
  rcases h with ⟨i, rfl, rfl, _⟩ | ⟨rfl, rfl⟩ | ⟨rfl, rfl⟩ | ⟨rfl, rfl⟩
  · exact .int i
  · exact .bl true
  · exact .non
  · exact .str _
theorem AskW.dp {K : PySem.W.Frag} {H : Hp} {v : V} {d : PyData} (h : AskW v d) : Dp K H v d := by
  rcases h with ⟨i, rfl, rfl⟩ | ⟨rfl, rfl⟩
  · exact .str i
  · exact .int 0
theorem AskV.short {v : V} {d : PyData} (h : AskV v d) : shortB v := by
  rcases h with ⟨i, rfl, rfl, h0, h1⟩ | ⟨rfl, rfl⟩ | ⟨rfl, rfl⟩ | ⟨rfl, rfl⟩
  · exact log_low h0 h1
  · trivial
  · trivial
  · show (reprText ("a" : Str)).length ≤ sizeLine
    decide +kernel
theorem AskV.deep {v : V} {d : PyData} (h : AskV v d) : deepOk d := by
  rcases h with ⟨i, rfl, rfl, _⟩ | ⟨rfl, rfl⟩ | ⟨rfl, rfl⟩ | ⟨rfl, rfl⟩
  · exact deep_of (α := Int) i
  · exact deep_of (α := Bool) true
  · exact ⟨rfl, by decide⟩
  · exact deep_of (α := Str) "a"
theorem AskW.deep {v : V} {d : PyData} (h : AskW v d) : deepOk d := by
  rcases h with ⟨i, rfl, rfl⟩ | ⟨rfl, rfl⟩
  · exact deep_of (α := Str) i
  · exact deep_of (α := Int) 0
theorem AskV.d0 {v : V} {d : PyData} (h : AskV v d) : d.depth = 0 := by
  rcases h with ⟨i, rfl, rfl, _⟩ | ⟨rfl, rfl⟩ | ⟨rfl, rfl⟩ | ⟨rfl, rfl⟩ <;> rfl
theorem AskW.d0 {v : V} {d : PyData} (h : AskW v d) : d.depth = 0 := by
  rcases h with ⟨i, rfl, rfl⟩ | ⟨rfl, rfl⟩ <;> rfl
theorem deep_tie {d e : PyData} (j : Int) (hd : deepOk d) (he : deepOk e) (d0 : d.depth = 0) (e0 : e.depth = 0) : deepOk (.tuple [d, e, .int j]) := by
  have hj : deepOk (.int j) := deep_of (α := Int) j
  refine ⟨?_, ?_⟩
  · simp only [PyData.plain, PyData.plainAll, hd.1, he.1]
    rfl
  · simp only [PyData.depth, PyData.depthAll, d0, e0]
    decide
theorem AskV.kit {K : PySem.W.Frag} {v : V} {d : PyData} (h : AskV v d) : PySem.W.kitOne K (.type (tyN d)) (.type "bool") = some (isB d) := by
  rcases h with ⟨i, rfl, rfl, _⟩ | ⟨rfl, rfl⟩ | ⟨rfl, rfl⟩ | ⟨rfl, rfl⟩
  · exact kit_ty (by decide +kernel : kitB "int" "bool" = some false)
  · exact kit_ty (by decide +kernel : kitB "bool" "bool" = some true)
  · exact kit_ty (by decide +kernel : kitB "NoneType" "bool" = some false)
  · exact kit_ty (by decide +kernel : kitB "str" "bool" = some false)
theorem in_ints {K : PySem.W.Frag} {H : Hp} {v : V} {d : PyData} {p : Addr} {ns : List Int} {Q : VK} (hv : Dp K H v d) (dd : deepOk d) (hl : H p = some (.lst (ns.map V.int))) (q : Q (.bl ((ns.map (Datum.toD : Int → PyData)).any fun z => PyData.eqv z d)) H) : rInP K v (.ref p) H Q := by
  unfold rInP
  exact ⟨d, _, hv, .inl (.lst (SqL.of hl) (hdL_ints ns)), dd, deep_all ns, q⟩
theorem in_ties {K : PySem.W.Frag} {H : Hp} {v : V} {d : PyData} {p : Addr} {xs : List V} {ts : List Tie} {Q : VK} (hv : Dp K H v d) (dd : deepOk d) (hl : H p = some (.lst xs)) (hx : Paired (TieV H) xs ts) (q : Q (.bl ((ts.map (Datum.toD : Tie → PyData)).any fun z => PyData.eqv z d)) H) : rInP K v (.ref p) H Q := by
  unfold rInP
  exact ⟨d, _, hv, .inl (.lst (SqL.of hl) (ties_hd hx)), dd, deep_all ts, q⟩
theorem no_int {d : PyData} (h : ∀ i : Int, PyData.eqv (.int i) d = false) (ns : List Int) : ((ns.map (Datum.toD : Int → PyData)).any fun z => PyData.eqv z d) = false := by
  rw [List.any_eq_false]
  intro z hz
  obtain ⟨i, _, rfl⟩ := List.mem_map.mp hz
  rw [show (Datum.toD i : PyData) = .int i from rfl, h i]
  exact Bool.false_ne_true
theorem no_tie {d e f : PyData} (h : ∀ t : Tie, (PyData.eqv (.int t.a) d && PyData.eqv (.str t.b) e) = false) (ts : List Tie) : ((ts.map (Datum.toD : Tie → PyData)).any fun z => PyData.eqv z (.tuple [d, e, f])) = false := by
  rw [List.any_eq_false]
  intro z hz
  obtain ⟨t, _, rfl⟩ := List.mem_map.mp hz
  have e1 : PyData.eqv (Datum.toD t : PyData) (.tuple [d, e, f]) = (PyData.eqv (.int t.a) d && (PyData.eqv (.str t.b) e && (PyData.eqv (.int t.c) f && true))) := rfl
  rw [e1, ← Bool.and_assoc, h t, Bool.false_and]
  exact Bool.false_ne_true
theorem eqv_is (i : Int) (z : Str) : PyData.eqv (.int i) (.str z) = false := by simp only [PyData.eqv]
theorem eqv_in (i : Int) : PyData.eqv (.int i) .none = false := by simp only [PyData.eqv]
theorem eqv_si (z : Str) (i : Int) : PyData.eqv (.str z) (.int i) = false := by simp only [PyData.eqv]
/-- a tie is in the web just where it is in the plain one -/
theorem tie_same {v v' : V} {d d' : PyData} {ws wr : List Str} {ps qs : Posts} {ts us : List Tie} {j : Int} (hv : AskV v d) (hw : AskW v' d') (tin : TiesIn (numsP ps) wr ts) (sw : ∀ z ∈ wr, z ∈ ws) (mp : ∀ i, i ∈ numsP ps → i ∈ numsP qs) (mt : ∀ t, t ∈ us ↔ t ∈ ts) :
    (((ts.map (Datum.toD : Tie → PyData)).any fun z => PyData.eqv z (.tuple [d, d', .int j])) = false → inWebC ws qs us (some [d, d', .int j]) = false) ∧
    (((ts.map (Datum.toD : Tie → PyData)).any fun z => PyData.eqv z (.tuple [d, d', .int j])) = true → inWebC ws qs us (some [d, d', .int j]) = !isB d) := by
  rcases hv with ⟨i, rfl, rfl, _⟩ | ⟨rfl, rfl⟩ | ⟨rfl, rfl⟩ | ⟨rfl, rfl⟩
  · rcases hw with ⟨b, rfl, rfl⟩ | ⟨rfl, rfl⟩
    · have e : ((ts.map (Datum.toD : Tie → PyData)).any fun z => PyData.eqv z (.tuple [.int i, .str b, .int j])) = decide ((⟨i, b, j⟩ : Tie) ∈ ts) := any_eqv ts (⟨i, b, j⟩ : Tie)
      rw [e]
      have e2 : inWebC ws qs us (some [.int i, .str b, .int j]) = (decide (b ∈ ws) && (decide (i ∈ numsP qs) && decide (j ∈ numsP qs)) && decide ((⟨i, b, j⟩ : Tie) ∈ us)) := rfl
      rw [e2]
      constructor
      · intro h
        rw [decide_eq_false (fun z => of_decide_eq_false h ((mt _).mp z)), Bool.and_false]
      · intro h
        have h1 := of_decide_eq_true h
        obtain ⟨m1, m2, m3⟩ := tin.mem _ h1
        rw [decide_eq_true (sw _ m2), decide_eq_true (mp _ m1), decide_eq_true (mp _ m3), decide_eq_true ((mt _).mpr h1)]
        rfl
    · rw [no_tie (fun t => by rw [eqv_si, Bool.and_false])]
      exact ⟨fun _ => rfl, fun h => by cases h⟩
  · exact ⟨fun _ => rfl, fun _ => rfl⟩
  · rw [no_tie (fun t => by rw [eqv_in, Bool.false_and])]
    exact ⟨fun _ => rfl, fun h => by cases h⟩
  · rw [no_tie (fun t => by rw [eqv_is, Bool.false_and])]
    exact ⟨fun _ => rfl, fun h => by cases h⟩
theorem cut_4 (sl : List Int) : cutV (sl.map V.int) none (some (4 : Int)) = (sl.take 4).map V.int := by
  show cutV (sl.map V.int) none (some ((4 : Nat) : Int)) = _
  unfold cutV
  rw [HT.sIx_nat, HT.sIx_none, List.drop_zero, Nat.sub_zero, List.length_map, List.map_take]
  by_cases c : 4 ≤ sl.length
  · rw [Nat.min_eq_left c]
  · rw [Nat.min_eq_right (by omega), List.take_of_length_le (by rw [List.length_map]; exact Nat.le_refl _), List.take_of_length_le (by rw [List.length_map]; omega)]
/-- what is due -/
def DueOk (J : Hp) (ps : Posts) (v : V) (d : PyData) (due : V) : Prop := (∃ i z, v = .int i ∧ d = .int i ∧ look ps i = some z ∧ due = .str z) ∨ (isPostD ps d = false ∧ ∃ q, due = .ref q ∧ J q = some (.lst [.str "unknown", .str (repB v)]))
section
variable {P : Program} {w : World} {K : PySem.W.Frag} {mg : Str → Option Value} {base : Heap} {AA : Ads}
set_option maxHeartbeats 16000000 in
theorem rd_loop (T : Txt K mg AA) {cdv : Value} {A : Around} {outer : List Env} {s : Shared} {H0 : Hp} {E : XK} (hr : Room 7 (A.deeper (PyProof.Rows.envOfC "_law_reads" (defScope s_law_reads) s.heap.objs.size AA.a_law_reads cdv))) :
    RdTail AA (cxOf CX0 P w K mg base N_law_reads "_law_reads" (defScope s_law_reads) AA.a_law_reads cdv A outer s H0 E).nox 5 := by
  have G_Web_contains : FnOk P w K mg base CX0 4 AA.a_Web_contains AA.d_Web_contains ["self", "value"] (spInWeb K AA) := ok_Web_contains T
  have G_law_getting : FnOk P w K mg base CX0 6 AA.a_law_getting AA.d_law_getting ["_law_web_here", "_law_post"] (spGetting K AA) := ok_law_getting T
  have hu : _ + 64 < cLine := hu64 hr
  have hu1 : _ + 1 < cLine := hu_of hr
  obtain ⟨tN, hN, qN⟩ := rd_odd (base := base) (P := P) (w := _) (outer := outer) (s := s) (H0 := H0) (E := E) (cdv := cdv) (A := A) T hr
  refine ⟨_, (pss_cons (ps_for PassesOwn.never rfl (pi_list (pe_op op_cat (pe_slice sl_list (pv 5) po_none (po_some pe_int)) (pe_lst (pa_cons (pv 2) (pa_cons pe_bl (pa_cons pe_non (pa_cons pe_str pa_nil))))))) (pg_name (i := 6) sc_law_reads.nd rfl (Or.inl rfl))
      (pss_cons (ps_join (ps_set (i := 10) sc_law_reads.nd rfl (Or.inl rfl) (pe_ifExp (pw_and (pt_cmpR (op_inP (K := K) rfl hu) (pv 6) (pe_callB (call_sortedDI rfl) (by rfl) T.n_sorted (by decide +kernel) (pa_cons (pv 8) pa_nil)) rfl) (pw_and1 (pt_not (pt_val (pe_callB call_isi (by rfl) T.n_isinstance (by decide +kernel) (pa_cons (pv 6) (pa_cons (pe_bltn (v := .ty "bool") (u := .type "bool") (by rfl) T.n_bool (by decide +kernel) rfl) pa_nil))))))).pt ((pe_dget hu1) (pv 8) (pv 6) (fun _ _ => rfl)) (pe_lst (pa_cons pe_str (pa_cons (pe_callB call_reprB (by rfl) T.n_repr (by decide +kernel) (pa_cons (pv 6) pa_nil)) pa_nil))))))
    (pss_cons (ps_join (ps_if (pt_cmpR (op_neP (K := K) rfl hu) (pe_call G_law_getting (hr.mono (by decide)) (by rfl) T.g_law_getting T.k_law_getting T.b_law_getting .nil pass0 (pa_cons (pv 0) (pa_cons (pv 6) pa_nil))) (pv 10) (nomark _)) (pss_one (ps_ret pe_bl)) pss_nil))
    (pss_one (ps_for PassesOwn.never rfl (pi_list (pe_op op_cat (pe_callTy call_list_of (by rfl) T.n_list (by decide +kernel) (pa_cons (pv 4) pa_nil)) (pe_lst (pa_cons pe_str (pa_cons pe_int pa_nil))))) (pg_name (i := 11) sc_law_reads.nd rfl (Or.inl rfl))
      (pss_cons (ps_set (i := 12) sc_law_reads.nd rfl (Or.inl rfl) (pe_tup (pa_cons (pv 6) (pa_cons (pv 11) (pa_cons (pe_ix ix_list (pv 5) pe_int (fun _ _ => rfl)) pa_nil)))))
    (pss_one (ps_if (pt_cmpR (op_neP (K := K) rfl hu) (pe_cmpR (op_inOwn (K := K) rfl G_Web_contains T.m_Web_contains.at_ T.m_Web_contains.fn T.b_Web_contains (hr.mono (by decide))) (pv 12) (pv 0) rfl) (pe_and (pe_cmpR (op_inP (K := K) rfl hu) (pv 12) (pv 9) rfl) (pe_one (pe_not (pe_callB call_isi (by rfl) T.n_isinstance (by decide +kernel) (pa_cons (pv 6) (pa_cons (pe_bltn (v := .ty "bool") (u := .type "bool") (by rfl) T.n_bool (by decide +kernel) rfl) pa_nil)))))) (nomark _)) (pss_one (ps_ret pe_bl)) pss_nil))))))))
    hN), ?_⟩
  intro Q J w p tk tw so d l x kr wr xs ps ts n sl v6 v10 v11 v12 g q
  obtain ⟨j0, sl', rfl⟩ : ∃ j0 sl', sl = j0 :: sl' := by
    have := g.ls.1
    match sl, this with
    | a :: b, _ => exact ⟨a, b, rfl⟩
  have few := g.pl.few
  have lnp := numsP_len ps
  have spp := sortP_perm g.pl.nd
  refine ⟨_, rfl, _, rfl, so, _, rfl, SqL.of g.gs, fun c1 nc1 => ⟨_, rfl, (by show 4 ≤ sizeLine; decide), fun c2 nc2 => ?_⟩⟩
  rw [cut_4] at nc2 ⊢
  generalize hS : j0 :: sl' = sl at *
  have e1 : Ex J (upd J c1 (.lst ((sl.take 4).map V.int))) := Ex.new nc1
  have g1 : upd J c1 (.lst ((sl.take 4).map V.int)) c1 = some (.lst ((sl.take 4).map V.int)) := upd_same
  generalize upd J c1 (.lst ((sl.take 4).map V.int)) = J1 at e1 g1 nc2 ⊢
  have e2 : Ex J1 (upd J1 c2 (.lst [.int n, .bl true, .non, .str "a"])) := Ex.new nc2
  have g2 : upd J1 c2 (.lst [.int n, .bl true, .non, .str "a"]) c2 = some (.lst [.int n, .bl true, .non, .str "a"]) := upd_same
  show rCat _ _ (upd J1 c2 (.lst [.int n, .bl true, .non, .str "a"])) _
  generalize upd J1 c2 (.lst [.int n, .bl true, .non, .str "a"]) = J2 at e2 g2 ⊢
  refine ⟨c1, c2, _, _, rfl, rfl, e2 _ _ g1, g2, len_line (by rw [List.length_map, List.length_take]; show _ + 4 ≤ 1000; omega), fun c3 nc3 => ⟨c3, rfl, ⟨_, SqL.of upd_same⟩, ?_⟩⟩
  have ask : ∀ v ∈ (sl.take 4).map V.int ++ [.int n, .bl true, .non, .str "a"], ∃ d, AskV v d := by
    intro v hv
    rcases List.mem_append.mp hv with h | h
    · obtain ⟨i, hi, rfl⟩ := List.mem_map.mp h
      have := g.bs i (List.mem_of_mem_take hi)
      exact ⟨_, .inl ⟨i, rfl, rfl, this.1, this.2⟩⟩
    · have := g.n0
      simp only [List.mem_cons, List.not_mem_nil, or_false] at h
      rcases h with rfl | rfl | rfl | rfl
      · exact ⟨_, .inl ⟨n, rfl, rfl, by omega, this.2⟩⟩
      · exact ⟨_, .inr (.inl ⟨rfl, rfl⟩)⟩
      · exact ⟨_, .inr (.inr (.inl ⟨rfl, rfl⟩))⟩
      · exact ⟨_, .inr (.inr (.inr ⟨rfl, rfl⟩))⟩
  generalize (sl.take 4).map V.int ++ [.int n, .bl true, .non, .str "a"] = vs at *
  have e3 : Ex J2 (upd J2 c3 (.lst vs)) := Ex.new nc3
  have g3 : upd J2 c3 (.lst vs) c3 = some (.lst vs) := upd_same
  generalize upd J2 c3 (.lst vs) = J3 at e3 g3 ⊢
  have x3 := (e1.trans e2).trans e3
  refine for_list (K := K) (a := c3) (xs := vs) (fun i σ G => ∃ v6 v10 v11 v12, σ = rdS w p n tk tw so d l v6 none v10 v11 v12 ∧ Ex J3 G) ⟨v6, v10, v11, v12, rfl, Ex.refl _⟩ (fun i σ G _ ⟨_, _, _, _, _, e⟩ => SqL.of (e _ _ g3)) ?_ ?_
  · rintro i v σ G hx ⟨v6, v10, v11, v12, rfl, e4⟩
    obtain ⟨dv, hv⟩ := ask v (List.mem_of_getElem? hx)
    have g4 := g.ex (x3.trans e4)
    -- what is due
    refine ⟨fun σ G1 => ∃ due, σ = rdS w p n tk tw so d l (some v) none (some due) v11 v12 ∧ Ex G G1 ∧ DueOk G1 ps v dv due, ?_, ?_⟩
    · have keys : (kvP ps).map (·.1) = (numsP ps).map Sum.inl := by
        unfold kvP numsP
        rw [List.map_map, List.map_map]
        rfl
      refine ⟨_, rfl, _, rfl, d, _, numsP ps, rfl, .inl g4.gp.2.1, keys, by omega, fun ys q1 perm _ nq1 => ?_⟩
      have e5 : Ex G (upd G q1 (.lst (ys.map V.int))) := Ex.new nq1
      have g5 : upd G q1 (.lst (ys.map V.int)) q1 = some (.lst (ys.map V.int)) := upd_same
      generalize upd G q1 (.lst (ys.map V.int)) = G5 at e5 g5 ⊢
      have gd5 := e5 _ _ g4.gp.2.1
      -- the list that tells of an unknown name
      have els : ∀ (G6 : Hp), Ex G G6 → isPostD ps dv = false → (tLst (tCons (tC (.str "unknown")) (tCons (tCB rReprB (tCons (tVar 6) tNil)) tNil))) (rdS w p n tk tw so d l (some v) none v10 v11 v12) G6 (fun y G7 => ∃ due, (rdS w p n tk tw so d l (some v) none v10 v11 v12).set 10 (some y) = rdS w p n tk tw so d l (some v) none (some due) v11 v12 ∧ Ex G G7 ∧ DueOk G7 ps v dv due) := fun G6 e6 c =>
        ⟨_, rfl, v, rfl, hv.short, (by show 2 ≤ sizeLine; decide), fun q2 nq2 => ⟨_, rfl, e6.trans (Ex.new nq2), .inr ⟨c, q2, rfl, upd_same⟩⟩⟩
      refine in_ints hv.dp hv.deep g5 ⟨_, rfl, ?_⟩
      rcases id hv with ⟨i, rfl, rfl, _⟩ | ⟨rfl, rfl⟩ | ⟨rfl, rfl⟩ | ⟨rfl, rfl⟩
      · have e6 : ((ys.map (Datum.toD : Int → PyData)).any fun z => PyData.eqv z (.int i)) = decide (i ∈ numsP ps) := by
          rw [show ((ys.map (Datum.toD : Int → PyData)).any fun z => PyData.eqv z (.int i)) = decide (i ∈ ys) from any_eqv ys i]
          exact decide_eq_decide.mpr perm.mem_iff
        rw [e6]
        by_cases c : i ∈ numsP ps
        · have hk : (look ps i).isSome = true := by rw [look_some]; exact decide_eq_true c
          obtain ⟨z, hz⟩ := Option.isSome_iff_exists.mp hk
          refine if_t (decide_eq_true c) ⟨_, rfl, _, _, _, _, _, rfl, .ty "bool", .base (.int i), hv.kit, _, rfl, if_t rfl ⟨_, rfl, _, rfl, d, .str z, rfl, .inl ⟨_, .inl i, .inl gd5, rfl, by rw [val_kvP, hz]; rfl⟩, ?_⟩⟩
          exact ⟨_, rfl, e5, .inl ⟨i, z, rfl, rfl, hz, rfl⟩⟩
        · exact if_f (decide_eq_false c) (if_f rfl (els _ e5 (decide_eq_false c)))
      · cases ((ys.map (Datum.toD : Int → PyData)).any fun z => PyData.eqv z (.bool true)) with
        | true => exact if_t rfl ⟨_, rfl, _, _, _, _, _, rfl, .ty "bool", .base (.bl true), hv.kit, _, rfl, if_f rfl (els _ e5 rfl)⟩
        | false => exact if_f rfl (if_f rfl (els _ e5 rfl))
      · rw [no_int eqv_in]
        exact if_f rfl (if_f rfl (els _ e5 rfl))
      · rw [no_int (fun i => eqv_is i _)]
        exact if_f rfl (if_f rfl (els _ e5 rfl))
    rintro σ G1 ⟨due, rfl, e5, hdue⟩
    have g5 := g4.ex e5
    -- what is told
    refine ⟨fun σ G2 => σ = rdS w p n tk tw so d l (some v) none (some due) v11 v12 ∧ Ex G1 G2, ?_, ?_⟩
    · refine ⟨_, rfl, _, rfl, w, x, v, dv, rfl, g5.wa, .inl hv.dp, hv.short, fun i z ei hz => ?_, fun c G2 q2 e6 hq2 => ?_⟩
      · rw [g5.ep, look_perm spp g.pl.nd] at hz
        rcases hdue with ⟨i', z', rfl, rfl, hz', rfl⟩ | ⟨c, _⟩
        · cases ei
          obtain rfl := Option.some.inj (hz.symm.trans hz')
          exact ⟨_, rfl, neP (hd_str z) (hd_str z) ⟨_, rfl, if_f (by rw [decide_eq_true rfl]; rfl) ⟨rfl, Ex.refl _⟩⟩⟩
        · subst ei
          have := look_some ps i
          rw [hz] at this
          have c2 : decide (i ∈ numsP ps) = false := c
          rw [c2] at this
          cases this
      · rcases hdue with ⟨i', z', rfl, rfl, hz', rfl⟩ | ⟨c2, q3, rfl, hq3⟩
        · have c2 : decide (i' ∈ numsP x.ps) = false := c
          rw [g5.ep] at c2
          have := look_some (sortP ps) i'
          rw [look_perm spp g.pl.nd, hz', c2] at this
          cases this
        · refine ⟨_, rfl, neP (α := List Str) (a := ["unknown", repB v]) (b := ["unknown", repB v]) (hd_list (SqL.of hq2) (hdL_strs ["unknown", repB v])) (hd_list (SqL.of (e6 _ _ hq3)) (hdL_strs ["unknown", repB v])) ⟨_, rfl, if_f (by rw [decide_eq_true rfl]; rfl) ⟨rfl, e6⟩⟩⟩
    rintro σ G2 ⟨rfl, e6⟩
    have g6 := g5.ex e6
    -- the ties
    refine ⟨_, rfl, tw, _, rfl, .inr (SqT.of g6.gw), fun b1 nb1 => ⟨(by show 2 ≤ sizeLine; decide), fun b2 nb2 => ?_⟩⟩
    have y1 : Ex G2 (upd G2 b1 (.lst (wr.map V.str))) := Ex.new nb1
    have h1 : upd G2 b1 (.lst (wr.map V.str)) b1 = some (.lst (wr.map V.str)) := upd_same
    generalize upd G2 b1 (.lst (wr.map V.str)) = G3 at y1 h1 nb2 ⊢
    have y2 : Ex G3 (upd G3 b2 (.lst [.str "nope", .int 0])) := Ex.new nb2
    have h2 : upd G3 b2 (.lst [.str "nope", .int 0]) b2 = some (.lst [.str "nope", .int 0]) := upd_same
    show rCat _ _ (upd G3 b2 (.lst [.str "nope", .int 0])) _
    generalize upd G3 b2 (.lst [.str "nope", .int 0]) = G4 at y2 h2 ⊢
    have lw := g.nw.hi
    refine ⟨b1, b2, _, _, rfl, rfl, y2 _ _ h1, h2, len_line (by rw [List.length_map]; show _ + 2 ≤ 1000; omega), fun b3 nb3 => ⟨b3, rfl, ⟨_, SqL.of upd_same⟩, ?_⟩⟩
    have askw : ∀ v ∈ wr.map V.str ++ [.str "nope", .int 0], ∃ d, AskW v d := by
      intro v hv
      rcases List.mem_append.mp hv with h | h
      · obtain ⟨z, _, rfl⟩ := List.mem_map.mp h
        exact ⟨_, .inl ⟨z, rfl, rfl⟩⟩
      · simp only [List.mem_cons, List.not_mem_nil, or_false] at h
        rcases h with rfl | rfl
        · exact ⟨_, .inl ⟨_, rfl, rfl⟩⟩
        · exact ⟨_, .inr ⟨rfl, rfl⟩⟩
    generalize wr.map V.str ++ [.str "nope", .int 0] = us at *
    have y3 : Ex G4 (upd G4 b3 (.lst us)) := Ex.new nb3
    have h3 : upd G4 b3 (.lst us) b3 = some (.lst us) := upd_same
    generalize upd G4 b3 (.lst us) = G5 at y3 h3 ⊢
    have z3 := (y1.trans y2).trans y3
    refine for_list (K := K) (a := b3) (xs := us) (fun i σ G => ∃ v11 v12, σ = rdS w p n tk tw so d l (some v) none (some due) v11 v12 ∧ Ex G5 G) ⟨v11, v12, rfl, Ex.refl _⟩ (fun i σ G _ ⟨_, _, _, e⟩ => SqL.of (e _ _ h3)) ?_ ?_
    · rintro k u σ G6 hu' ⟨v11, v12, rfl, e7⟩
      obtain ⟨dw, hw⟩ := askw u (List.mem_of_getElem? hu')
      have g7 := g6.ex (z3.trans e7)
      have gs7 := g7.gs
      rw [← hS] at gs7
      refine ⟨_, rfl, _, rfl, _, rfl, so, _, 0, _, rfl, rfl, SqL.of gs7, at_of (j := 0) (v := V.int j0) rfl rfl, (by show 3 ≤ sizeLine; decide), fun t nt => ?_⟩
      have e8 : Ex G6 (upd G6 t (.tup [v, u, .int j0])) := Ex.new nt
      have gt : upd G6 t (.tup [v, u, .int j0]) t = some (.tup [v, u, .int j0]) := upd_same
      generalize upd G6 t (.tup [v, u, .int j0]) = G7 at e8 gt ⊢
      have g8 := g7.ex e8
      have hw8 := g8.wa
      obtain ⟨sh, wa, hs, o1, o2⟩ := id hw8
      obtain ⟨dx, po, ti, a1, a2, a3⟩ := wa.at_
      have hc : Cand K G7 (.ref t) (some [dv, dw, .int j0]) := .inr ⟨t, _, _, rfl, gt, .cons (.inl hv.dp) (.cons (.inl hw.dp) (.cons (.inl (.int j0)) .nil)), rfl⟩
      obtain ⟨s1, s2⟩ := tie_same (ws := x.ws) (qs := x.ps) (us := x.ts) (j := j0) hv hw g.pl.ti g.hw (fun i hi => by rw [g.ep]; exact (nums_perm spp).mem_iff.mpr hi) (fun t => by rw [g.et]; exact mem_srt)
      refine ⟨_, rfl, _, rfl, w, dx, _, rfl, a1, w, x.ks, x.ws, x.ps, x.ts, x.n, .ref t, _, rfl, hw8, hc, _, rfl, ?_⟩
      refine ⟨_, rfl, _, rfl, in_ties (d := .tuple [dv, dw, .int j0]) (.tup (SqT.of gt) (.cons hv.dp (.cons hw.dp (.cons (.int j0) .nil)))) (deep_tie j0 hv.deep hw.deep hv.d0 hw.d0) g8.gp.2.2.1 g8.gp.2.2.2 ⟨_, rfl, ?_⟩⟩
      cases c : ((ts.map (Datum.toD : Tie → PyData)).any fun z => PyData.eqv z (.tuple [dv, dw, .int j0])) with
      | false =>
        refine if_f rfl ?_
        refine neP (α := Bool) (a := inWebC x.ws x.ps x.ts (some [dv, dw, .int j0])) (b := false) (Dp.bl _) (Dp.bl _) ⟨_, rfl, if_f ?_ ⟨_, _, rfl, e7.trans e8⟩⟩
        rw [s1 c]
        rfl
      | true =>
        refine if_t rfl ⟨_, rfl, _, _, _, _, _, rfl, .ty "bool", tyX_of (.inl hv.dp), hv.kit, _, rfl, ?_⟩
        refine neP (α := Bool) (a := inWebC x.ws x.ps x.ts (some [dv, dw, .int j0])) (b := !isB dv) (Dp.bl _) (Dp.bl _) ⟨_, rfl, if_f ?_ ⟨_, _, rfl, e7.trans e8⟩⟩
        rw [s2 c, decide_eq_true rfl]
        rfl
    · rintro σ G6 ⟨v11, v12, rfl, e7⟩
      exact ⟨_, _, _, _, rfl, ((e4.trans e5).trans e6).trans (z3.trans e7)⟩
  · rintro σ G ⟨v6, v10, v11, v12, rfl, e4⟩
    exact qN Q G w p tk tw so d l x kr wr xs ps ts n sl v6 v10 v11 v12 (g.ex (x3.trans e4)) fun H' e => q H' ((x3.trans e4).trans e)
end
end K2
namespace K2
open PySem L2 Kd Evl Ks Kt Ky
open PySem.W (Datum DatumOrd T3)
abbrev rtS (a yl : Addr) (n : Int) (w : Addr) (v4 v5 v6 : Option V) (tk tw p : Addr) (v10 v11 : Option V) (sh : Addr) (v13 v14 v15 v16 v17 : Option V) : L2.St := [some (.ref a), some (.ref yl), some (.int n), some (.ref w), v4, v5, v6, some (.ref tk), some (.ref tw), some (.ref p), v10, v11, some (.ref sh), v13, v14, v15, v16, v17]
/-- a tail of _law_right: from there on True is answered -/
def RtTail (K : PySem.W.Frag) (AA : Ads) (X : Cx) (i : Nat) : Prop := ∃ t, PSs X ((defBody s_law_right).drop i) t ∧ ∀ (Q : VK) (J : Hp) (a w p tk tw sh d l yl : Addr) (x : Wb) (kr wr : List Str) (xs ys : List V) (ps : Posts) (ts us : List Tie) (n : Int) (bf : Str) (v5 v6 v10 v11 v13 v14 v15 v16 v17 : Option V),
  Rr K AA J a w p tk tw sh d l yl x kr wr xs ys ps ts us n → (∀ H', Ex J H' → Q (.bl true) H') → t { nx := fun _ H' => Q .non H', rt := Q } (rtS a yl n w (some (.str bf)) v5 v6 tk tw p v10 v11 sh v13 v14 v15 v16 v17) J
theorem pairs_last {H : Hp} : ∀ {bs : List Addr} {ps : Posts}, PairsAt H bs (kvP ps) → PairsAt H bs.dropLast (kvP ps.dropLast)
  | [], [], _ => .nil
  | [], _ :: _, h => by cases h
  | _ :: _, [], h => by cases h
  | [b], [p], _ => .nil
  | [b], p :: q :: r, h => by cases h with | cons _ h => cases h
  | b :: c :: r, [p], h => by cases h with | cons _ h => cases h
  | b :: c :: bs, p :: q :: ps, h => by
    cases h with
    | cons h1 h2 =>
      have ih := pairs_last (bs := c :: bs) (ps := q :: ps) h2
      exact .cons h1 ih
theorem zz_ok : Nm ["zz"] 3 := ⟨by decide, by decide, by decide +kernel, by decide⟩
theorem zz_not : ("zz" : Str) ∉ kindsL := by decide +kernel
section
variable {P : Program} {w : World} {K : PySem.W.Frag} {mg : Str → Option Value} {base : Heap} {AA : Ads}
set_option maxHeartbeats 16000000 in
theorem rt_others (T : Txt K mg AA) {cdv : Value} {A : Around} {outer : List Env} {s : Shared} {H0 : Hp} {E : XK} (hG : A.guards = some []) (hr : Room 9 (A.deeper (PyProof.Rows.envOfC "_law_right" (defScope s_law_right) s.heap.objs.size AA.a_law_right cdv))) :
    RtTail K AA (cxOf CX0 P w K mg base N_law_right "_law_right" (defScope s_law_right) AA.a_law_right cdv A outer s H0 E).nox 12 := by
  have G_Web_of : Kw.FnA P w K mg base CX0 7 AA.a_Web_of ["next_post"] (spOfA K AA) := ok_Web_ofA T
  have G_Web_eq : FnOk P w K mg base CX0 3 AA.a_Web_eq AA.d_Web_eq ["self", "other"] (spEqW K AA) := ok_Web_eq T
  have G_Sheet_init : FnOk P w K mg base (L2.CX P w) 3 AA.a_Sheet_init AA.d_Sheet_init ["self", "kinds", "words"] (spInit K AA) := ok_Sheet_init T
  have hu : _ + 64 < cLine := hu64 hr
  have hu1 : _ + 1 < cLine := hu_of hr
  refine ⟨_, (pss_cons (ps_set (i := 6) sc_law_right.nd rfl (Or.inl rfl) (pe_lstN (pa_cons (pe_tup (pa_cons (pe_ix ix_list (pv 9) pe_int (fun _ _ => rfl)) (pa_cons (pe_ix ix_list (pv 9) pe_int (fun _ _ => rfl)) (pa_cons (pe_op op_add (pv 2) pe_int) pa_nil)))) (pa_cons (pe_tup (pa_cons (pe_callTy (call_dictP rfl) (by rfl) T.n_dict (by decide +kernel) (pa_cons (pe_slice sl_list (pe_itemsR rfl (pe_ix ix_list (pv 9) pe_int (fun _ _ => rfl)) (by rfl) T.n_list (by decide +kernel)) po_none (po_some (pe_un un_neg pe_int))) pa_nil)) (pa_cons (pe_lstN pa_nil) (pa_cons (pv 2) pa_nil)))) (pa_cons (pe_tup (pa_cons (pe_ix ix_list (pv 9) pe_int (fun _ _ => rfl)) (pa_cons (pe_lstN pa_nil) (pa_cons (pv 2) pa_nil)))) pa_nil)))))
    (pss_cons (ps_for PassesOwn.never rfl (pi_list (pv 6)) (pg_tup rfl (pgs_cons (pg_name (i := 14) sc_law_right.nd rfl (Or.inl rfl)) (pgs_cons (pg_name (i := 15) sc_law_right.nd rfl (Or.inl rfl)) (pgs_cons (pg_name (i := 16) sc_law_right.nd rfl (Or.inl rfl)) pgs_nil))))
      (pss_cons (ps_set (i := 17) sc_law_right.nd rfl (Or.inl rfl) (Kw.pe_cmethK (pe_glob (v := .ref AA.C_Web) (by rfl) T.g_Web rfl) T.R_Web T.K_Web_of G_Web_of (hr.mono (by decide)) pass0 (pa_cons (pv 12) (pa_cons (pv 14) (pa_cons (pe_callTy call_tuple_of (by rfl) T.n_tuple (by decide +kernel) (pa_cons (pv 15) pa_nil)) pa_nil))) (pk_cons (pv 16) pk_nil)))
    (pss_one (ps_if (pt_cmpR (op_neP (K := K) rfl hu) (pe_cmpR (op_ownEq G_Web_eq (T.I_Web.own T.m_Web_eq) T.b_Web_eq (hr.mono (by decide))) (pv 3) (pv 17) (nomark _)) (pe_cmpR (op_eqTup (K := K) rfl hu) (pe_tup (pa_cons (pv 14) (pa_cons (pv 15) (pa_cons (pv 16) pa_nil)))) (pe_tup (pa_cons (pe_ix ix_list (pv 9) pe_int (fun _ _ => rfl)) (pa_cons (pe_ix ix_list (pv 9) pe_int (fun _ _ => rfl)) (pa_cons (pv 2) pa_nil)))) (nomark _)) (nomark _)) (pss_one (ps_ret pe_bl)) pss_nil))))
    (pss_one (ps_ret (pe_cmpR (op_ownNe G_Web_eq (T.I_Web.own T.m_Web_eq) T.b_Web_eq (hr.mono (by decide))) (pv 3) (Kw.pe_cmethK (pe_glob (v := .ref AA.C_Web) (by rfl) T.g_Web rfl) T.R_Web T.K_Web_of G_Web_of (hr.mono (by decide)) pass0 (pa_cons (pe_make T.M_Sheet G_Sheet_init (hr.mono (by decide)) (by rfl) T.g_Sheet T.b_Sheet_init .nil (passes_call takes0 (fun _ _ _ _ h => h)) (pa_cons (pe_tup (pa_cons pe_str pa_nil)) (pa_cons (pv 8) pa_nil))) (pa_cons pe_dnewK (pa_cons (pe_tup pa_nil) pa_nil))) (pk_cons (pv 2) pk_nil)) (nomark _)))))), ?_⟩
  intro Q J a w p tk tw sh d l yl x kr wr xs ys ps ts us n bf v5 v6 v10 v11 v13 v14 v15 v16 v17 g q
  have pl := g.pl
  have few := pl.few
  have tl := pl.tl
  have nd0 : (numsP (sortP ps)).Nodup := nd_sortP pl.nd
  have at0 : ∀ {G : Hp} {i : Nat} {v : V}, Ex J G → [V.ref d, V.ref l][i]? = some v → True := fun _ _ => trivial
  -- the first one
  refine ⟨_, rfl, p, _, 0, _, rfl, rfl, SqL.of g.gp.1, rfl, _, rfl, p, _, 1, _, rfl, rfl, SqL.of g.gp.1, rfl, _, rfl, _, _, rfl, rfl, (by show 3 ≤ sizeLine; decide), fun t1 nt1 => ?_⟩
  have e1 : Ex J (upd J t1 (.tup [.ref d, .ref l, .int (n + 1)])) := Ex.new nt1
  have g1 : upd J t1 (.tup [.ref d, .ref l, .int (n + 1)]) t1 = some (.tup [.ref d, .ref l, .int (n + 1)]) := upd_same
  show _
  generalize upd J t1 (.tup [.ref d, .ref l, .int (n + 1)]) = J1 at e1 g1 ⊢
  have gp1 := g.gp.ex e1
  -- the second one
  refine ⟨_, rfl, p, _, 0, _, rfl, rfl, SqL.of gp1.1, rfl, d, _, rfl, .inl gp1.2.1, fun J2 q1 bs e2 _ hp2 pr2 => ⟨_, rfl, _, rfl, q1, _, rfl, SqL.of hp2, fun c1 nc1 => ?_⟩⟩
  rw [cut_last, ← List.map_dropLast]
  have e2' : Ex J1 J2 := e2
  have e3 : Ex J2 (upd J2 c1 (.lst (bs.dropLast.map V.ref))) := Ex.new nc1
  have g3 : upd J2 c1 (.lst (bs.dropLast.map V.ref)) c1 = some (.lst (bs.dropLast.map V.ref)) := upd_same
  have pr3 := pair_ex e3 (pairs_last pr2)
  generalize upd J2 c1 (.lst (bs.dropLast.map V.ref)) = J3 at e3 g3 pr3 ⊢
  have ndl : (numsP ps.dropLast).Nodup := by
    unfold numsP
    rw [List.map_dropLast]
    exact (List.dropLast_sublist _).nodup pl.nd
  refine ⟨c1, bs.dropLast, kvP ps.dropLast, rfl, SqL.of g3, pair_sq pr3, fun dd ndd => ?_⟩
  rw [merge_kvP ndl]
  have e4 : Ex J3 (upd J3 dd (.dK (kvP ps.dropLast))) := Ex.new ndd
  have g4 : upd J3 dd (.dK (kvP ps.dropLast)) dd = some (.dK (kvP ps.dropLast)) := upd_same
  have ndd0 : J dd = none := fresh_back ((e1.trans e2').trans e3) ndd
  generalize upd J3 dd (.dK (kvP ps.dropLast)) = J4 at e4 g4 ⊢
  refine ⟨(by show 0 ≤ sizeLine; decide), fun l2 nl2 _ => ?_⟩
  have e5 : Ex J4 (upd J4 l2 (.lst [])) := Ex.new nl2
  have g5 : upd J4 l2 (.lst []) l2 = some (.lst []) := upd_same
  generalize upd J4 l2 (.lst []) = J5 at e5 g5 ⊢
  refine ⟨_, rfl, (by show 3 ≤ sizeLine; decide), fun t2 nt2 => ?_⟩
  have e6 : Ex J5 (upd J5 t2 (.tup [.ref dd, .ref l2, .int n])) := Ex.new nt2
  have g6 : upd J5 t2 (.tup [.ref dd, .ref l2, .int n]) t2 = some (.tup [.ref dd, .ref l2, .int n]) := upd_same
  generalize upd J5 t2 (.tup [.ref dd, .ref l2, .int n]) = J6 at e6 g6 ⊢
  have x6 := (((((e1.trans e2').trans e3).trans e4).trans e5).trans e6)
  have gp6 := g.gp.ex x6
  -- the third one
  refine ⟨_, rfl, p, _, 0, _, rfl, rfl, SqL.of gp6.1, rfl, (by show 0 ≤ sizeLine; decide), fun l3 nl3 _ => ?_⟩
  have e7 : Ex J6 (upd J6 l3 (.lst [])) := Ex.new nl3
  have g7 : upd J6 l3 (.lst []) l3 = some (.lst []) := upd_same
  generalize upd J6 l3 (.lst []) = J7 at e7 g7 ⊢
  refine ⟨_, rfl, (by show 3 ≤ sizeLine; decide), fun t3 nt3 => ?_⟩
  have e8 : Ex J7 (upd J7 t3 (.tup [.ref d, .ref l3, .int n])) := Ex.new nt3
  have g8 : upd J7 t3 (.tup [.ref d, .ref l3, .int n]) t3 = some (.tup [.ref d, .ref l3, .int n]) := upd_same
  generalize upd J7 t3 (.tup [.ref d, .ref l3, .int n]) = J8 at e8 g8 ⊢
  refine ⟨(by show 3 ≤ sizeLine; decide), fun oo noo _ => ?_⟩
  have e9 : Ex J8 (upd J8 oo (.lst [.ref t1, .ref t2, .ref t3])) := Ex.new noo
  have g9 : upd J8 oo (.lst [.ref t1, .ref t2, .ref t3]) oo = some (.lst [.ref t1, .ref t2, .ref t3]) := upd_same
  generalize upd J8 oo (.lst [.ref t1, .ref t2, .ref t3]) = J9 at e9 g9 ⊢
  have y79 := (e7.trans e8).trans e9
  have x9 := x6.trans y79
  have g0 := g.ex x9
  have tin : ∀ t ∈ ts, t.a ∈ numsP ps ∧ t.b ∈ wr ∧ t.c ∈ numsP ps := pl.ti.mem
  have ex2 : ∀ {G : Hp} {r : Posts} {rs : List Tie} {m : Int}, eqWb x ⟨x.ks, x.ws, r, rs, m⟩ = (decide (n = m) && (sameD (kvP (sortP ps)) (kvP r) && sameK ((srt ts).map tieK) (rs.map tieK))) := fun {_ r rs m} => by
    unfold eqWb
    rw [g.ep, g.et, g.en, decide_eq_true rfl]
    rfl
  have all : ∀ v ∈ ([.ref t1, .ref t2, .ref t3] : List V), ∃ t dd ll qs vs rs m, Oth K J9 d x kr wr ps ts n v t dd ll qs vs rs m := by
    intro v hv
    simp only [List.mem_cons, List.not_mem_nil, or_false] at hv
    rcases hv with rfl | rfl | rfl
    · refine ⟨t1, d, l, ps, xs, ts, n + 1, rfl, ((((((e2'.trans e3).trans e4).trans e5).trans e6).trans y79) _ _ g1), g0.gp.2.1, g0.gp.2.2.1, g0.gp.2.2.2, pl.nd, fun _ h => h, few, tin, tl, by have := g.nx; omega, fun _ => sameD_self pl.nd, ?_⟩
      rw [ex2 (G := J), decide_eq_false (by omega : ¬ n = n + 1), decide_eq_false (by omega : ¬ n + 1 = n), Bool.and_false, Bool.and_false]
      rfl
    · have gd9 := ((e5.trans e6).trans y79) _ _ g4
      refine ⟨t2, dd, l2, ps.dropLast, [], [], n, rfl, y79 _ _ g6, gd9, (e6.trans y79) _ _ g5, .nil, ndl, fun _ h => (List.dropLast_sublist ps).mem h, by rw [List.length_dropLast]; omega, (fun _ h => nomatch h), by decide, Int.le_trans (nextOf_sub fun i hi => ?_) g.nx, fun z => ?_, ?_⟩
      · unfold numsP at hi ⊢
        rw [List.map_dropLast] at hi
        exact (List.dropLast_sublist _).mem hi
      · rw [z, g.gp.2.1] at ndd0
        cases ndd0
      · rw [ex2 (G := J), once_nil, show ([] : List Tie).map tieK = [] from rfl, sameK_nil, srt_nil_iff, decide_eq_true rfl, Bool.true_and, Bool.and_true]
        by_cases c : ps = []
        · subst c
          have e : ts = [] := by
            cases ts with
            | nil => rfl
            | cons t r => exact absurd (tin t List.mem_cons_self).1 (fun z => nomatch z)
          subst e
          show (sameD (kvP (sortP [])) (kvP (sortP [])) && _) = (sameD (kvP []) (kvP []) && _)
          rw [sameD_self nd0, sameD_self pl.nd]
        · have h1 : 0 < ps.length := List.length_pos_iff.mpr c
          rw [sameD_len (by rw [kvP_len, kvP_len, sortP_len, sortP_len, List.length_dropLast]; omega), sameD_len (by rw [kvP_len, kvP_len, List.length_dropLast]; omega)]
    · refine ⟨t3, d, l3, ps, [], [], n, rfl, e9 _ _ g8, g0.gp.2.1, (e8.trans e9) _ _ g7, .nil, pl.nd, fun _ h => h, few, (fun _ h => nomatch h), by decide, g.nx, fun _ => sameD_self pl.nd, ?_⟩
      rw [ex2 (G := J), once_nil, show ([] : List Tie).map tieK = [] from rfl, sameK_nil, srt_nil_iff, decide_eq_true rfl, Bool.true_and, Bool.and_true, sameD_self nd0, sameD_self pl.nd]
  refine ⟨_, rfl, oo, rfl, ⟨_, SqL.of g9⟩, ?_⟩
  refine for_list (K := K) (a := oo) (xs := [.ref t1, .ref t2, .ref t3]) (fun i σ G => ∃ v14 v15 v16 v17, σ = rtS a yl n w (some (.str bf)) v5 (some (.ref oo)) tk tw p v10 v11 sh v13 v14 v15 v16 v17 ∧ Ex J9 G) ⟨v14, v15, v16, v17, rfl, Ex.refl _⟩ (fun i σ G _ ⟨_, _, _, _, _, e⟩ => SqL.of (e _ _ g9)) ?_ ?_
  · rintro i v σ G hx ⟨v14, v15, v16, v17, rfl, e10⟩
    obtain ⟨t, de, ll, qs, vs, rs, m, o⟩ := all v (List.mem_of_getElem? hx)
    obtain ⟨rfl, o1, o2, o3, o4, o5, o6, o7, o8, o9, o10, o11, o12⟩ := o
    have g10 := g0.ex e10
    refine ⟨t, _, rfl, SqT.of (e10 _ _ o1), rfl, _, _, rfl, _, _, rfl, _, _, rfl, rfl, ?_⟩
    refine ⟨rfl, _, rfl, _, rfl, _, rfl, ll, vs, rfl, .inl ⟨SqL.of (e10 _ _ o3), fun tt ntt => ?_⟩⟩
    have e11 : Ex G (upd G tt (.tup vs)) := Ex.new ntt
    have gt : upd G tt (.tup vs) tt = some (.tup vs) := upd_same
    generalize upd G tt (.tup vs) = G1 at e11 gt ⊢
    have g11 := g10.ex e11
    have x11 := e10.trans e11
    refine ⟨_, rfl, rfl, rfl, sh, de, tt, some m, x.ks, x.ws, qs, vs, rs, rfl, pl.mkw g11.hs g.sk g.sw (x11 _ _ o2) o5 o6 (by omega) (ties_ex o4 x11) o8 (by omega), SqT.of gt, fun k z => by cases z; exact o10, fun H8 w2 e12 wn => ?_⟩
    have g12 := g11.ex e12
    have wa2 : WbAt AA H8 w2 ⟨x.ks, x.ws, sortP qs, once (srt rs), m⟩ := ⟨sh, wn.web, g12.hs, sort_ok2 g.nK g.sk, sort_ok2 g.nW g.sw⟩
    refine ⟨_, rfl, _, rfl, own_webW T g12.wa (.inr ⟨w2, _, rfl, wa2, rfl⟩) ?_⟩
    refine ⟨_, rfl, _, rfl, _, rfl, (by show 3 ≤ sizeLine; decide), fun u1 nu1 => ?_⟩
    have f1 : Ex H8 (upd H8 u1 (.tup [.ref de, .ref ll, .int m])) := Ex.new nu1
    have h1 : upd H8 u1 (.tup [.ref de, .ref ll, .int m]) u1 = some (.tup [.ref de, .ref ll, .int m]) := upd_same
    generalize upd H8 u1 (.tup [.ref de, .ref ll, .int m]) = H9 at f1 h1 ⊢
    have g13 := g12.ex f1
    refine ⟨_, rfl, p, _, 0, _, rfl, rfl, SqL.of g13.gp.1, rfl, _, rfl, p, _, 1, _, rfl, rfl, SqL.of g13.gp.1, rfl, _, rfl, (by show 3 ≤ sizeLine; decide), fun u2 nu2 => ?_⟩
    have f2 : Ex H9 (upd H9 u2 (.tup [.ref d, .ref l, .int n])) := Ex.new nu2
    have h2 : upd H9 u2 (.tup [.ref d, .ref l, .int n]) u2 = some (.tup [.ref d, .ref l, .int n]) := upd_same
    show rEqT K id _ _ (upd H9 u2 (.tup [.ref d, .ref l, .int n])) _
    generalize upd H9 u2 (.tup [.ref d, .ref l, .int n]) = H10 at f2 h2 ⊢
    have x13 := (x11.trans e12).trans (f1.trans f2)
    have g14 := g13.ex f2
    refine ⟨u1, u2, _, _, fun i => match i with | 0 => sameD (kvP qs) (kvP ps) | 1 => decide (rs = ts) | _ => decide (m = n), rfl, rfl, SqT.of (f2 _ _ h1), SqT.of h2, rfl, fun i v u hv hu' => ?_, ?_⟩
    · match i, hv, hu' with
      | 0, hv, hu' =>
        cases hv; cases hu'
        exact .inr ⟨de, d, _, _, rfl, rfl, .inl (x13 _ _ o2), .inl g14.gp.2.1, kvP_pl _, kvP_pl _, o11, rfl⟩
      | 1, hv, hu' =>
        cases hv; cases hu'
        exact .inl ⟨_, _, hd_list (SqL.of (x13 _ _ o3)) (ties_hd (ties_ex o4 x13)), hd_list (SqL.of g14.gp.2.2.1) (ties_hd g14.gp.2.2.2), deep_of rs, deep_of ts, (Datum.eqv rs ts).symm⟩
      | 2, hv, hu' =>
        cases hv; cases hu'
        exact .inl ⟨_, _, hd_int m, hd_int n, deep_of m, deep_of n, (Datum.eqv m n).symm⟩
      | k + 3, hv, _ => cases hv
    · refine neP (α := Bool) (Dp.bl _) (Dp.bl _) ⟨_, rfl, if_f ?_ ⟨_, _, _, _, rfl, e10.trans ((e11.trans e12).trans (f1.trans f2))⟩⟩
      have e : eqO x (some ⟨x.ks, x.ws, sortP qs, once (srt rs), m⟩) = (sameD (kvP qs) (kvP ps) && (decide (rs = ts) && decide (m = n))) := o12
      show (!decide (id (eqO x _) = (sameD (kvP qs) (kvP ps) && (decide (rs = ts) && (decide (m = n) && true))))) = false
      rw [e, Bool.and_true]
      exact by simp
  rintro σ G ⟨v14, v15, v16, v17, rfl, e10⟩
  have g10 := g0.ex e10
  refine ⟨_, rfl, rfl, (by show 1 ≤ sizeLine; decide), fun z nz => ?_⟩
  have e11 : Ex G (upd G z (.tup [.str "zz"])) := Ex.new nz
  have gz : upd G z (.tup [.str "zz"]) z = some (.tup ((["zz"] : List Str).map V.str)) := upd_same
  generalize upd G z (.tup [.str "zz"]) = G1 at e11 gz ⊢
  have g11 := g10.ex e11
  refine ⟨_, rfl, mk_ok (dv_names (SqT.of gz)) (dv_names (SqT.of g11.gw)) zz_ok g.nW fun sh2 H6 ks ws e12 sk2 sw2 hsh2 dd2 ndd2 => ?_⟩
  have e13 : Ex H6 (upd H6 dd2 (.dK [])) := Ex.new ndd2
  have h13 : upd H6 dd2 (.dK []) dd2 = some (.dK (kvP [])) := upd_same
  generalize upd H6 dd2 (.dK []) = H7 at e13 h13 ⊢
  refine ⟨(by show 0 ≤ sizeLine; decide), fun tt ntt => ?_⟩
  have e14 : Ex H7 (upd H7 tt (.tup [])) := Ex.new ntt
  have h14 : upd H7 tt (.tup []) tt = some (.tup []) := upd_same
  generalize upd H7 tt (.tup []) = H8 at e14 h14 ⊢
  have x14 := (e12.trans e13).trans e14
  have g14 := g11.ex x14
  have n0 : 0 ≤ n := Int.le_trans (nextOf_nn _) g.nx
  refine ⟨_, rfl, rfl, rfl, sh2, dd2, tt, some n, ks, ws, [], [], [], rfl, ⟨hsh2.ex (e13.trans e14), e14 _ _ h13, List.nodup_nil, ⟨by decide, (fun _ h => nomatch h), (fun _ h => nomatch h)⟩, .nil, rfl, by decide⟩, SqT.of h14, fun k z => by cases z; exact n0, fun H9 w2 e15 wn => ?_⟩
  have g15 := g14.ex e15
  have wa2 : WbAt AA H9 w2 ⟨ks, ws, sortP [], once (srt []), n⟩ := ⟨sh2, wn.web, hsh2.ex ((e13.trans e14).trans e15), sort_ok2 zz_ok sk2, sort_ok2 g.nW sw2⟩
  refine own_webW T g15.wa (.inr ⟨w2, _, rfl, wa2, rfl⟩) ?_
  have ne : eqO x (some ⟨ks, ws, sortP [], once (srt []), n⟩) = false := by
    show (decide (some (ks, ws) = some (x.ks, x.ws)) && _) = false
    rw [decide_eq_false, Bool.false_and]
    intro z
    have z1 : ks = x.ks := (Prod.mk.inj (Option.some.inj z)).1
    have m1 : ("zz" : Str) ∈ ks := sk2.1.mem_iff.mpr List.mem_cons_self
    rw [z1] at m1
    exact zz_not (g.kl _ (g.sk.1.mem_iff.mp m1))
  rw [ne]
  exact q _ ((x9.trans e10).trans (e11.trans (x14.trans e15)))
end
end K2
namespace K2
open PySem L2 Kd Evl Ks Kt Ky
open PySem.W (Datum DatumOrd T3)
theorem paired_rev {β : Type} {R : V → β → Prop} : ∀ {vs : List V} {xs : List β}, Paired R vs xs → Paired R vs.reverse xs.reverse
  | _, _, .nil => .nil
  | _, _, .cons h t => by
    rw [List.reverse_cons, List.reverse_cons]
    exact paired_app (paired_rev t) (.cons h .nil)
section
variable {P : Program} {w : World} {K : PySem.W.Frag} {mg : Str → Option Value} {base : Heap} {AA : Ads}
theorem Rr.xe {J : Hp} {a w p tk tw sh d l yl : Addr} {x : Wb} {kr wr : List Str} {xs ys : List V} {ps : Posts} {ts us : List Tie} {n : Int} (g : Rr K AA J a w p tk tw sh d l yl x kr wr xs ys ps ts us n) : (⟨x.ks, x.ws, sortP ps, srt ts, n⟩ : Wb) = x := by
  rw [← g.ep, ← g.et, ← g.en]
set_option maxHeartbeats 16000000 in
theorem rt_same (T : Txt K mg AA) {cdv : Value} {A : Around} {outer : List Env} {s : Shared} {H0 : Hp} {E : XK} (hG : A.guards = some []) (hr : Room 9 (A.deeper (PyProof.Rows.envOfC "_law_right" (defScope s_law_right) s.heap.objs.size AA.a_law_right cdv))) :
    RtTail K AA (cxOf CX0 P w K mg base N_law_right "_law_right" (defScope s_law_right) AA.a_law_right cdv A outer s H0 E).nox 10 := by
  have G_Web_of : Kw.FnA P w K mg base CX0 7 AA.a_Web_of ["next_post"] (spOfA K AA) := ok_Web_ofA T
  have G_Web_eq : FnOk P w K mg base CX0 3 AA.a_Web_eq AA.d_Web_eq ["self", "other"] (spEqW K AA) := ok_Web_eq T
  have G_Sheet_init : FnOk P w K mg base (L2.CX P w) 3 AA.a_Sheet_init AA.d_Sheet_init ["self", "kinds", "words"] (spInit K AA) := ok_Sheet_init T
  have G_law_mixed_dict : FnOk P w K mg base CX0 3 AA.a_law_mixed_dict AA.d_law_mixed_dict ["_law_dice_here", "_law_table"] spMixD := ok_law_mixed_dict T
  have hu : _ + 64 < cLine := hu64 hr
  have hu1 : _ + 1 < cLine := hu_of hr
  obtain ⟨tN, hN, qN⟩ := rt_others (base := base) (P := P) (w := _) (outer := outer) (s := s) (H0 := H0) (E := E) (cdv := cdv) (A := A) T hG hr
  refine ⟨_, (pss_cons (ps_set (i := 5) sc_law_right.nd rfl (Or.inl rfl) (Kw.pe_cmethK (pe_glob (v := .ref AA.C_Web) (by rfl) T.g_Web rfl) T.R_Web T.K_Web_of G_Web_of (hr.mono (by decide)) pass0 (pa_cons (pe_make T.M_Sheet G_Sheet_init (hr.mono (by decide)) (by rfl) T.g_Sheet T.b_Sheet_init .nil (passes_call takes0 (fun _ _ _ _ h => h)) (pa_cons (pe_revT (pv 7)) (pa_cons (pe_revT (pv 8)) pa_nil))) (pa_cons (pe_call G_law_mixed_dict (hr.mono (by decide)) (by rfl) T.g_law_mixed_dict T.k_law_mixed_dict T.b_law_mixed_dict .nil pass0 (pa_cons (pv 0) (pa_cons (pe_ix ix_list (pv 9) pe_int (fun _ _ => rfl)) pa_nil))) (pa_cons (pe_callTy call_tuple_of (by rfl) T.n_tuple (by decide +kernel) (pa_cons (pe_revL (pv 1)) pa_nil)) pa_nil))) (pk_cons (pv 2) pk_nil)))
    (pss_cons (ps_if (pw_or (pt_cmpR (op_ownNe G_Web_eq (T.I_Web.own T.m_Web_eq) T.b_Web_eq (hr.mono (by decide))) (pv 3) (pv 5) (nomark _)) (pw_or (pt_not (pt_cmpR (op_ownEq G_Web_eq (T.I_Web.own T.m_Web_eq) T.b_Web_eq (hr.mono (by decide))) (pv 3) (pv 5) (nomark _))) (pw_or (pt_cmpR (op_ownEq G_Web_eq (T.I_Web.own T.m_Web_eq) T.b_Web_eq (hr.mono (by decide))) (pv 3) (pv 9) (nomark _)) (pw_or (pt_cmpR (op_ownEq G_Web_eq (T.I_Web.own T.m_Web_eq) T.b_Web_eq (hr.mono (by decide))) (pv 3) (pv 4) (nomark _)) (pw_or1 (pt_not (pt_val (pe_callB call_isi (by rfl) T.n_isinstance (by decide +kernel) (pa_cons (pe_cmpR (op_ownEq G_Web_eq (T.I_Web.own T.m_Web_eq) T.b_Web_eq (hr.mono (by decide))) (pv 3) pe_non (nomark _)) (pa_cons (pe_bltn (v := .ty "bool") (u := .type "bool") (by rfl) T.n_bool (by decide +kernel) rfl) pa_nil)))))))))).pt (pss_one (ps_ret pe_bl)) pss_nil)
    hN)), ?_⟩
  intro Q J a w p tk tw sh d l yl x kr wr xs ys ps ts us n bf v5 v6 v10 v11 v13 v14 v15 v16 v17 g q
  have pl := g.pl
  have few := pl.few
  have lu := g.lu
  refine ⟨rfl, _, rfl, tk, _, rfl, SqT.of g.gk, fun k1 nk1 => ?_⟩
  rw [← List.map_reverse]
  have e1 : Ex J (upd J k1 (.tup (kr.reverse.map V.str))) := Ex.new nk1
  have g1 : upd J k1 (.tup (kr.reverse.map V.str)) k1 = some (.tup (kr.reverse.map V.str)) := upd_same
  generalize upd J k1 (.tup (kr.reverse.map V.str)) = J1 at e1 g1 ⊢
  refine ⟨_, rfl, tw, _, rfl, SqT.of (e1 _ _ g.gw), fun w1 nw1 => ?_⟩
  rw [← List.map_reverse]
  have e2 : Ex J1 (upd J1 w1 (.tup (wr.reverse.map V.str))) := Ex.new nw1
  have g2 : upd J1 w1 (.tup (wr.reverse.map V.str)) w1 = some (.tup (wr.reverse.map V.str)) := upd_same
  generalize upd J1 w1 (.tup (wr.reverse.map V.str)) = J2 at e2 g2 ⊢
  refine mk_ok (dv_names (SqT.of (e2 _ _ g1))) (dv_names (SqT.of g2)) (g.nK.perm (List.reverse_perm _)) (g.nW.perm (List.reverse_perm _)) fun sh2 J3 ks ws e3 sk2 sw2 hsh2 => ?_
  obtain rfl := sort_one (List.reverse_perm kr) sk2 g.sk
  obtain rfl := sort_one (List.reverse_perm wr) sw2 g.sw
  have x3 := (e1.trans e2).trans e3
  have g3 := g.ex x3
  refine ⟨_, rfl, _, rfl, p, _, 0, _, rfl, rfl, SqL.of g3.gp.1, rfl, a, d, ps, rfl, g3.da, g3.gp.2.1, pl.nd, by omega, fun J4 e qs e4 _ ge pq => ?_⟩
  have g4 := g3.ex e4
  refine ⟨_, rfl, yl, _, rfl, SqL.of g4.gy, fun r nr => ?_⟩
  have e5 : Ex J4 (upd J4 r (.lst ys.reverse)) := Ex.new nr
  have h5 : upd J4 r (.lst ys.reverse) r = some (.lst ys.reverse) := upd_same
  generalize upd J4 r (.lst ys.reverse) = J5 at e5 h5 ⊢
  refine ⟨r, _, rfl, .inl ⟨SqL.of h5, fun tt ntt => ?_⟩⟩
  have e6 : Ex J5 (upd J5 tt (.tup ys.reverse)) := Ex.new ntt
  have h6 : upd J5 tt (.tup ys.reverse) tt = some (.tup ys.reverse) := upd_same
  generalize upd J5 tt (.tup ys.reverse) = J6 at e6 h6 ⊢
  have x56 := e5.trans e6
  have g6 := g4.ex x56
  have np := nums_perm pq
  refine ⟨_, rfl, rfl, rfl, sh2, e, tt, some n, x.ks, x.ws, qs, ys.reverse, us.reverse, rfl, pl.mkw (hsh2.ex (e4.trans x56)) g.sk g.sw (x56 _ _ ge) (np.nodup_iff.mpr pl.nd) (fun q hq => pq.mem_iff.mp hq) (by rw [pq.length_eq]; omega) (paired_rev g6.ty) (fun t ht => ?_) (by rw [List.length_reverse]; omega), SqT.of h6, fun k z => by cases z; rw [nextOf_perm np]; exact g.nx, fun J7 w2 e7 wn => ?_⟩
  · obtain ⟨m1, m2, m3⟩ := pl.ti.mem t ((g.mu t).mp (List.mem_reverse.mp ht))
    exact ⟨np.mem_iff.mpr m1, m2, np.mem_iff.mpr m3⟩
  have g7 := g6.ex e7
  have wa2 : WbAt AA J7 w2 x := by
    have z : WbAt AA J7 w2 ⟨x.ks, x.ws, sortP ps, srt ts, n⟩ := by
      have e1 := sortP_one pq pl.nd
      have e2 : once (srt us.reverse) = srt ts := once_srt pl.ti.nd fun t => by rw [List.mem_reverse]; exact g.mu t
      have wb := wn.web
      rw [e1, e2] at wb
      exact ⟨sh2, wb, hsh2.ex ((e4.trans x56).trans e7), sort_ok2 g.nK g.sk, sort_ok2 g.nW g.sw⟩
    rw [g.xe] at z
    exact z
  have nd0 : (numsP x.ps).Nodup := by rw [g.ep]; exact nd_sortP pl.nd
  have same : eqO x (some x) = true := eqWb_self nd0
  have x7 := (x3.trans e4).trans (x56.trans e7)
  refine ⟨_, rfl, _, rfl, own_webW T g7.wa (.inr ⟨w2, x, rfl, wa2, rfl⟩) ⟨_, rfl, if_f (by rw [same]; rfl) ?_⟩⟩
  refine ⟨_, rfl, _, rfl, own_webW T g7.wa (.inr ⟨w2, x, rfl, wa2, rfl⟩) ⟨_, rfl, if_f (by rw [same]; rfl) ?_⟩⟩
  refine ⟨_, rfl, _, rfl, own_webW T g7.wa (.inl ⟨.list [], .base (.lst g7.gp.1), rfl⟩) ⟨_, rfl, if_f rfl ?_⟩⟩
  refine ⟨_, rfl, _, rfl, own_webW T g7.wa (.inl ⟨.str bf, .base (.str bf), rfl⟩) ⟨_, rfl, if_f rfl ?_⟩⟩
  refine ⟨_, rfl, ?_⟩
  unfold tC
  dsimp only
  refine own_webW T g7.wa (.inl ⟨.none, .base .non, rfl⟩) ?_
  refine ⟨_, _, _, _, _, rfl, .ty "bool", .base (.bl _), kit_ty (by decide +kernel : kitB "bool" "bool" = some true), _, rfl, if_f rfl ?_⟩
  exact qN Q J7 a w p tk tw sh d l yl x kr wr xs ys ps ts us n bf _ v6 v10 v11 v13 v14 v15 v16 v17 g7 fun H' e => q H' (x7.trans e)
end
end K2
namespace K2
open PySem L2 Kd Evl Ks Kt Ky
open PySem.W (Datum DatumOrd T3)
instance : Low (Int × Str) := ⟨by decide⟩
instance : Low (List (Int × Str)) := ⟨by decide⟩
instance : Sorts (Int × Str) := ⟨fun xs => .inl fun d hd => by obtain ⟨a, _, rfl⟩ := List.mem_map.mp hd; exact ⟨_, _, rfl⟩, by decide⟩
theorem srt_items {ps : Posts} (nd : (numsP ps).Nodup) : srt ps = sortP ps := by
  have p := sortP_perm nd
  have h0 : (srt (numsP ps)).Pairwise fun a b => le a b = true := srt_up _
  have h1 : (srt (numsP ps)).Nodup := (srt_perm _).nodup_iff.mpr nd
  have h2 : (srt (numsP ps)).Pairwise fun a b => a < b := by
    refine (h0.and (List.nodup_iff_pairwise_ne.mp h1)).imp fun {a b} h => ?_
    have h3 : (!decide (b < a)) = true := h.1
    have h4 : ¬ b < a := fun z => by rw [decide_eq_true z] at h3; cases h3
    have h5 := h.2
    omega
  have ltp : ∀ a b : Int × Str, a.1 < b.1 → le a b = true := fun a b h => by
    have e : DatumOrd.lt b a = false := by
      show (if b.1 = a.1 then DatumOrd.lt b.2 a.2 else DatumOrd.lt b.1 a.1) = false
      rw [if_neg (by omega)]
      exact decide_eq_false (by omega)
    unfold le
    rw [e]
    rfl
  have u1 : (sortP ps).Pairwise fun a b => le a b = true := by
    unfold sortP
    rw [List.pairwise_map]
    exact h2.imp fun h => ltp _ _ h
  have u2 : (sortP ps).Pairwise fun a b => a.1 < b.1 := by
    unfold sortP
    rw [List.pairwise_map]
    exact h2
  have q : (srt ps).Perm (sortP ps) := (srt_perm ps).trans p.symm
  have nd2 : (numsP (srt ps)).Nodup := (nums_perm (srt_perm ps)).nodup_iff.mpr nd
  have u3 : (srt ps).Pairwise fun a b => a.1 < b.1 := by
    have n3 : (srt ps).Pairwise fun a b => a.1 ≠ b.1 := List.pairwise_map.mp (List.nodup_iff_pairwise_ne.mp nd2)
    refine ((srt_up ps).and n3).imp fun {a b} h => ?_
    have h5 := h.2
    rcases Int.lt_or_lt_of_ne h5 with c | c
    · exact c
    · have e := ltp b a c
      have h6 : le a b = true := h.1
      have h7 : DatumOrd.lt b a = true := by
        show (if b.1 = a.1 then DatumOrd.lt b.2 a.2 else DatumOrd.lt b.1 a.1) = true
        rw [if_neg (by omega)]
        exact decide_eq_true c
      unfold le at h6
      rw [h7] at h6
      cases h6
  exact List.Perm.eq_of_pairwise (fun a b _ _ h1 h2 => absurd h1 (by omega)) u3 u2 q
theorem pairs_hd {K : PySem.W.Frag} {H : Hp} : ∀ {bs : List Addr} {ps : Posts}, PairsAt H bs (kvP ps) → HdL K H (bs.map V.ref) ps
  | [], [], _ => HdL.nil
  | b :: bs, p :: ps, h => by
    cases h with
    | cons h1 h2 => exact HdL.cons (hd_pair (SqT.of h1) (hd_int p.1) (hd_str p.2)) (pairs_hd h2)
  | [], _ :: _, h => by cases h
  | _ :: _, [], h => by cases h
theorem web_str {n m : Nat} : (((("web of " : Str) ++ (toString (n : Int) : Str)) ++ (" posts, " : Str)) ++ (toString (m : Int) : Str)) ++ (" ties" : Str) = webStr n m := by
  unfold webStr
  rw [show (Str.empty ++ ("web of " : Str)) = ("web of " : Str) by decide +kernel]
  rfl
section
variable {P : Program} {w : World} {K : PySem.W.Frag} {mg : Str → Option Value} {base : Heap} {AA : Ads}
def spReads (AA : Ads) : Sp := fun vs H Q _ => ∃ (w p tk tw d l : Addr) (x : Wb) (kr wr : List Str) (xs : List V) (ps : Posts) (ts : List Tie) (n : Int), vs = [.ref w, .ref p, .int n, .ref tk, .ref tw] ∧ WbAt AA H w x ∧ x.ps = sortP ps ∧ x.ts = srt ts ∧ x.n = n ∧ IsSort kr x.ks ∧ IsSort wr x.ws ∧
  PlL H p d l xs ps ts ∧ Pl kr wr ps ts ∧ H tk = some (.tup (kr.map V.str)) ∧ H tw = some (.tup (wr.map V.str)) ∧ Nm kr 3 ∧ Nm wr 2 ∧ 0 ≤ n ∧ n < 20000000000000 ∧ ∀ H', Ex H H' → Q (.bl true) H'
set_option maxHeartbeats 16000000 in
theorem ok_law_reads (T : Txt K mg AA) : FnOk P w K mg base CX0 8 AA.a_law_reads AA.d_law_reads ["_law_web_here", "_law_plain", "_law_number", "_law_kinds", "_law_words"] (spReads AA) := by
  have G_Web_len : FnOk P w K mg base CX0 1 AA.a_Web_len AA.d_Web_len ["self"] (spLenW AA) := ok_Web_len T
  have G_Web_bool : FnOk P w K mg base CX0 1 AA.a_Web_bool AA.d_Web_bool ["self"] (spBoolW AA) := ok_Web_bool T
  have G_Web_str : FnOk P w K mg base CX0 1 AA.a_Web_str AA.d_Web_str ["self"] (spStrW AA) := ok_Web_str T
  have G_Web_sheet : FnOk P w K mg base CX0 1 AA.a_Web_sheet AA.d_Web_sheet ["self"] (getSp AA.C_Web "own_sheet") := ok_Web_sheet T
  have G_Web_next_post : FnOk P w K mg base CX0 1 AA.a_Web_next_post AA.d_Web_next_post ["self"] (spNext AA) := ok_Web_next_post T
  have G_Web_posts : FnOk P w K mg base CX0 1 AA.a_Web_posts AA.d_Web_posts ["self"] (spPostsW AA) := ok_Web_posts T
  have G_Web_ties : FnOk P w K mg base CX0 1 AA.a_Web_ties AA.d_Web_ties ["self"] (spTiesW AA) := ok_Web_ties T
  have G_Sheet_eq : FnOk P w K mg base CX0 1 AA.a_Sheet_eq AA.d_Sheet_eq ["self", "other"] (spEqS K AA.C_Sheet) := ok_Sheet_eq T
  have G_Sheet_init : FnOk P w K mg base (L2.CX P w) 3 AA.a_Sheet_init AA.d_Sheet_init ["self", "kinds", "words"] (spInit K AA) := ok_Sheet_init T
  refine T.F_law_reads.ok sc_law_reads (fun vs H Q E h => ?_) (fun cdv A outer s H vs Q E hr h => ?_)
  · obtain ⟨w, p, tk, tw, d, l, x, kr, wr, xs, ps, ts, n, rfl, _⟩ := h
    rfl
  obtain ⟨w, p, tk, tw, d, l, x, kr, wr, xs, ps, ts, n, rfl, hw, ep, et, en, sk, sw, gp, pl, gk, gw, nK, nW, n0, n1, q⟩ := h
  have hu : _ + 64 < cLine := hu64 hr
  have hu1 : _ + 1 < cLine := hu_of hr
  obtain ⟨tN, hN, qN⟩ := rd_loop (base := base) (P := P) (w := _) (outer := outer) (s := s) (H0 := H) (E := E) (cdv := cdv) (A := A) T hr
  refine ⟨_, (pss_cons (ps_asg (pv 1) (pg_lst rfl (pgs_cons (pg_name (i := 8) sc_law_reads.nd rfl (Or.inl rfl)) (pgs_cons (pg_name (i := 9) sc_law_reads.nd rfl (Or.inl rfl)) pgs_nil))))
    (pss_cons (ps_if (pw_or (pt_cmpR (op_neP (K := K) rfl hu) (pe_itemsR rfl (pe_prop (pv 0) T.cl_Web T.P_Web_posts G_Web_posts (hr.mono (by decide)) T.b_Web_posts .nil pass0 rfl) (by rfl) T.n_list (by decide +kernel)) (pe_callB (cr_sortItems (K := K) rfl rfl hu) (by rfl) T.n_sorted (by decide +kernel) (pa_cons (pe_bm0 PySem.F.plainAttrs_dict PySem.F.slot_dict_items PySem.F.type_dict_items mt_itemsK (pv 8)) pa_nil)) (nomark _)) (pw_or (pt_cmpR (op_neP (K := K) rfl hu) (pe_prop (pv 0) T.cl_Web T.P_Web_ties G_Web_ties (hr.mono (by decide)) T.b_Web_ties .nil pass0 rfl) (pe_callTy call_tuple_of (by rfl) T.n_tuple (by decide +kernel) (pa_cons (pe_callB (cr_sortD (K := K) rfl hu) (by rfl) T.n_sorted (by decide +kernel) (pa_cons (pv 9) pa_nil)) pa_nil)) (nomark _)) (pw_or1 (pt_cmpR (op_neP (K := K) rfl hu) (pe_prop (pv 0) T.cl_Web T.P_Web_next_post G_Web_next_post (hr.mono (by decide)) T.b_Web_next_post .nil pass0 rfl) (pv 2) (nomark _))))).pt (pss_one (ps_ret pe_bl)) pss_nil)
    (pss_cons (ps_if (pt_cmpR (op_neD hu) (pe_lst (pa_cons (pe_callB (call_lenOwn G_Web_len T.m_Web_len.at_ T.m_Web_len.fn T.b_Web_len (hr.mono (by decide))) (by rfl) T.n_len (by decide +kernel) (pa_cons (pv 0) pa_nil)) (pa_cons (pe_callTy (call_boolOwn G_Web_bool T.m_Web_bool.at_ T.m_Web_bool.fn T.b_Web_bool (hr.mono (by decide))) (by rfl) T.n_bool (by decide +kernel) (pa_cons (pv 0) pa_nil)) (pa_cons (pe_cmpR (op_ownEq G_Sheet_eq (T.I_Sheet.own T.m_Sheet_eq) T.b_Sheet_eq (hr.mono (by decide))) (pe_prop (pv 0) T.cl_Web T.P_Web_sheet G_Web_sheet (hr.mono (by decide)) T.b_Web_sheet .nil pass0 rfl) (pe_make T.M_Sheet G_Sheet_init (hr.mono (by decide)) (by rfl) T.g_Sheet T.b_Sheet_init .nil (passes_call takes0 (fun _ _ _ _ h => h)) (pa_cons (pv 3) (pa_cons (pv 4) pa_nil))) (nomark _)) pa_nil)))) (pe_lst (pa_cons (pe_callB call_lenD (by rfl) T.n_len (by decide +kernel) (pa_cons (pv 8) pa_nil)) (pa_cons (pe_cmpR op_gt (pe_callB call_lenD (by rfl) T.n_len (by decide +kernel) (pa_cons (pv 8) pa_nil)) pe_int (nomark _)) (pa_cons pe_bl pa_nil)))) (nomark _)) (pss_one (ps_ret pe_bl)) pss_nil)
    (pss_cons (ps_if (pt_cmpR (op_neP (K := K) rfl hu) (pe_callTy (call_strOwn G_Web_str T.m_Web_str.at_ T.m_Web_str.fn T.b_Web_str (hr.mono (by decide))) (by rfl) T.n_str (by decide +kernel) (pa_cons (pv 0) pa_nil)) (pe_op op_add_str (pe_op op_add_str (pe_op op_add_str (pe_op op_add_str pe_str (pe_callTy call_str_int (by rfl) T.n_str (by decide +kernel) (pa_cons (pe_callB call_lenD (by rfl) T.n_len (by decide +kernel) (pa_cons (pv 8) pa_nil)) pa_nil))) pe_str) (pe_callTy call_str_int (by rfl) T.n_str (by decide +kernel) (pa_cons (pe_callB call_len_seq (by rfl) T.n_len (by decide +kernel) (pa_cons (pv 9) pa_nil)) pa_nil))) pe_str) (nomark _)) (pss_one (ps_ret pe_bl)) pss_nil)
    (pss_cons (ps_set (i := 5) sc_law_reads.nd rfl (Or.inl rfl) (pe_op op_cat (pe_callB (call_sortedDI rfl) (by rfl) T.n_sorted (by decide +kernel) (pa_cons (pv 8) pa_nil)) (pe_lst (pa_cons (pv 2) (pa_cons (pe_un un_neg pe_int) (pa_cons pe_int pa_nil))))))
    hN))))), ?_⟩
  have few := pl.few
  have tl := pl.tl
  have lnp := numsP_len ps
  have lxs := paired_len gp.2.2.2
  have lsp : (sortP ps).length = ps.length := sortP_len ps
  have lst : (srt ts).length = ts.length := (srt_perm ts).length_eq
  have line : (100 : Nat) ≤ sizeLine := by decide
  have at1 : ∀ {J : Hp}, Ex H J → ∃ sh dx po ti, J w = some (.ins AA.C_Web dx (wf sh po ti x.n)) ∧ SheetAt AA.C_Sheet J sh x.ks x.ws ∧ OkS x.ks ∧ OkS x.ws := fun e => by
    obtain ⟨sh, wa, hs, o1, o2⟩ := hw
    obtain ⟨dx, po, ti, a1, a2, a3⟩ := wa.at_
    exact ⟨sh, dx, po, ti, e _ _ a1, hs.ex e, o1, o2⟩
  refine ⟨_, rfl, p, _, rfl, SqL.of gp.1, rfl, _, _, rfl, _, _, rfl, rfl, ?_⟩
  -- posts
  obtain ⟨sh, dx, po, ti, a1, _⟩ := at1 (Ex.refl H)
  refine ⟨_, rfl, w, dx, _, rfl, a1, w, x, rfl, hw, fun q1 nq1 => ⟨q1, _, rfl, .inl upd_same, fun H1 p1 bs e1 _ hp1 pr1 => ?_⟩⟩
  have x1 : Ex H H1 := (Ex.new nq1).trans e1
  refine ⟨_, rfl, .inr (.inr (.inl ⟨rfl, .inl ⟨_, x1 _ _ gp.2.1⟩⟩)), d, _, rfl, rfl, .inl (x1 _ _ gp.2.1), fun it nit => ?_⟩
  have e2 : Ex H1 (upd H1 it (L2.DX.itemsO it d)) := Ex.new nit
  refine sortItemsP (α := Int × Str) (xs := ps) upd_same (.inl (e2 _ _ (x1 _ _ gp.2.1))) (fun H2 bs _ pr => pairs_hd pr) fun H2 us l2 e3 hus nl2 => ?_
  have e4 : Ex H2 (upd H2 l2 (.lst us)) := Ex.new nl2
  have x12 := (e2.trans e3).trans e4
  refine neP (α := List (Int × Str)) (a := x.ps) (b := srt ps) (hd_list (SqL.of (x12 _ _ hp1)) (pairs_hd (pair_ex x12 pr1))) (hd_list (SqL.of upd_same) (hus.ex e4)) ⟨_, rfl, if_f (by rw [ep, srt_items pl.nd, decide_eq_true rfl]; rfl) ?_⟩
  have x2 := x1.trans x12
  generalize upd H2 l2 (.lst us) = H3 at x2 ⊢
  -- ties
  obtain ⟨sh, dx, po, ti, a1, _⟩ := at1 x2
  refine ⟨_, rfl, w, dx, _, rfl, a1, w, x, rfl, hw.ex x2, fun q2 ys H4 e5 hq2 tv2 => ?_⟩
  have x4 := x2.trans e5
  have gp4 := gp.ex x4
  refine ⟨_, rfl, sortedR (α := Tie) (SqL.of gp4.2.2.1) (ties_hd gp4.2.2.2) gp4.2.2.2 fun us2 l3 pr3 pm3 nl3 => ⟨l3, _, rfl, .inl ⟨SqL.of upd_same, fun t3 nt3 => ?_⟩⟩⟩
  have e6 : Ex H4 (upd (upd H4 l3 (.lst us2)) t3 (.tup us2)) := (Ex.new nl3).trans (Ex.new nt3)
  refine neP (α := PySem.W.Tup Tie) (a := ⟨x.ts⟩) (b := ⟨srt ts⟩) (hd_tups (SqT.of (e6 _ _ hq2)) (ties_hd (ties_ex tv2 e6))) (hd_tups (SqT.of upd_same) (ties_hd (ties_ex pr3 e6))) ⟨_, rfl, if_f (by rw [et, decide_eq_true rfl]; rfl) ?_⟩
  have x5 := x4.trans e6
  generalize upd (upd H4 l3 (.lst us2)) t3 (.tup us2) = H5 at x5 ⊢
  -- the next post
  obtain ⟨sh, dx, po, ti, a1, _⟩ := at1 x5
  refine ⟨_, rfl, w, dx, _, rfl, a1, w, x, rfl, hw.ex x5, _, rfl, neP (hd_int _) (hd_int _) ⟨_, rfl, if_f (by rw [en, decide_eq_true rfl]; rfl) ?_⟩⟩
  -- len, truth, sheet
  have lp : x.ps.length = ps.length := by rw [ep, lsp]
  have lt : x.ts.length = ts.length := by rw [et, lst]
  refine ⟨_, rfl, w, dx, _, rfl, a1, w, x, rfl, hw.ex x5, _, rfl, by omega, by omega, ?_⟩
  refine ⟨_, rfl, w, dx, _, rfl, a1, w, x, rfl, hw.ex x5, _, rfl, ?_⟩
  refine ⟨_, rfl, w, dx, _, rfl, a1, w, dx, _, _, rfl, a1, lk_sheet, ?_⟩
  refine ⟨_, rfl, _, rfl, mk_ok (dv_names (SqT.of (x5 _ _ gk))) (dv_names (SqT.of (x5 _ _ gw))) nK nW fun sh2 H6 ks ws e7 sk2 sw2 hsh2 => ?_⟩
  obtain rfl := sort_one (List.Perm.refl _) sk2 sk
  obtain rfl := sort_one (List.Perm.refl _) sw2 sw
  have x6 := x5.trans e7
  obtain ⟨sh', dx', po', ti', a1', hs6, o1, o2⟩ := at1 x6
  have esh : sh' = sh := by
    rw [e7 _ _ a1] at a1'
    injection a1' with z
    injection z with _ _ z
    unfold wf at z
    injection z with z _
    injection z with _ z
    injection z with z
    exact z.symm
  subst esh
  obtain ⟨d1, f1, k1, w1, s1, _⟩ := hs6.at_
  obtain ⟨d2, f2, k2, w2, s2, _⟩ := hsh2.at_
  refine ⟨sh', d1, f1, _, rfl, s1, T.I_Sheet.ty s2, not_first_self, sh', _, x.ks, x.ws, some (x.ks, x.ws), rfl, hs6, o1, o2, .inr ⟨sh2, _, _, rfl, hsh2, o1, o2, rfl⟩, _, rfl, ?_⟩
  rw [decide_eq_true rfl]
  refine ⟨(by show 3 ≤ sizeLine; decide), fun l4 nl4 => ?_⟩
  have gd6 := x6 _ _ gp.2.1
  refine ⟨_, rfl, d, _, rfl, Ex.new nl4 _ _ gd6, _, rfl, d, _, rfl, Ex.new nl4 _ _ gd6, _, _, rfl, rfl, (by show 3 ≤ sizeLine; decide), fun l5 nl5 => ?_⟩
  have e8 := Ex.new (o := HO.lst [.int (x.ps.length : Nat), .bl (decide (0 < x.ps.length)), .bl true]) nl4
  have y8 := Ex.new (o := HO.lst [.int ((kvP ps).length : Nat), .bl (decide (((kvP ps).length : Int) > 0)), .bl true]) nl5
  refine ⟨.list [.int (x.ps.length : Nat), .bool (decide (0 < x.ps.length)), .bool true], .list [.int ((kvP ps).length : Nat), .bool (decide (((kvP ps).length : Int) > 0)), .bool true], .lst (SqL.of (y8 _ _ upd_same)) (.cons (.int _) (.cons (.bl _) (.cons (.bl _) .nil))), .lst (SqL.of upd_same) (.cons (.int _) (.cons (.bl _) (.cons (.bl _) .nil))), rfl, rfl, _, rfl, if_f ?_ ?_⟩
  · rw [lp, kvP_len, show decide ((ps.length : Int) > 0) = decide (0 < ps.length) from decide_eq_decide.mpr (by omega)]
    show (!((_ == _) && ((_ == _) && (_ && true)))) = false
    rw [beq_self_eq_true, beq_self_eq_true]
    rfl
  have x8 := (x6.trans e8).trans y8
  generalize upd (upd H6 l4 _) l5 _ = H8 at x8 ⊢
  -- str
  obtain ⟨sh, dx, po, ti, a1, _⟩ := at1 x8
  have gp8 := gp.ex x8
  refine ⟨_, rfl, w, dx, _, rfl, a1, w, x, rfl, hw.ex x8, by omega, by omega, _, rfl, ?_⟩
  obtain ⟨m1, g1⟩ := numS_ok ps.length (by omega)
  obtain ⟨m2, g2⟩ := numS_ok ts.length (by omega)
  have z1 : ((("web of " : Str))).length = 7 := by decide +kernel
  have z2 : ((" posts, " : Str)).length = 8 := by decide +kernel
  have z3 : ((" ties" : Str)).length = 5 := by decide +kernel
  have m1' : ((toString ((ps.length : Nat) : Int) : Str)).length ≤ 2 := m1
  have m2' : ((toString ((ts.length : Nat) : Int) : Str)).length ≤ 2 := m2
  refine ⟨_, rfl, d, _, rfl, gp8.2.1, _, rfl, by rw [kvP_len]; exact g1, _, _, rfl, rfl, ?_⟩
  rw [kvP_len]
  refine ⟨by rw [z1]; omega, _, _, rfl, rfl, by rw [len_app, z1, z2]; omega, _, rfl, l, _, rfl, .inl (SqL.of gp8.2.2.1), _, rfl, by rw [lxs]; exact g2, _, _, rfl, rfl, ?_⟩
  rw [lxs]
  refine ⟨by rw [len_app, len_app, z1, z2]; omega, _, _, rfl, rfl, by rw [len_app, len_app, len_app, z1, z2, z3]; omega, ?_⟩
  rw [web_str]
  refine neP (hd_str _) (hd_str _) ⟨_, rfl, if_f (by rw [lp, lt, decide_eq_true rfl]; rfl) ?_⟩
  -- some numbers
  have keys : (kvP ps).map (·.1) = (numsP ps).map Sum.inl := by
    unfold kvP numsP
    rw [List.map_map, List.map_map]
    rfl
  refine ⟨_, rfl, d, _, numsP ps, rfl, .inl gp8.2.1, keys, by omega, fun ys q3 perm _ nq3 => ⟨_, rfl, _, rfl, (by show 3 ≤ sizeLine; decide), fun l6 nl6 => ?_⟩⟩
  have f1' : Ex H8 (upd H8 q3 (.lst (ys.map V.int))) := Ex.new nq3
  have h1' : upd H8 q3 (.lst (ys.map V.int)) q3 = some (.lst (ys.map V.int)) := upd_same
  generalize upd H8 q3 (.lst (ys.map V.int)) = H9 at f1' h1' nl6 ⊢
  have f2' : Ex H9 (upd H9 l6 (.lst [.int n, .int (-1), .int 5])) := Ex.new nl6
  have h2' : upd H9 l6 (.lst [.int n, .int (-1), .int 5]) l6 = some (.lst [.int n, .int (-1), .int 5]) := upd_same
  show rCat _ _ (upd H9 l6 (.lst [.int n, .int (-1), .int 5])) _
  generalize upd H9 l6 (.lst [.int n, .int (-1), .int 5]) = H10 at f2' h2' ⊢
  have lys := perm.length_eq
  refine ⟨q3, l6, _, _, rfl, rfl, f2' _ _ h1', h2', len_line (by rw [List.length_map]; show _ + 3 ≤ 1000; omega), fun so nso => ?_⟩
  have f3 : Ex H10 (upd H10 so (.lst (ys.map V.int ++ [.int n, .int (-1), .int 5]))) := Ex.new nso
  have x11 := x8.trans ((f1'.trans f2').trans f3)
  refine qN Q _ w p tk tw so d l x kr wr xs ps ts n (ys ++ [n, -1, 5]) none none none none ⟨hw.ex x11, ep, et, fun z hz => sw.1.mem_iff.mpr hz, gp.ex x11, pl, x11 _ _ gk, x11 _ _ gw, nW, ⟨n0, n1⟩, ?_, ?_, ?_⟩ fun H' e => q H' (x11.trans e)
  · rw [upd_same, List.map_append]
    rfl
  · rw [List.length_append]
    show 3 ≤ ys.length + 3 ∧ ys.length + 3 ≤ 10
    omega
  · intro i hi
    rcases List.mem_append.mp hi with h | h
    · obtain ⟨p1, hp1, rfl⟩ := List.mem_map.mp (perm.mem_iff.mp h)
      have := pl.nn p1 hp1
      omega
    · simp only [List.mem_cons, List.not_mem_nil, or_false] at h
      rcases h with rfl | rfl | rfl <;> omega
end
end K2
namespace K2
open PySem L2 Kd Evl Ks Kt Ky
open PySem.W (Datum DatumOrd T3)
theorem cut_two (xs : List V) : cutV xs none (some (2 : Int)) = xs.take 2 := by
  show cutV xs none (some ((2 : Nat) : Int)) = _
  unfold cutV
  rw [HT.sIx_nat, HT.sIx_none, List.drop_zero, Nat.sub_zero]
  by_cases c : 2 ≤ xs.length
  · rw [Nat.min_eq_left c]
  · rw [Nat.min_eq_right (by omega), List.take_of_length_le (Nat.le_refl _), List.take_of_length_le (by omega)]
section
variable {K : PySem.W.Frag} {AA : Ads}
/-! a dict of its own is emptied -/
theorem clr_at {J : Hp} {e b : Addr} {o u : HO} {kvs : List (Key × V)} (he : J e = some (.dK kvs)) (hb : J b = some o) (h : ∀ k, o ≠ .dK k) : upd J e u b = some o := by
  rw [upd_ne (fun z => by rw [z, he] at hb; exact h _ (Option.some.inj hb).symm)]
  exact hb
theorem SheetAt.clr {C : Addr} {J : Hp} {e p : Addr} {u : HO} {kvs : List (Key × V)} {ks ws : List Str} (h : SheetAt C J p ks ws) (he : J e = some (.dK kvs)) : SheetAt C (upd J e u) p ks ws := by
  obtain ⟨dx, fs, pk, pw, h1, h2, h3, h4, h5⟩ := h.at_
  exact ⟨dx, fs, pk, pw, clr_at he h1 (fun _ z => by cases z), h2, h3, clr_at he h4 (fun _ z => by cases z), clr_at he h5 (fun _ z => by cases z)⟩
theorem ties_clr {J : Hp} {e : Addr} {u : HO} {kvs : List (Key × V)} (he : J e = some (.dK kvs)) {vs : List V} {ts : List Tie} (h : Paired (TieV J) vs ts) : Paired (TieV (upd J e u)) vs ts := paired_imp (fun _ _ z => by
  obtain ⟨b, rfl, hb⟩ := z
  exact ⟨b, rfl, clr_at he hb (fun _ z => by cases z)⟩) h
theorem Rr.clr {J J0 J1 : Hp} {e a w p tk tw sh d l yl : Addr} {x : Wb} {kr wr : List Str} {xs ys : List V} {ps : Posts} {ts us : List Tie} {n : Int} {u : HO} {kvs : List (Key × V)} (g : Rr K AA J a w p tk tw sh d l yl x kr wr xs ys ps ts us n) (he : J e = some (.dK kvs)) (ned : e ≠ d)
    (wn : WebN AA.C_Web J0 J1 w sh x.ps x.ts x.n) (h0 : J0 e = some (.dK kvs)) (e1 : Ex J1 J) : Rr K AA (upd J e u) a w p tk tw sh d l yl x kr wr xs ys ps ts us n := by
  obtain ⟨dx, po, ti, h1, h2, h3, h4, h5⟩ := wn.at_
  have npo : po ≠ e := fun z => by rw [z, h0] at h4; cases h4
  have hs := g.hs.clr (u := u) he
  refine ⟨clr_at he g.da (fun _ z => by cases z), ⟨sh, ⟨dx, po, ti, clr_at he (e1 _ _ h1) (fun _ z => by cases z), by rw [upd_ne npo]; exact e1 _ _ h2, clr_at he (e1 _ _ h3) (fun _ z => by unfold tru at z; cases z)⟩, hs, sort_ok2 g.nK g.sk, sort_ok2 g.nW g.sw⟩, g.ep, g.et, g.en, hs, g.sk, g.sw, ⟨clr_at he g.gp.1 (fun _ z => by cases z), by rw [upd_ne (Ne.symm ned)]; exact g.gp.2.1, clr_at he g.gp.2.2.1 (fun _ z => by cases z), ties_clr he g.gp.2.2.2⟩, g.pl, clr_at he g.gk (fun _ z => by cases z), clr_at he g.gw (fun _ z => by cases z), g.nK, g.nW, g.kl, g.nx, g.n1, clr_at he g.gy (fun _ z => by cases z), ties_clr he g.ty, g.mu, g.lu⟩
theorem Rr.reads {J : Hp} {a w p tk tw sh d l yl : Addr} {x : Wb} {kr wr : List Str} {xs ys : List V} {ps : Posts} {ts us : List Tie} {n : Int} {Q : VK} {E : XK} (g : Rr K AA J a w p tk tw sh d l yl x kr wr xs ys ps ts us n) (q : ∀ H', Ex J H' → Q (.bl true) H') : spReads AA [.ref w, .ref p, .int n, .ref tk, .ref tw] J Q E :=
  ⟨w, p, tk, tw, d, l, x, kr, wr, xs, ps, ts, n, rfl, g.wa, g.ep, g.et, g.en, g.sk, g.sw, g.gp, g.pl, g.gk, g.gw, g.nK, g.nW, Int.le_trans (nextOf_nn _) g.nx, g.n1, q⟩
theorem nm_sm {zs : List Str} {m : Nat} (h : Nm zs m) : ∀ z ∈ zs, Sm z := fun z hz => by
  have h1 := h.nm z hz
  refine ⟨?_, name_ok h1⟩
  have h2 := (Bool.and_eq_true_iff.mp (Bool.and_eq_true_iff.mp h1).1).2
  have := of_decide_eq_true h2
  omega
theorem Rr.fits {J : Hp} {a w p tk tw sh d l yl : Addr} {x : Wb} {kr wr : List Str} {xs ys : List V} {ps : Posts} {ts us : List Tie} {n : Int} (g : Rr K AA J a w p tk tw sh d l yl x kr wr xs ys ps ts us n) : PyData.showable (.list (repD x.ps x.ts)) = true ∧ (PyData.list (repD x.ps x.ts)).depth ≤ 40 ∧ (PyData.list (repD x.ps x.ts)).shown.length ≤ sizeLine := by
  have pl := g.pl
  have nr : ∀ i ∈ numsP ps, Nr i := fun i hi => by
    obtain ⟨p, hp, rfl⟩ := List.mem_map.mp hi
    have := pl.nn p hp
    exact ⟨by omega, by omega⟩
  refine rep_fits (fun p hp => ?_) (fun t ht => ?_) (by rw [g.ep, sortP_len]; exact pl.few) (by rw [g.et, (srt_perm ts).length_eq]; exact pl.tl)
  · rw [g.ep] at hp
    have hp := (sortP_perm pl.nd).mem_iff.mp hp
    exact ⟨nr _ (List.mem_map.mpr ⟨p, hp, rfl⟩), nm_sm g.nK _ (pl.kd p hp)⟩
  · rw [g.et] at ht
    obtain ⟨m1, m2, m3⟩ := pl.ti.mem t (mem_srt.mp ht)
    exact ⟨nr _ m1, nm_sm g.nW _ m2, nr _ m3⟩
end
section
variable {P : Program} {w : World} {K : PySem.W.Frag} {mg : Str → Option Value} {base : Heap} {AA : Ads}
def spRight : Sp := fun vs H Q _ => ∃ (a : Addr), vs = [.ref a] ∧ H a = some (diceO a) ∧ ∀ H', Ex H H' → Q (.bl true) H'
set_option maxHeartbeats 16000000 in
theorem ok_law_right (T : Txt K mg AA) : FnG P w K mg base 10 AA.a_law_right AA.d_law_right ["_law_dice_here"] spRight := by
  have G_law_case : FnOk P w K mg base CX0 5 AA.a_law_case AA.d_law_case ["_law_dice_here"] spCase := ok_law_case T
  have G_law_mixed : FnOk P w K mg base CX0 2 AA.a_law_mixed AA.d_law_mixed ["_law_dice_here", "_law_items"] (spMixed K) := ok_law_mixed T
  have G_law_mixed_dict : FnOk P w K mg base CX0 3 AA.a_law_mixed_dict AA.d_law_mixed_dict ["_law_dice_here", "_law_table"] spMixD := ok_law_mixed_dict T
  have G_law_reads : FnOk P w K mg base CX0 8 AA.a_law_reads AA.d_law_reads ["_law_web_here", "_law_plain", "_law_number", "_law_kinds", "_law_words"] (spReads AA) := ok_law_reads T
  have G_Web_of : Kw.FnA P w K mg base CX0 7 AA.a_Web_of ["next_post"] (spOfA K AA) := ok_Web_ofA T
  have G_Sheet_init : FnOk P w K mg base (L2.CX P w) 3 AA.a_Sheet_init AA.d_Sheet_init ["self", "kinds", "words"] (spInit K AA) := ok_Sheet_init T
  have G_Web_posts : FnOk P w K mg base CX0 1 AA.a_Web_posts AA.d_Web_posts ["self"] (spPostsW AA) := ok_Web_posts T
  have G_Web_ties : FnOk P w K mg base CX0 1 AA.a_Web_ties AA.d_Web_ties ["self"] (spTiesW AA) := ok_Web_ties T
  refine fnG_of T.F_law_right sc_law_right (fun vs H Q E h => ?_) (fun cdv A outer s H vs Q E hG hr h => ?_)
  · obtain ⟨a, rfl, _⟩ := h
    rfl
  obtain ⟨a, rfl, ha, q⟩ := h
  have hu : _ + 64 < cLine := hu64 hr
  have hu1 : _ + 1 < cLine := hu_of hr
  obtain ⟨tN, hN, qN⟩ := rt_same (base := base) (P := P) (w := _) (outer := outer) (s := s) (H0 := H) (E := E) (cdv := cdv) (A := A) T hG hr
  refine ⟨_, (pss_cons (ps_asg (pe_call G_law_case (hr.mono (by decide)) (by rfl) T.g_law_case T.k_law_case T.b_law_case .nil pass0 (pa_cons (pv 0) pa_nil)) (pg_tup rfl (pgs_cons (pg_name (i := 7) sc_law_right.nd rfl (Or.inl rfl)) (pgs_cons (pg_name (i := 8) sc_law_right.nd rfl (Or.inl rfl)) (pgs_cons (pg_name (i := 9) sc_law_right.nd rfl (Or.inl rfl)) (pgs_cons (pg_name (i := 10) sc_law_right.nd rfl (Or.inl rfl)) (pgs_cons (pg_name (i := 11) sc_law_right.nd rfl (Or.inl rfl)) pgs_nil)))))))
    (pss_cons (ps_par (i := 12) (j := 13) rfl sc_law_right.nd rfl rfl (by decide) rfl rfl (by exact (pa_cons (pe_make T.M_Sheet G_Sheet_init (hr.mono (by decide)) (by rfl) T.g_Sheet T.b_Sheet_init .nil (passes_call takes0 (fun _ _ _ _ h => h)) (pa_cons (pv 7) (pa_cons (pv 8) pa_nil))) (pa_cons (pe_call G_law_mixed_dict (hr.mono (by decide)) (by rfl) T.g_law_mixed_dict T.k_law_mixed_dict T.b_law_mixed_dict .nil pass0 (pa_cons (pv 0) (pa_cons (pe_ix ix_list (pv 9) pe_int (fun _ _ => rfl)) pa_nil))) pa_nil))) rfl)
    (pss_cons (ps_set (i := 1) sc_law_right.nd rfl (Or.inl rfl) (pe_call G_law_mixed (hr.mono (by decide)) (by rfl) T.g_law_mixed T.k_law_mixed T.b_law_mixed .nil pass0 (pa_cons (pv 0) (pa_cons (pe_op op_cat (pe_ix ix_list (pv 9) pe_int (fun _ _ => rfl)) (pe_slice sl_list (pe_ix ix_list (pv 9) pe_int (fun _ _ => rfl)) po_none (po_some pe_int))) pa_nil))))
    (pss_cons (ps_join (ps_set (i := 2) sc_law_right.nd rfl (Or.inl rfl) (pe_ifExp (pt_cmpR op_isN (pv 11) pe_non (nomark _)) (pv 10) (pv 11))))
    (pss_cons (ps_set (i := 3) sc_law_right.nd rfl (Or.inl rfl) (Kw.pe_cmethK (pe_glob (v := .ref AA.C_Web) (by rfl) T.g_Web rfl) T.R_Web T.K_Web_of G_Web_of (hr.mono (by decide)) pass0 (pa_cons (pv 12) (pa_cons (pv 13) (pa_cons (pe_callTy call_tuple_of (by rfl) T.n_tuple (by decide +kernel) (pa_cons (pv 1) pa_nil)) pa_nil))) (pk_cons (pv 11) pk_nil)))
    (pss_cons (ps_if (pt_not (pt_val (pe_call G_law_reads (hr.mono (by decide)) (by rfl) T.g_law_reads T.k_law_reads T.b_law_reads .nil pass0 (pa_cons (pv 3) (pa_cons (pv 9) (pa_cons (pv 2) (pa_cons (pv 7) (pa_cons (pv 8) pa_nil)))))))) (pss_one (ps_ret pe_bl)) pss_nil)
    (pss_cons (ps_set (i := 4) sc_law_right.nd rfl (Or.inl rfl) (pe_callB (call_reprT hG hu) (by rfl) T.n_repr (by decide +kernel) (pa_cons (pe_lstN (pa_cons (pe_prop (pv 3) T.cl_Web T.P_Web_posts G_Web_posts (hr.mono (by decide)) T.b_Web_posts .nil pass0 rfl) (pa_cons (pe_prop (pv 3) T.cl_Web T.P_Web_ties G_Web_ties (hr.mono (by decide)) T.b_Web_ties .nil pass0 rfl) pa_nil))) pa_nil)))
    (pss_cons (ps_expr (pe_dclear (pv 13)))
    (pss_cons (ps_expr (pe_dclear (pe_prop (pv 3) T.cl_Web T.P_Web_posts G_Web_posts (hr.mono (by decide)) T.b_Web_posts .nil pass0 rfl)))
    (pss_cons (ps_if (pw_or (pt_cmpR (op_neP (K := K) rfl hu) (pe_callB (call_reprT hG hu) (by rfl) T.n_repr (by decide +kernel) (pa_cons (pe_lstN (pa_cons (pe_prop (pv 3) T.cl_Web T.P_Web_posts G_Web_posts (hr.mono (by decide)) T.b_Web_posts .nil pass0 rfl) (pa_cons (pe_prop (pv 3) T.cl_Web T.P_Web_ties G_Web_ties (hr.mono (by decide)) T.b_Web_ties .nil pass0 rfl) pa_nil))) pa_nil)) (pv 4) (nomark _)) (pw_or1 (pt_not (pt_val (pe_call G_law_reads (hr.mono (by decide)) (by rfl) T.g_law_reads T.k_law_reads T.b_law_reads .nil pass0 (pa_cons (pv 3) (pa_cons (pv 9) (pa_cons (pv 2) (pa_cons (pv 7) (pa_cons (pv 8) pa_nil)))))))))).pt (pss_one (ps_ret pe_bl)) pss_nil)
    hN)))))))))), ?_⟩
  refine ⟨_, rfl, a, rfl, ha, fun H1 r tk tw p d l xs kr wr ps ts o e1 gr gk gw dk dw gp pl ho => ⟨r, _, rfl, SqT.of gr, rfl, _, _, rfl, _, _, rfl, _, _, rfl, _, _, rfl, _, _, rfl, rfl, ?_⟩⟩
  have nK := nm_drawn dk kinds_ok
  have nW := nm_drawn dw words_ok
  have few := pl.few
  have tl := pl.tl
  have lxs := paired_len gp.2.2.2
  -- the sheet, and the posts in another order
  refine ⟨_, rfl, _, rfl, mk_ok (dv_names (SqT.of gk)) (dv_names (SqT.of gw)) nK nW fun sh H2 ks ws e2 sk sw hsh => ?_⟩
  have x2 := e1.trans e2
  have gp2 := gp.ex e2
  refine ⟨_, rfl, _, rfl, p, _, 0, _, rfl, rfl, SqL.of gp2.1, rfl, a, d, ps, rfl, x2 _ _ ha, gp2.2.1, pl.nd, by omega, fun H3 e qs e3 ne ge pq => ⟨.ref sh, .ref e, rfl, ?_⟩⟩
  have ned : e ≠ d := fun z => by rw [z, gp2.2.1] at ne; cases ne
  have ne0 : H e = none := fresh_back x2 ne
  have x3 := x2.trans e3
  have gp3 := gp2.ex e3
  -- the ties, in any order and with repeats
  refine ⟨_, rfl, _, rfl, p, _, 1, _, rfl, rfl, SqL.of gp3.1, rfl, _, rfl, p, _, 1, _, rfl, rfl, SqL.of gp3.1, rfl, _, rfl, l, _, rfl, SqL.of gp3.2.2.1, fun c nc => ?_⟩
  rw [cut_two]
  have e4 : Ex H3 (upd H3 c (.lst (xs.take 2))) := Ex.new nc
  have g4 : upd H3 c (.lst (xs.take 2)) c = some (.lst (xs.take 2)) := upd_same
  show rCat _ _ (upd H3 c (.lst (xs.take 2))) _
  generalize upd H3 c (.lst (xs.take 2)) = H4 at e4 g4 ⊢
  have gp4 := gp3.ex e4
  refine ⟨l, c, _, _, rfl, rfl, gp4.2.2.1, g4, len_line (by rw [List.length_take]; omega), fun c2 nc2 => ?_⟩
  have e5 : Ex H4 (upd H4 c2 (.lst (xs ++ xs.take 2))) := Ex.new nc2
  have g5 : upd H4 c2 (.lst (xs ++ xs.take 2)) c2 = some (.lst (xs ++ xs.take 2)) := upd_same
  generalize upd H4 c2 (.lst (xs ++ xs.take 2)) = H5 at e5 g5 ⊢
  have x5 := (x3.trans e4).trans e5
  refine ⟨a, c2, _, rfl, x5 _ _ ha, .inl (SqL.of g5), by rw [List.length_append, List.length_take]; omega, fun ys yl H6 perm e6 gy => ?_⟩
  have x36 := (e4.trans e5).trans e6
  have x6 := x3.trans x36
  have gp6 := gp3.ex x36
  obtain ⟨us, pu, ty⟩ := paired_perm perm (paired_app gp6.2.2.2 (paired_take 2 gp6.2.2.2))
  have mu : ∀ t, t ∈ us ↔ t ∈ ts := fun t => by
    rw [pu.mem_iff, List.mem_append]
    exact ⟨fun h => h.elim id List.mem_of_mem_take, .inl⟩
  have lu : us.length ≤ 16 := by
    rw [pu.length_eq, List.length_append, List.length_take]
    omega
  -- the next post
  obtain ⟨N, hN1, hN2, hN3⟩ : ∃ N, N = o.getD (nextOf (numsP ps)) ∧ nextOf (numsP ps) ≤ N ∧ N < 20000000000000 := by
    have h1 := pl.next
    cases o with
    | none => exact ⟨_, rfl, Int.le_refl _, by show nextOf (numsP ps) < _; omega⟩
    | some m =>
      have := ho m rfl
      exact ⟨_, rfl, this.1, by show m < _; omega⟩
  refine ⟨fun σ J => J = H6 ∧ σ = [some (.ref a), some (.ref yl), some (.int N), none, none, none, none, some (.ref tk), some (.ref tw), some (.ref p), some (.int (nextOf (numsP ps))), some (nv o), some (.ref sh), some (.ref e), none, none, none, none], ?_, ?_⟩
  · cases o with
    | none =>
      subst hN1
      exact ⟨_, rfl, rfl, _, rfl, if_t (decide_eq_true rfl) ⟨_, rfl, rfl, rfl⟩⟩
    | some m =>
      subst hN1
      exact ⟨_, rfl, rfl, _, rfl, if_f (decide_eq_false (fun z => by cases z)) ⟨_, rfl, rfl, rfl⟩⟩
  rintro σ J ⟨rfl, rfl⟩
  -- the web
  refine ⟨rfl, _, rfl, _, rfl, _, rfl, yl, ys, rfl, .inl ⟨SqL.of gy, fun tt ntt => ?_⟩⟩
  have e7 : Ex J (upd J tt (.tup ys)) := Ex.new ntt
  have g7 : upd J tt (.tup ys) tt = some (.tup ys) := upd_same
  generalize upd J tt (.tup ys) = H7 at e7 g7 ⊢
  have np := nums_perm pq
  have x37 := x36.trans e7
  have ge7 := x37 _ _ ge
  have hs7 : SheetAt AA.C_Sheet H7 sh ks ws := hsh.ex (e3.trans x37)
  refine ⟨_, rfl, rfl, rfl, sh, e, tt, o, ks, ws, qs, ys, us, rfl, pl.mkw hs7 sk sw ge7 (np.nodup_iff.mpr pl.nd) (fun q hq => pq.mem_iff.mp hq) (by rw [pq.length_eq]; omega) (ties_ex ty e7) (fun t ht => ?_) (by omega), SqT.of g7, fun k z => ?_, fun H8 w e8 wn => ?_⟩
  · obtain ⟨m1, m2, m3⟩ := pl.ti.mem t ((mu t).mp ht)
    exact ⟨np.mem_iff.mpr m1, m2, np.mem_iff.mpr m3⟩
  · rw [nextOf_perm np]
    exact (ho k z).1
  rw [sortP_one pq pl.nd, once_srt pl.ti.nd mu, nextOf_perm np, ← hN1] at wn
  have x78 := e7.trans e8
  have x28 := e3.trans (x36.trans x78)
  have x8 := x2.trans x28
  have g : Rr K AA H8 a w p tk tw sh d l yl ⟨ks, ws, sortP ps, srt ts, N⟩ kr wr xs ys ps ts us N := by
    have hs := hsh.ex x28
    exact ⟨x8 _ _ ha, ⟨sh, wn.web, hs, sort_ok2 nK sk, sort_ok2 nW sw⟩, rfl, rfl, rfl, hs, sk, sw, gp2.ex x28, pl, (e2.trans x28) _ _ gk, (e2.trans x28) _ _ gw, nK, nW, dk.mem, hN2, hN3, x78 _ _ gy, ties_ex ty x78, mu, lu⟩
  have wx : WebN AA.C_Web H7 H8 w sh (⟨ks, ws, sortP ps, srt ts, N⟩ : Wb).ps (⟨ks, ws, sortP ps, srt ts, N⟩ : Wb).ts (⟨ks, ws, sortP ps, srt ts, N⟩ : Wb).n := wn
  clear wn
  generalize (⟨ks, ws, sortP ps, srt ts, N⟩ : Wb) = x at g wx
  -- what it shows
  refine ⟨_, rfl, _, rfl, _, rfl, _, rfl, _, rfl, w, p, tk, tw, d, l, x, kr, wr, xs, ps, ts, N, rfl, g.wa, g.ep, g.et, g.en, g.sk, g.sw, g.gp, g.pl, g.gk, g.gw, g.nK, g.nW, Int.le_trans (nextOf_nn _) g.nx, g.n1, fun H9 e9 => ⟨_, rfl, if_f rfl ?_⟩⟩
  have g9 := g.ex e9
  -- its text
  have atw : ∀ {J : Hp}, WbAt AA J w x → ∃ dx po ti sh, J w = some (.ins AA.C_Web dx (wf sh po ti x.n)) := fun h => by
    obtain ⟨sh, wa, _⟩ := h
    obtain ⟨dx, po, ti, a1, _⟩ := wa.at_
    exact ⟨dx, po, ti, sh, a1⟩
  obtain ⟨f1, f2, f3⟩ := g.fits
  obtain ⟨dx, po, ti, sh', a1⟩ := atw g9.wa
  refine ⟨_, rfl, w, dx, _, rfl, a1, w, x, rfl, g9.wa, fun q1 nq1 => ?_⟩
  have y1 : Ex H9 (upd H9 q1 (.dK (kvP x.ps))) := Ex.new nq1
  have k1 : upd H9 q1 (.dK (kvP x.ps)) q1 = some (.dK (kvP x.ps)) := upd_same
  generalize upd H9 q1 (.dK (kvP x.ps)) = H10 at y1 k1 ⊢
  have g10 := g9.ex y1
  refine ⟨_, rfl, w, dx, _, rfl, y1 _ _ a1, w, x, rfl, g10.wa, fun q2 zs H11 y2 k2 tv2 => ⟨(by show 2 ≤ sizeLine; decide), fun q3 nq3 hq3 => ?_⟩⟩
  have y3 : Ex H11 (upd H11 q3 (.lst [.ref q1, .ref q2])) := Ex.new nq3
  refine ⟨q3, repD x.ps x.ts, rfl, th_rep upd_same hq3 (y3 _ _ (y2 _ _ k1)) (y3 _ _ k2) (ties_ex tv2 y3), f1, f2, f3, ?_⟩
  have y13 := (y1.trans y2).trans y3
  generalize upd H11 q3 (.lst [.ref q1, .ref q2]) = H12 at y13 ⊢
  clear y3 y2 k2 tv2 g10
  have g12 := g9.ex y13
  -- what was passed is changed
  have x812 := e9.trans y13
  have ge12 := (e8.trans x812) _ _ ge7
  refine ⟨_, rfl, .inr (.inr (.inl ⟨rfl, .inl ⟨_, ge12⟩⟩)), e, _, rfl, rfl, ge12, ?_⟩
  have g13 := g12.clr (u := .dK []) ge12 ned wx ge7 x812
  have x13 : Ex H (upd H12 e (.dK [])) := Ex.mut (x8.trans x812) ne0
  generalize upd H12 e (.dK []) = H13 at g13 x13 ⊢
  obtain ⟨dx, po, ti, sh', a1⟩ := atw g13.wa
  -- what is told is changed
  refine ⟨_, rfl, w, dx, _, rfl, a1, w, x, rfl, g13.wa, fun q4 nq4 => ⟨.inr (.inr (.inl ⟨rfl, .inl ⟨_, upd_same⟩⟩)), q4, _, rfl, rfl, upd_same, ?_⟩⟩
  rw [upd_upd]
  have y14 : Ex H13 (upd H13 q4 (.dK [])) := Ex.new nq4
  generalize upd H13 q4 (.dK []) = H14 at y14 ⊢
  have g14 := g13.ex y14
  -- nothing is seen of it
  replace a1 := y14 _ _ a1
  refine ⟨_, rfl, w, dx, _, rfl, a1, w, x, rfl, g14.wa, fun q1 nq1 => ?_⟩
  have y1 : Ex H14 (upd H14 q1 (.dK (kvP x.ps))) := Ex.new nq1
  have k1 : upd H14 q1 (.dK (kvP x.ps)) q1 = some (.dK (kvP x.ps)) := upd_same
  generalize upd H14 q1 (.dK (kvP x.ps)) = H15 at y1 k1 ⊢
  have g15 := g14.ex y1
  refine ⟨_, rfl, w, dx, _, rfl, y1 _ _ a1, w, x, rfl, g15.wa, fun q2 zs H16 y2 k2 tv2 => ⟨(by show 2 ≤ sizeLine; decide), fun q3 nq3 hq3 => ?_⟩⟩
  have y3 : Ex H16 (upd H16 q3 (.lst [.ref q1, .ref q2])) := Ex.new nq3
  refine ⟨q3, repD x.ps x.ts, rfl, th_rep upd_same hq3 (y3 _ _ (y2 _ _ k1)) (y3 _ _ k2) (ties_ex tv2 y3), f1, f2, f3, ?_⟩
  have y13 := (y1.trans y2).trans y3
  generalize upd H16 q3 (.lst [.ref q1, .ref q2]) = H17 at y13 ⊢
  have g17 := g14.ex y13
  refine ⟨_, rfl, neP (hd_str _) (hd_str _) ⟨_, rfl, if_f (by rw [decide_eq_true rfl]; rfl) ?_⟩⟩
  refine ⟨_, rfl, _, rfl, _, rfl, _, rfl, _, rfl, w, p, tk, tw, d, l, x, kr, wr, xs, ps, ts, N, rfl, g17.wa, g17.ep, g17.et, g17.en, g17.sk, g17.sw, g17.gp, g17.pl, g17.gk, g17.gw, g17.nK, g17.nW, Int.le_trans (nextOf_nn _) g17.nx, g17.n1, fun H18 e18 => ⟨_, rfl, if_f rfl ?_⟩⟩
  exact qN Q H18 a w p tk tw sh d l yl x kr wr xs ys ps ts us N _ none none _ _ _ none none none none (g17.ex e18) fun H' ee => q H' ((x13.trans (y14.trans y13)).trans (e18.trans ee))
end
end K2
namespace K2
open PySem L2 Kd Evl Ks Kt Ky
open PySem.W (Datum DatumOrd T3)
def spLaw (K : PySem.W.Frag) : Sp := fun vs H Q _ => ∃ (a : Addr) (ns : List Int), vs = [.ref a] ∧ SqL K H a (ns.map V.int) ∧ ns.length ≤ 63 ∧ ∀ H', Q (.bl true) H'
theorem sortP_id {ps : Posts} (nd : (numsP ps).Nodup) (h : (numsP ps).Pairwise fun a b => le a b = true) : sortP ps = ps := by
  unfold sortP
  rw [srt_of (List.Perm.refl _) h]
  unfold numsP
  rw [List.map_map]
  conv => rhs; rw [← List.map_id ps]
  refine List.map_congr_left fun p hp => ?_
  show (p.1, (look ps p.1).getD Str.empty) = p
  rw [look_of nd hp]
  rfl
def P0 : Posts := [(2, "shop"), (0, "item")]
def P1 : Posts := [(0, "item"), (2, "shop")]
def U0 : List Tie := [⟨2, "owns", 0⟩, ⟨0, "link", 0⟩, ⟨2, "owns", 0⟩]
def T0 : List Tie := [⟨0, "link", 0⟩, ⟨2, "owns", 0⟩]
theorem nd0 : (numsP P0).Nodup := by decide +kernel
theorem nd1 : (numsP P1).Nodup := by decide +kernel
theorem sp0 : sortP P0 = P1 := by
  rw [show sortP P0 = sortP P1 from sortP_one (qs := P0) (ps := P1) (List.Perm.swap _ _ _) nd1]
  exact sortP_id nd1 (by decide +kernel)
theorem ts0 : once (srt U0) = T0 := by
  rw [once_srt (ts := T0) (by decide +kernel) (fun t => ?_)]
  · exact srt_of (List.Perm.refl _) (by decide +kernel)
  · unfold U0 T0
    simp only [List.mem_cons, List.not_mem_nil, or_false]
    constructor
    · rintro (h | h | h)
      · exact .inr h
      · exact .inl h
      · exact .inr h
    · rintro (h | h)
      · exact .inr (.inl h)
      · exact .inl h
theorem ws0 : webStr 2 2 = ("web of 2 posts, 2 ties" : Str) := by decide +kernel
theorem spn : sortP [] = [] := sortP_id (by decide) (by decide)
def D0 : PyData := .list [.tuple [.tuple [.int 0, .str "link", .int 0], .tuple [.int 2, .str "owns", .int 0]], .int 3, .str "web of 2 posts, 2 ties", .list [.int 0, .int 2]]
def D1 : PyData := .list [.int 0, .bool false, .tuple [], .int 0, .bool true]
theorem d0_ok : deepOk D0 := ⟨by decide +kernel, by decide +kernel⟩
theorem d1_ok : deepOk D1 := ⟨by decide +kernel, by decide +kernel⟩
theorem d0_eq : PyData.eqv D0 D0 = true := by decide +kernel
theorem d1_eq : PyData.eqv D1 D1 = true := by decide +kernel
section
variable {P : Program} {w : World} {K : PySem.W.Frag} {mg : Str → Option Value} {base : Heap} {AA : Ads}
theorem neD0 {H : Hp} {x y : V} {Q : VK} (hx : Dp K H x D0) (hy : Dp K H y D0) (q : Q (.bl false) H) : rNeP K x y H Q := by
  unfold rNeP
  exact ⟨D0, D0, hx, hy, d0_ok, d0_ok, by rw [d0_eq]; exact q⟩
theorem eqD1 {H : Hp} {x y : V} {Q : VK} (hx : Dp K H x D1) (hy : Dp K H y D1) (q : Q (.bl true) H) : rEqP K x y H Q := by
  unfold rEqP
  exact ⟨D1, D1, hx, hy, d1_ok, d1_ok, by rw [d1_eq]; exact q⟩
theorem ties_dp {H : Hp} {vs : List V} {ts : List Tie} (h : Paired (TieV H) vs ts) : DpAll K H vs (ts.map (Datum.toD : Tie → PyData)) := ties_hd h
set_option maxHeartbeats 16000000 in
theorem ok_law (T : Txt K mg AA) : FnG P w K mg base 11 AA.a_law AA.d_law ["_law_script"] (spLaw K) := by
  have G_law_dice : FnOk P w K mg base CX0 1 AA.a_law_dice AA.d_law_dice ["_law_script", "_law_at"] (spDice K) := ok_law_dice T
  have G_law_right : FnG P w K mg base 10 AA.a_law_right AA.d_law_right ["_law_dice_here"] spRight := ok_law_right T
  have G_Sheet_init : FnOk P w K mg base (L2.CX P w) 3 AA.a_Sheet_init AA.d_Sheet_init ["self", "kinds", "words"] (spInit K AA) := ok_Sheet_init T
  have G_Web_init : Kw.FnA P w K mg base CX0 5 AA.a_Web_init [] (spIni K AA [.non]) := ok_Web_init T
  have G_Web_init_K : Kw.FnA P w K mg base CX0 5 AA.a_Web_init ["next_post"] (spIni K AA []) := ok_Web_init_K T
  have G_Web_len : FnOk P w K mg base CX0 1 AA.a_Web_len AA.d_Web_len ["self"] (spLenW AA) := ok_Web_len T
  have G_Web_bool : FnOk P w K mg base CX0 1 AA.a_Web_bool AA.d_Web_bool ["self"] (spBoolW AA) := ok_Web_bool T
  have G_Web_str : FnOk P w K mg base CX0 1 AA.a_Web_str AA.d_Web_str ["self"] (spStrW AA) := ok_Web_str T
  have G_Web_next_post : FnOk P w K mg base CX0 1 AA.a_Web_next_post AA.d_Web_next_post ["self"] (spNext AA) := ok_Web_next_post T
  have G_Web_posts : FnOk P w K mg base CX0 1 AA.a_Web_posts AA.d_Web_posts ["self"] (spPostsW AA) := ok_Web_posts T
  have G_Web_ties : FnOk P w K mg base CX0 1 AA.a_Web_ties AA.d_Web_ties ["self"] (spTiesW AA) := ok_Web_ties T
  have G_Web_eq : FnOk P w K mg base CX0 3 AA.a_Web_eq AA.d_Web_eq ["self", "other"] (spEqW K AA) := ok_Web_eq T
  refine fnG_of T.F_law sc_law (fun vs H Q E h => ?_) (fun cdv A outer s H vs Q E hG hr h => ?_)
  · obtain ⟨a, ns, rfl, _⟩ := h
    rfl
  obtain ⟨a, ns, rfl, hS, hlen, q⟩ := h
  have hu : _ + 64 < cLine := hu64 hr
  refine ⟨_, (pss_cons (ps_for PassesOwn.never rfl (pi_range1 rfl T.n_range (pa_cons (pe_callB (call_max2 rfl) (by rfl) T.n_max (by decide +kernel) (pa_cons pe_int (pa_cons (pe_callB (call_min2 rfl) (by rfl) T.n_min (by decide +kernel) (pa_cons pe_int (pa_cons (pe_callB call_len_seq (by rfl) T.n_len (by decide +kernel) (pa_cons (pv 0) pa_nil)) pa_nil))) pa_nil))) pa_nil)) (pg_name (i := 1) sc_law.nd rfl (Or.inl rfl))
      (pss_cons (ps_set (i := 5) sc_law.nd rfl (Or.inl rfl) (pe_call G_law_dice (hr.mono (by decide)) (by rfl) T.g_law_dice T.k_law_dice T.b_law_dice .nil pass0 (pa_cons (pv 0) (pa_cons (pv 1) pa_nil))))
    (pss_one (ps_for PassesOwn.never rfl (pi_range1 rfl T.n_range (pa_cons pe_int pa_nil)) (pg_name (i := 6) sc_law.nd rfl (Or.inl rfl))
      (pss_one (ps_if (pt_not (pt_val (pe_callG G_law_right hG (hr.mono (by decide)) (by rfl) T.g_law_right T.k_law_right T.b_law_right (pa_cons (pv 5) pa_nil)))) (pss_one (ps_ret pe_bl)) pss_nil))))))
    (pss_cons (ps_set (i := 2) sc_law.nd rfl (Or.inl rfl) (pe_make T.M_Sheet G_Sheet_init (hr.mono (by decide)) (by rfl) T.g_Sheet T.b_Sheet_init .nil (passes_call takes0 (fun _ _ _ _ h => h)) (pa_cons (pe_tup (pa_cons pe_str (pa_cons pe_str pa_nil))) (pa_cons (pe_tup (pa_cons pe_str (pa_cons pe_str pa_nil))) pa_nil))))
    (pss_cons (ps_set (i := 3) sc_law.nd rfl (Or.inl rfl) (StX.pe_makeR T.M_Web G_Web_init.r (hr.mono (by decide)) (by rfl) T.g_Web pass0 (pa_cons (pv 2) (pa_cons (pe_disp (pps_cons pe_int pe_str (pps_cons pe_int pe_str pps_nil)) rfl rfl (by intro q; cases q) (by decide)) (pa_cons (pe_tup (pa_cons pe_int (pa_cons pe_str (pa_cons pe_int pa_nil)))) (pa_cons (pe_tup (pa_cons pe_int (pa_cons pe_str (pa_cons pe_int pa_nil)))) (pa_cons (pe_tup (pa_cons pe_int (pa_cons pe_str (pa_cons pe_int pa_nil)))) pa_nil)))))))
    (pss_cons (ps_if (pt_cmpR (op_neP (K := K) rfl hu) (pe_lst (pa_cons (pe_prop (pv 3) T.cl_Web T.P_Web_ties G_Web_ties (hr.mono (by decide)) T.b_Web_ties .nil pass0 rfl) (pa_cons (pe_prop (pv 3) T.cl_Web T.P_Web_next_post G_Web_next_post (hr.mono (by decide)) T.b_Web_next_post .nil pass0 rfl) (pa_cons (pe_callTy (call_strOwn G_Web_str T.m_Web_str.at_ T.m_Web_str.fn T.b_Web_str (hr.mono (by decide))) (by rfl) T.n_str (by decide +kernel) (pa_cons (pv 3) pa_nil)) (pa_cons (pe_callTy (call_listD rfl) (by rfl) T.n_list (by decide +kernel) (pa_cons (pe_prop (pv 3) T.cl_Web T.P_Web_posts G_Web_posts (hr.mono (by decide)) T.b_Web_posts .nil pass0 rfl) pa_nil)) pa_nil))))) (pe_lst (pa_cons (pe_tup (pa_cons (pe_tup (pa_cons pe_int (pa_cons pe_str (pa_cons pe_int pa_nil)))) (pa_cons (pe_tup (pa_cons pe_int (pa_cons pe_str (pa_cons pe_int pa_nil)))) pa_nil))) (pa_cons pe_int (pa_cons pe_str (pa_cons (pe_lst (pa_cons pe_int (pa_cons pe_int pa_nil))) pa_nil))))) (nomark _)) (pss_one (ps_ret pe_bl)) pss_nil)
    (pss_cons (ps_set (i := 4) sc_law.nd rfl (Or.inl rfl) (StX.pe_makeR T.M_Web G_Web_init.r (hr.mono (by decide)) (by rfl) T.g_Web pass0 (pa_cons (pv 2) (pa_cons pe_dnewK pa_nil))))
    (pss_one (ps_ret (pe_cmpR (op_eqP (K := K) rfl hu) (pe_lst (pa_cons (pe_callB (call_lenOwn G_Web_len T.m_Web_len.at_ T.m_Web_len.fn T.b_Web_len (hr.mono (by decide))) (by rfl) T.n_len (by decide +kernel) (pa_cons (pv 4) pa_nil)) (pa_cons (pe_callTy (call_boolOwn G_Web_bool T.m_Web_bool.at_ T.m_Web_bool.fn T.b_Web_bool (hr.mono (by decide))) (by rfl) T.n_bool (by decide +kernel) (pa_cons (pv 4) pa_nil)) (pa_cons (pe_prop (pv 4) T.cl_Web T.P_Web_ties G_Web_ties (hr.mono (by decide)) T.b_Web_ties .nil pass0 rfl) (pa_cons (pe_prop (pv 4) T.cl_Web T.P_Web_next_post G_Web_next_post (hr.mono (by decide)) T.b_Web_next_post .nil pass0 rfl) (pa_cons (pe_cmpR (op_ownEq G_Web_eq (T.I_Web.own T.m_Web_eq) T.b_Web_eq (hr.mono (by decide))) (pv 4) (Kw.pe_makeNK T.M_Web G_Web_init_K (hr.mono (by decide)) (by rfl) T.g_Web pass0 (pa_cons (pv 2) (pa_cons pe_dnewK pa_nil)) (pk_cons pe_int pk_nil)) (nomark _)) pa_nil)))))) (pe_lst (pa_cons pe_int (pa_cons pe_bl (pa_cons (pe_tup pa_nil) (pa_cons pe_int (pa_cons pe_bl pa_nil)))))) (nomark _))))))))), ?_⟩
  refine ⟨_, rfl, a, _, rfl, .inl hS, _, _, rfl, _, _, rfl, _, rfl, ?_, ?_, ?_⟩
  · split <;> split <;> omega
  · rw [List.length_map]
    split <;> split <;> omega
  refine for_range (fun k σ J => ∃ v1 v5 v6 : Option V, σ = [some (.ref a), v1, none, none, none, v5, v6] ∧ Ex H J) ⟨none, none, none, rfl, Ex.refl _⟩ ?_ ?_
  · rintro k σ J hk ⟨v1, v5, v6, rfl, e⟩
    refine ⟨_, rfl, _, rfl, a, ns, _, rfl, ex_l e hS, by omega, fun p hp => ?_⟩
    have e1 : Ex J (upd J p (diceO p)) := Ex.new hp
    have gp : upd J p (diceO p) p = some (diceO p) := upd_same
    generalize upd J p (diceO p) = J1 at e1 gp ⊢
    refine ⟨3, rfl, by decide, by decide, for_range (n := 3) (fun j σ G => ∃ (v1 : V) (v6 : Option V), σ = [some (.ref a), some v1, none, none, none, some (.ref p), v6] ∧ Ex J1 G) ⟨_, v6, rfl, Ex.refl _⟩ ?_ ?_⟩
    · rintro j σ G hj ⟨v1, v6, rfl, e2⟩
      exact ⟨_, rfl, p, rfl, e2 _ _ gp, fun G' e3 => ⟨_, rfl, if_f rfl ⟨_, _, rfl, e2.trans e3⟩⟩⟩
    · rintro σ G ⟨v1, v6, rfl, e2⟩
      exact ⟨_, _, _, rfl, (e.trans e1).trans e2⟩
  rintro σ J ⟨v1, v5, v6, rfl, e⟩
  -- a sheet
  refine ⟨(by show 2 ≤ sizeLine; decide), fun t1 n1 => ⟨(by show 2 ≤ sizeLine; decide), fun t2 n2 => ?_⟩⟩
  have g1 : upd (upd J t1 (.tup ((["shop", "item"] : List Str).map V.str))) t2 (.tup ((["owns", "link"] : List Str).map V.str)) t1 = some (.tup ((["shop", "item"] : List Str).map V.str)) := Ex.new n2 _ _ upd_same
  have g2 : upd (upd J t1 (.tup ((["shop", "item"] : List Str).map V.str))) t2 (.tup ((["owns", "link"] : List Str).map V.str)) t2 = some (.tup ((["owns", "link"] : List Str).map V.str)) := upd_same
  have nK : Nm ["shop", "item"] 3 := ⟨by decide, by decide, by decide +kernel, by decide +kernel⟩
  have nW : Nm ["owns", "link"] 2 := ⟨by decide, by decide, by decide +kernel, by decide +kernel⟩
  refine mk_ok (dv_names (SqT.of g1)) (dv_names (SqT.of g2)) nK nW fun sh H1 ks ws e1 sk sw hsh => ?_
  have ok1 : OkS ks := sort_ok2 nK sk
  have ok2 : OkS ws := sort_ok2 nW sw
  have inI : ("item" : Str) ∈ ks := sk.1.mem_iff.mpr (by decide +kernel)
  have inS : ("shop" : Str) ∈ ks := sk.1.mem_iff.mpr (by decide +kernel)
  have inO : ("owns" : Str) ∈ ws := sw.1.mem_iff.mpr (by decide +kernel)
  have inL : ("link" : Str) ∈ ws := sw.1.mem_iff.mpr (by decide +kernel)
  clear g1 g2 e1
  -- a written web
  refine ⟨_, rfl, fun D hD => ⟨upd_same, kvP P0, rfl, by decide, ?_⟩⟩
  rw [merge_kvP nd0]
  have e2 : Ex H1 (upd (upd H1 D (.dK [])) D (.dK (kvP P0))) := Ex.mut (Ex.new hD) hD
  have gD : upd (upd H1 D (.dK [])) D (.dK (kvP P0)) D = some (.dK (kvP P0)) := upd_same
  generalize upd (upd H1 D (.dK [])) D (.dK (kvP P0)) = H2 at e2 gD ⊢
  refine ⟨(by show 3 ≤ sizeLine; decide), fun a1 m1 => ⟨(by show 3 ≤ sizeLine; decide), fun a2 m2 => ⟨(by show 3 ≤ sizeLine; decide), fun a3 m3 x dx hx hdx hne => ?_⟩⟩⟩
  have q1 := Ex.new (o := HO.tup ((tieK ⟨2, "owns", 0⟩).map kV)) m1
  have q2 := Ex.new (o := HO.tup ((tieK ⟨0, "link", 0⟩).map kV)) m2
  have q3 := Ex.new (o := HO.tup ((tieK ⟨2, "owns", 0⟩).map kV)) m3
  have e3 := (q1.trans q2).trans q3
  have tv0 : Paired (TieV (upd (upd (upd H2 a1 (.tup ((tieK ⟨2, "owns", 0⟩).map kV))) a2 (.tup ((tieK ⟨0, "link", 0⟩).map kV))) a3 (.tup ((tieK ⟨2, "owns", 0⟩).map kV)))) [.ref a1, .ref a2, .ref a3] U0 := .cons ⟨a1, rfl, (q2.trans q3) _ _ upd_same⟩ (.cons ⟨a2, rfl, q3 _ _ upd_same⟩ (.cons ⟨a3, rfl, upd_same⟩ .nil))
  have x13 := e2.trans e3
  have pok : PostsOk ks P0 := ⟨by decide, by decide +kernel, fun p hp => by
    have : p.2 = "shop" ∨ p.2 = "item" := by
      revert p
      decide +kernel
    rcases this with h | h
    · rw [h]; exact inS
    · rw [h]; exact inI⟩
  have tok : U0.all (tieOk ws P0) = true := by
    unfold U0 tieOk
    simp only [List.all_cons, List.all_nil, decide_eq_true inO, decide_eq_true inL]
    decide +kernel
  refine made_web (K := K) (zs := []) (dz := [.non]) (xs := [.ref a1, .ref a2, .ref a3]) (ps := P0) (ts := U0) (o := none) hx hdx hne ⟨hsh.ex x13, e3 _ _ gD, nd0, pok, tv0, tok, by decide⟩ rfl (fun _ h => by cases h) fun H3 e4 wn => ?_
  have wb := wn.web
  rw [sp0, ts0, show (none : Option Int).getD (nextOf (numsP P0)) = 3 by decide +kernel] at wb
  replace hsh := hsh.ex (x13.trans e4)
  clear tv0 q1 q2 q3 e3 x13 e4 hx hdx hne m1 m2 m3 e2 gD hD wn
  have wa : WbAt AA H3 x ⟨ks, ws, P1, T0, 3⟩ := ⟨sh, wb, hsh, ok1, ok2⟩
  obtain ⟨dy, po, ti, b1, _⟩ := wb.at_
  refine ⟨_, rfl, x, dy, _, rfl, b1, x, _, rfl, wa, fun r1 xs1 H4 e4 hr1 tv1 => ?_⟩
  refine ⟨_, rfl, x, dy, _, rfl, e4 _ _ b1, x, _, rfl, wa.ex e4, ?_⟩
  refine ⟨_, rfl, x, dy, _, rfl, e4 _ _ b1, x, _, rfl, wa.ex e4, (by show 2 ≤ 40; decide), (by show 2 ≤ 40; decide), _, rfl, ?_⟩
  refine ⟨_, rfl, x, dy, _, rfl, e4 _ _ b1, x, _, rfl, wa.ex e4, fun r2 nr2 => ⟨r2, _, rfl, .inl upd_same, fun r3 nr3 => ?_⟩⟩
  have e5 := (Ex.new (o := HO.dK (kvP P1)) nr2).trans (Ex.new (o := HO.lst ((kvP P1).map fun kv => kV kv.1)) nr3)
  have hr3 : upd (upd H4 r2 (.dK (kvP P1))) r3 (.lst ((kvP P1).map fun kv => kV kv.1)) r3 = some (.lst [.int 0, .int 2]) := upd_same
  dsimp only
  generalize upd (upd H4 r2 (.dK (kvP P1))) r3 (.lst ((kvP P1).map fun kv => kV kv.1)) = H5 at e5 hr3 ⊢
  refine ⟨(by show 4 ≤ sizeLine; decide), fun r4 nr4 => ?_⟩
  have e6 : Ex H5 (upd H5 r4 (.lst [.ref r1, .int 3, .str (webStr (List.length P1) (List.length T0)), .ref r3])) := Ex.new nr4
  have hr4 : upd H5 r4 (.lst [.ref r1, .int 3, .str (webStr (List.length P1) (List.length T0)), .ref r3]) r4 = some (.lst [.ref r1, .int 3, .str (webStr 2 2), .ref r3]) := upd_same
  generalize upd H5 r4 (.lst [.ref r1, .int 3, .str (webStr (List.length P1) (List.length T0)), .ref r3]) = H6 at e6 hr4 ⊢
  refine ⟨(by show 3 ≤ sizeLine; decide), fun s1 ns1 => ?_⟩
  have f1 : Ex H6 (upd H6 s1 (.tup [.int 0, .str "link", .int 0])) := Ex.new ns1
  have h1 : upd H6 s1 (.tup [.int 0, .str "link", .int 0]) s1 = some (.tup [.int 0, .str "link", .int 0]) := upd_same
  generalize upd H6 s1 (.tup [.int 0, .str "link", .int 0]) = H7 at f1 h1 ⊢
  refine ⟨(by show 3 ≤ sizeLine; decide), fun s2 ns2 => ?_⟩
  have f2 : Ex H7 (upd H7 s2 (.tup [.int 2, .str "owns", .int 0])) := Ex.new ns2
  have h2 : upd H7 s2 (.tup [.int 2, .str "owns", .int 0]) s2 = some (.tup [.int 2, .str "owns", .int 0]) := upd_same
  generalize upd H7 s2 (.tup [.int 2, .str "owns", .int 0]) = H8 at f2 h2 ⊢
  refine ⟨(by show 2 ≤ sizeLine; decide), fun s3 ns3 => ?_⟩
  have f3 : Ex H8 (upd H8 s3 (.tup [.ref s1, .ref s2])) := Ex.new ns3
  have h3 : upd H8 s3 (.tup [.ref s1, .ref s2]) s3 = some (.tup [.ref s1, .ref s2]) := upd_same
  generalize upd H8 s3 (.tup [.ref s1, .ref s2]) = H9 at f3 h3 ⊢
  refine ⟨(by show 2 ≤ sizeLine; decide), fun s4 ns4 => ?_⟩
  have f4 : Ex H9 (upd H9 s4 (.lst [.int 0, .int 2])) := Ex.new ns4
  have h4 : upd H9 s4 (.lst [.int 0, .int 2]) s4 = some (.lst [.int 0, .int 2]) := upd_same
  generalize upd H9 s4 (.lst [.int 0, .int 2]) = H10 at f4 h4 ⊢
  refine ⟨(by show 4 ≤ sizeLine; decide), fun s5 ns5 => ?_⟩
  have f5 : Ex H10 (upd H10 s5 (.lst [.ref s3, .int 3, .str "web of 2 posts, 2 ties", .ref s4])) := Ex.new ns5
  have h5 : upd H10 s5 (.lst [.ref s3, .int 3, .str "web of 2 posts, 2 ties", .ref s4]) s5 = some (.lst [.ref s3, .int 3, .str "web of 2 posts, 2 ties", .ref s4]) := upd_same
  show rNeP K _ _ (upd H10 s5 (.lst [.ref s3, .int 3, .str "web of 2 posts, 2 ties", .ref s4])) _
  generalize upd H10 s5 (.lst [.ref s3, .int 3, .str "web of 2 posts, 2 ties", .ref s4]) = H11 at f5 h5 ⊢
  have y10 := ((f1.trans f2).trans f3).trans (f4.trans f5)
  have y6 := e6.trans y10
  have y5 := e5.trans y6
  have dl : Dp K H11 (.ref r4) D0 := by
    refine .lst (SqL.of (y10 _ _ hr4)) (.cons (.tup (SqT.of (y5 _ _ hr1)) (ties_dp (ts := T0) (ties_ex tv1 y5))) (.cons (.int 3) (.cons ?_ (.cons (.lst (SqL.of (y6 _ _ hr3)) (.cons (.int 0) (.cons (.int 2) .nil))) .nil))))
    rw [ws0]
    exact .str _
  have tp : Paired (TieV H11) [.ref s1, .ref s2] T0 := .cons ⟨s1, rfl, ((f2.trans f3).trans (f4.trans f5)) _ _ h1⟩ (.cons ⟨s2, rfl, (f3.trans (f4.trans f5)) _ _ h2⟩ .nil)
  have dr : Dp K H11 (.ref s5) D0 := .lst (SqL.of h5) (.cons (.tup (SqT.of ((f4.trans f5) _ _ h3)) (ties_dp (ts := T0) tp)) (.cons (.int 3) (.cons (.str _) (.cons (.lst (SqL.of (f5 _ _ h4)) (.cons (.int 0) (.cons (.int 2) .nil))) .nil))))
  refine neD0 dl dr ⟨_, rfl, if_f rfl ?_⟩
  replace hsh := hsh.ex (e4.trans y5)
  clear dl dr tp hr1 hr3 hr4 h1 h2 h3 h4 h5 tv1 b1 wa wb f1 f2 f3 f4 f5 y10 y6 y5 e4 e5 e6
  -- an empty one
  refine ⟨_, rfl, fun D hD x dx hx hdx hne => ?_⟩
  have e2 : Ex H11 (upd H11 D (.dK [])) := Ex.new hD
  refine made_web (K := K) (zs := []) (dz := [.non]) (xs := []) (ps := []) (ts := []) (o := none) hx hdx hne ⟨hsh.ex e2, upd_same, List.nodup_nil, ⟨by decide, (fun _ h => nomatch h), (fun _ h => nomatch h)⟩, .nil, rfl, by decide⟩ rfl (fun _ h => by cases h) fun H12 e4 wn => ?_
  have wb := wn.web
  rw [spn, once_nil, show (none : Option Int).getD (nextOf (numsP [])) = 0 from rfl] at wb
  replace hsh := hsh.ex (e2.trans e4)
  clear wn hx hdx hne e2 e4 hD
  have wa : WbAt AA H12 x ⟨ks, ws, [], [], 0⟩ := ⟨sh, wb, hsh, ok1, ok2⟩
  obtain ⟨dy, po, ti, b1, _⟩ := wb.at_
  refine ⟨_, rfl, x, dy, _, rfl, b1, x, _, rfl, wa, _, rfl, (by show (0 : Int) ≤ 0; decide), (by show (0 : Int) < 2 ^ 63; decide), ?_⟩
  refine ⟨_, rfl, x, dy, _, rfl, b1, x, _, rfl, wa, _, rfl, ?_⟩
  refine ⟨_, rfl, x, dy, _, rfl, b1, x, _, rfl, wa, fun r1 xs1 H13 e4 hr1 tv1 => ?_⟩
  cases tv1
  refine ⟨_, rfl, x, dy, _, rfl, e4 _ _ b1, x, _, rfl, wa.ex e4, ?_⟩
  refine ⟨_, rfl, _, rfl, fun D hD => ⟨rfl, fun z dz hz hdz hnz => ?_⟩⟩
  have e2 : Ex H13 (upd H13 D (.dK [])) := Ex.new hD
  refine made_web (K := K) (zs := [.int 0]) (dz := []) (xs := []) (ps := []) (ts := []) (o := some 0) hz hdz hnz ⟨hsh.ex (e4.trans e2), upd_same, List.nodup_nil, ⟨by decide, (fun _ h => nomatch h), (fun _ h => nomatch h)⟩, .nil, rfl, by decide⟩ rfl (fun _ h => by cases h; decide) fun H14 e5 wn2 => ?_
  have wb2 := wn2.web
  rw [spn, once_nil, show (some (0 : Int)).getD (nextOf (numsP [])) = 0 from rfl] at wb2
  have x5 := (e4.trans e2).trans e5
  have wa2 : WbAt AA H14 z ⟨ks, ws, [], [], 0⟩ := ⟨sh, wb2, hsh.ex x5, ok1, ok2⟩
  refine own_webW T (wa.ex x5) (.inr ⟨z, _, rfl, wa2, rfl⟩) ?_
  have same : eqO (⟨ks, ws, [], [], 0⟩ : Wb) (some ⟨ks, ws, [], [], 0⟩) = true := eqWb_self List.nodup_nil
  rw [same]
  refine ⟨(by show 5 ≤ sizeLine; decide), fun u1 nu1 => ⟨(by show 0 ≤ sizeLine; decide), fun u2 nu2 => ⟨(by show 5 ≤ sizeLine; decide), fun u3 nu3 => ?_⟩⟩⟩
  have k2 := Ex.new (o := HO.tup []) nu2
  have k3 := Ex.new (o := HO.lst [.int 0, .bl false, .ref u2, .int 0, .bl true]) nu3
  have k1 := Ex.new (o := HO.lst [.int 0, .bl false, .ref r1, .int 0, .bl true]) nu1
  refine eqD1 (.lst (SqL.of ((k2.trans k3) _ _ upd_same)) (.cons (.int 0) (.cons (.bl false) (.cons (.tup (SqT.of (((((e2.trans e5).trans k1).trans k2).trans k3) _ _ hr1)) .nil) (.cons (.int 0) (.cons (.bl true) .nil)))))) (.lst (SqL.of upd_same) (.cons (.int 0) (.cons (.bl false) (.cons (.tup (SqT.of (k3 _ _ upd_same)) .nil) (.cons (.int 0) (.cons (.bl true) .nil)))))) (q _)
end
end K2
namespace K2
open PySem L2 Kd Evl Ks Kt Ky
theorem all_mk {l : PySem.W.OpenLaw} {w : World} {K : PySem.W.Frag} {h : Heap} {mg : Str → Option Value} {fa : Addr} {C_Sheet C_Web C_ShapeError C_InvalidSheet C_InvalidWeb C_UnknownName f_UnknownName_init f_is_integer f_is_name f_are_names f_Sheet_init f_Sheet_kinds f_Sheet_words f_Sheet_eq f_Sheet_str f_require_sheet f_is_kind f_is_tie f_is_post f_is_post_of f_is_tie_of f_require_posts f_require_ties f_least_next f_require_next f_Web_init f_Web_of f_Web_sheet f_Web_posts f_Web_ties f_Web_next_post f_Web_require_post f_Web_iter f_Web_contains f_Web_getitem f_Web_len f_Web_bool f_Web_eq f_Web_str f_law_dice f_law_roll f_law_one_of f_law_mixed f_law_sheet f_law_ties f_law_web f_law_case f_law_mixed_dict f_law_getting f_law_reads f_law_right f_law r_Sheet_kinds r_Sheet_words r_Web_sheet r_Web_posts r_Web_ties r_Web_next_post r_Web_of kD_Web_init kD_Web_of : Addr} (X : K.In h) (G : h.Ns mainGlobals mg) (hfa : mg "law" = some (.ref fa))
    {od_UnknownName_init an_UnknownName_init od_is_integer an_is_integer od_is_name an_is_name od_are_names an_are_names od_Sheet_init an_Sheet_init od_Sheet_kinds an_Sheet_kinds od_Sheet_words an_Sheet_words od_Sheet_eq an_Sheet_eq od_Sheet_str an_Sheet_str od_require_sheet an_require_sheet od_is_kind an_is_kind od_is_tie an_is_tie od_is_post an_is_post od_is_post_of an_is_post_of od_is_tie_of an_is_tie_of od_require_posts an_require_posts od_require_ties an_require_ties od_least_next an_least_next od_require_next an_require_next od_Web_init an_Web_init od_Web_of an_Web_of od_Web_sheet an_Web_sheet od_Web_posts an_Web_posts od_Web_ties an_Web_ties od_Web_next_post an_Web_next_post od_Web_require_post an_Web_require_post od_Web_iter an_Web_iter od_Web_contains an_Web_contains od_Web_getitem an_Web_getitem od_Web_len an_Web_len od_Web_bool an_Web_bool od_Web_eq an_Web_eq od_Web_str an_Web_str od_law_dice an_law_dice od_law_roll an_law_roll od_law_one_of an_law_one_of od_law_mixed an_law_mixed od_law_sheet an_law_sheet od_law_ties an_law_ties od_law_web an_law_web od_law_case an_law_case od_law_mixed_dict an_law_mixed_dict od_law_getting an_law_getting od_law_reads an_law_reads od_law_right an_law_right od_law an_law : Option Addr} {sl_UnknownName_init sl_is_integer sl_is_name sl_are_names sl_Sheet_init sl_Sheet_kinds sl_Sheet_words sl_Sheet_eq sl_Sheet_str sl_require_sheet sl_is_kind sl_is_tie sl_is_post sl_is_post_of sl_is_tie_of sl_require_posts sl_require_ties sl_least_next sl_require_next sl_Web_init sl_Web_of sl_Web_sheet sl_Web_posts sl_Web_ties sl_Web_next_post sl_Web_require_post sl_Web_iter sl_Web_contains sl_Web_getitem sl_Web_len sl_Web_bool sl_Web_eq sl_Web_str sl_law_dice sl_law_roll sl_law_one_of sl_law_mixed sl_law_sheet sl_law_ties sl_law_web sl_law_case sl_law_mixed_dict sl_law_getting sl_law_reads sl_law_right sl_law : Array (Option Value)} {oc_UnknownName_init kV_UnknownName_init dc_UnknownName_init pm_UnknownName_init cd_UnknownName_init ct_UnknownName_init oc_is_integer kV_is_integer dc_is_integer pm_is_integer cd_is_integer ct_is_integer oc_is_name kV_is_name dc_is_name pm_is_name cd_is_name ct_is_name oc_are_names kV_are_names dc_are_names pm_are_names cd_are_names ct_are_names oc_Sheet_init kV_Sheet_init dc_Sheet_init pm_Sheet_init cd_Sheet_init ct_Sheet_init oc_Sheet_kinds kV_Sheet_kinds dc_Sheet_kinds pm_Sheet_kinds cd_Sheet_kinds ct_Sheet_kinds oc_Sheet_words kV_Sheet_words dc_Sheet_words pm_Sheet_words cd_Sheet_words ct_Sheet_words oc_Sheet_eq kV_Sheet_eq dc_Sheet_eq pm_Sheet_eq cd_Sheet_eq ct_Sheet_eq oc_Sheet_str kV_Sheet_str dc_Sheet_str pm_Sheet_str cd_Sheet_str ct_Sheet_str oc_require_sheet kV_require_sheet dc_require_sheet pm_require_sheet cd_require_sheet ct_require_sheet oc_is_kind kV_is_kind dc_is_kind pm_is_kind cd_is_kind ct_is_kind oc_is_tie kV_is_tie dc_is_tie pm_is_tie cd_is_tie ct_is_tie oc_is_post kV_is_post dc_is_post pm_is_post cd_is_post ct_is_post oc_is_post_of kV_is_post_of dc_is_post_of pm_is_post_of cd_is_post_of ct_is_post_of oc_is_tie_of kV_is_tie_of dc_is_tie_of pm_is_tie_of cd_is_tie_of ct_is_tie_of oc_require_posts kV_require_posts dc_require_posts pm_require_posts cd_require_posts ct_require_posts oc_require_ties kV_require_ties dc_require_ties pm_require_ties cd_require_ties ct_require_ties oc_least_next kV_least_next dc_least_next pm_least_next cd_least_next ct_least_next oc_require_next kV_require_next dc_require_next pm_require_next cd_require_next ct_require_next oc_Web_init dc_Web_init pm_Web_init cd_Web_init ct_Web_init oc_Web_of dc_Web_of pm_Web_of cd_Web_of ct_Web_of oc_Web_sheet kV_Web_sheet dc_Web_sheet pm_Web_sheet cd_Web_sheet ct_Web_sheet oc_Web_posts kV_Web_posts dc_Web_posts pm_Web_posts cd_Web_posts ct_Web_posts oc_Web_ties kV_Web_ties dc_Web_ties pm_Web_ties cd_Web_ties ct_Web_ties oc_Web_next_post kV_Web_next_post dc_Web_next_post pm_Web_next_post cd_Web_next_post ct_Web_next_post oc_Web_require_post kV_Web_require_post dc_Web_require_post pm_Web_require_post cd_Web_require_post ct_Web_require_post oc_Web_iter kV_Web_iter dc_Web_iter pm_Web_iter cd_Web_iter ct_Web_iter oc_Web_contains kV_Web_contains dc_Web_contains pm_Web_contains cd_Web_contains ct_Web_contains oc_Web_getitem kV_Web_getitem dc_Web_getitem pm_Web_getitem cd_Web_getitem ct_Web_getitem oc_Web_len kV_Web_len dc_Web_len pm_Web_len cd_Web_len ct_Web_len oc_Web_bool kV_Web_bool dc_Web_bool pm_Web_bool cd_Web_bool ct_Web_bool oc_Web_eq kV_Web_eq dc_Web_eq pm_Web_eq cd_Web_eq ct_Web_eq oc_Web_str kV_Web_str dc_Web_str pm_Web_str cd_Web_str ct_Web_str oc_law_dice kV_law_dice dc_law_dice pm_law_dice cd_law_dice ct_law_dice oc_law_roll kV_law_roll dc_law_roll pm_law_roll cd_law_roll ct_law_roll oc_law_one_of kV_law_one_of dc_law_one_of pm_law_one_of cd_law_one_of ct_law_one_of oc_law_mixed kV_law_mixed dc_law_mixed pm_law_mixed cd_law_mixed ct_law_mixed oc_law_sheet kV_law_sheet dc_law_sheet pm_law_sheet cd_law_sheet ct_law_sheet oc_law_ties kV_law_ties dc_law_ties pm_law_ties cd_law_ties ct_law_ties oc_law_web kV_law_web dc_law_web pm_law_web cd_law_web ct_law_web oc_law_case kV_law_case dc_law_case pm_law_case cd_law_case ct_law_case oc_law_mixed_dict kV_law_mixed_dict dc_law_mixed_dict pm_law_mixed_dict cd_law_mixed_dict ct_law_mixed_dict oc_law_getting kV_law_getting dc_law_getting pm_law_getting cd_law_getting ct_law_getting oc_law_reads kV_law_reads dc_law_reads pm_law_reads cd_law_reads ct_law_reads oc_law_right kV_law_right dc_law_right pm_law_right cd_law_right ct_law_right oc_law kV_law dc_law pm_law cd_law ct_law : Value} {rs_Sheet_kinds rs_Sheet_words rs_Web_of rs_Web_sheet rs_Web_posts rs_Web_ties rs_Web_next_post : List Value} {t_MAX_KINDS t_MAX_WORDS t_MAX_POSTS t_MAX_LETTERS t_LETTERS : Tok}
    (gC_Sheet : PySem.W.nsIn K mainGlobals "Sheet" = some (some (.ref C_Sheet)))
    (gC_Web : PySem.W.nsIn K mainGlobals "Web" = some (some (.ref C_Web)))
    (gC_ShapeError : PySem.W.nsIn K mainGlobals "ShapeError" = some (some (.ref C_ShapeError)))
    (gC_InvalidSheet : PySem.W.nsIn K mainGlobals "InvalidSheet" = some (some (.ref C_InvalidSheet)))
    (gC_InvalidWeb : PySem.W.nsIn K mainGlobals "InvalidWeb" = some (some (.ref C_InvalidWeb)))
    (gC_UnknownName : PySem.W.nsIn K mainGlobals "UnknownName" = some (some (.ref C_UnknownName)))
    (a_UnknownName_init : PySem.W.findIn K (.ref C_UnknownName) "__init__" = some (some (.ref f_UnknownName_init)))
    (i_UnknownName_init : PySem.W.isFn K (.ref f_UnknownName_init) = true)
    (l_UnknownName_init : K.lookup f_UnknownName_init = some ⟨oc_UnknownName_init, od_UnknownName_init, .func (PySem.W.fnOf "__init__" "UnknownName.__init__" (defArgs s_UnknownName_init) (defBody s_UnknownName_init) (defScope s_UnknownName_init) .none kV_UnknownName_init dc_UnknownName_init pm_UnknownName_init an_UnknownName_init cd_UnknownName_init ct_UnknownName_init), sl_UnknownName_init⟩)
    (c_UnknownName_init : PySem.W.codeIn K cd_UnknownName_init "UnknownName.__init__" = true)
    (k_UnknownName_init : PySem.W.keepIn K (.ref f_UnknownName_init) = true)
    (a_is_integer : PySem.W.nsIn K mainGlobals "is_integer" = some (some (.ref f_is_integer)))
    (l_is_integer : K.lookup f_is_integer = some ⟨oc_is_integer, od_is_integer, .func (PySem.W.fnOf "is_integer" "is_integer" (defArgs s_is_integer) (defBody s_is_integer) (defScope s_is_integer) .none kV_is_integer dc_is_integer pm_is_integer an_is_integer cd_is_integer ct_is_integer), sl_is_integer⟩)
    (c_is_integer : PySem.W.codeIn K cd_is_integer "is_integer" = true)
    (k_is_integer : PySem.W.keepIn K (.ref f_is_integer) = true)
    (a_is_name : PySem.W.nsIn K mainGlobals "is_name" = some (some (.ref f_is_name)))
    (l_is_name : K.lookup f_is_name = some ⟨oc_is_name, od_is_name, .func (PySem.W.fnOf "is_name" "is_name" (defArgs s_is_name) (defBody s_is_name) (defScope s_is_name) .none kV_is_name dc_is_name pm_is_name an_is_name cd_is_name ct_is_name), sl_is_name⟩)
    (c_is_name : PySem.W.codeIn K cd_is_name "is_name" = true)
    (k_is_name : PySem.W.keepIn K (.ref f_is_name) = true)
    (a_are_names : PySem.W.nsIn K mainGlobals "are_names" = some (some (.ref f_are_names)))
    (l_are_names : K.lookup f_are_names = some ⟨oc_are_names, od_are_names, .func (PySem.W.fnOf "are_names" "are_names" (defArgs s_are_names) (defBody s_are_names) (defScope s_are_names) .none kV_are_names dc_are_names pm_are_names an_are_names cd_are_names ct_are_names), sl_are_names⟩)
    (c_are_names : PySem.W.codeIn K cd_are_names "are_names" = true)
    (k_are_names : PySem.W.keepIn K (.ref f_are_names) = true)
    (a_Sheet_init : PySem.W.findIn K (.ref C_Sheet) "__init__" = some (some (.ref f_Sheet_init)))
    (i_Sheet_init : PySem.W.isFn K (.ref f_Sheet_init) = true)
    (l_Sheet_init : K.lookup f_Sheet_init = some ⟨oc_Sheet_init, od_Sheet_init, .func (PySem.W.fnOf "__init__" "Sheet.__init__" (defArgs s_Sheet_init) (defBody s_Sheet_init) (defScope s_Sheet_init) .none kV_Sheet_init dc_Sheet_init pm_Sheet_init an_Sheet_init cd_Sheet_init ct_Sheet_init), sl_Sheet_init⟩)
    (c_Sheet_init : PySem.W.codeIn K cd_Sheet_init "Sheet.__init__" = true)
    (k_Sheet_init : PySem.W.keepIn K (.ref f_Sheet_init) = true)
    (at_Sheet_kinds : PySem.W.findIn K (.ref C_Sheet) "kinds" = some (some (.ref r_Sheet_kinds)))
    (gt_Sheet_kinds : PySem.W.specialIn K (.ref r_Sheet_kinds) "__get__" = some (some (.builtin "property.__get__")))
    (tk_Sheet_kinds : PySem.W.takesIn K (.ref r_Sheet_kinds) = some true)
    (rc_Sheet_kinds : PySem.W.recIn K r_Sheet_kinds "property" = some (.ref f_Sheet_kinds :: rs_Sheet_kinds))
    (l_Sheet_kinds : K.lookup f_Sheet_kinds = some ⟨oc_Sheet_kinds, od_Sheet_kinds, .func (PySem.W.fnOf "kinds" "Sheet.kinds" (defArgs s_Sheet_kinds) (defBody s_Sheet_kinds) (defScope s_Sheet_kinds) .none kV_Sheet_kinds dc_Sheet_kinds pm_Sheet_kinds an_Sheet_kinds cd_Sheet_kinds ct_Sheet_kinds), sl_Sheet_kinds⟩)
    (c_Sheet_kinds : PySem.W.codeIn K cd_Sheet_kinds "Sheet.kinds" = true)
    (k_Sheet_kinds : PySem.W.keepIn K (.ref f_Sheet_kinds) = true)
    (at_Sheet_words : PySem.W.findIn K (.ref C_Sheet) "words" = some (some (.ref r_Sheet_words)))
    (gt_Sheet_words : PySem.W.specialIn K (.ref r_Sheet_words) "__get__" = some (some (.builtin "property.__get__")))
    (tk_Sheet_words : PySem.W.takesIn K (.ref r_Sheet_words) = some true)
    (rc_Sheet_words : PySem.W.recIn K r_Sheet_words "property" = some (.ref f_Sheet_words :: rs_Sheet_words))
    (l_Sheet_words : K.lookup f_Sheet_words = some ⟨oc_Sheet_words, od_Sheet_words, .func (PySem.W.fnOf "words" "Sheet.words" (defArgs s_Sheet_words) (defBody s_Sheet_words) (defScope s_Sheet_words) .none kV_Sheet_words dc_Sheet_words pm_Sheet_words an_Sheet_words cd_Sheet_words ct_Sheet_words), sl_Sheet_words⟩)
    (c_Sheet_words : PySem.W.codeIn K cd_Sheet_words "Sheet.words" = true)
    (k_Sheet_words : PySem.W.keepIn K (.ref f_Sheet_words) = true)
    (a_Sheet_eq : PySem.W.findIn K (.ref C_Sheet) "__eq__" = some (some (.ref f_Sheet_eq)))
    (i_Sheet_eq : PySem.W.isFn K (.ref f_Sheet_eq) = true)
    (l_Sheet_eq : K.lookup f_Sheet_eq = some ⟨oc_Sheet_eq, od_Sheet_eq, .func (PySem.W.fnOf "__eq__" "Sheet.__eq__" (defArgs s_Sheet_eq) (defBody s_Sheet_eq) (defScope s_Sheet_eq) .none kV_Sheet_eq dc_Sheet_eq pm_Sheet_eq an_Sheet_eq cd_Sheet_eq ct_Sheet_eq), sl_Sheet_eq⟩)
    (c_Sheet_eq : PySem.W.codeIn K cd_Sheet_eq "Sheet.__eq__" = true)
    (k_Sheet_eq : PySem.W.keepIn K (.ref f_Sheet_eq) = true)
    (a_Sheet_str : PySem.W.findIn K (.ref C_Sheet) "__str__" = some (some (.ref f_Sheet_str)))
    (i_Sheet_str : PySem.W.isFn K (.ref f_Sheet_str) = true)
    (l_Sheet_str : K.lookup f_Sheet_str = some ⟨oc_Sheet_str, od_Sheet_str, .func (PySem.W.fnOf "__str__" "Sheet.__str__" (defArgs s_Sheet_str) (defBody s_Sheet_str) (defScope s_Sheet_str) .none kV_Sheet_str dc_Sheet_str pm_Sheet_str an_Sheet_str cd_Sheet_str ct_Sheet_str), sl_Sheet_str⟩)
    (c_Sheet_str : PySem.W.codeIn K cd_Sheet_str "Sheet.__str__" = true)
    (k_Sheet_str : PySem.W.keepIn K (.ref f_Sheet_str) = true)
    (a_require_sheet : PySem.W.nsIn K mainGlobals "require_sheet" = some (some (.ref f_require_sheet)))
    (l_require_sheet : K.lookup f_require_sheet = some ⟨oc_require_sheet, od_require_sheet, .func (PySem.W.fnOf "require_sheet" "require_sheet" (defArgs s_require_sheet) (defBody s_require_sheet) (defScope s_require_sheet) .none kV_require_sheet dc_require_sheet pm_require_sheet an_require_sheet cd_require_sheet ct_require_sheet), sl_require_sheet⟩)
    (c_require_sheet : PySem.W.codeIn K cd_require_sheet "require_sheet" = true)
    (k_require_sheet : PySem.W.keepIn K (.ref f_require_sheet) = true)
    (a_is_kind : PySem.W.nsIn K mainGlobals "is_kind" = some (some (.ref f_is_kind)))
    (l_is_kind : K.lookup f_is_kind = some ⟨oc_is_kind, od_is_kind, .func (PySem.W.fnOf "is_kind" "is_kind" (defArgs s_is_kind) (defBody s_is_kind) (defScope s_is_kind) .none kV_is_kind dc_is_kind pm_is_kind an_is_kind cd_is_kind ct_is_kind), sl_is_kind⟩)
    (c_is_kind : PySem.W.codeIn K cd_is_kind "is_kind" = true)
    (k_is_kind : PySem.W.keepIn K (.ref f_is_kind) = true)
    (a_is_tie : PySem.W.nsIn K mainGlobals "is_tie" = some (some (.ref f_is_tie)))
    (l_is_tie : K.lookup f_is_tie = some ⟨oc_is_tie, od_is_tie, .func (PySem.W.fnOf "is_tie" "is_tie" (defArgs s_is_tie) (defBody s_is_tie) (defScope s_is_tie) .none kV_is_tie dc_is_tie pm_is_tie an_is_tie cd_is_tie ct_is_tie), sl_is_tie⟩)
    (c_is_tie : PySem.W.codeIn K cd_is_tie "is_tie" = true)
    (k_is_tie : PySem.W.keepIn K (.ref f_is_tie) = true)
    (a_is_post : PySem.W.nsIn K mainGlobals "is_post" = some (some (.ref f_is_post)))
    (l_is_post : K.lookup f_is_post = some ⟨oc_is_post, od_is_post, .func (PySem.W.fnOf "is_post" "is_post" (defArgs s_is_post) (defBody s_is_post) (defScope s_is_post) .none kV_is_post dc_is_post pm_is_post an_is_post cd_is_post ct_is_post), sl_is_post⟩)
    (c_is_post : PySem.W.codeIn K cd_is_post "is_post" = true)
    (k_is_post : PySem.W.keepIn K (.ref f_is_post) = true)
    (a_is_post_of : PySem.W.nsIn K mainGlobals "is_post_of" = some (some (.ref f_is_post_of)))
    (l_is_post_of : K.lookup f_is_post_of = some ⟨oc_is_post_of, od_is_post_of, .func (PySem.W.fnOf "is_post_of" "is_post_of" (defArgs s_is_post_of) (defBody s_is_post_of) (defScope s_is_post_of) .none kV_is_post_of dc_is_post_of pm_is_post_of an_is_post_of cd_is_post_of ct_is_post_of), sl_is_post_of⟩)
    (c_is_post_of : PySem.W.codeIn K cd_is_post_of "is_post_of" = true)
    (k_is_post_of : PySem.W.keepIn K (.ref f_is_post_of) = true)
    (a_is_tie_of : PySem.W.nsIn K mainGlobals "is_tie_of" = some (some (.ref f_is_tie_of)))
    (l_is_tie_of : K.lookup f_is_tie_of = some ⟨oc_is_tie_of, od_is_tie_of, .func (PySem.W.fnOf "is_tie_of" "is_tie_of" (defArgs s_is_tie_of) (defBody s_is_tie_of) (defScope s_is_tie_of) .none kV_is_tie_of dc_is_tie_of pm_is_tie_of an_is_tie_of cd_is_tie_of ct_is_tie_of), sl_is_tie_of⟩)
    (c_is_tie_of : PySem.W.codeIn K cd_is_tie_of "is_tie_of" = true)
    (k_is_tie_of : PySem.W.keepIn K (.ref f_is_tie_of) = true)
    (a_require_posts : PySem.W.nsIn K mainGlobals "require_posts" = some (some (.ref f_require_posts)))
    (l_require_posts : K.lookup f_require_posts = some ⟨oc_require_posts, od_require_posts, .func (PySem.W.fnOf "require_posts" "require_posts" (defArgs s_require_posts) (defBody s_require_posts) (defScope s_require_posts) .none kV_require_posts dc_require_posts pm_require_posts an_require_posts cd_require_posts ct_require_posts), sl_require_posts⟩)
    (c_require_posts : PySem.W.codeIn K cd_require_posts "require_posts" = true)
    (k_require_posts : PySem.W.keepIn K (.ref f_require_posts) = true)
    (a_require_ties : PySem.W.nsIn K mainGlobals "require_ties" = some (some (.ref f_require_ties)))
    (l_require_ties : K.lookup f_require_ties = some ⟨oc_require_ties, od_require_ties, .func (PySem.W.fnOf "require_ties" "require_ties" (defArgs s_require_ties) (defBody s_require_ties) (defScope s_require_ties) .none kV_require_ties dc_require_ties pm_require_ties an_require_ties cd_require_ties ct_require_ties), sl_require_ties⟩)
    (c_require_ties : PySem.W.codeIn K cd_require_ties "require_ties" = true)
    (k_require_ties : PySem.W.keepIn K (.ref f_require_ties) = true)
    (a_least_next : PySem.W.nsIn K mainGlobals "least_next" = some (some (.ref f_least_next)))
    (l_least_next : K.lookup f_least_next = some ⟨oc_least_next, od_least_next, .func (PySem.W.fnOf "least_next" "least_next" (defArgs s_least_next) (defBody s_least_next) (defScope s_least_next) .none kV_least_next dc_least_next pm_least_next an_least_next cd_least_next ct_least_next), sl_least_next⟩)
    (c_least_next : PySem.W.codeIn K cd_least_next "least_next" = true)
    (k_least_next : PySem.W.keepIn K (.ref f_least_next) = true)
    (a_require_next : PySem.W.nsIn K mainGlobals "require_next" = some (some (.ref f_require_next)))
    (l_require_next : K.lookup f_require_next = some ⟨oc_require_next, od_require_next, .func (PySem.W.fnOf "require_next" "require_next" (defArgs s_require_next) (defBody s_require_next) (defScope s_require_next) .none kV_require_next dc_require_next pm_require_next an_require_next cd_require_next ct_require_next), sl_require_next⟩)
    (c_require_next : PySem.W.codeIn K cd_require_next "require_next" = true)
    (k_require_next : PySem.W.keepIn K (.ref f_require_next) = true)
    (a_Web_init : PySem.W.findIn K (.ref C_Web) "__init__" = some (some (.ref f_Web_init)))
    (i_Web_init : PySem.W.isFn K (.ref f_Web_init) = true)
    (l_Web_init : K.lookup f_Web_init = some ⟨oc_Web_init, od_Web_init, .func (PySem.W.fnOf "__init__" "Web.__init__" (defArgs s_Web_init) (defBody s_Web_init) (defScope s_Web_init) .none (.ref kD_Web_init) dc_Web_init pm_Web_init an_Web_init cd_Web_init ct_Web_init), sl_Web_init⟩)
    (c_Web_init : PySem.W.codeIn K cd_Web_init "Web.__init__" = true)
    (k_Web_init : PySem.W.keepIn K (.ref f_Web_init) = true)
    (nd_Web_init_next_post : PySem.W.nsIn K kD_Web_init "next_post" = some (some .none))
    (at_Web_of : PySem.W.findCls K (.ref C_Web) (.type "type") "of" = some (.get (.builtin "classmethod.__get__") (.ref r_Web_of) .none (.ref C_Web)))
    (rc_Web_of : PySem.W.recIn K r_Web_of "classmethod" = some (.ref f_Web_of :: rs_Web_of))
    (fi_Web_of : PySem.W.fnIn K f_Web_of = true)
    (l_Web_of : K.lookup f_Web_of = some ⟨oc_Web_of, od_Web_of, .func (PySem.W.fnOf "of" "Web.of" (defArgs s_Web_of) (defBody s_Web_of) (defScope s_Web_of) .none (.ref kD_Web_of) dc_Web_of pm_Web_of an_Web_of cd_Web_of ct_Web_of), sl_Web_of⟩)
    (c_Web_of : PySem.W.codeIn K cd_Web_of "Web.of" = true)
    (k_Web_of : PySem.W.keepIn K (.ref f_Web_of) = true)
    (nd_Web_of_next_post : PySem.W.nsIn K kD_Web_of "next_post" = some (some .none))
    (at_Web_sheet : PySem.W.findIn K (.ref C_Web) "sheet" = some (some (.ref r_Web_sheet)))
    (gt_Web_sheet : PySem.W.specialIn K (.ref r_Web_sheet) "__get__" = some (some (.builtin "property.__get__")))
    (tk_Web_sheet : PySem.W.takesIn K (.ref r_Web_sheet) = some true)
    (rc_Web_sheet : PySem.W.recIn K r_Web_sheet "property" = some (.ref f_Web_sheet :: rs_Web_sheet))
    (l_Web_sheet : K.lookup f_Web_sheet = some ⟨oc_Web_sheet, od_Web_sheet, .func (PySem.W.fnOf "sheet" "Web.sheet" (defArgs s_Web_sheet) (defBody s_Web_sheet) (defScope s_Web_sheet) .none kV_Web_sheet dc_Web_sheet pm_Web_sheet an_Web_sheet cd_Web_sheet ct_Web_sheet), sl_Web_sheet⟩)
    (c_Web_sheet : PySem.W.codeIn K cd_Web_sheet "Web.sheet" = true)
    (k_Web_sheet : PySem.W.keepIn K (.ref f_Web_sheet) = true)
    (at_Web_posts : PySem.W.findIn K (.ref C_Web) "posts" = some (some (.ref r_Web_posts)))
    (gt_Web_posts : PySem.W.specialIn K (.ref r_Web_posts) "__get__" = some (some (.builtin "property.__get__")))
    (tk_Web_posts : PySem.W.takesIn K (.ref r_Web_posts) = some true)
    (rc_Web_posts : PySem.W.recIn K r_Web_posts "property" = some (.ref f_Web_posts :: rs_Web_posts))
    (l_Web_posts : K.lookup f_Web_posts = some ⟨oc_Web_posts, od_Web_posts, .func (PySem.W.fnOf "posts" "Web.posts" (defArgs s_Web_posts) (defBody s_Web_posts) (defScope s_Web_posts) .none kV_Web_posts dc_Web_posts pm_Web_posts an_Web_posts cd_Web_posts ct_Web_posts), sl_Web_posts⟩)
    (c_Web_posts : PySem.W.codeIn K cd_Web_posts "Web.posts" = true)
    (k_Web_posts : PySem.W.keepIn K (.ref f_Web_posts) = true)
    (at_Web_ties : PySem.W.findIn K (.ref C_Web) "ties" = some (some (.ref r_Web_ties)))
    (gt_Web_ties : PySem.W.specialIn K (.ref r_Web_ties) "__get__" = some (some (.builtin "property.__get__")))
    (tk_Web_ties : PySem.W.takesIn K (.ref r_Web_ties) = some true)
    (rc_Web_ties : PySem.W.recIn K r_Web_ties "property" = some (.ref f_Web_ties :: rs_Web_ties))
    (l_Web_ties : K.lookup f_Web_ties = some ⟨oc_Web_ties, od_Web_ties, .func (PySem.W.fnOf "ties" "Web.ties" (defArgs s_Web_ties) (defBody s_Web_ties) (defScope s_Web_ties) .none kV_Web_ties dc_Web_ties pm_Web_ties an_Web_ties cd_Web_ties ct_Web_ties), sl_Web_ties⟩)
    (c_Web_ties : PySem.W.codeIn K cd_Web_ties "Web.ties" = true)
    (k_Web_ties : PySem.W.keepIn K (.ref f_Web_ties) = true)
    (at_Web_next_post : PySem.W.findIn K (.ref C_Web) "next_post" = some (some (.ref r_Web_next_post)))
    (gt_Web_next_post : PySem.W.specialIn K (.ref r_Web_next_post) "__get__" = some (some (.builtin "property.__get__")))
    (tk_Web_next_post : PySem.W.takesIn K (.ref r_Web_next_post) = some true)
    (rc_Web_next_post : PySem.W.recIn K r_Web_next_post "property" = some (.ref f_Web_next_post :: rs_Web_next_post))
    (l_Web_next_post : K.lookup f_Web_next_post = some ⟨oc_Web_next_post, od_Web_next_post, .func (PySem.W.fnOf "next_post" "Web.next_post" (defArgs s_Web_next_post) (defBody s_Web_next_post) (defScope s_Web_next_post) .none kV_Web_next_post dc_Web_next_post pm_Web_next_post an_Web_next_post cd_Web_next_post ct_Web_next_post), sl_Web_next_post⟩)
    (c_Web_next_post : PySem.W.codeIn K cd_Web_next_post "Web.next_post" = true)
    (k_Web_next_post : PySem.W.keepIn K (.ref f_Web_next_post) = true)
    (a_Web_require_post : PySem.W.findIn K (.ref C_Web) "require_post" = some (some (.ref f_Web_require_post)))
    (i_Web_require_post : PySem.W.isFn K (.ref f_Web_require_post) = true)
    (l_Web_require_post : K.lookup f_Web_require_post = some ⟨oc_Web_require_post, od_Web_require_post, .func (PySem.W.fnOf "require_post" "Web.require_post" (defArgs s_Web_require_post) (defBody s_Web_require_post) (defScope s_Web_require_post) .none kV_Web_require_post dc_Web_require_post pm_Web_require_post an_Web_require_post cd_Web_require_post ct_Web_require_post), sl_Web_require_post⟩)
    (c_Web_require_post : PySem.W.codeIn K cd_Web_require_post "Web.require_post" = true)
    (k_Web_require_post : PySem.W.keepIn K (.ref f_Web_require_post) = true)
    (a_Web_iter : PySem.W.findIn K (.ref C_Web) "__iter__" = some (some (.ref f_Web_iter)))
    (i_Web_iter : PySem.W.isFn K (.ref f_Web_iter) = true)
    (l_Web_iter : K.lookup f_Web_iter = some ⟨oc_Web_iter, od_Web_iter, .func (PySem.W.fnOf "__iter__" "Web.__iter__" (defArgs s_Web_iter) (defBody s_Web_iter) (defScope s_Web_iter) .none kV_Web_iter dc_Web_iter pm_Web_iter an_Web_iter cd_Web_iter ct_Web_iter), sl_Web_iter⟩)
    (c_Web_iter : PySem.W.codeIn K cd_Web_iter "Web.__iter__" = true)
    (k_Web_iter : PySem.W.keepIn K (.ref f_Web_iter) = true)
    (a_Web_contains : PySem.W.findIn K (.ref C_Web) "__contains__" = some (some (.ref f_Web_contains)))
    (i_Web_contains : PySem.W.isFn K (.ref f_Web_contains) = true)
    (l_Web_contains : K.lookup f_Web_contains = some ⟨oc_Web_contains, od_Web_contains, .func (PySem.W.fnOf "__contains__" "Web.__contains__" (defArgs s_Web_contains) (defBody s_Web_contains) (defScope s_Web_contains) .none kV_Web_contains dc_Web_contains pm_Web_contains an_Web_contains cd_Web_contains ct_Web_contains), sl_Web_contains⟩)
    (c_Web_contains : PySem.W.codeIn K cd_Web_contains "Web.__contains__" = true)
    (k_Web_contains : PySem.W.keepIn K (.ref f_Web_contains) = true)
    (a_Web_getitem : PySem.W.findIn K (.ref C_Web) "__getitem__" = some (some (.ref f_Web_getitem)))
    (i_Web_getitem : PySem.W.isFn K (.ref f_Web_getitem) = true)
    (l_Web_getitem : K.lookup f_Web_getitem = some ⟨oc_Web_getitem, od_Web_getitem, .func (PySem.W.fnOf "__getitem__" "Web.__getitem__" (defArgs s_Web_getitem) (defBody s_Web_getitem) (defScope s_Web_getitem) .none kV_Web_getitem dc_Web_getitem pm_Web_getitem an_Web_getitem cd_Web_getitem ct_Web_getitem), sl_Web_getitem⟩)
    (c_Web_getitem : PySem.W.codeIn K cd_Web_getitem "Web.__getitem__" = true)
    (k_Web_getitem : PySem.W.keepIn K (.ref f_Web_getitem) = true)
    (a_Web_len : PySem.W.findIn K (.ref C_Web) "__len__" = some (some (.ref f_Web_len)))
    (i_Web_len : PySem.W.isFn K (.ref f_Web_len) = true)
    (l_Web_len : K.lookup f_Web_len = some ⟨oc_Web_len, od_Web_len, .func (PySem.W.fnOf "__len__" "Web.__len__" (defArgs s_Web_len) (defBody s_Web_len) (defScope s_Web_len) .none kV_Web_len dc_Web_len pm_Web_len an_Web_len cd_Web_len ct_Web_len), sl_Web_len⟩)
    (c_Web_len : PySem.W.codeIn K cd_Web_len "Web.__len__" = true)
    (k_Web_len : PySem.W.keepIn K (.ref f_Web_len) = true)
    (a_Web_bool : PySem.W.findIn K (.ref C_Web) "__bool__" = some (some (.ref f_Web_bool)))
    (i_Web_bool : PySem.W.isFn K (.ref f_Web_bool) = true)
    (l_Web_bool : K.lookup f_Web_bool = some ⟨oc_Web_bool, od_Web_bool, .func (PySem.W.fnOf "__bool__" "Web.__bool__" (defArgs s_Web_bool) (defBody s_Web_bool) (defScope s_Web_bool) .none kV_Web_bool dc_Web_bool pm_Web_bool an_Web_bool cd_Web_bool ct_Web_bool), sl_Web_bool⟩)
    (c_Web_bool : PySem.W.codeIn K cd_Web_bool "Web.__bool__" = true)
    (k_Web_bool : PySem.W.keepIn K (.ref f_Web_bool) = true)
    (a_Web_eq : PySem.W.findIn K (.ref C_Web) "__eq__" = some (some (.ref f_Web_eq)))
    (i_Web_eq : PySem.W.isFn K (.ref f_Web_eq) = true)
    (l_Web_eq : K.lookup f_Web_eq = some ⟨oc_Web_eq, od_Web_eq, .func (PySem.W.fnOf "__eq__" "Web.__eq__" (defArgs s_Web_eq) (defBody s_Web_eq) (defScope s_Web_eq) .none kV_Web_eq dc_Web_eq pm_Web_eq an_Web_eq cd_Web_eq ct_Web_eq), sl_Web_eq⟩)
    (c_Web_eq : PySem.W.codeIn K cd_Web_eq "Web.__eq__" = true)
    (k_Web_eq : PySem.W.keepIn K (.ref f_Web_eq) = true)
    (a_Web_str : PySem.W.findIn K (.ref C_Web) "__str__" = some (some (.ref f_Web_str)))
    (i_Web_str : PySem.W.isFn K (.ref f_Web_str) = true)
    (l_Web_str : K.lookup f_Web_str = some ⟨oc_Web_str, od_Web_str, .func (PySem.W.fnOf "__str__" "Web.__str__" (defArgs s_Web_str) (defBody s_Web_str) (defScope s_Web_str) .none kV_Web_str dc_Web_str pm_Web_str an_Web_str cd_Web_str ct_Web_str), sl_Web_str⟩)
    (c_Web_str : PySem.W.codeIn K cd_Web_str "Web.__str__" = true)
    (k_Web_str : PySem.W.keepIn K (.ref f_Web_str) = true)
    (a_law_dice : PySem.W.nsIn K mainGlobals "_law_dice" = some (some (.ref f_law_dice)))
    (l_law_dice : K.lookup f_law_dice = some ⟨oc_law_dice, od_law_dice, .func (PySem.W.fnOf "_law_dice" "_law_dice" (defArgs s_law_dice) (defBody s_law_dice) (defScope s_law_dice) .none kV_law_dice dc_law_dice pm_law_dice an_law_dice cd_law_dice ct_law_dice), sl_law_dice⟩)
    (c_law_dice : PySem.W.codeIn K cd_law_dice "_law_dice" = true)
    (k_law_dice : PySem.W.keepIn K (.ref f_law_dice) = true)
    (a_law_roll : PySem.W.nsIn K mainGlobals "_law_roll" = some (some (.ref f_law_roll)))
    (l_law_roll : K.lookup f_law_roll = some ⟨oc_law_roll, od_law_roll, .func (PySem.W.fnOf "_law_roll" "_law_roll" (defArgs s_law_roll) (defBody s_law_roll) (defScope s_law_roll) .none kV_law_roll dc_law_roll pm_law_roll an_law_roll cd_law_roll ct_law_roll), sl_law_roll⟩)
    (c_law_roll : PySem.W.codeIn K cd_law_roll "_law_roll" = true)
    (k_law_roll : PySem.W.keepIn K (.ref f_law_roll) = true)
    (a_law_one_of : PySem.W.nsIn K mainGlobals "_law_one_of" = some (some (.ref f_law_one_of)))
    (l_law_one_of : K.lookup f_law_one_of = some ⟨oc_law_one_of, od_law_one_of, .func (PySem.W.fnOf "_law_one_of" "_law_one_of" (defArgs s_law_one_of) (defBody s_law_one_of) (defScope s_law_one_of) .none kV_law_one_of dc_law_one_of pm_law_one_of an_law_one_of cd_law_one_of ct_law_one_of), sl_law_one_of⟩)
    (c_law_one_of : PySem.W.codeIn K cd_law_one_of "_law_one_of" = true)
    (k_law_one_of : PySem.W.keepIn K (.ref f_law_one_of) = true)
    (a_law_mixed : PySem.W.nsIn K mainGlobals "_law_mixed" = some (some (.ref f_law_mixed)))
    (l_law_mixed : K.lookup f_law_mixed = some ⟨oc_law_mixed, od_law_mixed, .func (PySem.W.fnOf "_law_mixed" "_law_mixed" (defArgs s_law_mixed) (defBody s_law_mixed) (defScope s_law_mixed) .none kV_law_mixed dc_law_mixed pm_law_mixed an_law_mixed cd_law_mixed ct_law_mixed), sl_law_mixed⟩)
    (c_law_mixed : PySem.W.codeIn K cd_law_mixed "_law_mixed" = true)
    (k_law_mixed : PySem.W.keepIn K (.ref f_law_mixed) = true)
    (a_law_sheet : PySem.W.nsIn K mainGlobals "_law_sheet" = some (some (.ref f_law_sheet)))
    (l_law_sheet : K.lookup f_law_sheet = some ⟨oc_law_sheet, od_law_sheet, .func (PySem.W.fnOf "_law_sheet" "_law_sheet" (defArgs s_law_sheet) (defBody s_law_sheet) (defScope s_law_sheet) .none kV_law_sheet dc_law_sheet pm_law_sheet an_law_sheet cd_law_sheet ct_law_sheet), sl_law_sheet⟩)
    (c_law_sheet : PySem.W.codeIn K cd_law_sheet "_law_sheet" = true)
    (k_law_sheet : PySem.W.keepIn K (.ref f_law_sheet) = true)
    (a_law_ties : PySem.W.nsIn K mainGlobals "_law_ties" = some (some (.ref f_law_ties)))
    (l_law_ties : K.lookup f_law_ties = some ⟨oc_law_ties, od_law_ties, .func (PySem.W.fnOf "_law_ties" "_law_ties" (defArgs s_law_ties) (defBody s_law_ties) (defScope s_law_ties) .none kV_law_ties dc_law_ties pm_law_ties an_law_ties cd_law_ties ct_law_ties), sl_law_ties⟩)
    (c_law_ties : PySem.W.codeIn K cd_law_ties "_law_ties" = true)
    (k_law_ties : PySem.W.keepIn K (.ref f_law_ties) = true)
    (a_law_web : PySem.W.nsIn K mainGlobals "_law_web" = some (some (.ref f_law_web)))
    (l_law_web : K.lookup f_law_web = some ⟨oc_law_web, od_law_web, .func (PySem.W.fnOf "_law_web" "_law_web" (defArgs s_law_web) (defBody s_law_web) (defScope s_law_web) .none kV_law_web dc_law_web pm_law_web an_law_web cd_law_web ct_law_web), sl_law_web⟩)
    (c_law_web : PySem.W.codeIn K cd_law_web "_law_web" = true)
    (k_law_web : PySem.W.keepIn K (.ref f_law_web) = true)
    (a_law_case : PySem.W.nsIn K mainGlobals "_law_case" = some (some (.ref f_law_case)))
    (l_law_case : K.lookup f_law_case = some ⟨oc_law_case, od_law_case, .func (PySem.W.fnOf "_law_case" "_law_case" (defArgs s_law_case) (defBody s_law_case) (defScope s_law_case) .none kV_law_case dc_law_case pm_law_case an_law_case cd_law_case ct_law_case), sl_law_case⟩)
    (c_law_case : PySem.W.codeIn K cd_law_case "_law_case" = true)
    (k_law_case : PySem.W.keepIn K (.ref f_law_case) = true)
    (a_law_mixed_dict : PySem.W.nsIn K mainGlobals "_law_mixed_dict" = some (some (.ref f_law_mixed_dict)))
    (l_law_mixed_dict : K.lookup f_law_mixed_dict = some ⟨oc_law_mixed_dict, od_law_mixed_dict, .func (PySem.W.fnOf "_law_mixed_dict" "_law_mixed_dict" (defArgs s_law_mixed_dict) (defBody s_law_mixed_dict) (defScope s_law_mixed_dict) .none kV_law_mixed_dict dc_law_mixed_dict pm_law_mixed_dict an_law_mixed_dict cd_law_mixed_dict ct_law_mixed_dict), sl_law_mixed_dict⟩)
    (c_law_mixed_dict : PySem.W.codeIn K cd_law_mixed_dict "_law_mixed_dict" = true)
    (k_law_mixed_dict : PySem.W.keepIn K (.ref f_law_mixed_dict) = true)
    (a_law_getting : PySem.W.nsIn K mainGlobals "_law_getting" = some (some (.ref f_law_getting)))
    (l_law_getting : K.lookup f_law_getting = some ⟨oc_law_getting, od_law_getting, .func (PySem.W.fnOf "_law_getting" "_law_getting" (defArgs s_law_getting) (defBody s_law_getting) (defScope s_law_getting) .none kV_law_getting dc_law_getting pm_law_getting an_law_getting cd_law_getting ct_law_getting), sl_law_getting⟩)
    (c_law_getting : PySem.W.codeIn K cd_law_getting "_law_getting" = true)
    (k_law_getting : PySem.W.keepIn K (.ref f_law_getting) = true)
    (a_law_reads : PySem.W.nsIn K mainGlobals "_law_reads" = some (some (.ref f_law_reads)))
    (l_law_reads : K.lookup f_law_reads = some ⟨oc_law_reads, od_law_reads, .func (PySem.W.fnOf "_law_reads" "_law_reads" (defArgs s_law_reads) (defBody s_law_reads) (defScope s_law_reads) .none kV_law_reads dc_law_reads pm_law_reads an_law_reads cd_law_reads ct_law_reads), sl_law_reads⟩)
    (c_law_reads : PySem.W.codeIn K cd_law_reads "_law_reads" = true)
    (k_law_reads : PySem.W.keepIn K (.ref f_law_reads) = true)
    (a_law_right : PySem.W.nsIn K mainGlobals "_law_right" = some (some (.ref f_law_right)))
    (l_law_right : K.lookup f_law_right = some ⟨oc_law_right, od_law_right, .func (PySem.W.fnOf "_law_right" "_law_right" (defArgs s_law_right) (defBody s_law_right) (defScope s_law_right) .none kV_law_right dc_law_right pm_law_right an_law_right cd_law_right ct_law_right), sl_law_right⟩)
    (c_law_right : PySem.W.codeIn K cd_law_right "_law_right" = true)
    (k_law_right : PySem.W.keepIn K (.ref f_law_right) = true)
    (a_law : PySem.W.nsIn K mainGlobals "law" = some (some (.ref f_law)))
    (l_law : K.lookup f_law = some ⟨oc_law, od_law, .func (PySem.W.fnOf "law" "law" (defArgs s_law) (defBody s_law) (defScope s_law) .none kV_law dc_law pm_law an_law cd_law ct_law), sl_law⟩)
    (c_law : PySem.W.codeIn K cd_law "law" = true)
    (k_law : PySem.W.keepIn K (.ref f_law) = true)
    (pg_Sheet : PySem.W.plainGet K C_Sheet Str.empty = true)
    (hd_Sheet : PySem.W.hasDictIn K C_Sheet = true)
    (po_Sheet : PySem.W.plainOver K C_Sheet = true)
    (sa_Sheet : PySem.W.findIn K (.ref C_Sheet) "__setattr__" = some (some (.builtin "object.__setattr__")))
    (cc_Sheet : PySem.W.findIn K (.ref C_Sheet) "__class__" = some (some (.builtin "object.__class__")))
    (cg_Sheet : PySem.W.specialIn K (.builtin "object.__class__") "__get__" = some (some (.builtin "getset_descriptor.__get__")))
    (ct_Sheet : PySem.W.takesIn K (.builtin "object.__class__") = some true)
    (mr_Sheet : PySem.W.mroIn K C_Sheet (.type "object") = some true)
    (ne_Sheet : PySem.W.findIn K (.ref C_Sheet) "__ne__" = some (some (.builtin "object.__ne__")))
    (ic_Sheet : PySem.W.isClsIn K C_Sheet = true)
    (it_Sheet : PySem.W.typeIn K (.ref C_Sheet) = some (.type "type"))
    (mk_Sheet : PySem.W.makesIn K C_Sheet = true)
    (kc_Sheet : PySem.W.keepIn K (.ref C_Sheet) = true)
    (n_Sheet_own_kinds : PySem.W.findIn K (.ref C_Sheet) "own_kinds" = some none)
    (n_Sheet_own_words : PySem.W.findIn K (.ref C_Sheet) "own_words" = some none)
    (pg_Web : PySem.W.plainGet K C_Web Str.empty = true)
    (hd_Web : PySem.W.hasDictIn K C_Web = true)
    (po_Web : PySem.W.plainOver K C_Web = true)
    (sa_Web : PySem.W.findIn K (.ref C_Web) "__setattr__" = some (some (.builtin "object.__setattr__")))
    (cc_Web : PySem.W.findIn K (.ref C_Web) "__class__" = some (some (.builtin "object.__class__")))
    (cg_Web : PySem.W.specialIn K (.builtin "object.__class__") "__get__" = some (some (.builtin "getset_descriptor.__get__")))
    (ct_Web : PySem.W.takesIn K (.builtin "object.__class__") = some true)
    (mr_Web : PySem.W.mroIn K C_Web (.type "object") = some true)
    (ne_Web : PySem.W.findIn K (.ref C_Web) "__ne__" = some (some (.builtin "object.__ne__")))
    (ic_Web : PySem.W.isClsIn K C_Web = true)
    (it_Web : PySem.W.typeIn K (.ref C_Web) = some (.type "type"))
    (mk_Web : PySem.W.makesIn K C_Web = true)
    (kc_Web : PySem.W.keepIn K (.ref C_Web) = true)
    (n_Web_own_sheet : PySem.W.findIn K (.ref C_Web) "own_sheet" = some none)
    (n_Web_own_posts : PySem.W.findIn K (.ref C_Web) "own_posts" = some none)
    (n_Web_own_ties : PySem.W.findIn K (.ref C_Web) "own_ties" = some none)
    (n_Web_own_next : PySem.W.findIn K (.ref C_Web) "own_next" = some none)
    (rd_Web : PySem.W.readsIn K C_Web (.type "type") = true)
    (ga_Web : PySem.W.specialIn K (.ref C_Web) "__getattribute__" = some (some (.builtin "type.__getattribute__")))
    (x_ShapeError : PySem.W.excIn K C_ShapeError [.type "ValueError", .type "Exception", .type "BaseException", .type "object"] "ValueError.__new__" = true)
    (k_ShapeError : PySem.W.keepIn K (.ref C_ShapeError) = true)
    (s_ShapeError : PySem.W.subIn K (.ref C_ShapeError) (.type "BaseException") = some true)
    (t_ShapeError : PySem.W.typeIn K (.ref C_ShapeError) = some (.type "type"))
    (i_ShapeError : PySem.W.isClsIn K C_ShapeError = true)
    (ss_ShapeError : PySem.W.subIn K (.ref C_ShapeError) (.ref C_ShapeError) = some true)
    (x_InvalidSheet : PySem.W.excIn K C_InvalidSheet [.type "ValueError", .type "Exception", .type "BaseException", .type "object"] "ValueError.__new__" = true)
    (k_InvalidSheet : PySem.W.keepIn K (.ref C_InvalidSheet) = true)
    (s_InvalidSheet : PySem.W.subIn K (.ref C_InvalidSheet) (.type "BaseException") = some true)
    (t_InvalidSheet : PySem.W.typeIn K (.ref C_InvalidSheet) = some (.type "type"))
    (i_InvalidSheet : PySem.W.isClsIn K C_InvalidSheet = true)
    (ss_InvalidSheet : PySem.W.subIn K (.ref C_InvalidSheet) (.ref C_InvalidSheet) = some true)
    (x_InvalidWeb : PySem.W.excIn K C_InvalidWeb [.type "ValueError", .type "Exception", .type "BaseException", .type "object"] "ValueError.__new__" = true)
    (k_InvalidWeb : PySem.W.keepIn K (.ref C_InvalidWeb) = true)
    (s_InvalidWeb : PySem.W.subIn K (.ref C_InvalidWeb) (.type "BaseException") = some true)
    (t_InvalidWeb : PySem.W.typeIn K (.ref C_InvalidWeb) = some (.type "type"))
    (i_InvalidWeb : PySem.W.isClsIn K C_InvalidWeb = true)
    (ss_InvalidWeb : PySem.W.subIn K (.ref C_InvalidWeb) (.ref C_InvalidWeb) = some true)
    (n_UnknownName_name : PySem.W.findIn K (.ref C_UnknownName) "name" = some none)
    (k_UnknownName : PySem.W.keepIn K (.ref C_UnknownName) = true)
    (s_UnknownName : PySem.W.subIn K (.ref C_UnknownName) (.type "BaseException") = some true)
    (t_UnknownName : PySem.W.typeIn K (.ref C_UnknownName) = some (.type "type"))
    (i_UnknownName : PySem.W.isClsIn K C_UnknownName = true)
    (ss_UnknownName : PySem.W.subIn K (.ref C_UnknownName) (.ref C_UnknownName) = some true)
    (y_gf_getitem : PySem.W.fnIn K f_Web_getitem = true)
    (y_xf_UnknownName : L2.xfB K C_UnknownName = true)
    (y_o_UnknownName : PySem.Kx.oxB K C_UnknownName PySem.Kx.tKey "LookupError.__new__" = true)
    (y_sa_UnknownName : PySem.W.findIn K (.ref C_UnknownName) "__setattr__" = some (some (.builtin "object.__setattr__")))
    (y_v_KeyError : PySem.W.findCls K (.type "KeyError") (.type "type") "__init__" = some (.val (.builtin "KeyError.__init__")))
    (v_MAX_KINDS : PySem.W.nsIn K mainGlobals "MAX_KINDS" = some (some (.int 3 t_MAX_KINDS)))
    (v_MAX_WORDS : PySem.W.nsIn K mainGlobals "MAX_WORDS" = some (some (.int 2 t_MAX_WORDS)))
    (v_MAX_POSTS : PySem.W.nsIn K mainGlobals "MAX_POSTS" = some (some (.int 40 t_MAX_POSTS)))
    (v_MAX_LETTERS : PySem.W.nsIn K mainGlobals "MAX_LETTERS" = some (some (.int 8 t_MAX_LETTERS)))
    (v_LETTERS : PySem.W.nsIn K mainGlobals "LETTERS" = some (some (.str "abcdefghijklmnopqrstuvwxyz" t_LETTERS)))
    (z_KeyError : PySem.W.nsIn K mainGlobals "KeyError" = some none)
    (z_TypeError : PySem.W.nsIn K mainGlobals "TypeError" = some none)
    (z_abs : PySem.W.nsIn K mainGlobals "abs" = some none)
    (z_all : PySem.W.nsIn K mainGlobals "all" = some none)
    (z_bool : PySem.W.nsIn K mainGlobals "bool" = some none)
    (z_classmethod : PySem.W.nsIn K mainGlobals "classmethod" = some none)
    (z_dict : PySem.W.nsIn K mainGlobals "dict" = some none)
    (z_int : PySem.W.nsIn K mainGlobals "int" = some none)
    (z_isinstance : PySem.W.nsIn K mainGlobals "isinstance" = some none)
    (z_len : PySem.W.nsIn K mainGlobals "len" = some none)
    (z_list : PySem.W.nsIn K mainGlobals "list" = some none)
    (z_max : PySem.W.nsIn K mainGlobals "max" = some none)
    (z_min : PySem.W.nsIn K mainGlobals "min" = some none)
    (z_property : PySem.W.nsIn K mainGlobals "property" = some none)
    (z_range : PySem.W.nsIn K mainGlobals "range" = some none)
    (z_repr : PySem.W.nsIn K mainGlobals "repr" = some none)
    (z_sorted : PySem.W.nsIn K mainGlobals "sorted" = some none)
    (z_str : PySem.W.nsIn K mainGlobals "str" = some none)
    (z_tuple : PySem.W.nsIn K mainGlobals "tuple" = some none)
    : ∃ fd : FuncData, (∀ (s : Shared) (v : Value), BindsTo s fd ⟨[v], []⟩ [("_law_script", v)]) ∧ ∀ base : Heap, K.In base → base.Ns mainGlobals mg → FnG l.prog w K mg base 11 fa fd ["_law_script"] (spLaw K) := by
  have e : f_law = fa := by
    have e := hfa.symm.trans (PySem.W.mg_of X G a_law)
    cases e
    rfl
  subst e
  have F_UnknownName_init := fun_mk (st := s_UnknownName_init) l_UnknownName_init c_UnknownName_init k_UnknownName_init
  have b_UnknownName_init := F_UnknownName_init.binds (ps := ["self", "name"]) fun _ _ _ _ _ _ us hl => match us, hl with | [_, _], _ => rfl
  have F_is_integer := fun_mk (st := s_is_integer) l_is_integer c_is_integer k_is_integer
  have b_is_integer := F_is_integer.binds (ps := ["value"]) fun _ _ _ _ _ _ us hl => match us, hl with | [_], _ => rfl
  have F_is_name := fun_mk (st := s_is_name) l_is_name c_is_name k_is_name
  have b_is_name := F_is_name.binds (ps := ["value"]) fun _ _ _ _ _ _ us hl => match us, hl with | [_], _ => rfl
  have F_are_names := fun_mk (st := s_are_names) l_are_names c_are_names k_are_names
  have b_are_names := F_are_names.binds (ps := ["value", "most"]) fun _ _ _ _ _ _ us hl => match us, hl with | [_, _], _ => rfl
  have F_Sheet_init := fun_mk (st := s_Sheet_init) l_Sheet_init c_Sheet_init k_Sheet_init
  have b_Sheet_init := F_Sheet_init.binds (ps := ["self", "kinds", "words"]) fun _ _ _ _ _ _ us hl => match us, hl with | [_, _, _], _ => rfl
  have F_Sheet_kinds := fun_mk (st := s_Sheet_kinds) l_Sheet_kinds c_Sheet_kinds k_Sheet_kinds
  have b_Sheet_kinds := F_Sheet_kinds.binds (ps := ["self"]) fun _ _ _ _ _ _ us hl => match us, hl with | [_], _ => rfl
  have F_Sheet_words := fun_mk (st := s_Sheet_words) l_Sheet_words c_Sheet_words k_Sheet_words
  have b_Sheet_words := F_Sheet_words.binds (ps := ["self"]) fun _ _ _ _ _ _ us hl => match us, hl with | [_], _ => rfl
  have F_Sheet_eq := fun_mk (st := s_Sheet_eq) l_Sheet_eq c_Sheet_eq k_Sheet_eq
  have b_Sheet_eq := F_Sheet_eq.binds (ps := ["self", "other"]) fun _ _ _ _ _ _ us hl => match us, hl with | [_, _], _ => rfl
  have F_Sheet_str := fun_mk (st := s_Sheet_str) l_Sheet_str c_Sheet_str k_Sheet_str
  have b_Sheet_str := F_Sheet_str.binds (ps := ["self"]) fun _ _ _ _ _ _ us hl => match us, hl with | [_], _ => rfl
  have F_require_sheet := fun_mk (st := s_require_sheet) l_require_sheet c_require_sheet k_require_sheet
  have b_require_sheet := F_require_sheet.binds (ps := ["sheet"]) fun _ _ _ _ _ _ us hl => match us, hl with | [_], _ => rfl
  have F_is_kind := fun_mk (st := s_is_kind) l_is_kind c_is_kind k_is_kind
  have b_is_kind := F_is_kind.binds (ps := ["sheet", "value"]) fun _ _ _ _ _ _ us hl => match us, hl with | [_, _], _ => rfl
  have F_is_tie := fun_mk (st := s_is_tie) l_is_tie c_is_tie k_is_tie
  have b_is_tie := F_is_tie.binds (ps := ["sheet", "value"]) fun _ _ _ _ _ _ us hl => match us, hl with | [_, _], _ => rfl
  have F_is_post := fun_mk (st := s_is_post) l_is_post c_is_post k_is_post
  have b_is_post := F_is_post.binds (ps := ["value"]) fun _ _ _ _ _ _ us hl => match us, hl with | [_], _ => rfl
  have F_is_post_of := fun_mk (st := s_is_post_of) l_is_post_of c_is_post_of k_is_post_of
  have b_is_post_of := F_is_post_of.binds (ps := ["posts", "value"]) fun _ _ _ _ _ _ us hl => match us, hl with | [_, _], _ => rfl
  have F_is_tie_of := fun_mk (st := s_is_tie_of) l_is_tie_of c_is_tie_of k_is_tie_of
  have b_is_tie_of := F_is_tie_of.binds (ps := ["sheet", "posts", "value"]) fun _ _ _ _ _ _ us hl => match us, hl with | [_, _, _], _ => rfl
  have F_require_posts := fun_mk (st := s_require_posts) l_require_posts c_require_posts k_require_posts
  have b_require_posts := F_require_posts.binds (ps := ["sheet", "posts"]) fun _ _ _ _ _ _ us hl => match us, hl with | [_, _], _ => rfl
  have F_require_ties := fun_mk (st := s_require_ties) l_require_ties c_require_ties k_require_ties
  have b_require_ties := F_require_ties.binds (ps := ["sheet", "posts", "ties"]) fun _ _ _ _ _ _ us hl => match us, hl with | [_, _, _], _ => rfl
  have F_least_next := fun_mk (st := s_least_next) l_least_next c_least_next k_least_next
  have b_least_next := F_least_next.binds (ps := ["posts"]) fun _ _ _ _ _ _ us hl => match us, hl with | [_], _ => rfl
  have F_require_next := fun_mk (st := s_require_next) l_require_next c_require_next k_require_next
  have b_require_next := F_require_next.binds (ps := ["posts", "number"]) fun _ _ _ _ _ _ us hl => match us, hl with | [_, _], _ => rfl
  have F_Web_init : FunD K "__init__" "Web.__init__" (defArgs s_Web_init) (defBody s_Web_init) (defScope s_Web_init) [] [("next_post", .non)] f_Web_init _ := ⟨⟨_, _, _, _, _, _, _, _, _, _, rfl, l_Web_init, c_Web_init, .inl ⟨rfl, rfl⟩, .inr ⟨kD_Web_init, rfl, fun q hq => by cases hq with | head => exact ⟨_, nd_Web_init_next_post, rfl⟩ | tail _ h => cases h⟩⟩, k_Web_init⟩
  have sb_Web_init_0 := sbp_Web_init (dc := dc_Web_init) (pm := pm_Web_init) (an := an_Web_init) (cd := cd_Web_init) (ct := ct_Web_init) nd_Web_init_next_post
  have sb_Web_init_1 := sbq_Web_init (K := K) (kV := .ref kD_Web_init) (dc := dc_Web_init) (pm := pm_Web_init) (an := an_Web_init) (cd := cd_Web_init) (ct := ct_Web_init)
  have F_Web_of : FunD K "of" "Web.of" (defArgs s_Web_of) (defBody s_Web_of) (defScope s_Web_of) [] [("next_post", .non)] f_Web_of _ := ⟨⟨_, _, _, _, _, _, _, _, _, _, rfl, l_Web_of, c_Web_of, .inl ⟨rfl, rfl⟩, .inr ⟨kD_Web_of, rfl, fun q hq => by cases hq with | head => exact ⟨_, nd_Web_of_next_post, rfl⟩ | tail _ h => cases h⟩⟩, k_Web_of⟩
  have kb_Web_of := kbp_Web_of (K := K) (kV := .ref kD_Web_of) (dc := dc_Web_of) (pm := pm_Web_of) (an := an_Web_of) (cd := cd_Web_of) (ct := ct_Web_of)
  have F_Web_sheet := fun_mk (st := s_Web_sheet) l_Web_sheet c_Web_sheet k_Web_sheet
  have b_Web_sheet := F_Web_sheet.binds (ps := ["self"]) fun _ _ _ _ _ _ us hl => match us, hl with | [_], _ => rfl
  have F_Web_posts := fun_mk (st := s_Web_posts) l_Web_posts c_Web_posts k_Web_posts
  have b_Web_posts := F_Web_posts.binds (ps := ["self"]) fun _ _ _ _ _ _ us hl => match us, hl with | [_], _ => rfl
  have F_Web_ties := fun_mk (st := s_Web_ties) l_Web_ties c_Web_ties k_Web_ties
  have b_Web_ties := F_Web_ties.binds (ps := ["self"]) fun _ _ _ _ _ _ us hl => match us, hl with | [_], _ => rfl
  have F_Web_next_post := fun_mk (st := s_Web_next_post) l_Web_next_post c_Web_next_post k_Web_next_post
  have b_Web_next_post := F_Web_next_post.binds (ps := ["self"]) fun _ _ _ _ _ _ us hl => match us, hl with | [_], _ => rfl
  have F_Web_require_post := fun_mk (st := s_Web_require_post) l_Web_require_post c_Web_require_post k_Web_require_post
  have b_Web_require_post := F_Web_require_post.binds (ps := ["self", "post"]) fun _ _ _ _ _ _ us hl => match us, hl with | [_, _], _ => rfl
  have F_Web_iter := fun_mk (st := s_Web_iter) l_Web_iter c_Web_iter k_Web_iter
  have b_Web_iter := F_Web_iter.binds (ps := ["self"]) fun _ _ _ _ _ _ us hl => match us, hl with | [_], _ => rfl
  have F_Web_contains := fun_mk (st := s_Web_contains) l_Web_contains c_Web_contains k_Web_contains
  have b_Web_contains := F_Web_contains.binds (ps := ["self", "value"]) fun _ _ _ _ _ _ us hl => match us, hl with | [_, _], _ => rfl
  have F_Web_getitem := fun_mk (st := s_Web_getitem) l_Web_getitem c_Web_getitem k_Web_getitem
  have b_Web_getitem := F_Web_getitem.binds (ps := ["self", "post"]) fun _ _ _ _ _ _ us hl => match us, hl with | [_, _], _ => rfl
  have F_Web_len := fun_mk (st := s_Web_len) l_Web_len c_Web_len k_Web_len
  have b_Web_len := F_Web_len.binds (ps := ["self"]) fun _ _ _ _ _ _ us hl => match us, hl with | [_], _ => rfl
  have F_Web_bool := fun_mk (st := s_Web_bool) l_Web_bool c_Web_bool k_Web_bool
  have b_Web_bool := F_Web_bool.binds (ps := ["self"]) fun _ _ _ _ _ _ us hl => match us, hl with | [_], _ => rfl
  have F_Web_eq := fun_mk (st := s_Web_eq) l_Web_eq c_Web_eq k_Web_eq
  have b_Web_eq := F_Web_eq.binds (ps := ["self", "other"]) fun _ _ _ _ _ _ us hl => match us, hl with | [_, _], _ => rfl
  have F_Web_str := fun_mk (st := s_Web_str) l_Web_str c_Web_str k_Web_str
  have b_Web_str := F_Web_str.binds (ps := ["self"]) fun _ _ _ _ _ _ us hl => match us, hl with | [_], _ => rfl
  have F_law_dice := fun_mk (st := s_law_dice) l_law_dice c_law_dice k_law_dice
  have b_law_dice := F_law_dice.binds (ps := ["_law_script", "_law_at"]) fun _ _ _ _ _ _ us hl => match us, hl with | [_, _], _ => rfl
  have F_law_roll := fun_mk (st := s_law_roll) l_law_roll c_law_roll k_law_roll
  have b_law_roll := F_law_roll.binds (ps := ["_law_dice_here", "_law_total"]) fun _ _ _ _ _ _ us hl => match us, hl with | [_, _], _ => rfl
  have F_law_one_of := fun_mk (st := s_law_one_of) l_law_one_of c_law_one_of k_law_one_of
  have b_law_one_of := F_law_one_of.binds (ps := ["_law_dice_here", "_law_items"]) fun _ _ _ _ _ _ us hl => match us, hl with | [_, _], _ => rfl
  have F_law_mixed := fun_mk (st := s_law_mixed) l_law_mixed c_law_mixed k_law_mixed
  have b_law_mixed := F_law_mixed.binds (ps := ["_law_dice_here", "_law_items"]) fun _ _ _ _ _ _ us hl => match us, hl with | [_, _], _ => rfl
  have F_law_sheet := fun_mk (st := s_law_sheet) l_law_sheet c_law_sheet k_law_sheet
  have b_law_sheet := F_law_sheet.binds (ps := ["_law_dice_here"]) fun _ _ _ _ _ _ us hl => match us, hl with | [_], _ => rfl
  have F_law_ties := fun_mk (st := s_law_ties) l_law_ties c_law_ties k_law_ties
  have b_law_ties := F_law_ties.binds (ps := ["_law_dice_here", "_law_posts", "_law_words", "_law_much"]) fun _ _ _ _ _ _ us hl => match us, hl with | [_, _, _, _], _ => rfl
  have F_law_web := fun_mk (st := s_law_web) l_law_web c_law_web k_law_web
  have b_law_web := F_law_web.binds (ps := ["_law_dice_here", "_law_kinds", "_law_words", "_law_most"]) fun _ _ _ _ _ _ us hl => match us, hl with | [_, _, _, _], _ => rfl
  have F_law_case := fun_mk (st := s_law_case) l_law_case c_law_case k_law_case
  have b_law_case := F_law_case.binds (ps := ["_law_dice_here"]) fun _ _ _ _ _ _ us hl => match us, hl with | [_], _ => rfl
  have F_law_mixed_dict := fun_mk (st := s_law_mixed_dict) l_law_mixed_dict c_law_mixed_dict k_law_mixed_dict
  have b_law_mixed_dict := F_law_mixed_dict.binds (ps := ["_law_dice_here", "_law_table"]) fun _ _ _ _ _ _ us hl => match us, hl with | [_, _], _ => rfl
  have F_law_getting := fun_mk (st := s_law_getting) l_law_getting c_law_getting k_law_getting
  have b_law_getting := F_law_getting.binds (ps := ["_law_web_here", "_law_post"]) fun _ _ _ _ _ _ us hl => match us, hl with | [_, _], _ => rfl
  have F_law_reads := fun_mk (st := s_law_reads) l_law_reads c_law_reads k_law_reads
  have b_law_reads := F_law_reads.binds (ps := ["_law_web_here", "_law_plain", "_law_number", "_law_kinds", "_law_words"]) fun _ _ _ _ _ _ us hl => match us, hl with | [_, _, _, _, _], _ => rfl
  have F_law_right := fun_mk (st := s_law_right) l_law_right c_law_right k_law_right
  have b_law_right := F_law_right.binds (ps := ["_law_dice_here"]) fun _ _ _ _ _ _ us hl => match us, hl with | [_], _ => rfl
  have F_law := fun_mk (st := s_law) l_law c_law k_law
  have b_law := F_law.binds (ps := ["_law_script"]) fun _ _ _ _ _ _ us hl => match us, hl with | [_], _ => rfl
  have cl_Sheet : Cls K C_Sheet := ⟨pg_Sheet, hd_Sheet, po_Sheet, sa_Sheet⟩
  have cl_Web : Cls K C_Web := ⟨pg_Web, hd_Web, po_Web, sa_Web⟩
  have T : Txt K mg { a_UnknownName_init := f_UnknownName_init, d_UnknownName_init := PySem.W.fnOf "__init__" "UnknownName.__init__" (defArgs s_UnknownName_init) (defBody s_UnknownName_init) (defScope s_UnknownName_init) .none kV_UnknownName_init dc_UnknownName_init pm_UnknownName_init an_UnknownName_init cd_UnknownName_init ct_UnknownName_init, a_is_integer := f_is_integer, d_is_integer := PySem.W.fnOf "is_integer" "is_integer" (defArgs s_is_integer) (defBody s_is_integer) (defScope s_is_integer) .none kV_is_integer dc_is_integer pm_is_integer an_is_integer cd_is_integer ct_is_integer, a_is_name := f_is_name, d_is_name := PySem.W.fnOf "is_name" "is_name" (defArgs s_is_name) (defBody s_is_name) (defScope s_is_name) .none kV_is_name dc_is_name pm_is_name an_is_name cd_is_name ct_is_name, a_are_names := f_are_names, d_are_names := PySem.W.fnOf "are_names" "are_names" (defArgs s_are_names) (defBody s_are_names) (defScope s_are_names) .none kV_are_names dc_are_names pm_are_names an_are_names cd_are_names ct_are_names, a_Sheet_init := f_Sheet_init, d_Sheet_init := PySem.W.fnOf "__init__" "Sheet.__init__" (defArgs s_Sheet_init) (defBody s_Sheet_init) (defScope s_Sheet_init) .none kV_Sheet_init dc_Sheet_init pm_Sheet_init an_Sheet_init cd_Sheet_init ct_Sheet_init, a_Sheet_kinds := f_Sheet_kinds, d_Sheet_kinds := PySem.W.fnOf "kinds" "Sheet.kinds" (defArgs s_Sheet_kinds) (defBody s_Sheet_kinds) (defScope s_Sheet_kinds) .none kV_Sheet_kinds dc_Sheet_kinds pm_Sheet_kinds an_Sheet_kinds cd_Sheet_kinds ct_Sheet_kinds, p_Sheet_kinds := r_Sheet_kinds, a_Sheet_words := f_Sheet_words, d_Sheet_words := PySem.W.fnOf "words" "Sheet.words" (defArgs s_Sheet_words) (defBody s_Sheet_words) (defScope s_Sheet_words) .none kV_Sheet_words dc_Sheet_words pm_Sheet_words an_Sheet_words cd_Sheet_words ct_Sheet_words, p_Sheet_words := r_Sheet_words, a_Sheet_eq := f_Sheet_eq, d_Sheet_eq := PySem.W.fnOf "__eq__" "Sheet.__eq__" (defArgs s_Sheet_eq) (defBody s_Sheet_eq) (defScope s_Sheet_eq) .none kV_Sheet_eq dc_Sheet_eq pm_Sheet_eq an_Sheet_eq cd_Sheet_eq ct_Sheet_eq, a_Sheet_str := f_Sheet_str, d_Sheet_str := PySem.W.fnOf "__str__" "Sheet.__str__" (defArgs s_Sheet_str) (defBody s_Sheet_str) (defScope s_Sheet_str) .none kV_Sheet_str dc_Sheet_str pm_Sheet_str an_Sheet_str cd_Sheet_str ct_Sheet_str, a_require_sheet := f_require_sheet, d_require_sheet := PySem.W.fnOf "require_sheet" "require_sheet" (defArgs s_require_sheet) (defBody s_require_sheet) (defScope s_require_sheet) .none kV_require_sheet dc_require_sheet pm_require_sheet an_require_sheet cd_require_sheet ct_require_sheet, a_is_kind := f_is_kind, d_is_kind := PySem.W.fnOf "is_kind" "is_kind" (defArgs s_is_kind) (defBody s_is_kind) (defScope s_is_kind) .none kV_is_kind dc_is_kind pm_is_kind an_is_kind cd_is_kind ct_is_kind, a_is_tie := f_is_tie, d_is_tie := PySem.W.fnOf "is_tie" "is_tie" (defArgs s_is_tie) (defBody s_is_tie) (defScope s_is_tie) .none kV_is_tie dc_is_tie pm_is_tie an_is_tie cd_is_tie ct_is_tie, a_is_post := f_is_post, d_is_post := PySem.W.fnOf "is_post" "is_post" (defArgs s_is_post) (defBody s_is_post) (defScope s_is_post) .none kV_is_post dc_is_post pm_is_post an_is_post cd_is_post ct_is_post, a_is_post_of := f_is_post_of, d_is_post_of := PySem.W.fnOf "is_post_of" "is_post_of" (defArgs s_is_post_of) (defBody s_is_post_of) (defScope s_is_post_of) .none kV_is_post_of dc_is_post_of pm_is_post_of an_is_post_of cd_is_post_of ct_is_post_of, a_is_tie_of := f_is_tie_of, d_is_tie_of := PySem.W.fnOf "is_tie_of" "is_tie_of" (defArgs s_is_tie_of) (defBody s_is_tie_of) (defScope s_is_tie_of) .none kV_is_tie_of dc_is_tie_of pm_is_tie_of an_is_tie_of cd_is_tie_of ct_is_tie_of, a_require_posts := f_require_posts, d_require_posts := PySem.W.fnOf "require_posts" "require_posts" (defArgs s_require_posts) (defBody s_require_posts) (defScope s_require_posts) .none kV_require_posts dc_require_posts pm_require_posts an_require_posts cd_require_posts ct_require_posts, a_require_ties := f_require_ties, d_require_ties := PySem.W.fnOf "require_ties" "require_ties" (defArgs s_require_ties) (defBody s_require_ties) (defScope s_require_ties) .none kV_require_ties dc_require_ties pm_require_ties an_require_ties cd_require_ties ct_require_ties, a_least_next := f_least_next, d_least_next := PySem.W.fnOf "least_next" "least_next" (defArgs s_least_next) (defBody s_least_next) (defScope s_least_next) .none kV_least_next dc_least_next pm_least_next an_least_next cd_least_next ct_least_next, a_require_next := f_require_next, d_require_next := PySem.W.fnOf "require_next" "require_next" (defArgs s_require_next) (defBody s_require_next) (defScope s_require_next) .none kV_require_next dc_require_next pm_require_next an_require_next cd_require_next ct_require_next, a_Web_init := f_Web_init, d_Web_init := PySem.W.fnOf "__init__" "Web.__init__" (defArgs s_Web_init) (defBody s_Web_init) (defScope s_Web_init) .none (.ref kD_Web_init) dc_Web_init pm_Web_init an_Web_init cd_Web_init ct_Web_init, a_Web_of := f_Web_of, d_Web_of := PySem.W.fnOf "of" "Web.of" (defArgs s_Web_of) (defBody s_Web_of) (defScope s_Web_of) .none (.ref kD_Web_of) dc_Web_of pm_Web_of an_Web_of cd_Web_of ct_Web_of, p_Web_of := r_Web_of, a_Web_sheet := f_Web_sheet, d_Web_sheet := PySem.W.fnOf "sheet" "Web.sheet" (defArgs s_Web_sheet) (defBody s_Web_sheet) (defScope s_Web_sheet) .none kV_Web_sheet dc_Web_sheet pm_Web_sheet an_Web_sheet cd_Web_sheet ct_Web_sheet, p_Web_sheet := r_Web_sheet, a_Web_posts := f_Web_posts, d_Web_posts := PySem.W.fnOf "posts" "Web.posts" (defArgs s_Web_posts) (defBody s_Web_posts) (defScope s_Web_posts) .none kV_Web_posts dc_Web_posts pm_Web_posts an_Web_posts cd_Web_posts ct_Web_posts, p_Web_posts := r_Web_posts, a_Web_ties := f_Web_ties, d_Web_ties := PySem.W.fnOf "ties" "Web.ties" (defArgs s_Web_ties) (defBody s_Web_ties) (defScope s_Web_ties) .none kV_Web_ties dc_Web_ties pm_Web_ties an_Web_ties cd_Web_ties ct_Web_ties, p_Web_ties := r_Web_ties, a_Web_next_post := f_Web_next_post, d_Web_next_post := PySem.W.fnOf "next_post" "Web.next_post" (defArgs s_Web_next_post) (defBody s_Web_next_post) (defScope s_Web_next_post) .none kV_Web_next_post dc_Web_next_post pm_Web_next_post an_Web_next_post cd_Web_next_post ct_Web_next_post, p_Web_next_post := r_Web_next_post, a_Web_require_post := f_Web_require_post, d_Web_require_post := PySem.W.fnOf "require_post" "Web.require_post" (defArgs s_Web_require_post) (defBody s_Web_require_post) (defScope s_Web_require_post) .none kV_Web_require_post dc_Web_require_post pm_Web_require_post an_Web_require_post cd_Web_require_post ct_Web_require_post, a_Web_iter := f_Web_iter, d_Web_iter := PySem.W.fnOf "__iter__" "Web.__iter__" (defArgs s_Web_iter) (defBody s_Web_iter) (defScope s_Web_iter) .none kV_Web_iter dc_Web_iter pm_Web_iter an_Web_iter cd_Web_iter ct_Web_iter, a_Web_contains := f_Web_contains, d_Web_contains := PySem.W.fnOf "__contains__" "Web.__contains__" (defArgs s_Web_contains) (defBody s_Web_contains) (defScope s_Web_contains) .none kV_Web_contains dc_Web_contains pm_Web_contains an_Web_contains cd_Web_contains ct_Web_contains, a_Web_getitem := f_Web_getitem, d_Web_getitem := PySem.W.fnOf "__getitem__" "Web.__getitem__" (defArgs s_Web_getitem) (defBody s_Web_getitem) (defScope s_Web_getitem) .none kV_Web_getitem dc_Web_getitem pm_Web_getitem an_Web_getitem cd_Web_getitem ct_Web_getitem, a_Web_len := f_Web_len, d_Web_len := PySem.W.fnOf "__len__" "Web.__len__" (defArgs s_Web_len) (defBody s_Web_len) (defScope s_Web_len) .none kV_Web_len dc_Web_len pm_Web_len an_Web_len cd_Web_len ct_Web_len, a_Web_bool := f_Web_bool, d_Web_bool := PySem.W.fnOf "__bool__" "Web.__bool__" (defArgs s_Web_bool) (defBody s_Web_bool) (defScope s_Web_bool) .none kV_Web_bool dc_Web_bool pm_Web_bool an_Web_bool cd_Web_bool ct_Web_bool, a_Web_eq := f_Web_eq, d_Web_eq := PySem.W.fnOf "__eq__" "Web.__eq__" (defArgs s_Web_eq) (defBody s_Web_eq) (defScope s_Web_eq) .none kV_Web_eq dc_Web_eq pm_Web_eq an_Web_eq cd_Web_eq ct_Web_eq, a_Web_str := f_Web_str, d_Web_str := PySem.W.fnOf "__str__" "Web.__str__" (defArgs s_Web_str) (defBody s_Web_str) (defScope s_Web_str) .none kV_Web_str dc_Web_str pm_Web_str an_Web_str cd_Web_str ct_Web_str, a_law_dice := f_law_dice, d_law_dice := PySem.W.fnOf "_law_dice" "_law_dice" (defArgs s_law_dice) (defBody s_law_dice) (defScope s_law_dice) .none kV_law_dice dc_law_dice pm_law_dice an_law_dice cd_law_dice ct_law_dice, a_law_roll := f_law_roll, d_law_roll := PySem.W.fnOf "_law_roll" "_law_roll" (defArgs s_law_roll) (defBody s_law_roll) (defScope s_law_roll) .none kV_law_roll dc_law_roll pm_law_roll an_law_roll cd_law_roll ct_law_roll, a_law_one_of := f_law_one_of, d_law_one_of := PySem.W.fnOf "_law_one_of" "_law_one_of" (defArgs s_law_one_of) (defBody s_law_one_of) (defScope s_law_one_of) .none kV_law_one_of dc_law_one_of pm_law_one_of an_law_one_of cd_law_one_of ct_law_one_of, a_law_mixed := f_law_mixed, d_law_mixed := PySem.W.fnOf "_law_mixed" "_law_mixed" (defArgs s_law_mixed) (defBody s_law_mixed) (defScope s_law_mixed) .none kV_law_mixed dc_law_mixed pm_law_mixed an_law_mixed cd_law_mixed ct_law_mixed, a_law_sheet := f_law_sheet, d_law_sheet := PySem.W.fnOf "_law_sheet" "_law_sheet" (defArgs s_law_sheet) (defBody s_law_sheet) (defScope s_law_sheet) .none kV_law_sheet dc_law_sheet pm_law_sheet an_law_sheet cd_law_sheet ct_law_sheet, a_law_ties := f_law_ties, d_law_ties := PySem.W.fnOf "_law_ties" "_law_ties" (defArgs s_law_ties) (defBody s_law_ties) (defScope s_law_ties) .none kV_law_ties dc_law_ties pm_law_ties an_law_ties cd_law_ties ct_law_ties, a_law_web := f_law_web, d_law_web := PySem.W.fnOf "_law_web" "_law_web" (defArgs s_law_web) (defBody s_law_web) (defScope s_law_web) .none kV_law_web dc_law_web pm_law_web an_law_web cd_law_web ct_law_web, a_law_case := f_law_case, d_law_case := PySem.W.fnOf "_law_case" "_law_case" (defArgs s_law_case) (defBody s_law_case) (defScope s_law_case) .none kV_law_case dc_law_case pm_law_case an_law_case cd_law_case ct_law_case, a_law_mixed_dict := f_law_mixed_dict, d_law_mixed_dict := PySem.W.fnOf "_law_mixed_dict" "_law_mixed_dict" (defArgs s_law_mixed_dict) (defBody s_law_mixed_dict) (defScope s_law_mixed_dict) .none kV_law_mixed_dict dc_law_mixed_dict pm_law_mixed_dict an_law_mixed_dict cd_law_mixed_dict ct_law_mixed_dict, a_law_getting := f_law_getting, d_law_getting := PySem.W.fnOf "_law_getting" "_law_getting" (defArgs s_law_getting) (defBody s_law_getting) (defScope s_law_getting) .none kV_law_getting dc_law_getting pm_law_getting an_law_getting cd_law_getting ct_law_getting, a_law_reads := f_law_reads, d_law_reads := PySem.W.fnOf "_law_reads" "_law_reads" (defArgs s_law_reads) (defBody s_law_reads) (defScope s_law_reads) .none kV_law_reads dc_law_reads pm_law_reads an_law_reads cd_law_reads ct_law_reads, a_law_right := f_law_right, d_law_right := PySem.W.fnOf "_law_right" "_law_right" (defArgs s_law_right) (defBody s_law_right) (defScope s_law_right) .none kV_law_right dc_law_right pm_law_right an_law_right cd_law_right ct_law_right, a_law := f_law, d_law := PySem.W.fnOf "law" "law" (defArgs s_law) (defBody s_law) (defScope s_law) .none kV_law dc_law pm_law an_law cd_law ct_law, C_Sheet := C_Sheet, C_Web := C_Web, C_ShapeError := C_ShapeError, C_InvalidSheet := C_InvalidSheet, C_InvalidWeb := C_InvalidWeb, C_UnknownName := C_UnknownName, c_MAX_KINDS := .int 3 t_MAX_KINDS, c_MAX_WORDS := .int 2 t_MAX_WORDS, c_MAX_POSTS := .int 40 t_MAX_POSTS, c_MAX_LETTERS := .int 8 t_MAX_LETTERS, c_LETTERS := .str "abcdefghijklmnopqrstuvwxyz" t_LETTERS : Ads } := { F_UnknownName_init := F_UnknownName_init, b_UnknownName_init := b_UnknownName_init, m_UnknownName_init := ⟨a_UnknownName_init, i_UnknownName_init, k_UnknownName_init⟩, F_is_integer := F_is_integer, b_is_integer := b_is_integer, g_is_integer := PySem.W.mg_of X G a_is_integer, k_is_integer := k_is_integer, F_is_name := F_is_name, b_is_name := b_is_name, g_is_name := PySem.W.mg_of X G a_is_name, k_is_name := k_is_name, F_are_names := F_are_names, b_are_names := b_are_names, g_are_names := PySem.W.mg_of X G a_are_names, k_are_names := k_are_names, F_Sheet_init := F_Sheet_init, b_Sheet_init := b_Sheet_init, m_Sheet_init := ⟨a_Sheet_init, i_Sheet_init, k_Sheet_init⟩, F_Sheet_kinds := F_Sheet_kinds, b_Sheet_kinds := b_Sheet_kinds, P_Sheet_kinds := ⟨at_Sheet_kinds, gt_Sheet_kinds, tk_Sheet_kinds, _, rc_Sheet_kinds⟩, F_Sheet_words := F_Sheet_words, b_Sheet_words := b_Sheet_words, P_Sheet_words := ⟨at_Sheet_words, gt_Sheet_words, tk_Sheet_words, _, rc_Sheet_words⟩, F_Sheet_eq := F_Sheet_eq, b_Sheet_eq := b_Sheet_eq, m_Sheet_eq := ⟨a_Sheet_eq, i_Sheet_eq, k_Sheet_eq⟩, F_Sheet_str := F_Sheet_str, b_Sheet_str := b_Sheet_str, m_Sheet_str := ⟨a_Sheet_str, i_Sheet_str, k_Sheet_str⟩, F_require_sheet := F_require_sheet, b_require_sheet := b_require_sheet, g_require_sheet := PySem.W.mg_of X G a_require_sheet, k_require_sheet := k_require_sheet, F_is_kind := F_is_kind, b_is_kind := b_is_kind, g_is_kind := PySem.W.mg_of X G a_is_kind, k_is_kind := k_is_kind, F_is_tie := F_is_tie, b_is_tie := b_is_tie, g_is_tie := PySem.W.mg_of X G a_is_tie, k_is_tie := k_is_tie, F_is_post := F_is_post, b_is_post := b_is_post, g_is_post := PySem.W.mg_of X G a_is_post, k_is_post := k_is_post, F_is_post_of := F_is_post_of, b_is_post_of := b_is_post_of, g_is_post_of := PySem.W.mg_of X G a_is_post_of, k_is_post_of := k_is_post_of, F_is_tie_of := F_is_tie_of, b_is_tie_of := b_is_tie_of, g_is_tie_of := PySem.W.mg_of X G a_is_tie_of, k_is_tie_of := k_is_tie_of, F_require_posts := F_require_posts, b_require_posts := b_require_posts, g_require_posts := PySem.W.mg_of X G a_require_posts, k_require_posts := k_require_posts, F_require_ties := F_require_ties, b_require_ties := b_require_ties, g_require_ties := PySem.W.mg_of X G a_require_ties, k_require_ties := k_require_ties, F_least_next := F_least_next, b_least_next := b_least_next, g_least_next := PySem.W.mg_of X G a_least_next, k_least_next := k_least_next, F_require_next := F_require_next, b_require_next := b_require_next, g_require_next := PySem.W.mg_of X G a_require_next, k_require_next := k_require_next, sb_Web_init_0 := sb_Web_init_0, sb_Web_init_1 := sb_Web_init_1, F_Web_init := F_Web_init, m_Web_init := ⟨a_Web_init, i_Web_init, k_Web_init⟩, kb_Web_of := kb_Web_of, F_Web_of := F_Web_of, K_Web_of := ⟨at_Web_of, ⟨_, rc_Web_of⟩, fi_Web_of⟩, F_Web_sheet := F_Web_sheet, b_Web_sheet := b_Web_sheet, P_Web_sheet := ⟨at_Web_sheet, gt_Web_sheet, tk_Web_sheet, _, rc_Web_sheet⟩, F_Web_posts := F_Web_posts, b_Web_posts := b_Web_posts, P_Web_posts := ⟨at_Web_posts, gt_Web_posts, tk_Web_posts, _, rc_Web_posts⟩, F_Web_ties := F_Web_ties, b_Web_ties := b_Web_ties, P_Web_ties := ⟨at_Web_ties, gt_Web_ties, tk_Web_ties, _, rc_Web_ties⟩, F_Web_next_post := F_Web_next_post, b_Web_next_post := b_Web_next_post, P_Web_next_post := ⟨at_Web_next_post, gt_Web_next_post, tk_Web_next_post, _, rc_Web_next_post⟩, F_Web_require_post := F_Web_require_post, b_Web_require_post := b_Web_require_post, m_Web_require_post := ⟨a_Web_require_post, i_Web_require_post, k_Web_require_post⟩, F_Web_iter := F_Web_iter, b_Web_iter := b_Web_iter, m_Web_iter := ⟨a_Web_iter, i_Web_iter, k_Web_iter⟩, F_Web_contains := F_Web_contains, b_Web_contains := b_Web_contains, m_Web_contains := ⟨a_Web_contains, i_Web_contains, k_Web_contains⟩, F_Web_getitem := F_Web_getitem, b_Web_getitem := b_Web_getitem, m_Web_getitem := ⟨a_Web_getitem, i_Web_getitem, k_Web_getitem⟩, F_Web_len := F_Web_len, b_Web_len := b_Web_len, m_Web_len := ⟨a_Web_len, i_Web_len, k_Web_len⟩, F_Web_bool := F_Web_bool, b_Web_bool := b_Web_bool, m_Web_bool := ⟨a_Web_bool, i_Web_bool, k_Web_bool⟩, F_Web_eq := F_Web_eq, b_Web_eq := b_Web_eq, m_Web_eq := ⟨a_Web_eq, i_Web_eq, k_Web_eq⟩, F_Web_str := F_Web_str, b_Web_str := b_Web_str, m_Web_str := ⟨a_Web_str, i_Web_str, k_Web_str⟩, F_law_dice := F_law_dice, b_law_dice := b_law_dice, g_law_dice := PySem.W.mg_of X G a_law_dice, k_law_dice := k_law_dice, F_law_roll := F_law_roll, b_law_roll := b_law_roll, g_law_roll := PySem.W.mg_of X G a_law_roll, k_law_roll := k_law_roll, F_law_one_of := F_law_one_of, b_law_one_of := b_law_one_of, g_law_one_of := PySem.W.mg_of X G a_law_one_of, k_law_one_of := k_law_one_of, F_law_mixed := F_law_mixed, b_law_mixed := b_law_mixed, g_law_mixed := PySem.W.mg_of X G a_law_mixed, k_law_mixed := k_law_mixed, F_law_sheet := F_law_sheet, b_law_sheet := b_law_sheet, g_law_sheet := PySem.W.mg_of X G a_law_sheet, k_law_sheet := k_law_sheet, F_law_ties := F_law_ties, b_law_ties := b_law_ties, g_law_ties := PySem.W.mg_of X G a_law_ties, k_law_ties := k_law_ties, F_law_web := F_law_web, b_law_web := b_law_web, g_law_web := PySem.W.mg_of X G a_law_web, k_law_web := k_law_web, F_law_case := F_law_case, b_law_case := b_law_case, g_law_case := PySem.W.mg_of X G a_law_case, k_law_case := k_law_case, F_law_mixed_dict := F_law_mixed_dict, b_law_mixed_dict := b_law_mixed_dict, g_law_mixed_dict := PySem.W.mg_of X G a_law_mixed_dict, k_law_mixed_dict := k_law_mixed_dict, F_law_getting := F_law_getting, b_law_getting := b_law_getting, g_law_getting := PySem.W.mg_of X G a_law_getting, k_law_getting := k_law_getting, F_law_reads := F_law_reads, b_law_reads := b_law_reads, g_law_reads := PySem.W.mg_of X G a_law_reads, k_law_reads := k_law_reads, F_law_right := F_law_right, b_law_right := b_law_right, g_law_right := PySem.W.mg_of X G a_law_right, k_law_right := k_law_right, F_law := F_law, b_law := b_law, g_law := PySem.W.mg_of X G a_law, k_law := k_law, g_Sheet := PySem.W.mg_of X G gC_Sheet, cl_Sheet := cl_Sheet, I_Sheet := ⟨cl_Sheet, cc_Sheet, cg_Sheet, ct_Sheet, mr_Sheet, ne_Sheet, ic_Sheet, it_Sheet⟩, M_Sheet := ⟨mk_Sheet, a_Sheet_init, i_Sheet_init, kc_Sheet⟩, n_Sheet_own_kinds := n_Sheet_own_kinds, n_Sheet_own_words := n_Sheet_own_words, g_Web := PySem.W.mg_of X G gC_Web, cl_Web := cl_Web, I_Web := ⟨cl_Web, cc_Web, cg_Web, ct_Web, mr_Web, ne_Web, ic_Web, it_Web⟩, M_Web := ⟨mk_Web, a_Web_init, i_Web_init, kc_Web⟩, n_Web_own_sheet := n_Web_own_sheet, n_Web_own_posts := n_Web_own_posts, n_Web_own_ties := n_Web_own_ties, n_Web_own_next := n_Web_own_next, R_Web := ⟨rd_Web, ga_Web⟩, g_ShapeError := PySem.W.mg_of X G gC_ShapeError, x_ShapeError := x_ShapeError, k_ShapeError := k_ShapeError, s_ShapeError := s_ShapeError, t_ShapeError := t_ShapeError, e_ShapeError := Kd.exm_own s_ShapeError i_ShapeError t_ShapeError s_ShapeError ss_ShapeError, g_InvalidSheet := PySem.W.mg_of X G gC_InvalidSheet, x_InvalidSheet := x_InvalidSheet, k_InvalidSheet := k_InvalidSheet, s_InvalidSheet := s_InvalidSheet, t_InvalidSheet := t_InvalidSheet, e_InvalidSheet := Kd.exm_own s_InvalidSheet i_InvalidSheet t_InvalidSheet s_InvalidSheet ss_InvalidSheet, g_InvalidWeb := PySem.W.mg_of X G gC_InvalidWeb, x_InvalidWeb := x_InvalidWeb, k_InvalidWeb := k_InvalidWeb, s_InvalidWeb := s_InvalidWeb, t_InvalidWeb := t_InvalidWeb, e_InvalidWeb := Kd.exm_own s_InvalidWeb i_InvalidWeb t_InvalidWeb s_InvalidWeb ss_InvalidWeb, g_UnknownName := PySem.W.mg_of X G gC_UnknownName, n_UnknownName_name := n_UnknownName_name, k_UnknownName := k_UnknownName, s_UnknownName := s_UnknownName, t_UnknownName := t_UnknownName, e_UnknownName := Kd.exm_own s_UnknownName i_UnknownName t_UnknownName s_UnknownName ss_UnknownName, gf_getitem := y_gf_getitem, xf_UnknownName := y_xf_UnknownName, o_UnknownName := y_o_UnknownName, sa_UnknownName := y_sa_UnknownName, v_KeyError := y_v_KeyError, c_MAX_KINDS := PySem.W.mg_of X G v_MAX_KINDS, r_MAX_KINDS := ⟨_, rfl⟩, c_MAX_WORDS := PySem.W.mg_of X G v_MAX_WORDS, r_MAX_WORDS := ⟨_, rfl⟩, c_MAX_POSTS := PySem.W.mg_of X G v_MAX_POSTS, r_MAX_POSTS := ⟨_, rfl⟩, c_MAX_LETTERS := PySem.W.mg_of X G v_MAX_LETTERS, r_MAX_LETTERS := ⟨_, rfl⟩, c_LETTERS := PySem.W.mg_of X G v_LETTERS, r_LETTERS := ⟨_, rfl⟩, n_KeyError := PySem.W.mg_none_of X G z_KeyError, n_TypeError := PySem.W.mg_none_of X G z_TypeError, n_abs := PySem.W.mg_none_of X G z_abs, n_all := PySem.W.mg_none_of X G z_all, n_bool := PySem.W.mg_none_of X G z_bool, n_classmethod := PySem.W.mg_none_of X G z_classmethod, n_dict := PySem.W.mg_none_of X G z_dict, n_int := PySem.W.mg_none_of X G z_int, n_isinstance := PySem.W.mg_none_of X G z_isinstance, n_len := PySem.W.mg_none_of X G z_len, n_list := PySem.W.mg_none_of X G z_list, n_max := PySem.W.mg_none_of X G z_max, n_min := PySem.W.mg_none_of X G z_min, n_property := PySem.W.mg_none_of X G z_property, n_range := PySem.W.mg_none_of X G z_range, n_repr := PySem.W.mg_none_of X G z_repr, n_sorted := PySem.W.mg_none_of X G z_sorted, n_str := PySem.W.mg_none_of X G z_str, n_tuple := PySem.W.mg_none_of X G z_tuple }
  exact ⟨_, fun s v => .of_eq rfl, fun base _ _ => ok_law T⟩
theorem walk {l : PySem.W.OpenLaw} {q : Program} {loose : List Str} {XP : (Str → Option Value) → Heap → Prop} {YP : World → Heap → Prop} {d : DefRec} {K : Params → PySem.W.Frag} (hn : l.most = some 63) (hdf : d.params.defaults = [])
    (hY : ∀ (w : World) (h : Heap), YP w h → (K w.params).In h)
    (F : ∀ (w : World) (mg : Str → Option Value) (fa : Addr) (h : Heap), (K w.params).In h → h.Ns mainGlobals mg → mg d.name = some (.ref fa) →
      ∃ fd : FuncData, (∀ (s : Shared) (u : Value), BindsTo s fd ⟨[u], []⟩ [("_law_script", u)]) ∧ ∀ base : Heap, (K w.params).In base → base.Ns mainGlobals mg → FnG l.prog w (K w.params) mg base 11 fa fd ["_law_script"] (spLaw (K w.params))) :
    PySem.W.WalkO q loose XP YP l.row.toRowW d [] (fun f vs => PySem.call f vs) :=
  L2.walk_ofG (n := 63) (k := 11) (x := "_law_script") (sp := fun w => spLaw (K w.params)) hn (by decide) hdf ⟨rfl, by decide, by decide⟩ hY F (fun _ _ a ns hl hS => ⟨a, ns, rfl, hS, hl, fun _ => rfl⟩)
end K2
open PySem PySem.W PyProof.Rows
set_option maxRecDepth 100000 in
set_option maxHeartbeats 0 in
theorem PySem.Challenge.cw_keptshapes_k02_webs_built_and_read_holds : PySem.Challenge.rw_keptshapes_k02_webs_built_and_read.Holds := by
  w_on; o_law; k_head; (case hw => w_witness2)
  k_fill
  refine K2.walk (l := PySem.Challenge.rw_keptshapes_k02_webs_built_and_read) rfl rfl (fun w h Y => PySem.W.kIn_of Y) ?F
  case F =>
    intro w mg fa h KX G hmg
    refine' K2.all_mk KX G hmg ?gC_Sheet ?gC_Web ?gC_ShapeError ?gC_InvalidSheet ?gC_InvalidWeb ?gC_UnknownName ?a_UnknownName_init ?i_UnknownName_init ?l_UnknownName_init ?c_UnknownName_init ?k_UnknownName_init ?a_is_integer ?l_is_integer ?c_is_integer ?k_is_integer ?a_is_name ?l_is_name ?c_is_name ?k_is_name ?a_are_names ?l_are_names ?c_are_names ?k_are_names ?a_Sheet_init ?i_Sheet_init ?l_Sheet_init ?c_Sheet_init ?k_Sheet_init ?at_Sheet_kinds ?gt_Sheet_kinds ?tk_Sheet_kinds ?rc_Sheet_kinds ?l_Sheet_kinds ?c_Sheet_kinds ?k_Sheet_kinds ?at_Sheet_words ?gt_Sheet_words ?tk_Sheet_words ?rc_Sheet_words ?l_Sheet_words ?c_Sheet_words ?k_Sheet_words ?a_Sheet_eq ?i_Sheet_eq ?l_Sheet_eq ?c_Sheet_eq ?k_Sheet_eq ?a_Sheet_str ?i_Sheet_str ?l_Sheet_str ?c_Sheet_str ?k_Sheet_str ?a_require_sheet ?l_require_sheet ?c_require_sheet ?k_require_sheet ?a_is_kind ?l_is_kind ?c_is_kind ?k_is_kind ?a_is_tie ?l_is_tie ?c_is_tie ?k_is_tie ?a_is_post ?l_is_post ?c_is_post ?k_is_post ?a_is_post_of ?l_is_post_of ?c_is_post_of ?k_is_post_of ?a_is_tie_of ?l_is_tie_of ?c_is_tie_of ?k_is_tie_of ?a_require_posts ?l_require_posts ?c_require_posts ?k_require_posts ?a_require_ties ?l_require_ties ?c_require_ties ?k_require_ties ?a_least_next ?l_least_next ?c_least_next ?k_least_next ?a_require_next ?l_require_next ?c_require_next ?k_require_next ?a_Web_init ?i_Web_init ?l_Web_init ?c_Web_init ?k_Web_init ?nd_Web_init_next_post ?at_Web_of ?rc_Web_of ?fi_Web_of ?l_Web_of ?c_Web_of ?k_Web_of ?nd_Web_of_next_post ?at_Web_sheet ?gt_Web_sheet ?tk_Web_sheet ?rc_Web_sheet ?l_Web_sheet ?c_Web_sheet ?k_Web_sheet ?at_Web_posts ?gt_Web_posts ?tk_Web_posts ?rc_Web_posts ?l_Web_posts ?c_Web_posts ?k_Web_posts ?at_Web_ties ?gt_Web_ties ?tk_Web_ties ?rc_Web_ties ?l_Web_ties ?c_Web_ties ?k_Web_ties ?at_Web_next_post ?gt_Web_next_post ?tk_Web_next_post ?rc_Web_next_post ?l_Web_next_post ?c_Web_next_post ?k_Web_next_post ?a_Web_require_post ?i_Web_require_post ?l_Web_require_post ?c_Web_require_post ?k_Web_require_post ?a_Web_iter ?i_Web_iter ?l_Web_iter ?c_Web_iter ?k_Web_iter ?a_Web_contains ?i_Web_contains ?l_Web_contains ?c_Web_contains ?k_Web_contains ?a_Web_getitem ?i_Web_getitem ?l_Web_getitem ?c_Web_getitem ?k_Web_getitem ?a_Web_len ?i_Web_len ?l_Web_len ?c_Web_len ?k_Web_len ?a_Web_bool ?i_Web_bool ?l_Web_bool ?c_Web_bool ?k_Web_bool ?a_Web_eq ?i_Web_eq ?l_Web_eq ?c_Web_eq ?k_Web_eq ?a_Web_str ?i_Web_str ?l_Web_str ?c_Web_str ?k_Web_str ?a_law_dice ?l_law_dice ?c_law_dice ?k_law_dice ?a_law_roll ?l_law_roll ?c_law_roll ?k_law_roll ?a_law_one_of ?l_law_one_of ?c_law_one_of ?k_law_one_of ?a_law_mixed ?l_law_mixed ?c_law_mixed ?k_law_mixed ?a_law_sheet ?l_law_sheet ?c_law_sheet ?k_law_sheet ?a_law_ties ?l_law_ties ?c_law_ties ?k_law_ties ?a_law_web ?l_law_web ?c_law_web ?k_law_web ?a_law_case ?l_law_case ?c_law_case ?k_law_case ?a_law_mixed_dict ?l_law_mixed_dict ?c_law_mixed_dict ?k_law_mixed_dict ?a_law_getting ?l_law_getting ?c_law_getting ?k_law_getting ?a_law_reads ?l_law_reads ?c_law_reads ?k_law_reads ?a_law_right ?l_law_right ?c_law_right ?k_law_right ?a_law ?l_law ?c_law ?k_law ?pg_Sheet ?hd_Sheet ?po_Sheet ?sa_Sheet ?cc_Sheet ?cg_Sheet ?ct_Sheet ?mr_Sheet ?ne_Sheet ?ic_Sheet ?it_Sheet ?mk_Sheet ?kc_Sheet ?n_Sheet_own_kinds ?n_Sheet_own_words ?pg_Web ?hd_Web ?po_Web ?sa_Web ?cc_Web ?cg_Web ?ct_Web ?mr_Web ?ne_Web ?ic_Web ?it_Web ?mk_Web ?kc_Web ?n_Web_own_sheet ?n_Web_own_posts ?n_Web_own_ties ?n_Web_own_next ?rd_Web ?ga_Web ?x_ShapeError ?k_ShapeError ?s_ShapeError ?t_ShapeError ?i_ShapeError ?ss_ShapeError ?x_InvalidSheet ?k_InvalidSheet ?s_InvalidSheet ?t_InvalidSheet ?i_InvalidSheet ?ss_InvalidSheet ?x_InvalidWeb ?k_InvalidWeb ?s_InvalidWeb ?t_InvalidWeb ?i_InvalidWeb ?ss_InvalidWeb ?n_UnknownName_name ?k_UnknownName ?s_UnknownName ?t_UnknownName ?i_UnknownName ?ss_UnknownName ?y_gf_getitem ?y_xf_UnknownName ?y_o_UnknownName ?y_sa_UnknownName ?y_v_KeyError ?v_MAX_KINDS ?v_MAX_WORDS ?v_MAX_POSTS ?v_MAX_LETTERS ?v_LETTERS ?z_KeyError ?z_TypeError ?z_abs ?z_all ?z_bool ?z_classmethod ?z_dict ?z_int ?z_isinstance ?z_len ?z_list ?z_max ?z_min ?z_property ?z_range ?z_repr ?z_sorted ?z_str ?z_tuple
    (case gC_Sheet => k_is)
    (case gC_Web => k_is)
    (case gC_ShapeError => k_is)
    (case gC_InvalidSheet => k_is)
    (case gC_InvalidWeb => k_is)
    (case gC_UnknownName => k_is)
    (case a_UnknownName_init => k_is)
    (case i_UnknownName_init => k_is)
    (case l_UnknownName_init => k_is)
    (case c_UnknownName_init => k_is)
    (case k_UnknownName_init => k_is)
    (case a_is_integer => k_is)
    (case l_is_integer => k_is)
    (case c_is_integer => k_is)
    (case k_is_integer => k_is)
    (case a_is_name => k_is)
    (case l_is_name => k_is)
    (case c_is_name => k_is)
    (case k_is_name => k_is)
    (case a_are_names => k_is)
    (case l_are_names => k_is)
    (case c_are_names => k_is)
    (case k_are_names => k_is)
    (case a_Sheet_init => k_is)
    (case i_Sheet_init => k_is)
    (case l_Sheet_init => k_is)
    (case c_Sheet_init => k_is)
    (case k_Sheet_init => k_is)
    (case at_Sheet_kinds => k_is)
    (case gt_Sheet_kinds => k_is)
    (case tk_Sheet_kinds => k_is)
    (case rc_Sheet_kinds => k_is)
    (case l_Sheet_kinds => k_is)
    (case c_Sheet_kinds => k_is)
    (case k_Sheet_kinds => k_is)
    (case at_Sheet_words => k_is)
    (case gt_Sheet_words => k_is)
    (case tk_Sheet_words => k_is)
    (case rc_Sheet_words => k_is)
    (case l_Sheet_words => k_is)
    (case c_Sheet_words => k_is)
    (case k_Sheet_words => k_is)
    (case a_Sheet_eq => k_is)
    (case i_Sheet_eq => k_is)
    (case l_Sheet_eq => k_is)
    (case c_Sheet_eq => k_is)
    (case k_Sheet_eq => k_is)
    (case a_Sheet_str => k_is)
    (case i_Sheet_str => k_is)
    (case l_Sheet_str => k_is)
    (case c_Sheet_str => k_is)
    (case k_Sheet_str => k_is)
    (case a_require_sheet => k_is)
    (case l_require_sheet => k_is)
    (case c_require_sheet => k_is)
    (case k_require_sheet => k_is)
    (case a_is_kind => k_is)
    (case l_is_kind => k_is)
    (case c_is_kind => k_is)
    (case k_is_kind => k_is)
    (case a_is_tie => k_is)
    (case l_is_tie => k_is)
    (case c_is_tie => k_is)
    (case k_is_tie => k_is)
    (case a_is_post => k_is)
    (case l_is_post => k_is)
    (case c_is_post => k_is)
    (case k_is_post => k_is)
    (case a_is_post_of => k_is)
    (case l_is_post_of => k_is)
    (case c_is_post_of => k_is)
    (case k_is_post_of => k_is)
    (case a_is_tie_of => k_is)
    (case l_is_tie_of => k_is)
    (case c_is_tie_of => k_is)
    (case k_is_tie_of => k_is)
    (case a_require_posts => k_is)
    (case l_require_posts => k_is)
    (case c_require_posts => k_is)
    (case k_require_posts => k_is)
    (case a_require_ties => k_is)
    (case l_require_ties => k_is)
    (case c_require_ties => k_is)
    (case k_require_ties => k_is)
    (case a_least_next => k_is)
    (case l_least_next => k_is)
    (case c_least_next => k_is)
    (case k_least_next => k_is)
    (case a_require_next => k_is)
    (case l_require_next => k_is)
    (case c_require_next => k_is)
    (case k_require_next => k_is)
    (case a_Web_init => k_is)
    (case i_Web_init => k_is)
    (case l_Web_init => k_is)
    (case c_Web_init => k_is)
    (case k_Web_init => k_is)
    (case nd_Web_init_next_post => k_is)
    (case at_Web_of => k_is)
    (case rc_Web_of => k_is)
    (case fi_Web_of => k_is)
    (case l_Web_of => k_is)
    (case c_Web_of => k_is)
    (case k_Web_of => k_is)
    (case nd_Web_of_next_post => k_is)
    (case at_Web_sheet => k_is)
    (case gt_Web_sheet => k_is)
    (case tk_Web_sheet => k_is)
    (case rc_Web_sheet => k_is)
    (case l_Web_sheet => k_is)
    (case c_Web_sheet => k_is)
    (case k_Web_sheet => k_is)
    (case at_Web_posts => k_is)
    (case gt_Web_posts => k_is)
    (case tk_Web_posts => k_is)
    (case rc_Web_posts => k_is)
    (case l_Web_posts => k_is)
    (case c_Web_posts => k_is)
    (case k_Web_posts => k_is)
    (case at_Web_ties => k_is)
    (case gt_Web_ties => k_is)
    (case tk_Web_ties => k_is)
    (case rc_Web_ties => k_is)
    (case l_Web_ties => k_is)
    (case c_Web_ties => k_is)
    (case k_Web_ties => k_is)
    (case at_Web_next_post => k_is)
    (case gt_Web_next_post => k_is)
    (case tk_Web_next_post => k_is)
    (case rc_Web_next_post => k_is)
    (case l_Web_next_post => k_is)
    (case c_Web_next_post => k_is)
    (case k_Web_next_post => k_is)
    (case a_Web_require_post => k_is)
    (case i_Web_require_post => k_is)
    (case l_Web_require_post => k_is)
    (case c_Web_require_post => k_is)
    (case k_Web_require_post => k_is)
    (case a_Web_iter => k_is)
    (case i_Web_iter => k_is)
    (case l_Web_iter => k_is)
    (case c_Web_iter => k_is)
    (case k_Web_iter => k_is)
    (case a_Web_contains => k_is)
    (case i_Web_contains => k_is)
    (case l_Web_contains => k_is)
    (case c_Web_contains => k_is)
    (case k_Web_contains => k_is)
    (case a_Web_getitem => k_is)
    (case i_Web_getitem => k_is)
    (case l_Web_getitem => k_is)
    (case c_Web_getitem => k_is)
    (case k_Web_getitem => k_is)
    (case a_Web_len => k_is)
    (case i_Web_len => k_is)
    (case l_Web_len => k_is)
    (case c_Web_len => k_is)
    (case k_Web_len => k_is)
    (case a_Web_bool => k_is)
    (case i_Web_bool => k_is)
    (case l_Web_bool => k_is)
    (case c_Web_bool => k_is)
    (case k_Web_bool => k_is)
    (case a_Web_eq => k_is)
    (case i_Web_eq => k_is)
    (case l_Web_eq => k_is)
    (case c_Web_eq => k_is)
    (case k_Web_eq => k_is)
    (case a_Web_str => k_is)
    (case i_Web_str => k_is)
    (case l_Web_str => k_is)
    (case c_Web_str => k_is)
    (case k_Web_str => k_is)
    (case a_law_dice => k_is)
    (case l_law_dice => k_is)
    (case c_law_dice => k_is)
    (case k_law_dice => k_is)
    (case a_law_roll => k_is)
    (case l_law_roll => k_is)
    (case c_law_roll => k_is)
    (case k_law_roll => k_is)
    (case a_law_one_of => k_is)
    (case l_law_one_of => k_is)
    (case c_law_one_of => k_is)
    (case k_law_one_of => k_is)
    (case a_law_mixed => k_is)
    (case l_law_mixed => k_is)
    (case c_law_mixed => k_is)
    (case k_law_mixed => k_is)
    (case a_law_sheet => k_is)
    (case l_law_sheet => k_is)
    (case c_law_sheet => k_is)
    (case k_law_sheet => k_is)
    (case a_law_ties => k_is)
    (case l_law_ties => k_is)
    (case c_law_ties => k_is)
    (case k_law_ties => k_is)
    (case a_law_web => k_is)
    (case l_law_web => k_is)
    (case c_law_web => k_is)
    (case k_law_web => k_is)
    (case a_law_case => k_is)
    (case l_law_case => k_is)
    (case c_law_case => k_is)
    (case k_law_case => k_is)
    (case a_law_mixed_dict => k_is)
    (case l_law_mixed_dict => k_is)
    (case c_law_mixed_dict => k_is)
    (case k_law_mixed_dict => k_is)
    (case a_law_getting => k_is)
    (case l_law_getting => k_is)
    (case c_law_getting => k_is)
    (case k_law_getting => k_is)
    (case a_law_reads => k_is)
    (case l_law_reads => k_is)
    (case c_law_reads => k_is)
    (case k_law_reads => k_is)
    (case a_law_right => k_is)
    (case l_law_right => k_is)
    (case c_law_right => k_is)
    (case k_law_right => k_is)
    (case a_law => k_is)
    (case l_law => k_is)
    (case c_law => k_is)
    (case k_law => k_is)
    (case pg_Sheet => k_is)
    (case hd_Sheet => k_is)
    (case po_Sheet => k_is)
    (case sa_Sheet => k_is)
    (case cc_Sheet => k_is)
    (case cg_Sheet => k_is)
    (case ct_Sheet => k_is)
    (case mr_Sheet => k_is)
    (case ne_Sheet => k_is)
    (case ic_Sheet => k_is)
    (case it_Sheet => k_is)
    (case mk_Sheet => k_is)
    (case kc_Sheet => k_is)
    (case n_Sheet_own_kinds => k_is)
    (case n_Sheet_own_words => k_is)
    (case pg_Web => k_is)
    (case hd_Web => k_is)
    (case po_Web => k_is)
    (case sa_Web => k_is)
    (case cc_Web => k_is)
    (case cg_Web => k_is)
    (case ct_Web => k_is)
    (case mr_Web => k_is)
    (case ne_Web => k_is)
    (case ic_Web => k_is)
    (case it_Web => k_is)
    (case mk_Web => k_is)
    (case kc_Web => k_is)
    (case n_Web_own_sheet => k_is)
    (case n_Web_own_posts => k_is)
    (case n_Web_own_ties => k_is)
    (case n_Web_own_next => k_is)
    (case rd_Web => k_is)
    (case ga_Web => k_is)
    (case x_ShapeError => k_exc)
    (case k_ShapeError => k_is)
    (case s_ShapeError => k_is)
    (case t_ShapeError => k_is)
    (case i_ShapeError => k_is)
    (case ss_ShapeError => first | rfl | k_is)
    (case x_InvalidSheet => k_exc)
    (case k_InvalidSheet => k_is)
    (case s_InvalidSheet => k_is)
    (case t_InvalidSheet => k_is)
    (case i_InvalidSheet => k_is)
    (case ss_InvalidSheet => first | rfl | k_is)
    (case x_InvalidWeb => k_exc)
    (case k_InvalidWeb => k_is)
    (case s_InvalidWeb => k_is)
    (case t_InvalidWeb => k_is)
    (case i_InvalidWeb => k_is)
    (case ss_InvalidWeb => first | rfl | k_is)
    (case n_UnknownName_name => k_is)
    (case k_UnknownName => k_is)
    (case s_UnknownName => k_is)
    (case t_UnknownName => k_is)
    (case i_UnknownName => k_is)
    (case ss_UnknownName => first | rfl | k_is)
    (case y_gf_getitem => first | k_is | kernel_rfl | rfl)
    (case y_xf_UnknownName => first | k_is | kernel_rfl | rfl)
    (case y_o_UnknownName => first | k_is | kernel_rfl | rfl)
    (case y_sa_UnknownName => first | k_is | kernel_rfl | rfl)
    (case y_v_KeyError => first | k_is | kernel_rfl | rfl)
    (case v_MAX_KINDS => k_is)
    (case v_MAX_WORDS => k_is)
    (case v_MAX_POSTS => k_is)
    (case v_MAX_LETTERS => k_is)
    (case v_LETTERS => k_is)
    (case z_KeyError => first | rfl | k_is)
    (case z_TypeError => first | rfl | k_is)
    (case z_abs => first | rfl | k_is)
    (case z_all => first | rfl | k_is)
    (case z_bool => first | rfl | k_is)
    (case z_classmethod => first | rfl | k_is)
    (case z_dict => first | rfl | k_is)
    (case z_int => first | rfl | k_is)
    (case z_isinstance => first | rfl | k_is)
    (case z_len => first | rfl | k_is)
    (case z_list => first | rfl | k_is)
    (case z_max => first | rfl | k_is)
    (case z_min => first | rfl | k_is)
    (case z_property => first | rfl | k_is)
    (case z_range => first | rfl | k_is)
    (case z_repr => first | rfl | k_is)
    (case z_sorted => first | rfl | k_is)
    (case z_str => first | rfl | k_is)
    (case z_tuple => first | rfl | k_is)

