import PyProof.Rows.All
import Wide.All
import OpenK.AllK
import Wide.FinOn
import HandS.ForMost
import PyProof.ReprRoads
import HandS.Wide
import HandS.Evl
import HandS.Walk
import HandS.IsInst
import HandS.DictComp
import HandS.More
import HandS.Set
import HandS.SetFor
import HandS.SetKeys
import PyProof.SetRoads
import PyProof.TupleOfSeq
import HandS.OwnEq
import PyProof.InstNe
import KE.KCallOwn
import HandS.Deep
import KE.SortData
import KE.Datum
import KE.DatumMore
import KE.DatumOrd
import KE.DatumMoreOrd
import HandS.Keys
import HandS.TupLen
import KE.KDictKeyed
import HandS.Defaults
import HandS.Star
import HandS.ClsMeth
import HandS.MakeKwOnly
import HandS.MakeKw
import HandS.Words
import HandS.Dict
import HandS.List
import HandS.Conv
import KE.KMinKey
import KE.KDictSum
import PyProof.Rows.CallKwBuiltin
import HandS.Exc
import HandS.TryOnly
import HandS.ExcOwn
import HandS.WordsExc
import HandS.ExcInit
import HandS.ExcValue
import HandS.ExcIs
import HandS.ExcField
import KE.KExcIs
import PyProof.Conv_bool
import PyProof.Rows.Range3
import HandS.DeepEq
import HandS.Iter
import KE.KEqDict
import KE.KEqNest
import HandS.Style
import HandS.DictTup
import HandS.ListItems
import HandS.Comp
import HandS.RaiseMore
import KE.KOpsOwn
import PyProof.ListStr
import HandS.Property
import HandS.FStr
import HandS.WordsDict
import HandS.Finally
import PySem.Challenge.RW_keptshapes_k23_bans_made_and_asked
set_option Elab.async false
set_option linter.all false
set_option maxRecDepth 100000
set_option maxHeartbeats 4000000
/-! Defs whose run knows that nothing is being shown (repr) around them. -/
namespace L2
open PySem PySem.Spec PyProof.Rows
/-- the promise, where no container is being shown around -/
structure FnG (P : Program) (w : World) (K : PySem.W.Frag) (mg : Str → Option Value) (base : Heap) (k : Nat) (f : Addr) (fd : FuncData) (ps : List Str) (sp : Sp) : Prop where
  len : ∀ vs H Q E, sp vs H Q E → vs.length = ps.length
  run : ∀ (A : Around) (outer : List Env) (s : Shared) (H : Hp) (args : Args) (us : List Value) (vs : List V) (Q : VK) (E : XK), A.guards = some [] → Room k A → Env0 P w K mg base A outer s H → BindsTo s fd args (ps.zip us) → Vals vs us → sp vs H Q E →
    codeAny (model P w) A (.call (.ref f) args) (CR CX0 outer P w H s Q E) s
section
variable {P : Program} {w : World} {K : PySem.W.Frag} {mg : Str → Option Value} {base : Heap}
theorem FnOk.g {k : Nat} {f : Addr} {fd : FuncData} {ps : List Str} {sp : Sp} (F : FnOk P w K mg base CX0 k f fd ps sp) : FnG P w K mg base k f fd ps sp :=
  ⟨F.len, fun A outer s H args us vs Q E _ => F.run A outer s H args us vs Q E⟩
theorem fnG_of {x qual : Str} {st : Stmt} {f : Addr} {fd : FuncData} {N ps : List Str} {k : Nat} {sp : Sp} (F : Fun K x qual st f fd) (S : FnScope N ps (defScope st)) (len : ∀ vs H Q E, sp vs H Q E → vs.length = ps.length)
    (hbody : ∀ (cdv : Value) (A : Around) (outer : List Env) (s : Shared) (H : Hp) (vs : List V) (Q : VK) (E : XK), A.guards = some [] → Room k (A.deeper (envOfC qual (defScope st) s.heap.objs.size f cdv)) → sp vs H Q E →
      ∃ t, PSs (cxOf CX0 P w K mg base N qual (defScope st) f cdv A outer s H E).nox (defBody st) t ∧ t { nx := fun _ H' => Q .non H', rt := Q } (start N vs) H) : FnG P w K mg base (k + 1) f fd ps sp := by
  refine ⟨len, fun A outer s H args us vs Q E hG hr e0 hb r hsp => ?_⟩
  obtain ⟨oc, od, kV, doc, pm, an, cdv, ct, osl, efd, lk, hcd⟩ := F.ex
  subst efd
  have kin : K.In s.heap := e0.mod.kin.keeps fun c q z => (e0.bs c q z).1
  have nl : s.heap.NoLimit := e0.mod.nolimit.keeps fun c q z => (e0.bs c q z).1
  have par : ∀ y ∈ ps.zip us, (defScope st).names.lookup y.1 = some .local ∨ ((defScope st).names.lookup y.1 = some .cell ∧ ((cellsFrom (s.heap.objs.size + 1) (defScope st).names []).lookup y.1).isSome = true) := by
    rintro ⟨z, v⟩ hz
    exact (S.par z (List.of_mem_zip hz).1).elim .inl fun q => .inr ⟨q, PySem.W.cellsFrom_some _ _ _ (.inl q)⟩
  refine codeAny_call_function hr.depth (kin _ _ lk) rfl S.co S.gen rfl (PySem.W.codeRec_of kin hcd) (hb _ _ _ _ (wpAny_newFunctionEnv_cells S.kind par fun env he s1 x => ?_))
  subst he
  refine ⟨nl.keeps x.toInCall.keep, codeAny_func ?_⟩
  obtain ⟨t, ht, hq⟩ := hbody cdv A outer s H vs Q E hG (hr.deeper _) hsp
  have J := inv_start (CX := CX0) (E := E) S hr.hd e0 (len _ _ _ _ hsp) r x
  refine wpAny_mono (ht.nox.run [] s1 (start N vs) H _ J hq) (fun fl s' hs => ?_) fun e s' hs => hs
  cases fl with
  | ret u => obtain ⟨v, σ', H', J', rv, q⟩ := hs; exact ⟨v, H', J'.os, J'.bare, J'.base, J'.hok, rv, q⟩
  | next => obtain ⟨σ', H', J', q⟩ := hs; exact ⟨V.non, H', J'.os, J'.bare, J'.base, J'.hok, rfl, q⟩
  | brk => obtain ⟨_, _, _, q⟩ := hs; exact q.elim
  | cont => obtain ⟨_, _, _, q⟩ := hs; exact q.elim
end
section
variable {X : Cx} {x : Str} {p pos : Pos} {e : Expr} {es : List Expr} {t : TA} {k : Nat} {f : Addr} {fd : FuncData} {ps : List Str} {sp : Sp}
/-- f(e, ..) of such a def -/
theorem pe_callG (F : FnG X.prog X.w X.K X.mg X.base k f fd ps sp) (hG : X.A.guards = some []) (hr : Room k X.A) (hg : Gl X x) (hm : X.mg x = some (.ref f)) (hk : PySem.W.keepIn X.K (.ref f) = true) (hb : Binds X.K fd ps []) (ha : PA X (e :: es) t)
    (hdb : (x == ("__debug__" : Str)) = false := by decide) (he : starEach (e :: es) X.env = (false, eval e X.env) :: starEach es X.env := by rfl) (hpl : (backTo pos (starEach es X.env)).any (·.1) = false := by rfl) :
    PE X (.Call (.Name x p) (e :: es) [] pos) (tCall sp [] E0 t) := by
  refine ⟨fun pins s σ H Q I h => wpAny_Call_Name_kw (ld_glob I hg hm (PySem.W.callWith_K (h₀ := X.base) I.ok.mod.kin hk (thn (ha.run pos pins s σ H _ I h) fun us s1 ⟨vs, H1, I1, r, q⟩ => ⟨I1.kIn, ?_⟩) he hpl) hdb)⟩
  have q' : sp vs H1 Q E0 := by simpa using q
  have hlu : us.length = ps.length := by rw [← r.length]; exact F.len _ _ _ _ q'
  refine wpAny_call (codeAny_mono (F.run X.A X.stack s1 H1 ⟨us, []⟩ us vs Q E0 hG hr I1.env0 (by simpa using hb s1 us I1.kIn (by simpa using hlu)) r q') fun r' s' hq => ?_)
  cases r' with
  | error z => exact hq.elim
  | ok fl =>
    cases fl with
    | ret w => exact I1.after hq
    | next => exact hq.elim
    | brk => exact hq.elim
    | cont => exact hq.elim
mutual
theorem noDict {K : PySem.W.Frag} {H : Hp} : ∀ (d : PyData) (v : V), Dp K H v d → d.hasDict = false
  | .none, _, _ => rfl
  | .bool _, _, _ => rfl
  | .int _, _, _ => rfl
  | .str _, _, _ => rfl
  | .list ds, _, h => by cases h with | lst _ ha => exact noDicts ds _ ha
  | .tuple ds, _, h => by cases h with | tup _ ha => exact noDicts ds _ ha
  | .dict _, _, h => by cases h
theorem noDicts {K : PySem.W.Frag} {H : Hp} : ∀ (ds : List PyData) (vs : List V), DpAll K H vs ds → PyData.hasDictAll ds = false
  | [], _, _ => rfl
  | d :: ds, _, h => by
    cases h with
    | cons h1 h2 =>
      show (d.hasDict || PyData.hasDictAll ds) = false
      rw [noDict d _ h1, noDicts ds _ h2]
      rfl
end
/-- repr(x), x a list, a tuple or a scalar -/
def rReprD (K : PySem.W.Frag) : List V → Hp → VK → Prop := fun xs H Q => ∃ v d, xs = [v] ∧ Dp K H v d ∧ d.showable = true ∧ d.depth ≤ 40 ∧ d.shown.length ≤ sizeLine ∧ Q (.str d.shown) H
theorem call_reprD (hG : X.A.guards = some []) (hu : X.A.units + 64 < cLine) : CallR X (.builtin "repr") (rReprD X.K) := by
  intro pins s σ H xs us Q I r ⟨v, d, ex, hd, hs, hdp, hz, q⟩
  subst ex
  obtain ⟨u, rfl, ru⟩ := r.one
  obtain ⟨as, hr⟩ := Dp.reads I d v u hd ru
  have hnd : d.hasDict = true → sysModules ∉ as := fun z => by rw [noDict d v hd] at z; cases z
  have big : ∀ (a : Addr), u = .ref a → wpAny (model X.prog X.w) X.A (call (.builtin "repr") [u]) (EP X pins σ Q) X.xe s := by
    intro a ea
    subst ea
    exact repr_of_reads' hr hs hnd hG (by omega) (fun _ _ z => z) (fun h' t tk k => ⟨.str d.shown, H, I.kept (t' := tk) k, ⟨t, rfl⟩, q⟩) hz
  cases hd with
  | non => cases ru; exact PySem.P.repr_of_none ⟨.str _, H, I.tok _, ⟨_, rfl⟩, q⟩
  | bl b => cases ru; exact PySem.P.repr_of_bool ⟨.str _, H, I.tok _, ⟨_, rfl⟩, q⟩
  | int i =>
    obtain ⟨t, rfl⟩ := ru
    exact PySem.P.repr_of_int (of_decide_eq_true hs) ⟨.str _, H, I.tok _, ⟨_, rfl⟩, q⟩
  | str z =>
    obtain ⟨t, rfl⟩ := ru
    exact PySem.P.repr_of_str ⟨.str _, H, I.tok _, ⟨_, rfl⟩, q⟩ hz
  | lst _ _ => exact big _ ru
  | tup _ _ => exact big _ ru
end
end L2
namespace L2
open PySem PySem.Spec PyProof.Rows
/-- what is known of the heap at the law's entry: the script alone, or nothing -/
structure AtEntry (P : Program) (w : World) (K : PySem.W.Frag) (h : Heap) (a : Addr) (ns : List Int) (H : Hp) : Prop where
  only : Only H
  sq : SqL K H a (ns.map V.int)
  ok : HOk P w H h
  here : ∀ b, H b ≠ none → b = a
  out : H a ≠ none → K.lookup a = none
theorem atEntry {P : Program} {w : World} {K : PySem.W.Frag} {h : Heap} {a : Addr} {vs : List Value} {ns : List Int} (KX : K.In h) (ha : h.get? a = some { cls := .type "list", data := .seq vs.toArray }) (hi : IntsAre vs ns) (hl : ns.length ≤ sizeLine) :
    ∃ H, AtEntry P w K h a ns H := by
  have rv := vals_ints hi
  cases hk : K.lookup a with
  | some o =>
    have e := (KX a o hk).symm.trans ha
    cases e
    refine ⟨fun _ => none, fun _ => .inl rfl, .inr ⟨_, vs.toArray, _, hk, rfl, rfl, rfl, ?_, by simpa using rv⟩, fun b u z => ?_, fun b z => absurd rfl z, fun z => absurd rfl z⟩
    · have n1 := hi.length
      rw [List.size_toArray]
      omega
    · have z1 : (none : Option HO) = some u := z
      cases z1
  | none =>
    have at_ : ∀ b u, (if b = a then some (HO.frz { cls := .type "list", data := .seq vs.toArray } (.lst (ns.map V.int))) else none) = some u → b = a ∧ u = .frz { cls := .type "list", data := .seq vs.toArray } (.lst (ns.map V.int)) := by
      intro b u z
      by_cases hb : b = a
      · rw [if_pos hb] at z; exact ⟨hb, (Option.some.inj z).symm⟩
      · rw [if_neg hb] at z; cases z
    refine ⟨fun b => if b = a then some (.frz { cls := .type "list", data := .seq vs.toArray } (.lst (ns.map V.int))) else none, fun b => ?_, .inl (.inr ⟨_, if_pos rfl⟩), fun b u z => ?_, fun b z => ?_, fun _ => hk⟩
    · by_cases hb : b = a
      · exact .inr ⟨_, _, if_pos hb⟩
      · exact .inl (if_neg hb)
    · obtain ⟨e1, e2⟩ := at_ b u z
      subst e1 e2
      exact ⟨ha, by rw [List.length_map]; exact hl, vs, _, rv, ha⟩
    · by_cases hb : b = a
      · exact hb
      · exact absurd (if_neg hb) z
theorem walk_ofG {l : PySem.W.OpenLaw} {n k : Nat} {q : Program} {loose : List Str} {XP : (Str → Option Value) → Heap → Prop} {YP : World → Heap → Prop} {d : DefRec} {K : Params → PySem.W.Frag} {sp : World → Sp} {x : Str}
    (hn : l.most = some n) (hn2 : n ≤ sizeLine) (hdf : d.params.defaults = []) (hr : Room k callerA) (hY : ∀ (w : World) (h : Heap), YP w h → (K w.params).In h)
    (F : ∀ (w : World) (mg : Str → Option Value) (fa : Addr) (h : Heap), (K w.params).In h → h.Ns mainGlobals mg → mg d.name = some (.ref fa) →
      ∃ fd : FuncData, (∀ (s : Shared) (u : Value), BindsTo s fd ⟨[u], []⟩ [(x, u)]) ∧ ∀ base : Heap, (K w.params).In base → base.Ns mainGlobals mg → FnG l.prog w (K w.params) mg base k fa fd [x] (sp w))
    (hsp : ∀ (w : World) (H : Hp) (a : Addr) (ns : List Int), ns.length ≤ n → SqL (K w.params) H a (ns.map V.int) → sp w [.ref a] H (fun v _ => v = .bl true) fun _ _ _ => False) :
    PySem.W.WalkO q loose XP YP l.row.toRowW d [] (fun f vs => PySem.call f vs) := by
  refine Att.attach_call hn hdf fun w s₀ s₁ mg mb fa o pm cd doc a vs ns G Y ho hd hcd hmg hobj hints hlen hg => ?_
  have kin := hY w _ Y
  obtain ⟨fd, hbind, hF⟩ := F w mg fa _ kin G.T.g hmg
  obtain ⟨H, S⟩ := atEntry (P := l.prog) (w := w) (K := K w.params) kin hobj hints (Nat.le_trans hlen hn2)
  -- no dict is tracked
  have noD : ∀ {b : Addr} {u : Obj} {es : Array DictEntry} {ep : Nat}, s₁.heap.get? b = some u → u.data = .dict es ep → H b = none := by
    intro b u es ep e1 e2
    cases z : H b with
    | none => rfl
    | some y =>
      have e3 : b = a := S.here b (by rw [z]; exact fun q => nomatch q)
      rw [e3, hobj] at e1
      cases e1
      cases e2
  have ns_ : ∀ {b : Addr} {m : Str → Option Value}, s₁.heap.Ns b m → (hidT s₁.heap H).Ns b m := by
    intro b m ⟨u, es, ep, e1, e2, e3⟩
    exact ⟨u, es, ep, hidT_get e1 (noD e1 e2), e2, e3⟩
  have kb : (K w.params).In (hidT s₁.heap H) := by
    intro b u e
    refine hidT_get (kin b u e) ?_
    cases z : H b with
    | none => rfl
    | some y =>
      have e3 : b = a := S.here b (by rw [z]; exact fun q => nomatch q)
      have e4 := S.out (by rw [← e3, z]; exact fun q => nomatch q)
      rw [e3, e4] at e
      cases e
  have md : Mod (K w.params) mg (hidT s₁.heap H) := ⟨kb, ns_ G.T.g, ⟨mb, ns_ G.T.b, G.T.builtins⟩, G.T.nolimit.elim fun c z => ⟨c, ns_ z.1, z.2⟩⟩
  have en : Env0 l.prog w (K w.params) mg (hidT s₁.heap H) callerA [] s₁ H := by
    refine ⟨rfl, md, fun b u e => of_hidT e, Nat.le_of_eq (hidT_size _ _), trivial, fun b hb => ?_, S.ok, .of_eq hg⟩
    have hb' : b ∈ ([] : List Addr) := hb
    cases hb'
  refine codeAny_mono ((hF _ kb (ns_ G.T.g)).run callerA [] s₁ H ⟨[.ref a], []⟩ [.ref a] [.ref a] _ _ rfl hr en (hbind s₁ (.ref a)) (.cons rfl .nil) (hsp w H a ns hlen S.sq)) fun r s' h => ?_
  cases r with
  | error e => exact h.elim
  | ok fl =>
    cases fl with
    | next => exact h.elim
    | brk => exact h.elim
    | cont => exact h.elim
    | ret u =>
      obtain ⟨v, H', os, bare, un, ok', rv, ev⟩ := h
      have ev' : v = .bl true := ev
      subst ev'
      cases rv
      refine ⟨rfl, OldK.of_keep fun b y e => ?_, os, bare⟩
      rcases S.only b with z | ⟨ob, xs, z⟩
      · exact un.keep b y e z (fun m => nomatch (show b ∈ ([] : List Addr) from m)) (fun m => nomatch m)
      · obtain ⟨e1, _⟩ := S.ok b _ z
        obtain ⟨e2, _⟩ := ok' b _ (un.frzs b ob _ z)
        exact e2.trans (e1.symm.trans e)
end L2
/-! The dice of the laws: a list of three ints of which nothing else is told. -/
namespace Kd
open PySem L2
theorem if_t {c : Bool} {A B : Prop} (h : c = true) (a : A) : if c = true then A else B := by rw [if_pos h]; exact a
theorem if_f {c : Bool} {A B : Prop} (h : c = false) (b : B) : if c = true then A else B := by rw [if_neg (by rw [h]; exact Bool.false_ne_true)]; exact b
/-- a list of three ints, whichever -/
def diceO (a : Addr) : HO := .ext fun h => ∃ (x y z : Int) (its : List Value) (n : Nat), Vals [.int x, .int y, .int z] its ∧ h.get? a = some { cls := .type "list", data := .seq its.toArray n }
theorem upd_back {H : Hp} {a : Addr} {o u : HO} (e : H a = some o) : upd (upd H a u) a o = H := by
  rw [upd_upd]
  funext b
  unfold upd
  split
  · rename_i h
    rw [h, e]
  · rfl
section
variable {X : Cx} {pins : List (Addr × Obj)} {σ : St} {H : Hp} {s : Shared} {a : Addr}
theorem open_dice (I : Inv X pins σ H s) (e : H a = some (diceO a)) : ∃ x y z : Int, Inv X pins σ (upd H a (.lst [.int x, .int y, .int z])) s := by
  obtain ⟨⟨x, y, z, its, n, r, ho⟩, _, _⟩ := I.hok a _ e
  refine ⟨x, y, z, ?_⟩
  have mu : Mut (H a) := by rw [e]; exact True.intro
  have hk : HOk X.prog X.w (upd H a (.lst [.int x, .int y, .int z])) s.heap :=
    I.hok.write (e := a) mu (.inl rfl) (fun _ _ _ q => q) ⟨_, ho⟩ ⟨by show 3 ≤ sizeLine; decide, its, n, r, ho⟩
  exact I.un (h' := s.heap) (t' := s.toks) (Un.write mu (.inl rfl) (fun _ _ _ q => q) ⟨_, ho⟩) hk
theorem shut_dice {x y z : Int} (I : Inv X pins σ H s) (e : H a = some (.lst [.int x, .int y, .int z])) : Inv X pins σ (upd H a (diceO a)) s := by
  obtain ⟨_, its, n, r, ho⟩ := I.hok a _ e
  have mu : Mut (H a) := by rw [e]; exact True.intro
  have hk : HOk X.prog X.w (upd H a (diceO a)) s.heap :=
    I.hok.write (e := a) mu (.inl rfl) (fun _ _ _ q => q) ⟨_, ho⟩ ⟨⟨x, y, z, its, n, r, ho⟩, ⟨_, ho⟩, fun h1 h2 ⟨x, y, z, its, n, r, q⟩ k => ⟨x, y, z, its, n, r, k _ q⟩⟩
  exact I.un (h' := s.heap) (t' := s.toks) (Un.write mu (.inl rfl) (fun _ _ _ q => q) ⟨_, ho⟩) hk
end
def rIxDice : R2 := fun x y H Q => ∃ (p : Addr) (k : Int), x = .ref p ∧ y = .int k ∧ H p = some (diceO p) ∧ (k = 0 ∨ k = 1 ∨ k = 2) ∧ ∀ i : Int, Q (.int i) H
theorem ix_dice {X : Cx} : IxR X rIxDice := by
  intro value slice pins s σ H x y v u Q I rx ry h hs
  obtain ⟨p, k, rfl, rfl, hp, hk, q⟩ := h
  obtain ⟨x, y, z, I'⟩ := open_dice I hp
  have key : ∃ i : Int, atI [V.int x, V.int y, V.int z] k = some (.int i) := by
    rcases hk with rfl | rfl | rfl
    · exact ⟨x, rfl⟩
    · exact ⟨y, rfl⟩
    · exact ⟨z, rfl⟩
  obtain ⟨i, hi⟩ := key
  refine thn (ix_list value slice pins s σ _ _ _ v u (fun v' H' => v' = .int i ∧ H' = upd H p (.lst [.int x, .int y, .int z])) I' rx ry ⟨p, _, k, _, rfl, rfl, SqL.of upd_same, hi, rfl, rfl⟩ hs) fun u s' h => ?_
  obtain ⟨v', H', I2, r2, rfl, rfl⟩ := h
  refine ⟨_, H, ?_, r2, q i⟩
  have J := shut_dice (a := p) I2 upd_same
  rw [upd_back hp] at J
  exact J
def rSetDice : TSet := fun o i v H Q => ∃ (p : Addr) (k j : Int), o = .ref p ∧ i = .int k ∧ v = .int j ∧ H p = some (diceO p) ∧ (k = 0 ∨ k = 1 ∨ k = 2) ∧ Q H
theorem set_dice {X : Cx} : PSet X rSetDice := by
  intro pins s σ H o i v ov iv u Q I ro ri rv h
  obtain ⟨p, k, j, rfl, rfl, rfl, hp, hk, q⟩ := h
  obtain ⟨x, y, z, I'⟩ := open_dice I hp
  have key : ∃ (n : Nat) (x' y' z' : Int), ixN 3 k = some n ∧ [V.int x, V.int y, V.int z].set n (.int j) = [.int x', .int y', .int z'] := by
    rcases hk with rfl | rfl | rfl
    · exact ⟨0, j, y, z, rfl, rfl⟩
    · exact ⟨1, x, j, z, rfl, rfl⟩
    · exact ⟨2, x, y, j, rfl, rfl⟩
  obtain ⟨n, x', y', z', hn, hs⟩ := key
  refine thn (set_list pins s σ _ _ _ _ ov iv u (fun H' => H' = upd H p (.lst [.int x', .int y', .int z'])) I' ro ri rv ⟨p, _, k, n, rfl, rfl, upd_same, hn, ?_⟩) fun u s' h => ?_
  · rw [upd_upd, hs]
  · obtain ⟨H', I2, rfl⟩ := h
    refine ⟨H, ?_, q⟩
    have J := shut_dice (a := p) I2 upd_same
    rw [upd_back hp] at J
    exact J
def CPowW (i j : Int) : Prop := 0 ≤ j ∧ (Builtin.Int.intBits i : Int) * j ≤ 2 ^ 27
theorem op_powW {X : Cx} : OpR X (binaryOp .Pow) (rI CPowW fun i j => .int (i ^ j.toNat)) := opI fun _ _ _ _ _ _ _ hc q => PyProof.Rows.pow_int hc.1 hc.2 q
/-- a new list of three ints is taken as a dice -/
def tShut (te : TE) : TE := fun σ H Q => te σ H fun v H1 => ∃ (p : Addr) (x y z : Int), v = .ref p ∧ H1 p = some (.lst [.int x, .int y, .int z]) ∧ Q v (upd H1 p (diceO p))
theorem pe_shut {X : Cx} {e : Expr} {te : TE} (h : PE X e te) : PE X e (tShut te) := ⟨fun pins s σ H Q I q => thn (h.run pins s σ H _ I q) fun u s1 ⟨v, H1, I1, r, p, x, y, z, ev, hp, q1⟩ => ⟨v, _, shut_dice I1 hp, r, q1⟩⟩
end Kd
namespace Kd
open PySem L2 Evl
/-- the type's name of a datum -/
def tyN : PyData → String
  | .none => "NoneType" | .bool _ => "bool" | .int _ => "int" | .str _ => "str" | .list _ => "list" | .tuple _ => "tuple" | .dict _ => "dict"
/-- data, dicts without their content -/
def Dv (K : PySem.W.Frag) (H : Hp) (v : V) (d : PyData) : Prop := Dp K H v d ∨ (∃ a kvs, v = .ref a ∧ H a = some (.dK kvs) ∧ d = .dict [])
theorem tyX_of {K : PySem.W.Frag} {H : Hp} {v : V} {d : PyData} (h : Dv K H v d) : TyX K H v (.type (tyN d)) := by
  rcases h with h | ⟨a, kvs, rfl, e, rfl⟩
  · cases h with
    | non => exact .base .non
    | bl b => exact .base (.bl b)
    | int i => exact .base (.int i)
    | str x => exact .base (.str x)
    | lst hs _ =>
      rcases hs with (e | ⟨o, e⟩) | ⟨o, its, n, e, c, _⟩
      · exact .base (.lst e)
      · exact .base (.frz e)
      · exact .kList e c
    | tup hs _ =>
      rcases hs with (e | ⟨o, e⟩) | ⟨o, its, n, e, c, _⟩
      · exact .base (.tup e)
      · exact .fTuple e
      · exact .kTuple e c
  · exact .base (.dK e)
mutual
theorem dp_ex {K : PySem.W.Frag} {H H' : Hp} (x : Ex H H') : ∀ (d : PyData) (v : V), Dp K H v d → Dp K H' v d
  | .none, _, h => by cases h; exact .non
  | .bool b, _, h => by cases h; exact .bl b
  | .int i, _, h => by cases h; exact .int i
  | .str s, _, h => by cases h; exact .str s
  | .list ds, _, h => by cases h with | lst hs ha => exact .lst (ex_l x hs) (dpAll_ex x ds _ ha)
  | .tuple ds, _, h => by cases h with | tup hs ha => exact .tup (ex_t x hs) (dpAll_ex x ds _ ha)
  | .dict _, _, h => by cases h
theorem dpAll_ex {K : PySem.W.Frag} {H H' : Hp} (x : Ex H H') : ∀ (ds : List PyData) (vs : List V), DpAll K H vs ds → DpAll K H' vs ds
  | [], _, h => by cases h; exact .nil
  | d :: ds, _, h => by cases h with | cons h1 h2 => exact .cons (dp_ex x d _ h1) (dpAll_ex x ds _ h2)
end
theorem dv_ex {K : PySem.W.Frag} {H H' : Hp} (x : Ex H H') {d : PyData} {v : V} (h : Dv K H v d) : Dv K H' v d := by
  rcases h with h | ⟨a, kvs, e1, e2, e3⟩
  · exact .inl (dp_ex x d v h)
  · exact .inr ⟨a, kvs, e1, x _ _ e2, e3⟩
theorem dpAll_strs {K : PySem.W.Frag} {H : Hp} : ∀ (zs : List Str), DpAll K H (zs.map V.str) (zs.map PyData.str)
  | [] => .nil
  | z :: zs => .cons (.str z) (dpAll_strs zs)
theorem isi_kit {d : PyData} (T : String) (r : Bool) (h : kitB (tyN d) T = some r) {K : PySem.W.Frag} : PySem.W.kitOne K (.type (tyN d)) (.type T) = some r := kit_ty h
theorem kit_str : ∀ d : PyData, kitB (tyN d) "str" = some (decide (tyN d = "str"))
  | .none => (by decide +kernel : kitB "NoneType" "str" = some (decide ("NoneType" = "str")))
  | .bool _ => (by decide +kernel : kitB "bool" "str" = some (decide ("bool" = "str")))
  | .int _ => (by decide +kernel : kitB "int" "str" = some (decide ("int" = "str")))
  | .str _ => (by decide +kernel : kitB "str" "str" = some (decide ("str" = "str")))
  | .list _ => (by decide +kernel : kitB "list" "str" = some (decide ("list" = "str")))
  | .tuple _ => (by decide +kernel : kitB "tuple" "str" = some (decide ("tuple" = "str")))
  | .dict _ => (by decide +kernel : kitB "dict" "str" = some (decide ("dict" = "str")))
theorem kit_tuple : ∀ d : PyData, kitB (tyN d) "tuple" = some (decide (tyN d = "tuple"))
  | .none => (by decide +kernel : kitB "NoneType" "tuple" = some (decide ("NoneType" = "tuple")))
  | .bool _ => (by decide +kernel : kitB "bool" "tuple" = some (decide ("bool" = "tuple")))
  | .int _ => (by decide +kernel : kitB "int" "tuple" = some (decide ("int" = "tuple")))
  | .str _ => (by decide +kernel : kitB "str" "tuple" = some (decide ("str" = "tuple")))
  | .list _ => (by decide +kernel : kitB "list" "tuple" = some (decide ("list" = "tuple")))
  | .tuple _ => (by decide +kernel : kitB "tuple" "tuple" = some (decide ("tuple" = "tuple")))
  | .dict _ => (by decide +kernel : kitB "dict" "tuple" = some (decide ("dict" = "tuple")))
theorem kit_bool : ∀ d : PyData, kitB (tyN d) "bool" = some (decide (tyN d = "bool"))
  | .none => (by decide +kernel : kitB "NoneType" "bool" = some (decide ("NoneType" = "bool")))
  | .bool _ => (by decide +kernel : kitB "bool" "bool" = some (decide ("bool" = "bool")))
  | .int _ => (by decide +kernel : kitB "int" "bool" = some (decide ("int" = "bool")))
  | .str _ => (by decide +kernel : kitB "str" "bool" = some (decide ("str" = "bool")))
  | .list _ => (by decide +kernel : kitB "list" "bool" = some (decide ("list" = "bool")))
  | .tuple _ => (by decide +kernel : kitB "tuple" "bool" = some (decide ("tuple" = "bool")))
  | .dict _ => (by decide +kernel : kitB "dict" "bool" = some (decide ("dict" = "bool")))
/-- [f(x) for x in .. if p(x)], scalars, nothing is changed but new things come -/
theorem lcS {J : It} {n : Nat} {G : Hp → Prop} {Y : Nat → Hp → V → Hp → Prop} (w : Walk J n G Y) {i : Nat} {tt : TT} {te : TE} {σ : L2.St} {H1 : Hp} {D : Addr} {Qd : Hp → Prop} (hD : H1 D = none) (xs : List V) (hn : xs.length = n) (hz : n < sizeLine)
    (p : V → Bool) (f : V → V) (hG : ∀ H, Ex H1 H → G H) (hY : ∀ k H x H', Y k H x H' → H' = H ∧ xs[k]? = some x) (hw : ∀ v, wipe ((wipe σ [i]).set i v) [i] = wipe σ [i])
    (ht : ∀ x H, x ∈ xs → Ex H1 H → EvT tt ((wipe σ [i]).set i (some x)) H (p x)) (he : ∀ x H, x ∈ xs → p x = true → Ex H1 H → Ev te ((wipe σ [i]).set i (some x)) H (f x))
    (hq : ∀ H, Ex H1 H → H D = some (.lst ((xs.filter p).map f)) → Qd H) :
    ∃ W : Nat → Nat → Hp → Prop, (∃ m, W 0 m (upd H1 D (.lst []))) ∧ ∀ k m H, W k m H →
      (J.stop k H ∧ Qd H) ∨ (J.go k H ∧ ∃ Nx : Hp → Prop, (∀ H', Nx H' → ∃ m', m' < m ∧ W (k + 1) m' H') ∧ ∀ x H', J.yld k H x H' → gName i x (wipe σ [i]) H' fun σ2 H2 => wipe σ2 [i] = wipe σ [i] ∧ tt σ2 H2 fun b H3 =>
        if b = true then te σ2 H3 fun y H4 => ∃ acc, H4 D = some (.lst acc) ∧ acc.length < sizeLine ∧ Nx (upd H4 D (.lst (acc ++ [y]))) else Nx H3) := by
  refine lc_it w (fun k H => Ex H1 H ∧ H D = some (.lst (((xs.take k).filter p).map f))) ⟨Ex.mut (Ex.refl H1) hD, upd_same⟩ (fun k H _ h => hG H h.1) ?_ (fun H h => hq H h.1 (by rw [h.2, List.take_of_length_le (by omega)]))
  rintro k x H H' hk ⟨e, hd⟩ y
  obtain ⟨rfl, hx⟩ := hY k H x H' y
  have hm : x ∈ xs := List.mem_of_getElem? hx
  have ht1 : xs.take (k + 1) = xs.take k ++ [x] := by
    rw [List.take_add_one, hx]
    rfl
  refine ⟨hw (some x), ht x H' hm e H' (Ex.refl _) _ fun H3 e3 => ?_⟩
  cases hp : p x with
  | false =>
    refine if_f rfl ⟨e.trans e3, ?_⟩
    rw [e3 _ _ hd, ht1, List.filter_append]
    simp [hp]
  | true =>
    refine if_t rfl (he x H' hm hp e H3 e3 _ fun H4 e4 => ⟨_, e4 _ _ (e3 _ _ hd), ?_, Ex.mut ((e.trans e3).trans e4) hD, ?_⟩)
    · rw [List.length_map]
      have h1 := List.length_filter_le p (xs.take k)
      have h2 : (xs.take k).length ≤ n := by rw [List.length_take, hn]; exact Nat.min_le_right _ _
      omega
    · rw [upd_same, ht1, List.filter_append, List.map_append]
      simp [hp]
end Kd
/-! set(t) of a tuple of ints and texts, and its len -/
namespace Ks
open PySem PySem.Spec PyProof.Rows L2
/-- x is one of l -/
def has {α : Type} [DecidableEq α] (l : List α) (x : α) : Bool := l.any fun y => decide (y = x)
theorem has_iff {α : Type} [DecidableEq α] {l : List α} {x : α} : has l x = true ↔ x ∈ l := by
  unfold has
  rw [List.any_eq_true]
  exact ⟨fun ⟨y, h, e⟩ => by rw [← of_decide_eq_true e]; exact h, fun h => ⟨x, h, decide_eq_true rfl⟩⟩
theorem has_snoc {α : Type} [DecidableEq α] (l : List α) (x y : α) : has (l ++ [x]) y = (has l y || decide (y = x)) := by
  unfold has
  rw [List.any_append]
  by_cases h : x = y
  · subst h; simp
  · have h' : ¬ y = x := fun e => h e.symm
    simp [h, h']
/-- one more, if it is not there -/
def add1 {α : Type} [DecidableEq α] (acc : List α) (x : α) : List α := if has acc x = true then acc else acc ++ [x]
/-- each once, in the order of first coming -/
def uniq {α : Type} [DecidableEq α] (l : List α) : List α := l.foldl add1 []
theorem uniq_snoc {α : Type} [DecidableEq α] (l : List α) (x : α) : uniq (l ++ [x]) = add1 (uniq l) x := by
  unfold uniq
  rw [List.foldl_append]
  rfl
theorem has_add1 {α : Type} [DecidableEq α] (acc : List α) (x y : α) : has (add1 acc x) y = (has acc y || decide (y = x)) := by
  unfold add1
  split
  · rename_i h
    by_cases e : y = x
    · subst e; rw [h]; rfl
    · rw [decide_eq_false e, Bool.or_false]
  · exact has_snoc acc x y
theorem has_foldl {α : Type} [DecidableEq α] (y : α) : ∀ (l acc : List α), has (l.foldl add1 acc) y = (has acc y || has l y)
  | [], acc => by
    show has acc y = (has acc y || false)
    rw [Bool.or_false]
  | x :: l, acc => by
    rw [List.foldl_cons, has_foldl y l, has_add1]
    show _ = (has acc y || (decide (x = y) || has l y))
    rw [Bool.or_assoc]
    congr 2
    exact decide_eq_decide.mpr ⟨fun e => e.symm, fun e => e.symm⟩
theorem has_uniq {α : Type} [DecidableEq α] (l : List α) (y : α) : has (uniq l) y = has l y := by
  unfold uniq
  rw [has_foldl]
  rfl
theorem len_foldl {α : Type} [DecidableEq α] : ∀ (l acc : List α), (l.foldl add1 acc).length ≤ acc.length + l.length
  | [], _ => Nat.le_refl _
  | x :: l, acc => by
    refine Nat.le_trans (len_foldl l _) ?_
    unfold add1
    rw [List.length_cons]
    split
    · omega
    · rw [List.length_append, List.length_singleton]; omega
theorem len_uniq {α : Type} [DecidableEq α] (l : List α) : (uniq l).length ≤ l.length := by
  have h := len_foldl l []
  rw [List.length_nil, Nat.zero_add] at h
  exact h
theorem len_eq_foldl {α : Type} [DecidableEq α] : ∀ (l acc : List α), (l.foldl add1 acc).length = acc.length + l.length ↔ (l.Nodup ∧ ∀ x ∈ l, has acc x = false)
  | [], _ => ⟨fun _ => ⟨List.nodup_nil, fun _ h => nomatch h⟩, fun _ => rfl⟩
  | x :: l, acc => by
    rw [List.foldl_cons, List.nodup_cons, List.length_cons]
    have ih := len_eq_foldl l (add1 acc x)
    cases hx : has acc x with
    | true =>
      have e : add1 acc x = acc := if_pos hx
      have hl := len_foldl l acc
      rw [e]
      constructor
      · intro h; omega
      · intro h
        have z := h.2 x List.mem_cons_self
        rw [hx] at z; cases z
    | false =>
      have e : add1 acc x = acc ++ [x] := if_neg (by rw [hx]; exact Bool.false_ne_true)
      rw [e] at ih ⊢
      rw [List.length_append, List.length_singleton] at ih
      constructor
      · intro h
        obtain ⟨h1, h2⟩ := ih.mp (by omega)
        refine ⟨⟨fun hm => ?_, h1⟩, fun y hy => ?_⟩
        · have z := h2 x hm
          rw [has_snoc, decide_eq_true rfl, Bool.or_true] at z; cases z
        · rcases List.mem_cons.mp hy with rfl | hy
          · exact hx
          · have z := h2 y hy
            rw [has_snoc] at z
            exact (Bool.or_eq_false_iff.mp z).1
      · intro ⟨⟨h1, h2⟩, h3⟩
        have z := ih.mpr ⟨h2, fun y hy => ?_⟩
        · omega
        · rw [has_snoc, h3 y (List.mem_cons_of_mem _ hy), Bool.false_or]
          exact decide_eq_false fun e => h1 (by rw [← e]; exact hy)
theorem len_eq_uniq {α : Type} [DecidableEq α] (l : List α) : (uniq l).length = l.length ↔ l.Nodup := by
  have h := len_eq_foldl l []
  unfold uniq
  rw [List.length_nil, Nat.zero_add] at h
  exact h.trans ⟨fun q => q.1, fun q => ⟨q, fun _ _ => rfl⟩⟩
theorem setOf_same {P : Program} {w : World} {h : Heap} {a : Addr} {S S' : Key → Bool} {n n' : Nat} (q : h.SetOf (mixKind P w) a S n) (e : S = S') (en : n = n') : h.SetOf (mixKind P w) a S' n' := by
  subst e; subst en; exact q
section
variable {P : Program} {w : World} {A : Around} {E : Value → Shared → Prop} {s : Shared}
theorem upd_loop {I : Addr} {fp wr : List Addr} {G : Array GenState → Array GenState → Prop} {n : Nat} {Pv : Nat → Value → Prop} {St : Nat → Shared → Prop} {R : Result → Shared → Prop} (W : WalksS P w A.in1 I fp wr G n Pv St) (S : Addr) (hS : S ∉ fp)
    (ks : List Key) (hn : n = ks.length) (hb : ks.length + 1 < scanBound) (hv : ∀ i v, Pv i v → ∃ k, ks[i]? = some k ∧ RelV (kV k) v) :
    ∀ (j i : Nat) (s : Shared), n - i = j → i ≤ n → St i s → s.heap.SetOf (mixKind P w) S (has (ks.take i)) (uniq (ks.take i)).length →
      (∀ s', Moved (S :: wr) G s s' → s'.heap.SetOf (mixKind P w) S (has ks) (uniq ks).length → R (.ok (.ret .none)) s') → codeAny (model P w) A (.builtin "set.update.loop" ⟨[.ref S, .ref I], []⟩) R s := by
  have hw : S ∉ wr := fun h => hS (W.sub _ h)
  have up : ∀ b ∈ wr, b ∈ S :: wr := fun b h => List.mem_cons_of_mem _ h
  have keepS : ∀ {s₁ s₂ : Shared} {T : Key → Bool} {c : Nat}, Moved wr G s₁ s₂ → s₁.heap.SetOf (mixKind P w) S T c → s₂.heap.SetOf (mixKind P w) S T c := fun m q => setOf_at q fun o e => m.heap S o hw e
  intro j
  induction j with
  | zero =>
    intro i s hj hi hst hset hR
    obtain rfl : i = n := by omega
    have e : ks.take i = ks := List.take_of_length_le (by omega)
    rw [e] at hset
    refine codeAny_builtin F.entry_set_update_loop ?_
    rw [Around.under_plainId F.plain_set_update_loop _]
    show wpAny _ A.in1 (pyNext (.ref I) >>= _) _ _ s
    refine wpAny_bind (W.done s _ _ hst fun s' hm => ?_)
    exact wpAny_pure (hR s' (hm.mono up) (keepS hm hset))
  | succ j ih =>
    intro i s hj hi hst hset hR
    have hlt : i < n := by omega
    refine codeAny_builtin F.entry_set_update_loop ?_
    rw [Around.under_plainId F.plain_set_update_loop _]
    show wpAny _ A.in1 (pyNext (.ref I) >>= _) _ _ s
    refine wpAny_bind (W.item i s _ _ hlt hst fun v s' hP hst' hm => ?_)
    obtain ⟨k, hk, rk⟩ := hv i v hP
    have hset' := keepS hm hset
    have hcnt : (uniq (ks.take i)).length + 1 < scanBound := by
      have z := len_uniq (ks.take i)
      rw [List.length_take] at z
      omega
    show wpAny _ A.in1 (holding [v] (setAdd S v) >>= _) _ _ s'
    refine wpAny_bind (wpAny_holding ?_)
    unfold setAdd
    refine wpAny_holding (wpAny_bind ((mixKind P w).pyHash (k := k) (kV_is rk) ?_))
    refine wpAny_setAddHashed_of (knd := mixKind P w) (s := { s' with toks := s'.toks + 1 }) (kV_is rk) (key_scan rk) hset' hcnt fun h' sb new => ?_
    have e1 : ks.take (i + 1) = ks.take i ++ [k] := by rw [List.take_add_one, hk]; rfl
    have new' : h'.SetOf (mixKind P w) S (has (ks.take (i + 1))) (uniq (ks.take (i + 1))).length := by
      refine setOf_same new (funext fun k' => ?_) ?_
      · rw [e1, has_snoc]
      · rw [e1, uniq_snoc]
        unfold add1
        rw [has_uniq]
        cases has (ks.take i) k with
        | true => rfl
        | false =>
          rw [if_neg Bool.false_ne_true, if_neg Bool.false_ne_true, List.length_append]
          rfl
    refine wpAny_pure ⟨plainId_quiet F.plain_set_update_loop _, ih (i + 1) _ (by omega) hlt (W.frame _ s' _ _ hst' (Nat.le_succ _) fun b hb o e => ?_) new' fun s'' hm'' q => ?_⟩
    · rw [sb.2 b (fun z : b = S => hS (by rw [← z]; exact hb))]
      exact e
    · refine hR s'' (Moved.trans W.gtrans ((hm.mono up).then_heap (Nat.le_succ _) fun b o hb e => ?_) hm'') q
      rw [sb.2 b (fun z : b = S => hb (by rw [z]; exact List.mem_cons_self))]
      exact e
abbrev eset (w : World) : Obj := { cls := .type "set", dict := none, data := .set #[] 0 (.fresh 0 0 (!w.params.followText "set-order")) }
theorem set_new {h : Heap} {a : Addr} (e : h.get? a = some (eset w)) : h.SetOf (mixKind P w) a (has []) 0 :=
  ⟨_, #[], 0, _, e, ⟨rfl, rfl, rfl⟩, rfl, (fun z hz => by simp at hz), (fun k => ⟨(fun q => by cases q), (fun ⟨z, hz, _⟩ => by simp at hz)⟩), (by decide), (by rfl), rfl⟩
theorem call_setK {l : Addr} {items : Array Value} (ks : List Key) {Q : Value → Shared → Prop} (hh : A.handled = none) (hl : s.heap.IsTuple l items) (hk : Vals (ks.map kV) items.toList) (hb : ks.length + 1 < scanBound)
    (h : ∀ (h' : Heap) (tk : Nat), h'.SetOf (mixKind P w) s.heap.objs.size (has ks) (uniq ks).length → (∀ b o, s.heap.get? b = some o → h'.get? b = some o) → Q (.ref s.heap.objs.size) { s with heap := h', toks := tk }) :
    wpAny (model P w) A (call (.type "set") [.ref l]) Q E s := by
  have size : items.size = ks.length := by
    have q := hk.length
    rw [List.length_map, Array.length_toList] at q
    exact q.symm
  obtain ⟨c, tl, hmro⟩ := F.called_set.mro
  have f1 := F.called_set.made
  have f2 := F.called_set.sub
  refine wpAny_call (codeAny_of_tree ?_)
  show wpAny _ _ (callAny (.type "set") _) _ _ _
  refine wpAny_pure ⟨Code.quiet_builtin _ (by decide +kernel), codeAny_builtin F.entry_type_call ?_⟩
  rw [Around.under_plain (weight_type_call_type "set" [.ref l] []) rfl]
  have f3 := F.called_set.notType
  have f4 := F.called_set.canCreate
  have f5 := F.typeCall_set_1 (.ref l)
  repeat (any_goals (first | assumption | wp_step))
  refine codeAny_mono (code_set_led1 (.ref l) (E := E) (Q₁ := fun v s₁ => v = .ref s.heap.objs.size ∧ s₁ = { s with heap := s.heap.push (eset w) }) ⟨rfl, rfl⟩) fun r s₁ hr => ?_
  cases r with
  | error e => exact hr
  | ok fl =>
    cases fl with
    | ret v =>
      obtain ⟨rfl, rfl⟩ := hr
      have got : (s.heap.push (eset w)).get? s.heap.objs.size = some (eset w) := Heap.get?_push_size _ rfl
      have ty : Shared.TypeIs { s with heap := s.heap.push (eset w) } (.ref s.heap.objs.size) "set" := ⟨_, got, rfl⟩
      have g1 := F.called_set.init.lookup
      have g2 := F.called_set.init.bind (.ref s.heap.objs.size)
      repeat (any_goals (first | assumption | wp_step))
      refine codeAny_mono (codeAny_call_builtin (R := wants (fun r s₂ => r = .none ∧ ∃ h' tk, s₂ = { s with heap := h', toks := tk } ∧ h'.SetOf (mixKind P w) s.heap.objs.size (has ks) (uniq ks).length ∧ (∀ b o, s.heap.get? b = some o → h'.get? b = some o)) E)
        F.called_set.init.plain F.entry_set_init (check_set_init_1 ty ?_)) fun r₂ s₂ hr₂ => ?_
      · obtain ⟨⟨ocls, odict, odata, oslots⟩, hol, hcl, nl, hdl⟩ := hl
        simp only at hcl hdl
        subst hcl; subst hdl
        have hol' := Heap.get?_push_of_some (eset w) hol
        have f6 := F.sub_tuple_set
        have f7 := F.sub_tuple_frozenset
        have f8 : (Value.type "tuple" == Value.type "dict") = false := by decide
        have tup1 : (s.heap.push (eset w)).IsTuple l items := ⟨_, hol', rfl, nl, rfl⟩
        unfold Builtin.«set.__init__» noKeywords Builtin.Frozenset.updateFrom
        generalize hPI : pyIter = PI
        wp_walk
        subst hPI
        refine wpAny_pyIter_tuple tup1 (wpAny_bind (wpAny_runValue ?_))
        have lS : l < s.heap.objs.size := Heap.lt_size hol
        have sz1 : (s.heap.push (eset w)).objs.size = s.heap.objs.size + 1 := Heap.size_push ..
        have n1 : l ≠ (s.heap.push (eset w)).objs.size := by rw [sz1]; exact Nat.ne_of_lt (Nat.lt_succ_of_lt lS)
        have n2 : s.heap.objs.size ∉ [(s.heap.push (eset w)).objs.size, l] := by
          rw [sz1]
          simp only [List.mem_cons, List.not_mem_nil, or_false, not_or]
          exact ⟨Nat.ne_of_lt (Nat.lt_succ_self _), Nat.ne_of_gt lS⟩
        have vals : ∀ (i : Nat) (v : Value), items[i]? = some v → ∃ k, ks[i]? = some k ∧ RelV (kV k) v := by
          intro i v hv
          have hi : i < ks.length := by rw [← size]; exact (Array.getElem?_eq_some_iff.mp hv).1
          obtain ⟨u, e1, e2⟩ := hk.get (i := i) (x := kV ks[i]) (by rw [List.getElem?_map, List.getElem?_eq_getElem hi]; rfl)
          rw [Array.getElem?_toList, hv] at e1
          cases e1
          exact ⟨_, List.getElem?_eq_getElem hi, e2⟩
        refine upd_loop ((Walks.tuple (by simp [hh]) _ l n1 items).toS) s.heap.objs.size n2 ks size hb vals (items.size - 0) 0 _ (by omega) (Nat.zero_le _) ⟨⟨_, Heap.get?_push_size _ rfl, rfl, rfl⟩, (tup1.push _)⟩ ?new ?fin
        case new => exact set_new (Heap.get?_push_of_some _ got)
        case fin =>
          intro s' hm hS'
          obtain ⟨h', g', d', tk', os'⟩ := s'
          obtain rfl : g' = s.gens := hm.gens
          obtain rfl : d' = s.drawn := hm.drawn
          obtain rfl : os' = s.os := hm.os
          show wpAny _ _ _ _ _ _
          refine wpAny_pure ?_
          show wpAny _ _ (ret Value.none) _ _ _
          refine wpAny_pure ⟨rfl, h', tk', rfl, hS', fun b o e => ?_⟩
          have hb0 : b < s.heap.objs.size := Heap.lt_size e
          exact hm.heap b o (by rw [sz1]; simp only [List.mem_cons, List.not_mem_nil, or_false, not_or]; exact ⟨Nat.ne_of_lt hb0, Nat.ne_of_lt (Nat.lt_succ_of_lt hb0)⟩) (Heap.get?_push_of_some _ (Heap.get?_push_of_some _ e))
      · cases r₂ with
        | error z => exact hr₂
        | ok f₂ =>
          cases f₂ with
          | ret v₂ =>
            obtain ⟨rfl, h', tk, rfl, q1, q2⟩ := hr₂
            repeat (any_goals (first | assumption | wp_step))
            exact h _ _ q1 q2
          | next => exact hr₂.elim
          | brk => exact hr₂.elim
          | cont => exact hr₂.elim
    | next => exact hr.elim
    | brk => exact hr.elim
    | cont => exact hr.elim
end
end Ks
namespace L2
open PySem PySem.Spec PyProof.Rows Ks
section
variable {X : Cx}
/-- set(t), t a tuple of ints and texts -/
def rSetT (K : PySem.W.Frag) (P : Program) (w : World) : List V → Hp → VK → Prop := fun xs H Q => ∃ (l : Addr) (ks : List Key), xs = [.ref l] ∧ SqT K H l (ks.map kV) ∧ ks.length + 1 < scanBound ∧ ∀ p, H p = none → Q (.ref p) (upd H p (SetK P w p (has ks) (uniq ks).length))
theorem cr_setT (hc : X.calm = true) : CallR X (.type "set") (rSetT X.K X.prog X.w) := by
  intro pins s σ H xs us Q I r ⟨l, ks, e, hs, hb, q⟩
  subst e
  rw [Vals.ref1 r]
  obtain ⟨its, rv, tp, _⟩ := I.tuple hs
  refine call_setK (P := X.prog) (w := X.w) ks (I.ok.hd hc) tp (by simpa using rv) hb fun h' tk S k => ?_
  exact ⟨.ref s.heap.objs.size, _, I.laid (t' := tk) k (Nat.le_refl _) (setK_new S), rfl, q _ (I.hok.fresh (Nat.le_refl _))⟩
/-- len of such a set -/
def rLenSetK (P : Program) (w : World) : List V → Hp → VK → Prop := fun xs H Q => ∃ (a : Addr) (S : Key → Bool) (n : Nat), xs = [.ref a] ∧ H a = some (SetK P w a S n) ∧ Q (.int n) H
theorem cr_lenSetK : CallR X (.builtin "len") (rLenSetK X.prog X.w) := by
  intro pins s σ H xs us Q I r ⟨a, S, n, e, ha, q⟩
  subst e
  rw [Vals.ref1 r]
  obtain ⟨o, es, ep, t, ho, hx, hd, _, _, hz, hf, hn⟩ := setK_get I ha
  refine call_len_set ho hx hd hf (by have h1 : es.size < 2 ^ 62 := Nat.lt_of_lt_of_le hz (by decide); omega) ?_
  rw [hn]
  exact ⟨.int n, H, I.tok _, ⟨_, rfl⟩, q⟩
end
end L2
namespace Kd
open PySem L2 Evl Ks
/-- [e for x in .. if t]: what each item gives is told by a list rs (whether it is taken, the value) -/
theorem lcR {J : It} {n : Nat} {G : Hp → Prop} {Y : Nat → Hp → V → Hp → Prop} (w : Walk J n G Y) {i : Nat} {tt : TT} {te : TE} {σ : L2.St} {H1 : Hp} {D : Addr} {Qd : Hp → Prop} (hD : H1 D = none) (xs : List V) (rs : List (Bool × V)) (hn : rs.length = n) (hz : n < sizeLine)
    (hG : ∀ H, Ex H1 H → G H) (hY : ∀ k H x H', Y k H x H' → H' = H ∧ xs[k]? = some x) (hw : ∀ v, wipe ((wipe σ [i]).set i v) [i] = wipe σ [i])
    (ht : ∀ (k : Nat) x b y H, xs[k]? = some x → rs[k]? = some (b, y) → Ex H1 H → EvT tt ((wipe σ [i]).set i (some x)) H b) (he : ∀ (k : Nat) x y H, xs[k]? = some x → rs[k]? = some (true, y) → Ex H1 H → Ev te ((wipe σ [i]).set i (some x)) H y)
    (hq : ∀ H, Ex H1 H → H D = some (.lst ((rs.filter (·.1)).map (·.2))) → Qd H) :
    ∃ W : Nat → Nat → Hp → Prop, (∃ m, W 0 m (upd H1 D (.lst []))) ∧ ∀ k m H, W k m H →
      (J.stop k H ∧ Qd H) ∨ (J.go k H ∧ ∃ Nx : Hp → Prop, (∀ H', Nx H' → ∃ m', m' < m ∧ W (k + 1) m' H') ∧ ∀ x H', J.yld k H x H' → gName i x (wipe σ [i]) H' fun σ2 H2 => wipe σ2 [i] = wipe σ [i] ∧ tt σ2 H2 fun b H3 =>
        if b = true then te σ2 H3 fun y H4 => ∃ acc, H4 D = some (.lst acc) ∧ acc.length < sizeLine ∧ Nx (upd H4 D (.lst (acc ++ [y]))) else Nx H3) := by
  refine lc_it w (fun k H => Ex H1 H ∧ H D = some (.lst (((rs.take k).filter (·.1)).map (·.2)))) ⟨Ex.mut (Ex.refl H1) hD, upd_same⟩ (fun k H _ h => hG H h.1) ?_ (fun H h => hq H h.1 (by rw [h.2, List.take_of_length_le (by omega)]))
  rintro k x H H' hk ⟨e, hd⟩ y
  obtain ⟨rfl, hx⟩ := hY k H x H' y
  have hk' : k < rs.length := by omega
  obtain ⟨⟨b, z⟩, hr⟩ : ∃ q, rs[k]? = some q := ⟨rs[k], List.getElem?_eq_getElem hk'⟩
  have ht1 : rs.take (k + 1) = rs.take k ++ [(b, z)] := by
    rw [List.take_add_one, hr]
    rfl
  refine ⟨hw (some x), ht k x b z H' hx hr e H' (Ex.refl _) _ fun H3 e3 => ?_⟩
  cases b with
  | false =>
    refine if_f rfl ⟨e.trans e3, ?_⟩
    rw [e3 _ _ hd, ht1, List.filter_append]
    simp
  | true =>
    refine if_t rfl (he k x z H' hx hr e H3 e3 _ fun H4 e4 => ⟨_, e4 _ _ (e3 _ _ hd), ?_, Ex.mut ((e.trans e3).trans e4) hD, ?_⟩)
    · rw [List.length_map]
      have h1 := List.length_filter_le (fun q : Bool × V => q.1) (rs.take k)
      have h2 : (rs.take k).length ≤ n := by rw [List.length_take, hn]; exact Nat.min_le_right _ _
      omega
    · rw [upd_same, ht1, List.filter_append, List.map_append]
      simp
theorem lcR_all {α : Type} (ds : List α) (f : α → V) : ((ds.map fun d => (true, f d)).filter (·.1)).map (·.2) = ds.map f := by
  induction ds with
  | nil => rfl
  | cons d r ih =>
    rw [List.map_cons, List.filter_cons]
    show (_ :: ((r.map fun d => (true, f d)).filter (·.1))).map (·.2) = _
    rw [List.map_cons, ih]
    rfl
theorem put_const (z : V) (l : List Key) (k : Key) : putK (l.map fun q => (q, z)) k z = (add1 l k).map fun q => (q, z) := by
  unfold putK add1
  have e : ((l.map fun q => (q, z)).any fun kv => decide (kv.1 = k)) = has l k := by
    unfold has
    rw [List.any_map]
    rfl
  rw [e]
  cases has l k with
  | true =>
    rw [if_pos rfl, if_pos rfl, List.map_map]
    refine List.map_congr_left fun q _ => ?_
    show (if q = k then (q, z) else (q, z)) = (q, z)
    split <;> rfl
  | false =>
    rw [if_neg Bool.false_ne_true, if_neg Bool.false_ne_true, List.map_append]
    rfl
/-- {x: z for x in t}, z one scalar -/
theorem dcS {K : PySem.W.Frag} {a : Addr} {i : Nat} {tk tv : TE} {σ : L2.St} {H1 : Hp} {D : Addr} {Qd : Hp → Prop} (hD : H1 D = none) (ks : List Key) (z : V) (hz : ks.length < sizeLine) (hs : SqT K H1 a (ks.map kV)) (hw : ∀ v, wipe ((wipe σ [i]).set i v) [i] = wipe σ [i])
    (hk : ∀ x H, x ∈ ks → Ex H1 H → Ev tk ((wipe σ [i]).set i (some (kV x))) H (kV x)) (hv : ∀ x H, x ∈ ks → Ex H1 H → Ev tv ((wipe σ [i]).set i (some (kV x))) H z)
    (hq : ∀ H, Ex H1 H → H D = some (.dK ((uniq ks).map fun k => (k, z))) → Qd H) :
    ∃ W : Nat → Nat → Hp → Prop, (∃ m, W 0 m (upd H1 D (.dK []))) ∧ ∀ k m H, W k m H →
      ((Itt K a).stop k H ∧ Qd H) ∨ ((Itt K a).go k H ∧ ∃ Nx : Hp → Prop, (∀ H', Nx H' → ∃ m', m' < m ∧ W (k + 1) m' H') ∧ ∀ x H', (Itt K a).yld k H x H' → gName i x (wipe σ [i]) H' fun σ2 H2 => wipe σ2 [i] = wipe σ [i] ∧ tYes σ2 H2 fun b H3 =>
        if b = true then tk σ2 H3 fun y H4 => tv σ2 H4 fun z H5 => ∃ kvs k, y = kV k ∧ H5 D = some (.dK kvs) ∧ kvs.length < sizeLine ∧ Nx (upd H5 D (.dK (putK kvs k z))) else Nx H3) := by
  refine dc_tup (xs := ks.map kV) (fun k H => Ex H1 H ∧ H D = some (.dK ((uniq (ks.take k)).map fun q => (q, z)))) ⟨Ex.mut (Ex.refl H1) hD, upd_same⟩ (fun k H _ h => ex_t h.1 hs) ?_ (fun H h => hq H h.1 (by rw [h.2, List.take_of_length_le (by rw [List.length_map]; exact Nat.le_refl _)]))
  rintro k x H hx ⟨e, hd⟩
  rw [List.getElem?_map] at hx
  obtain ⟨y, hy, rfl⟩ : ∃ y, ks[k]? = some y ∧ x = kV y := by
    cases q : ks[k]? with
    | none => rw [q] at hx; cases hx
    | some y => rw [q] at hx; exact ⟨y, rfl, (Option.some.inj hx).symm⟩
  have hm : y ∈ ks := List.mem_of_getElem? hy
  refine ⟨hw (some (kV y)), hk y H hm e H (Ex.refl _) _ fun H4 e4 => hv y H hm e H4 e4 _ fun H5 e5 => ⟨_, y, rfl, e5 _ _ (e4 _ _ hd), ?_, Ex.mut ((e.trans e4).trans e5) hD, ?_⟩⟩
  · rw [List.length_map]
    have h1 := len_uniq (ks.take k)
    rw [List.length_take] at h1
    omega
  · rw [upd_same, put_const, List.take_add_one, hy]
    show _ = some (HO.dK ((uniq (ks.take k ++ [y])).map _))
    rw [uniq_snoc]
end Kd
namespace L2
open PySem PySem.Spec PyProof.Rows
section
variable {X : Cx}
/-- sorted(t), t a tuple or a list of texts, fewer than 64 -/
def rSortU (K : PySem.W.Frag) : List V → Hp → VK → Prop := fun vs H Q => ∃ (a : Addr) (xs : List Str), vs = [V.ref a] ∧ (SqT K H a (xs.map V.str) ∨ SqL K H a (xs.map V.str)) ∧ xs.length < 64 ∧
  ∀ (ys : List Str) (p : Addr), ys.Perm xs → sortedS ys = true → H p = none → Q (.ref p) (upd H p (.lst (ys.map V.str)))
theorem cr_sortU : CallR X (.builtin "sorted") (rSortU X.K) := by
  intro pins s σ H vs us Q I r ⟨a, xs, e, hs, few, q⟩
  subst e
  rw [Vals.ref1 r]
  have hsq : ∃ (its : List Value) (T : String) (o : Obj) (n : Nat), Vals (xs.map V.str) its ∧ (T = "list" ∨ T = "tuple") ∧ s.heap.get? a = some o ∧ o.cls = .type T ∧ o.data = .seq its.toArray n := by
    rcases hs with hs | hs
    · obtain ⟨its, rv, ⟨o, ho, hc, n, hd⟩, _⟩ := I.tuple hs
      exact ⟨its, "tuple", o, n, rv, .inr rfl, ho, hc, hd⟩
    · obtain ⟨its, rv, ⟨o, n, ho, hc, _, hd⟩, _⟩ := I.list hs
      exact ⟨its, "list", o, n, rv, .inl rfl, ho, hc, hd⟩
  obtain ⟨its, T, o, n, rv, hT, ho, hc, hd⟩ := hsq
  have hS : StrsAre its xs := rv.strs
  have hlen : its.length = xs.length := by have e := rv.length; rw [List.length_map] at e; exact e.symm
  have hsz : its.length < 64 := by rw [hlen]; exact few
  have hln : its.length ≤ sizeLine := small64 hsz
  refine Calls.call_function_entry kind_sorted plain_sorted entry_sorted (args_sorted1 _) ?_
  unfold Builtin.«sorted»
  refine wpAny_bind (m := checkCount "sorted" 1 1 _) (wpAny_pure ?_)
  refine wpAny_bind (wpAny_collect_seq a hT ho hc hd (fun h1 kp => ?_) (by rw [List.size_toArray]; exact hln))
  refine wpAny_bind (wpAny_newList ?_ hln)
  have J : Inv X pins σ H { s with heap := h1 } := I.kept (t' := s.toks) kp
  have hnew : (h1.push (seqObj "list" its.toArray 0)).get? h1.objs.size = some (seqObj "list" its.toArray 0) := Heap.get?_push_size _ rfl
  show wpAny _ _ _ _ _ { s with heap := h1.push (seqObj "list" its.toArray 0) }
  refine wpAny_bind (wpAny_holding (wpAny_call_entry slot_list_sort ⟨_, hnew, rfl⟩ entry_list_sort
    (list_sort_treeK strKind_oneLt (s := { s with heap := h1.push (seqObj "list" its.toArray 0) }) hnew hS.keysOf (fun x y l e => keyKind_strs (by rw [← e]; exact hS)) hsz fun st hp ho => ⟨_, rfl, ?_⟩) (args_list_sort _)))
  obtain ⟨ys, g1, g2, g3⟩ := sorted_out_str hS hp ho
  obtain ⟨n', h'⟩ := sortedHeap_at (vs := its) (out := (arrOf st).map (·.2)) hnew
  have hfin : (ys.map V.str).length ≤ sizeLine := by rw [List.length_map, g2.length_eq]; exact small64 few
  refine wpAny_pure ⟨_, rfl, .ref h1.objs.size, upd H h1.objs.size (.lst (ys.map V.str)), J.laid (t' := s.toks) (fun b u e => ?_) (Nat.le_refl _)
    (show ObjOk X.prog X.w _ _ _ (.lst (ys.map V.str)) from ⟨hfin, ((arrOf st).map (·.2)).toList, n', vals_of_strs g1, by rw [Array.toArray_toList]; exact h'⟩), rfl, q ys _ g2 g3 (J.hok.fresh (Nat.le_refl _))⟩
  have hb : b < h1.objs.size := Heap.lt_size e
  rw [sortedHeap_old (Nat.ne_of_lt hb) (by rw [size_push']; exact Nat.lt_succ_of_lt hb)]
  exact Heap.get?_push_of_some _ e
end
end L2
/-! The order of texts: what is sorted is one. -/
namespace Kd
open PySem PySem.Spec PyProof.Rows
theorem lt_irrefl_c : ∀ a : List Nat, ltCps a a = false
  | [] => rfl
  | x :: r => by
    show (decide (x < x) || (x == x && ltCps r r)) = false
    rw [lt_irrefl_c r, decide_eq_false (Nat.lt_irrefl x)]
    simp
theorem lt_total_c : ∀ a b : List Nat, ltCps a b = false → ltCps b a = false → a = b
  | [], [], _, _ => rfl
  | [], _ :: _, h, _ => by cases h
  | _ :: _, [], _, h => by cases h
  | x :: r, y :: t, h1, h2 => by
    have a1 : (decide (x < y) || (x == y && ltCps r t)) = false := h1
    have a2 : (decide (y < x) || (y == x && ltCps t r)) = false := h2
    obtain ⟨p1, q1⟩ := Bool.or_eq_false_iff.mp a1
    obtain ⟨p2, q2⟩ := Bool.or_eq_false_iff.mp a2
    have e : x = y := by
      have := of_decide_eq_false p1
      have := of_decide_eq_false p2
      omega
    subst e
    rw [beq_self_eq_true, Bool.true_and] at q1 q2
    rw [lt_total_c r t q1 q2]
theorem lt_trans_c : ∀ a b c : List Nat, ltCps a b = true → ltCps b c = true → ltCps a c = true
  | [], [], _, h, _ => by cases h
  | [], _ :: _, [], _, h => by cases h
  | [], _ :: _, _ :: _, _, _ => rfl
  | _ :: _, [], _, h, _ => by cases h
  | _ :: _, _ :: _, [], _, h => by cases h
  | x :: r, y :: t, z :: u, h1, h2 => by
    have a1 : (decide (x < y) || (x == y && ltCps r t)) = true := h1
    have a2 : (decide (y < z) || (y == z && ltCps t u)) = true := h2
    show (decide (x < z) || (x == z && ltCps r u)) = true
    rcases Bool.or_eq_true_iff.mp a1 with p | p <;> rcases Bool.or_eq_true_iff.mp a2 with q | q
    · rw [decide_eq_true (Nat.lt_trans (of_decide_eq_true p) (of_decide_eq_true q))]; rfl
    · obtain ⟨q1, _⟩ := Bool.and_eq_true_iff.mp q
      rw [decide_eq_true (by rw [← beq_iff_eq.mp q1]; exact of_decide_eq_true p)]; rfl
    · obtain ⟨p1, _⟩ := Bool.and_eq_true_iff.mp p
      rw [decide_eq_true (by rw [beq_iff_eq.mp p1]; exact of_decide_eq_true q)]; rfl
    · obtain ⟨p1, p2⟩ := Bool.and_eq_true_iff.mp p
      obtain ⟨q1, q2⟩ := Bool.and_eq_true_iff.mp q
      rw [beq_iff_eq.mp p1, beq_iff_eq.mp q1, lt_trans_c r t u p2 q2]
      simp
/-- a stands not behind b -/
def leS (a b : Str) : Prop := ltCps b.cps.toList a.cps.toList = false
theorem leS_trans {a b c : Str} (h1 : leS a b) (h2 : leS b c) : leS a c := by
  unfold leS at *
  cases h : ltCps c.cps.toList a.cps.toList with
  | false => rfl
  | true =>
    -- c < a, a ≤ b, b ≤ c
    cases hab : ltCps a.cps.toList b.cps.toList with
    | true => rw [lt_trans_c _ _ _ h hab] at h2; cases h2
    | false =>
      rw [← lt_total_c _ _ hab h1, h] at h2
      cases h2
theorem leS_anti {a b : Str} (h1 : leS a b) (h2 : leS b a) : a = b := by
  have e := lt_total_c _ _ h2 h1
  cases a with | mk x => cases b with | mk y =>
    have e1 : x.toList = y.toList := e
    rw [Array.toList_inj.mp e1]
theorem rising_pair : ∀ (l : List Str) (p : Str), risingS p l = true → (p :: l).Pairwise leS
  | [], p, _ => List.pairwise_singleton _ _
  | x :: r, p, h => by
    have h' : (!ltCps x.cps.toList p.cps.toList && risingS x r) = true := h
    obtain ⟨h1, h2⟩ := Bool.and_eq_true_iff.mp h'
    have ih := rising_pair r x h2
    have hpx : leS p x := by
      unfold leS
      rw [Bool.not_eq_true'] at h1
      exact h1
    refine List.pairwise_cons.mpr ⟨fun y hy => ?_, ih⟩
    rcases List.mem_cons.mp hy with rfl | hy
    · exact hpx
    · exact leS_trans hpx ((List.pairwise_cons.mp ih).1 y hy)
theorem sorted_pair {l : List Str} (h : sortedS l = true) : l.Pairwise leS := by
  cases l with
  | nil => exact List.Pairwise.nil
  | cons x r => exact rising_pair r x h
/-- ys is xs, sorted -/
def IsSort (xs ys : List Str) : Prop := ys.Perm xs ∧ sortedS ys = true
theorem sort_one {xs zs ys us : List Str} (hp : xs.Perm zs) (h1 : IsSort xs ys) (h2 : IsSort zs us) : ys = us :=
  List.Perm.eq_of_pairwise (le := leS) (fun a b _ _ => leS_anti) (sorted_pair h1.2) (sorted_pair h2.2) ((h1.1.trans hp).trans h2.1.symm)
end Kd
/-! == and != by an own __eq__, whatever it answers -/
namespace Ko
open PySem PySem.Spec PyProof.Rows PySem.SeqAt
section
variable {M : Model} {prog : Program} {w : World} {A : Around} {E : Value → Shared → Prop} {s : Shared} {K : PySem.W.Frag} {x C f L : Addr} {ox : Obj} {od : Option Obj} {b tb : Value} {h₀ : Heap} {m : Str → Option Value}
/-- object.__ne__ where the class has an own __eq__ -/
theorem ne_entry {Q : Fin → Shared → Prop} (hu : A.units < cLine) (X : K.In s.heap) (I : PySem.W.InstAt s.heap x ox C od) (hs : PySem.W.findIn K (.ref C) "__eq__" = some (some (.ref f))) (hf : PySem.W.isFn K (.ref f) = true)
    (h : wpAny M A (call (.ref f) [.ref x, b]) (fun v s' => ∃ c, v = .bool c ∧ Q (.done (.ret (.bool (!c)))) s') E s) : wpAny M A (Builtin.«object.__ne__» ⟨[.ref x, b], []⟩) Q E s := by
  unfold Builtin.«object.__ne__»
  repeat (first
    | with_reducible refine wpAny_cRoomFor hu ?_
    | (refine wpAny_bind (m := callSpecialIfBound? (.ref x) (Str.ofString "__eq__") [b]) (PySem.W.ifBound_K X I hs hf (wpAny_mono h (fun r s' hr => by
          obtain ⟨c, rfl, hq⟩ := hr
          repeat (first | exact hq | exact wpAny_pure hq | exact wpAny_truthy_bool hq | (refine wpAny_bind (m := truthy (.bool _)) (wpAny_truthy_bool ?_)) | wp_step)) fun _ _ e => e)))
    | wp_step)
theorem call_ne {Q : Value → Shared → Prop} (hu : A.units + 1 < cLine) (X : K.In s.heap) (I : PySem.W.InstAt s.heap x ox C od) (hm : PySem.W.mroIn K C (.type "object") = some true) (hs : PySem.W.findIn K (.ref C) "__eq__" = some (some (.ref f))) (hf : PySem.W.isFn K (.ref f) = true)
    (h : wpAny (model prog w) A.in1 (call (.ref f) [.ref x, b]) (fun v s' => ∃ c, v = .bool c ∧ Q (.bool (!c)) s') E s) : wpAny (model prog w) A (call (.builtin "object.__ne__") [.ref x, b]) Q E s :=
  wpAny_call (codeAny_call_builtin F.cmp_object.ne.plain F.cmpEntry_ne (PySem.W.check_slot F.cmpKind_ne F.cmpSplit_ne (I.type.andThen (PySem.W.looks_mroIn X hm)) (F.cmpArgs_ne _ _)
    (ne_entry (A := A.in1) hu X I hs hf (wpAny_mono h (fun v s' ⟨c, e, q⟩ => ⟨c, e, q⟩) fun _ _ e => e))))
theorem ifBound_ne {args : List Value} {Q : Option Value → Shared → Prop} (X : K.In s.heap) (I : PySem.W.InstAt s.heap x ox C od) (hs : PySem.W.findIn K (.ref C) "__ne__" = some (some (.builtin "object.__ne__")))
    (h : wpAny M A (call (.builtin "object.__ne__") (.ref x :: args)) (fun v => Q (some v)) E s) : wpAny M A (callSpecialIfBound? (.ref x) "__ne__" args) Q E s := by
  have fin : wpAny M A (call (.builtin "object.__ne__") ([.ref x] ++ args) >>= fun v => pure (some v)) Q E s := wpAny_bind (wpAny_mono h (fun _ _ q => wpAny_pure q) fun _ _ q => q)
  simp only [callSpecialIfBound?, bindSpecialIfBound?]
  refine wpAny_holding (wpAny_bind (wpAny_bind (wpAny_bind (I.type.here ((PySem.W.looks_findIn X hs).here (wpAny_bind (wpAny_askSetting (wpAny_ite ?_))))))))
  split
  · exact wpAny_bind (wpAny_of_eq (F.cmp_object.ne.bind _) (wpAny_pure (by exact fin)))
  · exact wpAny_tryCatch (wpAny_bind (wpAny_of_eq (F.cmp_object.ne.bind _) (wpAny_pure (by exact fin))))
theorem ne_own {Q : Value → Shared → Prop} (hu : A.units + 1 < cLine) (X : K.In s.heap) (I : PySem.W.InstAt s.heap x ox C od) (hb : PySem.W.Looks (model prog w) s.heap (typeOf b) tb) (hn : PySem.W.notFirst K C tb = true)
    (hm : PySem.W.mroIn K C (.type "object") = some true) (hne : PySem.W.findIn K (.ref C) "__ne__" = some (some (.builtin "object.__ne__"))) (hs : PySem.W.findIn K (.ref C) "__eq__" = some (some (.ref f))) (hf : PySem.W.isFn K (.ref f) = true)
    (h : wpAny (model prog w) A.in1 (call (.ref f) [.ref x, b]) (fun v s' => ∃ c, v = .bool c ∧ Q (.bool (!c)) s') E s) : wpAny (model prog w) A (richCompare .NotEq (.ref x) b) Q E s := by
  have one : wpAny (model prog w) A (tryCompare (.ref x) "__ne__" b) (fun r s' => ∃ c, r = some (.bool c) ∧ Q (.bool c) s') E s := by
    unfold tryCompare
    refine wpAny_bind (ifBound_ne X I hne (call_ne hu X I hm hs hf (wpAny_mono h (fun v s' z => ?_) fun _ _ e => e)))
    obtain ⟨c, rfl, q⟩ := z
    exact ⟨c, rfl, wpAny_pure ⟨!c, rfl, q⟩⟩
  simp only [richCompare, cmpInfo_NotEq, oneThing_ref]
  refine wpAny_holding (wpAny_bind (wpAny_cRoomFor (by omega) (wpAny_bind (I.type.here (wpAny_bind (hb.here ?_))))))
  split
  · rename_i q
    have e : PySem.W.subIn K tb (.ref C) = some false := by
      rcases Bool.or_eq_true_iff.mp hn with z | z
      · rw [beq_iff_eq.mp z] at q; simp at q
      · exact beq_iff_eq.mp z
    refine wpAny_bind ((PySem.W.looks_subIn X e).here ?_)
    simp only [Bool.false_eq_true, if_false]
    refine wpAny_bind (wpAny_mono one (fun r s' z => ?_) fun _ _ e => e)
    obtain ⟨c, rfl, hq⟩ := z
    exact wpAny_pure hq
  · refine wpAny_bind (wpAny_pure ?_)
    simp only [Bool.false_eq_true, if_false]
    refine wpAny_bind (wpAny_mono one (fun r s' z => ?_) fun _ _ e => e)
    obtain ⟨c, rfl, hq⟩ := z
    exact wpAny_pure hq
end
end Ko
namespace L2
open PySem PySem.Spec PyProof.Rows
section
variable {X : Cx} {C f : Addr} {fd : FuncData} {ps : List Str} {sp : Sp} {n : Nat}
/-- what an own class tells of its == -/
structure OwnCmp (K : PySem.W.Frag) (C f : Addr) : Prop where
  eq : PySem.W.findIn K (.ref C) "__eq__" = some (some (.ref f))
  fn : PySem.W.isFn K (.ref f) = true
  ne : PySem.W.findIn K (.ref C) "__ne__" = some (some (.builtin "object.__ne__"))
  mr : PySem.W.mroIn K C (.type "object") = some true
/-- x == y, x != y: x an instance of C, y of the type t -/
def rOwnC (K : PySem.W.Frag) (C : Addr) (sp : Sp) (g : Bool → Bool) : R2 := fun x y H Q => ∃ a dx fs t, x = .ref a ∧ H a = some (.ins C dx fs) ∧ TyX K H y t ∧ PySem.W.notFirst K C t = true ∧ sp [x, y] H (fun v H' => ∃ c, v = .bl c ∧ Q (.bl (g c)) H') fun _ _ _ => False
theorem typeLook {pins : List (Addr × Obj)} {σ : St} {H : Hp} {s : Shared} {M : Model} {x : V} {u t : Value} (I : Inv X pins σ H s) (rx : RelV x u) (ty : TyX X.K H x t) : PySem.W.Looks M s.heap (typeOf u) t := by
  obtain ⟨P, kx, hp, _⟩ := kit_of I rx ty
  exact kx.ty M _ I.kIn hp
/-- a def of the text, called at another depth -/
theorem run_at {CX : CXT} {E : XK} {pins : List (Addr × Obj)} {σ : St} {H : Hp} {s : Shared} {vs : List V} {us : List Value} {Q : VK} {A : Around} (F : FnOk X.prog X.w X.K X.mg X.base CX n f fd ps sp) (hb : Binds X.K fd ps []) (hx : Passes CX X E) (hA : A.frames = X.A.frames) (hr : Room n A)
    (I : Inv X pins σ H s) (r : Vals vs us) (q : sp vs H Q E) : wpAny (model X.prog X.w) A (call (.ref f) us) (EP X pins σ Q) X.xe s := by
  have e0 : Env0 X.prog X.w X.K X.mg X.base A X.stack s H := by
    have e := I.env0
    exact ⟨hA.trans e.frames, e.mod, e.bs, e.bsz, e.funs, e.frf, e.hok, e.bare⟩
  have hl := F.len _ _ _ _ q
  have hlu : us.length = ps.length := by rw [← r.length]; exact hl
  refine wpAny_call (codeAny_mono (F.run A X.stack s H ⟨us, []⟩ us vs Q E hr e0 (by simpa using hb s us I.kIn (by simpa using hlu)) r q) fun r' s' hq => ?_)
  cases r' with
  | error e => exact hx pins σ H s e s' I hq
  | ok fl =>
    cases fl with
    | ret w => exact I.after hq
    | next => exact hq.elim
    | brk => exact hq.elim
    | cont => exact hq.elim
theorem own_at {pins : List (Addr × Obj)} {σ : St} {H : Hp} {s : Shared} {a dx : Addr} {fs : List (Str × V)} (I : Inv X pins σ H s) (ha : H a = some (.ins C dx fs)) : ∃ (ox : Obj) (od : Option Obj), PySem.W.InstAt s.heap a ox C od := by
  obtain ⟨mA, J, _⟩ := ins_get I.hok ha
  obtain ⟨od, J, _⟩ := J.look
  exact ⟨_, _, J⟩
theorem op_ownEq (F : FnOk X.prog X.w X.K X.mg X.base CX0 n f fd ps sp) (O : OwnCmp X.K C f) (hb : Binds X.K fd ps []) (hr : Room n X.A) : OpR X (compareOp .Eq) (rOwnC X.K C sp id) := by
  intro pins s σ H x y v u Q I rx ry ⟨a, dx, fs, t, ex, ha, ht, hn, q⟩
  subst ex
  cases rx
  obtain ⟨ox, od, J⟩ := own_at I ha
  obtain ⟨m, hF⟩ := I.fr
  refine PySem.W.cmp_ofEq (PySem.W.cmp_K (op := .Eq) (tb := t) hr.units0 hF I.ok.mod.kin J (typeLook I ry ht) hn O.eq O.fn ?_)
  refine wpAny_mono (run_at F hb pass0 rfl hr I (vs := [.ref a, y]) (.cons rfl (.cons ry .nil)) q) (fun r s' z => ?_) fun _ _ z => z
  obtain ⟨v', H', I', rv, c, e, q'⟩ := z
  subst e
  cases rv
  exact ⟨.bl c, H', I', rfl, q'⟩
theorem op_ownNe (F : FnOk X.prog X.w X.K X.mg X.base CX0 n f fd ps sp) (O : OwnCmp X.K C f) (hb : Binds X.K fd ps []) (hr : Room (n + 1) X.A) : OpR X (compareOp .NotEq) (rOwnC X.K C sp not) := by
  intro pins s σ H x y v u Q I rx ry ⟨a, dx, fs, t, ex, ha, ht, hn, q⟩
  subst ex
  cases rx
  obtain ⟨ox, od, J⟩ := own_at I ha
  refine PySem.W.cmp_ofNotEq (Ko.ne_own (by have := hr.un; omega) I.kIn J (typeLook I ry ht) hn O.mr O.ne O.eq O.fn ?_)
  refine wpAny_mono (run_at (A := X.A.in1) F hb pass0 rfl hr.in1 I (vs := [.ref a, y]) (.cons rfl (.cons ry .nil)) q) (fun r s' z => ?_) fun _ _ z => z
  obtain ⟨v', H', I', rv, c, e, q'⟩ := z
  subst e
  cases rv
  exact ⟨c, rfl, .bl (!c), H', I', rfl, q'⟩
end
end L2
namespace L2
open PySem PySem.Spec PyProof.Rows
section
variable {X : Cx} {C f : Addr} {fd : FuncData} {ps : List Str} {sp : Sp} {n : Nat}
/-- str(o) by an own __str__ -/
def rStrOwn (C : Addr) (sp : Sp) : List V → Hp → VK → Prop := fun xs H Q => ∃ a dx fs, xs = [.ref a] ∧ H a = some (.ins C dx fs) ∧ sp [.ref a] H (fun v H' => ∃ z, v = .str z ∧ Q v H') fun _ _ _ => False
theorem call_strOwn (F : FnOk X.prog X.w X.K X.mg X.base CX0 n f fd ps sp) (hs : PySem.W.findIn X.K (.ref C) "__str__" = some (some (.ref f))) (hf : PySem.W.isFn X.K (.ref f) = true) (hb : Binds X.K fd ps []) (hr : Room (n + 2) X.A) :
    CallR X (.type "str") (rStrOwn C sp) := by
  intro pins s σ H xs us Q I r ⟨a, dx, fs, e, ha, q⟩
  subst e
  rw [Vals.ref1 r]
  obtain ⟨ox, od, J⟩ := own_at I ha
  refine PySem.W.kso_call (by have h := hr.un; show X.A.units + 1 + 1 < cLine; omega) I.kIn J hs hf ?_
  refine wpAny_mono (run_at (A := X.A.in1.in1) F hb pass0 rfl hr.in1.in1 I (vs := [.ref a]) (.cons rfl .nil) q) (fun v s' z => ?_) fun _ _ z => z
  obtain ⟨v', H', I', rv, y, e, q'⟩ := z
  subst e
  obtain ⟨t, rfl⟩ := rv
  exact ⟨.str y, H', I', ⟨t, rfl⟩, q'⟩
end
end L2
namespace Kd
open PySem L2
/-- what a class tells of its instances' type -/
structure InsT (K : PySem.W.Frag) (C : Addr) : Prop where
  cl : Cls K C
  cc : PySem.W.findIn K (.ref C) "__class__" = some (some (.builtin "object.__class__"))
  cg : PySem.W.specialIn K (.builtin "object.__class__") "__get__" = some (some (.builtin "getset_descriptor.__get__"))
  ct : PySem.W.takesIn K (.builtin "object.__class__") = some true
  mr : PySem.W.mroIn K C (.type "object") = some true
  ne : PySem.W.findIn K (.ref C) "__ne__" = some (some (.builtin "object.__ne__"))
  ic : PySem.W.isClsIn K C = true
  it : PySem.W.typeIn K (.ref C) = some (.type "type")
theorem InsT.ty {K : PySem.W.Frag} {C : Addr} (i : InsT K C) {H : Hp} {a dx : Addr} {fs : List (Str × V)} (e : H a = some (.ins C dx fs)) : TyX K H (.ref a) (.ref C) := .base (.ins e i.cl i.cc i.cg i.ct i.mr)
theorem kit_self {K : PySem.W.Frag} {C : Addr} : PySem.W.kitOne K (.ref C) (.ref C) = some true := by
  show (if (Value.ref C == Value.ref C) = true then some true else _) = some true
  rw [if_pos (by simp)]
theorem sub_data {K : PySem.W.Frag} {C : Addr} : ∀ d : PyData, PySem.W.subIn K (.type (tyN d)) (.ref C) = some false
  | .none => by have e : fastBuiltinMro "NoneType" = some [.type "NoneType", .type "object"] := by decide +kernel
                show (fastBuiltinMro "NoneType").map (·.contains (.ref C)) = some false; rw [e]; simp
  | .bool _ => by have e : fastBuiltinMro "bool" = some [.type "bool", .type "int", .type "object"] := by decide +kernel
                  show (fastBuiltinMro "bool").map (·.contains (.ref C)) = some false; rw [e]; simp
  | .int _ => by have e : fastBuiltinMro "int" = some [.type "int", .type "object"] := by decide +kernel
                 show (fastBuiltinMro "int").map (·.contains (.ref C)) = some false; rw [e]; simp
  | .str _ => by have e : fastBuiltinMro "str" = some [.type "str", .type "object"] := by decide +kernel
                 show (fastBuiltinMro "str").map (·.contains (.ref C)) = some false; rw [e]; simp
  | .list _ => by have e : fastBuiltinMro "list" = some [.type "list", .type "object"] := by decide +kernel
                  show (fastBuiltinMro "list").map (·.contains (.ref C)) = some false; rw [e]; simp
  | .tuple _ => by have e : fastBuiltinMro "tuple" = some [.type "tuple", .type "object"] := by decide +kernel
                   show (fastBuiltinMro "tuple").map (·.contains (.ref C)) = some false; rw [e]; simp
  | .dict _ => by have e : fastBuiltinMro "dict" = some [.type "dict", .type "object"] := by decide +kernel
                  show (fastBuiltinMro "dict").map (·.contains (.ref C)) = some false; rw [e]; simp
theorem kitCls_own {K : PySem.W.Frag} {C : Addr} {t : Value} (h1 : PySem.W.isClsIn K C = true) (h2 : PySem.W.typeIn K (.ref C) = some (.type "type")) : PySem.W.kitCls K t (.ref C) = PySem.W.subIn K t (.ref C) := by
  have h1' : (PySem.W.clsIn K C).isSome = true := h1
  unfold PySem.W.kitCls
  dsimp only
  rw [if_pos]
  simp [h1', h2]
/-- isinstance(data, C) is false -/
theorem InsT.no {K : PySem.W.Frag} {C : Addr} (i : InsT K C) (d : PyData) : PySem.W.kitOne K (.type (tyN d)) (.ref C) = some false := by
  have h1 : PySem.W.kitOne K (.type (tyN d)) (.ref C) = PySem.W.kitCls K (.type (tyN d)) (.ref C) := by
    show (if (Value.type (tyN d) == Value.ref C) = true then some true else _) = _
    rw [if_neg (by simp)]
  rw [h1, kitCls_own i.ic i.it]
  exact sub_data d
theorem exm_own {K : PySem.W.Frag} {S : Addr} (h1 : PySem.W.subIn K (.ref S) (.type "BaseException") = some true) (h2 : PySem.W.isClsIn K S = true) (h3 : PySem.W.typeIn K (.ref S) = some (.type "type")) {E : Addr} {r : Bool} (h0 : PySem.W.subIn K (.ref E) (.type "BaseException") = some true) (h4 : PySem.W.subIn K (.ref E) (.ref S) = some r) :
    PySem.W.exmOne K (.ref E) (.ref S) = some r := by
  have e1 : (PySem.W.subIn K (.ref S) (.type "BaseException") == some true) = true := by rw [h1] <;> rfl
  have e2 : ((PySem.W.clsIn K S).isSome && PySem.W.typeIn K (.ref S) == some (.type "type")) = true := by
    have h2' : (PySem.W.clsIn K S).isSome = true := h2
    rw [h2', h3] <;> rfl
  show (if (PySem.W.subIn K (.ref S) (.type "BaseException") == some true) = true then (if ((PySem.W.clsIn K S).isSome && PySem.W.typeIn K (.ref S) == some (.type "type")) = true then PySem.W.subIn K (.ref E) (.ref S) else none) else none) = some r
  rw [if_pos e1, if_pos e2]
  exact h4
theorem not_first {K : PySem.W.Frag} {C : Addr} (d : PyData) : PySem.W.notFirst K C (.type (tyN d)) = true := by
  unfold PySem.W.notFirst
  rw [sub_data d]
  simp
theorem not_first_self {K : PySem.W.Frag} {C : Addr} : PySem.W.notFirst K C (.ref C) = true := by
  unfold PySem.W.notFirst
  simp
theorem InsT.own {K : PySem.W.Frag} {C f : Addr} (i : InsT K C) (m : Meth K C "__eq__" f) : OwnCmp K C f := ⟨m.at_, m.fn, i.ne, i.mr⟩
end Kd
/-! The layer's rules with the written part as a letter of its own (within a comprehension the context's own field is no name). -/
namespace Kv
open PySem L2
section
variable {X : Cx} {K : PySem.W.Frag}
def rLen (K : PySem.W.Frag) : List V → Hp → VK → Prop := fun xs H Q => ∃ p ys, xs = [.ref p] ∧ (SqL K H p ys ∨ SqT K H p ys) ∧ Q (.int ys.length) H
theorem call_len (h : X.K = K) : CallR X (.builtin "len") (rLen K) := by subst h; exact call_len_seq
def rList (K : PySem.W.Frag) : List V → Hp → VK → Prop := fun xs H Q => ∃ p ys, xs = [.ref p] ∧ (SqL K H p ys ∨ SqT K H p ys) ∧ ∀ l, H l = none → Q (.ref l) (upd H l (.lst ys))
theorem call_list (h : X.K = K) : CallR X (.type "list") (rList K) := by subst h; exact call_list_of
def rTuple (K : PySem.W.Frag) : List V → Hp → VK → Prop := fun xs H Q => ∃ p ys, xs = [.ref p] ∧ ((SqL K H p ys ∧ ∀ l, H l = none → Q (.ref l) (upd H l (.tup ys))) ∨ (SqT K H p ys ∧ Q (.ref p) H))
theorem call_tuple (h : X.K = K) : CallR X (.type "tuple") (rTuple K) := by subst h; exact call_tuple_of
theorem call_isi (h : X.K = K) : CallR X (.builtin "isinstance") (rIsi K) := by subst h; exact L2.call_isi
theorem call_sort (h : X.K = K) : CallR X (.builtin "sorted") (rSortU K) := by subst h; exact cr_sortU
theorem call_all (h : X.K = K) (hc : X.calm = true) : CallR X (.builtin "all") (rAll K) := by subst h; exact cr_all hc
theorem call_repr (h : X.K = K) (hG : X.A.guards = some []) (hu : X.A.units + 64 < cLine) : CallR X (.builtin "repr") (rReprD K) := by subst h; exact call_reprD hG hu
theorem ix_list (h : X.K = K) : IxR X (rIxL K) := by subst h; exact L2.ix_list
theorem ix_tup (h : X.K = K) : IxR X (rIxT K) := by subst h; exact L2.ix_tup
theorem ix_seq (h : X.K = K) : IxR X (rIx K) := by subst h; exact L2.ix_seq
theorem op_in (h : X.K = K) : OpR X (compareOp .In) (rIn K false) := by subst h; exact op_in_seq
theorem op_notIn (h : X.K = K) : OpR X (compareOp .NotIn) (rIn K true) := by subst h; exact op_notIn_seq
theorem op_eqD (h : X.K = K) (hu : X.A.units + 64 < cLine) : OpR X (compareOp .Eq) (rEqD K) := by subst h; exact L2.op_eqD hu
theorem op_neD (h : X.K = K) (hu : X.A.units + 64 < cLine) : OpR X (compareOp .NotEq) (rNeD K) := by subst h; exact L2.op_neD hu
theorem sl_list (h : X.K = K) : SlR X (rSlL K) := by subst h; exact L2.sl_list
theorem sl_tup (h : X.K = K) : SlR X (rSlT K) := by subst h; exact L2.sl_tup
variable {e o : Expr} {es : List Expr} {ta to : TE} {t : TA} {pos apos cpos : Pos} {f name : Str} {T id : String} {r : V → List V → Hp → VK → Prop}
theorem pe_fld (h : X.K = K) (he : PE X e ta) (hl : attributeBase e f X.env (eval e X.env) = eval e X.env) : PE X (.Attribute e f pos) (tFld K ta f) := by subst h; exact L2.pe_fld he hl
theorem pe_bm (h : X.K = K) (pa : PlainAttrs T) (slot : Slot T name id) (hty : typeOf (.builtin id) = pure (.type "method_descriptor")) (hm : MtR X id r) (ho : PE X o to) (ha : PA X (e :: es) t) (hb : attributeBase o name X.env (eval o X.env) = eval o X.env := by rfl)
    (hw : ((backTo cpos (starEach (e :: es) X.env)).all (fun x => !x.1) && (backToKw cpos (keywordEach [] X.env)).all (fun x => x.1.isSome) && decide ((e :: es).length + ([] : List Keyword).length + (if ([] : List Keyword).isEmpty then 0 else 1) < 30)) = true := by rfl)
    (hn : (apos.endLine == cpos.line) = true := by rfl) (hs : starEach (e :: es) X.env = (false, eval e X.env) :: starEach es X.env := by rfl) (hp : (backTo cpos (starEach es X.env)).any (·.1) = false := by rfl) :
    PE X (.Call (.Attribute o name apos) (e :: es) [] cpos) (tBM K T r to t) := by subst h; exact L2.pe_bm pa slot hty hm ho ha hb hw hn hs hp
end
end Kv
/-! sorted(xs), xs a list of data of one kind -/
namespace Kd
open PySem PySem.W PyProof.Rows L2
/-- the sorted data -/
def srtD (ds : List PyData) : List PyData := ds.mergeSort (dataLe false id)
/-- data that sorted takes -/
structure SortOk (ds : List PyData) : Prop where
  al : AllAlike ds
  so : Sortable ds
  dp : ∀ d ∈ ds, d.depth ≤ 8
theorem each_of {K : PySem.W.Frag} {H : Hp} : ∀ {xs : List V} {ds : List PyData} {us : List Value}, DpAll K H xs ds → Vals xs us → EachIs (fun v (b : V × PyData) => RelV b.1 v) us (xs.zip ds)
  | [], _, _, h, r => by cases h; cases r; exact .nil
  | x :: xs, _, _, h, r => by
    cases h with
    | cons _ h2 =>
      cases r with
      | cons r1 r2 => exact .cons r1 (each_of h2 r2)
theorem reads_of {X : Cx} {pins : List (Addr × Obj)} {σ : L2.St} {H : Hp} {s : Shared} (I : Inv X pins σ H s) : ∀ {xs : List V} {ds : List PyData} {us : List Value}, DpAll X.K H xs ds → Vals xs us → EachIs (fun v (b : V × PyData) => ∃ as, Reads s.heap v b.2 as) us (xs.zip ds)
  | [], _, _, h, r => by cases h; cases r; exact .nil
  | x :: xs, _, _, h, r => by
    cases h with
    | cons h1 h2 =>
      cases r with
      | cons r1 r2 => exact .cons (Dp.reads I _ _ _ h1 r1) (reads_of I h2 r2)
theorem zip_fst : ∀ {xs : List V} {ds : List PyData}, xs.length = ds.length → (xs.zip ds).map (·.1) = xs
  | [], [], _ => rfl
  | x :: xs, d :: ds, h => by rw [List.zip_cons_cons, List.map_cons, zip_fst (Nat.succ.inj h)]
  | [], _ :: _, h => by cases h
  | _ :: _, [], h => by cases h
theorem zip_snd : ∀ {xs : List V} {ds : List PyData}, xs.length = ds.length → (xs.zip ds).map (·.2) = ds
  | [], [], _ => rfl
  | x :: xs, d :: ds, h => by rw [List.zip_cons_cons, List.map_cons, zip_snd (Nat.succ.inj h)]
  | [], _ :: _, h => by cases h
  | _ :: _, [], h => by cases h
theorem dpAll_len' {K : PySem.W.Frag} {H : Hp} : ∀ {xs : List V} {ds : List PyData}, DpAll K H xs ds → xs.length = ds.length
  | [], _, h => by cases h; rfl
  | x :: xs, _, h => by cases h with | cons _ h2 => exact congrArg Nat.succ (dpAll_len' h2)
theorem dp_mem {K : PySem.W.Frag} {H : Hp} : ∀ {xs : List V} {ds : List PyData}, DpAll K H xs ds → ∀ b ∈ xs.zip ds, Dp K H b.1 b.2
  | [], _, h, b, hb => by cases h; cases hb
  | x :: xs, _, h, b, hb => by
    cases h with
    | cons h1 h2 =>
      rw [List.zip_cons_cons] at hb
      rcases List.mem_cons.mp hb with rfl | hb
      · exact h1
      · exact dp_mem h2 b hb
theorem dp_maps {K : PySem.W.Frag} {H : Hp} : ∀ {bs : List (V × PyData)}, (∀ b ∈ bs, Dp K H b.1 b.2) → DpAll K H (bs.map (·.1)) (bs.map (·.2))
  | [], _ => .nil
  | b :: bs, h => .cons (h b List.mem_cons_self) (dp_maps fun c hc => h c (List.mem_cons_of_mem _ hc))
theorem vals_each : ∀ {bs : List (V × PyData)} {us : List Value}, EachIs (fun v (b : V × PyData) => RelV b.1 v) us bs → Vals (bs.map (·.1)) us
  | [], _, h => by cases h; exact .nil
  | b :: bs, _, h => by cases h with | cons h1 h2 => exact .cons h1 (vals_each h2)
@[irreducible] def rSortD (K : PySem.W.Frag) : List V → Hp → VK → Prop := fun vs H Q => ∃ (a : Addr) (xs : List V) (ds : List PyData), vs = [V.ref a] ∧ SqL K H a xs ∧ DpAll K H xs ds ∧ SortOk ds ∧
  ∀ (bs : List (V × PyData)) (p : Addr), bs.Perm (xs.zip ds) → bs.map (·.2) = srtD ds → H p = none → Q (.ref p) (upd H p (.lst (bs.map (·.1))))
theorem cr_sortD {X : Cx} {K : PySem.W.Frag} (hK : X.K = K) (hu : X.A.units + 64 < cLine) : CallR X (.builtin "sorted") (rSortD K) := by
  intro pins s σ H vs us Q I r h
  unfold rSortD at h
  obtain ⟨a, xs, ds, e, hs, hd, ok, q⟩ := h
  subst e
  subst hK
  rw [Vals.ref1 r]
  obtain ⟨its, rv, hl, hz⟩ := I.list hs
  have len := dpAll_len' hd
  have lz : (xs.zip ds).length = xs.length := by rw [List.length_zip, len]; exact Nat.min_self _
  have es := each_of hd rv
  have er := reads_of I hd rv
  have e2 : (xs.zip ds).map (fun b => b.2) = ds := zip_snd len
  refine sorted_data (enc := fun b : V × PyData => b.2) (R := fun v b => RelV b.1 v) hl.isList es er (by rw [e2]; exact ok.al) (by rw [e2]; exact ok.so) (by rw [lz]; exact hz) (fun b hb => ?_) fun out ho eo => ?_
  · have hm : b.2 ∈ ds := (List.of_mem_zip hb).2
    have := ok.dp _ hm
    omega
  · obtain ⟨ep, he⟩ := sortedAll_at s.heap its out.toArray
    have pm : ((xs.zip ds).mergeSort (dataLe false fun b : V × PyData => b.2)).Perm (xs.zip ds) := List.mergeSort_perm _ _
    have hy := vals_each eo
    have hp : (((xs.zip ds).mergeSort (dataLe false fun b : V × PyData => b.2)).map (·.1)).length = xs.length := by rw [List.length_map, pm.length_eq, lz]
    have hsnd : ((xs.zip ds).mergeSort (dataLe false fun b : V × PyData => b.2)).map (fun b : V × PyData => b.2) = srtD ds := by
      unfold srtD
      have z := sort_maps (r := dataLe false fun b : V × PyData => b.2) (s := dataLe false (id : PyData → PyData)) (fun b : V × PyData => b.2) (l := xs.zip ds) (fun _ _ _ _ => rfl)
      rw [z, e2]
    exact ⟨.ref _, upd H (s.heap.objs.size + 1) (.lst (((xs.zip ds).mergeSort (dataLe false fun b : V × PyData => b.2)).map (·.1))), I.laid (t' := s.toks) (fun _ _ => sortedAll_old) (Nat.le_succ _) ⟨by rw [hp]; exact hz, out, ep, hy, he⟩, rfl,
      q _ _ pm hsnd (I.hok.fresh (Nat.le_succ _))⟩
end Kd
/-! Data with a Lean type over the layer: what a value holds, what ==, in and sorted say of it. -/
namespace Ky
open PySem L2 Evl Kd
open PySem.W (Datum DatumOrd T3)
section
variable {α β γ : Type} [DecidableEq α] [Datum α] [DecidableEq β] [Datum β] [DecidableEq γ] [Datum γ] {K : PySem.W.Frag} {H H' : Hp} {v : V} {vs : List V}
/-- v holds x -/
def Hd (K : PySem.W.Frag) (H : Hp) (v : V) (x : α) : Prop := Dp K H v (Datum.toD x)
/-- item by item -/
def HdL (K : PySem.W.Frag) (H : Hp) (vs : List V) (xs : List α) : Prop := DpAll K H vs (xs.map Datum.toD)
theorem Hd.ex {x : α} (h : Hd K H v x) (e : Ex H H') : Hd K H' v x := dp_ex e _ _ h
theorem HdL.ex {xs : List α} (h : HdL K H vs xs) (e : Ex H H') : HdL K H' vs xs := dpAll_ex e _ _ h
theorem HdL.nil : HdL K H [] ([] : List α) := DpAll.nil
theorem HdL.cons {x : α} {xs : List α} (h : Hd K H v x) (t : HdL K H vs xs) : HdL K H (v :: vs) (x :: xs) := DpAll.cons h t
theorem HdL.head {x : α} {xs : List α} (h : HdL K H (v :: vs) (x :: xs)) : Hd K H v x := by cases h with | cons h1 _ => exact h1
theorem HdL.tail {x : α} {xs : List α} (h : HdL K H (v :: vs) (x :: xs)) : HdL K H vs xs := by cases h with | cons _ h2 => exact h2
theorem HdL.len : ∀ {vs : List V} {xs : List α}, HdL K H vs xs → vs.length = xs.length
  | [], [], _ => rfl
  | [], _ :: _, h => by cases h
  | _ :: _, [], h => by cases h
  | _ :: _, _ :: _, h => congrArg Nat.succ (HdL.len h.tail)
theorem HdL.app : ∀ {vs us : List V} {xs ys : List α}, HdL K H vs xs → HdL K H us ys → HdL K H (vs ++ us) (xs ++ ys)
  | [], _, [], _, _, h => h
  | [], _, _ :: _, _, h, _ => by cases h
  | _ :: _, _, [], _, h, _ => by cases h
  | _ :: _, _, _ :: _, _, h, t => .cons h.head (HdL.app h.tail t)
theorem HdL.get : ∀ {vs : List V} {xs : List α} {i : Nat} {v : V}, HdL K H vs xs → vs[i]? = some v → ∃ x, xs[i]? = some x ∧ Hd K H v x
  | [], _, _, _, _, e => by cases e
  | _ :: _, [], _, _, h, _ => by cases h
  | _ :: _, x :: _, 0, _, h, e => ⟨x, rfl, by cases e; exact h.head⟩
  | _ :: _, _ :: _, i + 1, _, h, e => HdL.get (i := i) h.tail e
theorem HdL.at : ∀ {vs : List V} {xs : List α} {i : Nat} {x : α}, HdL K H vs xs → xs[i]? = some x → ∃ v, vs[i]? = some v ∧ Hd K H v x
  | _, [], _, _, _, e => by cases e
  | [], _ :: _, _, _, h, _ => by cases h
  | v :: _, _ :: _, 0, _, h, e => ⟨v, rfl, by cases e; exact h.head⟩
  | _ :: _, _ :: _, i + 1, _, h, e => HdL.at (i := i) h.tail e
theorem HdL.mem {xs : List α} {v : V} (h : HdL K H vs xs) (m : v ∈ vs) : ∃ x ∈ xs, Hd K H v x := by
  obtain ⟨i, hi⟩ := List.getElem?_of_mem m
  obtain ⟨x, hx, hv⟩ := h.get hi
  exact ⟨x, List.mem_of_getElem? hx, hv⟩
theorem HdL.take (n : Nat) : ∀ {vs : List V} {xs : List α}, HdL K H vs xs → HdL K H (vs.take n) (xs.take n) := by
  induction n with
  | zero => intro _ _ _; exact .nil
  | succ n ih =>
    intro vs xs h
    cases vs with
    | nil => cases xs with
      | nil => exact .nil
      | cons => cases h
    | cons => cases xs with
      | nil => cases h
      | cons => exact .cons h.head (ih h.tail)
theorem HdL.drop (n : Nat) : ∀ {vs : List V} {xs : List α}, HdL K H vs xs → HdL K H (vs.drop n) (xs.drop n) := by
  induction n with
  | zero => intro _ _ h; exact h
  | succ n ih =>
    intro vs xs h
    cases vs with
    | nil => cases xs with
      | nil => exact .nil
      | cons => cases h
    | cons => cases xs with
      | nil => cases h
      | cons => exact ih h.tail
/-- what is mixed holds the same, mixed -/
theorem HdL.perm : ∀ {us vs : List V}, us.Perm vs → ∀ {xs : List α}, HdL K H vs xs → ∃ ys : List α, ys.Perm xs ∧ HdL K H us ys := by
  intro us vs p
  induction p with
  | nil => intro xs h; exact ⟨xs, .refl _, h⟩
  | cons x _ ih =>
    intro xs h
    cases xs with
    | nil => cases h
    | cons z zs =>
      obtain ⟨ys, p, hy⟩ := ih h.tail
      exact ⟨z :: ys, p.cons z, .cons h.head hy⟩
  | swap a b l =>
    intro xs h
    cases xs with
    | nil => cases h
    | cons z zs => cases zs with
      | nil => cases h.tail
      | cons u us => exact ⟨u :: z :: us, List.Perm.swap .., .cons h.tail.head (.cons h.head h.tail.tail)⟩
  | trans _ _ ih1 ih2 =>
    intro xs h
    obtain ⟨ys, p, hy⟩ := ih2 h
    obtain ⟨zs, q, hz⟩ := ih1 hy
    exact ⟨zs, q.trans p, hz⟩
theorem hd_str (z : Str) : Hd K H (.str z) z := Dp.str z
theorem Hd.str {z : Str} (h : Hd K H v z) : v = .str z := by cases h; rfl
theorem hd_int (i : Int) : Hd K H (.int i) i := Dp.int i
theorem Hd.int {i : Int} (h : Hd K H v i) : v = .int i := by cases h; rfl
theorem HdL.strs : ∀ {vs : List V} {zs : List Str}, HdL K H vs zs → vs = zs.map V.str
  | [], [], _ => rfl
  | [], _ :: _, h => by cases h
  | _ :: _, [], h => by cases h
  | _ :: _, _ :: _, h => by rw [h.head.str, HdL.strs h.tail]; rfl
theorem hdL_strs : ∀ zs : List Str, HdL K H (zs.map V.str) zs
  | [] => .nil
  | z :: zs => .cons (Dp.str z) (hdL_strs zs)
theorem hd_list {a : Addr} {xs : List α} (h : SqL K H a vs) (t : HdL K H vs xs) : Hd K H (.ref a) xs := Dp.lst h t
theorem Hd.list {xs : List α} (h : Hd K H v xs) : ∃ a vs, v = .ref a ∧ SqL K H a vs ∧ HdL K H vs xs := by cases h with | lst h t => exact ⟨_, _, rfl, h, t⟩
theorem hd_pair {a : Addr} {u w : V} {x : α} {y : β} (h : SqT K H a [u, w]) (hx : Hd K H u x) (hy : Hd K H w y) : Hd K H (.ref a) (x, y) := Dp.tup h (DpAll.cons hx (DpAll.cons hy DpAll.nil))
theorem Hd.pair {p : α × β} (h : Hd K H v p) : ∃ a u w, v = .ref a ∧ SqT K H a [u, w] ∧ Hd K H u p.1 ∧ Hd K H w p.2 := by
  cases h with
  | tup h t =>
    cases t with
    | cons h1 t => cases t with
      | cons h2 t => cases t; exact ⟨_, _, _, rfl, h, h1, h2⟩
theorem hd_t3 {a : Addr} {u w z : V} {x : α} {y : β} {c : γ} (h : SqT K H a [u, w, z]) (hx : Hd K H u x) (hy : Hd K H w y) (hz : Hd K H z c) : Hd K H (.ref a) (T3.mk x y c) := Dp.tup h (DpAll.cons hx (DpAll.cons hy (DpAll.cons hz DpAll.nil)))
theorem Hd.t3 {p : T3 α β γ} (h : Hd K H v p) : ∃ a u w z, v = .ref a ∧ SqT K H a [u, w, z] ∧ Hd K H u p.a ∧ Hd K H w p.b ∧ Hd K H z p.c := by
  cases h with
  | tup h t =>
    cases t with
    | cons h1 t => cases t with
      | cons h2 t => cases t with
        | cons h3 t => cases t; exact ⟨_, _, _, _, rfl, h, h1, h2, h3⟩
end
/-! == and in, by what is held -/
section
variable {X : Cx} {K : PySem.W.Frag}
def deepOk (d : PyData) : Prop := d.plain = true ∧ d.depth ≤ 40
@[irreducible] def rEqP (K : PySem.W.Frag) : R2 := fun x y H Q => ∃ d e, Dp K H x d ∧ Dp K H y e ∧ deepOk d ∧ deepOk e ∧ Q (.bl (PyData.eqv d e)) H
@[irreducible] def rNeP (K : PySem.W.Frag) : R2 := fun x y H Q => ∃ d e, Dp K H x d ∧ Dp K H y e ∧ deepOk d ∧ deepOk e ∧ Q (.bl (!PyData.eqv d e)) H
@[irreducible] def rInP (K : PySem.W.Frag) : R2 := fun x y H Q => ∃ d ds, Dp K H x d ∧ (Dp K H y (.list ds) ∨ Dp K H y (.tuple ds)) ∧ deepOk d ∧ deepOk (.list ds) ∧ Q (.bl (ds.any fun z => PyData.eqv z d)) H
@[irreducible] def rNotInP (K : PySem.W.Frag) : R2 := fun x y H Q => ∃ d ds, Dp K H x d ∧ (Dp K H y (.list ds) ∨ Dp K H y (.tuple ds)) ∧ deepOk d ∧ deepOk (.list ds) ∧ Q (.bl (!ds.any fun z => PyData.eqv z d)) H
theorem op_eqP (hK : X.K = K) (hu : X.A.units + 64 < cLine) : OpR X (compareOp .Eq) (rEqP K) := by
  intro pins s σ H x y v u Q I rx ry h
  unfold rEqP at h
  obtain ⟨d, e, hd, he, od, oe, q⟩ := h
  subst hK
  obtain ⟨as, r1⟩ := Dp.reads I d x v hd rx
  obtain ⟨bs, r2⟩ := Dp.reads I e y u he ry
  have := od.2
  exact SeqAt.eq_plain r1 r2 od.1 oe.1 (by omega) ⟨.bl _, H, I, rfl, q⟩
theorem op_neP (hK : X.K = K) (hu : X.A.units + 64 < cLine) : OpR X (compareOp .NotEq) (rNeP K) := by
  intro pins s σ H x y v u Q I rx ry h
  unfold rNeP at h
  obtain ⟨d, e, hd, he, od, oe, q⟩ := h
  subst hK
  obtain ⟨as, r1⟩ := Dp.reads I d x v hd rx
  obtain ⟨bs, r2⟩ := Dp.reads I e y u he ry
  have := od.2
  exact SeqAt.ne_plain r1 r2 od.1 oe.1 (by omega) ⟨.bl _, H, I, rfl, q⟩
theorem op_inP (hK : X.K = K) (hu : X.A.units + 64 < cLine) : OpR X (compareOp .In) (rInP K) := by
  intro pins s σ H x y v u Q I rx ry h
  unfold rInP at h
  obtain ⟨d, ds, hd, he, od, oe, q⟩ := h
  subst hK
  obtain ⟨as, r1⟩ := Dp.reads I d x v hd rx
  have := od.2
  rcases he with he | he
  · obtain ⟨bs, r2⟩ := Dp.reads I _ y u he ry
    exact SeqAt.in_list_data r2 r1 oe.1 od.1 (by omega) ⟨.bl _, H, I, rfl, q⟩
  · obtain ⟨bs, r2⟩ := Dp.reads I _ y u he ry
    exact SeqAt.in_tuple_data r2 r1 oe.1 od.1 (by omega) ⟨.bl _, H, I, rfl, q⟩
theorem op_notInP (hK : X.K = K) (hu : X.A.units + 64 < cLine) : OpR X (compareOp .NotIn) (rNotInP K) := by
  intro pins s σ H x y v u Q I rx ry h
  unfold rNotInP at h
  obtain ⟨d, ds, hd, he, od, oe, q⟩ := h
  subst hK
  obtain ⟨as, r1⟩ := Dp.reads I d x v hd rx
  have := od.2
  rcases he with he | he
  · obtain ⟨bs, r2⟩ := Dp.reads I _ y u he ry
    exact SeqAt.notIn_list_data r2 r1 oe.1 od.1 (by omega) ⟨.bl _, H, I, rfl, q⟩
  · obtain ⟨bs, r2⟩ := Dp.reads I _ y u he ry
    exact SeqAt.notIn_tuple_data r2 r1 oe.1 od.1 (by omega) ⟨.bl _, H, I, rfl, q⟩
end
section
variable {α : Type} [DecidableEq α] [Datum α] {K : PySem.W.Frag} {H : Hp} {x y : V} {a b : α} {xs : List α} {Q : VK}
/-- its data are flat enough -/
class Low (α : Type) [DecidableEq α] [Datum α] : Prop where
  low : Datum.depth α ≤ 30
theorem deep_of [Low α] (a : α) : deepOk (Datum.toD a) := ⟨Datum.plain a, Nat.le_trans (Datum.depth_le a) (Nat.le_trans Low.low (by decide))⟩
theorem deep_all [Low α] (xs : List α) : deepOk (.list (xs.map Datum.toD)) := by
  refine ⟨by simp only [PyData.plain]; exact PySem.W.plainAll_map xs, ?_⟩
  have h1 := PySem.W.depthAll_map xs
  have h2 := Low.low (α := α)
  simp only [PyData.depth]
  omega
theorem any_eqv (xs : List α) (a : α) : ((xs.map Datum.toD).any fun z => PyData.eqv z (Datum.toD a)) = decide (a ∈ xs) := by
  induction xs with
  | nil => rfl
  | cons x r ih =>
    rw [List.map_cons, List.any_cons, ih, Datum.eqv, Bool.eq_iff_iff]
    simp only [Bool.or_eq_true, decide_eq_true_eq, List.mem_cons]
    constructor
    · rintro (rfl | h)
      · exact .inl rfl
      · exact .inr h
    · rintro (rfl | h)
      · exact .inl rfl
      · exact .inr h
theorem eqP [Low α] (hx : Hd K H x a) (hy : Hd K H y b) (q : Q (.bl (decide (a = b))) H) : rEqP K x y H Q := by unfold rEqP; exact ⟨_, _, hx, hy, deep_of a, deep_of b, by rw [Datum.eqv]; exact q⟩
theorem neP [Low α] (hx : Hd K H x a) (hy : Hd K H y b) (q : Q (.bl (!decide (a = b))) H) : rNeP K x y H Q := by unfold rNeP; exact ⟨_, _, hx, hy, deep_of a, deep_of b, by rw [Datum.eqv]; exact q⟩
theorem inLP [Low α] (hx : Hd K H x a) {p : Addr} {vs : List V} (hl : SqL K H p vs) (hy : HdL K H vs xs) (q : Q (.bl (decide (a ∈ xs))) H) : rInP K x (.ref p) H Q := by unfold rInP; exact ⟨_, _, hx, .inl (.lst hl hy), deep_of a, deep_all xs, by rw [any_eqv]; exact q⟩
theorem notInLP [Low α] (hx : Hd K H x a) {p : Addr} {vs : List V} (hl : SqL K H p vs) (hy : HdL K H vs xs) (q : Q (.bl (!decide (a ∈ xs))) H) : rNotInP K x (.ref p) H Q := by unfold rNotInP; exact ⟨_, _, hx, .inl (.lst hl hy), deep_of a, deep_all xs, by rw [any_eqv]; exact q⟩
theorem inTP [Low α] (hx : Hd K H x a) {p : Addr} {vs : List V} (hl : SqT K H p vs) (hy : HdL K H vs xs) (q : Q (.bl (decide (a ∈ xs))) H) : rInP K x (.ref p) H Q := by unfold rInP; exact ⟨_, _, hx, .inr (.tup hl hy), deep_of a, deep_all xs, by rw [any_eqv]; exact q⟩
theorem notInTP [Low α] (hx : Hd K H x a) {p : Addr} {vs : List V} (hl : SqT K H p vs) (hy : HdL K H vs xs) (q : Q (.bl (!decide (a ∈ xs))) H) : rNotInP K x (.ref p) H Q := by unfold rNotInP; exact ⟨_, _, hx, .inr (.tup hl hy), deep_of a, deep_all xs, by rw [any_eqv]; exact q⟩
instance : Low Int := ⟨by decide⟩
instance : Low Str := ⟨by decide⟩
instance : Low (Option Str) := ⟨by decide⟩
instance : Low (T3 Str Str Str) := ⟨by decide⟩
instance : Low (T3 Int Str Int) := ⟨by decide⟩
instance : Low (Str × Option Str) := ⟨by decide⟩
instance : Low (List Str) := ⟨by decide⟩
instance : Low (List (Option Str)) := ⟨by decide⟩
instance : Low (List (T3 Str Str Str)) := ⟨by decide⟩
instance : Low (List (T3 Int Str Int)) := ⟨by decide⟩
instance : Low (List (Str × Option Str)) := ⟨by decide⟩
end
end Ky
/-! sorted, by what is held -/
namespace Ky
open PySem L2 Evl Kd
open PySem.W (Datum DatumOrd T3)
section
variable {α β γ : Type} [DecidableEq α] [DatumOrd α] [DecidableEq β] [DatumOrd β] [DecidableEq γ] [DatumOrd γ]
/-- a stands not behind b -/
def le (a b : α) : Bool := !DatumOrd.lt b a
def srt (xs : List α) : List α := xs.mergeSort le
theorem le_dataLe (a b : α) : le a b = PySem.W.dataLe false id (Datum.toD a) (Datum.toD b) := by
  unfold le
  rw [← DatumOrd.lt_eq]
  rfl
theorem le_trans (a b c : α) (h1 : le a b = true) (h2 : le b c = true) : le a c = true := by
  rw [le_dataLe] at *
  exact (PySem.W.sortLe_total _ false _).trans _ _ _ h1 h2
theorem le_total (a b : α) : (le a b || le b a) = true := by
  rw [le_dataLe, le_dataLe, Bool.or_eq_true_iff]
  exact (PySem.W.sortLe_total _ false _).total _ _
theorem srt_perm (xs : List α) : (srt xs).Perm xs := List.mergeSort_perm _ _
theorem srt_up (xs : List α) : (srt xs).Pairwise fun a b => le a b = true := List.pairwise_mergeSort le_trans le_total xs
theorem srt_toD (xs : List α) : srtD (xs.map Datum.toD) = (srt xs).map Datum.toD := by
  unfold srtD srt
  exact (PySem.W.sort_maps (r := le) (s := PySem.W.dataLe false (id : PyData → PyData)) Datum.toD (l := xs) fun a _ b _ => le_dataLe a b).symm
/-- sorted as the program sorts, and one order alone -/
class Lin (α : Type) [DecidableEq α] [DatumOrd α] : Prop where
  anti : ∀ a b : α, DatumOrd.lt a b = false → DatumOrd.lt b a = false → a = b
theorem le_anti [Lin α] {a b : α} (h1 : le a b = true) (h2 : le b a = true) : a = b := by
  unfold le at h1 h2
  rw [Bool.not_eq_true'] at h1 h2
  exact Lin.anti a b h2 h1
theorem up_one [Lin α] {xs ys : List α} (h1 : xs.Pairwise fun a b => le a b = true) (h2 : ys.Pairwise fun a b => le a b = true) (p : xs.Perm ys) : xs = ys :=
  List.Perm.eq_of_pairwise (le := fun a b => le a b = true) (fun a b _ _ => le_anti) h1 h2 p
theorem srt_one [Lin α] {xs ys : List α} (p : xs.Perm ys) : srt xs = srt ys := up_one (srt_up xs) (srt_up ys) (((srt_perm xs).trans p).trans (srt_perm ys).symm)
theorem srt_of [Lin α] {xs ys : List α} (p : ys.Perm xs) (h : ys.Pairwise fun a b => le a b = true) : srt xs = ys := up_one (srt_up xs) h ((srt_perm xs).trans p.symm)
instance : Lin Int := ⟨fun a b h1 h2 => by
  have e1 := of_decide_eq_false (show decide (a < b) = false from h1)
  have e2 := of_decide_eq_false (show decide (b < a) = false from h2)
  omega⟩
instance : Lin Str := ⟨fun a b h1 h2 => by
  have e1 := of_decide_eq_false (show decide (a.cps.toList < b.cps.toList) = false from h1)
  have e2 := of_decide_eq_false (show decide (b.cps.toList < a.cps.toList) = false from h2)
  have e : a.cps.toList = b.cps.toList := List.le_antisymm e2 e1
  obtain ⟨x⟩ := a
  obtain ⟨y⟩ := b
  rw [Array.toList_inj.mp (show x.toList = y.toList from e)]⟩
theorem lt_self [Lin α] (a : α) : DatumOrd.lt a a = false := by
  rw [← DatumOrd.lt_eq]
  exact PySem.W.dataLt_self _
instance [Lin α] [Lin β] [Lin γ] : Lin (T3 α β γ) := ⟨fun p q h1 h2 => by
  obtain ⟨a, b, c⟩ := p
  obtain ⟨d, e, f⟩ := q
  have h1 : (if a = d then (if b = e then DatumOrd.lt c f else DatumOrd.lt b e) else DatumOrd.lt a d) = false := h1
  have h2 : (if d = a then (if e = b then DatumOrd.lt f c else DatumOrd.lt e b) else DatumOrd.lt d a) = false := h2
  by_cases ha : a = d
  · subst ha
    rw [if_pos rfl] at h1 h2
    by_cases hb : b = e
    · subst hb
      rw [if_pos rfl] at h1 h2
      rw [Lin.anti c f h1 h2]
    · rw [if_neg hb] at h1
      rw [if_neg (Ne.symm hb)] at h2
      exact absurd (Lin.anti b e h1 h2) hb
  · rw [if_neg ha] at h1
    rw [if_neg (Ne.symm ha)] at h2
    exact absurd (Lin.anti a d h1 h2) ha⟩
/-- what sorted takes -/
class Sorts (α : Type) [DecidableEq α] [DatumOrd α] : Prop where
  so : ∀ xs : List α, PySem.W.Sortable (xs.map Datum.toD)
  dp : Datum.depth α ≤ 8
theorem sort_ok [Sorts α] (xs : List α) : SortOk (xs.map Datum.toD) := by
  refine ⟨(PySem.W.alikeAll_datum xs).1, Sorts.so xs, fun d hd => ?_⟩
  obtain ⟨a, _, rfl⟩ := List.mem_map.mp hd
  exact Nat.le_trans (Datum.depth_le a) Sorts.dp
instance : Sorts Int := ⟨fun xs => .inr fun d hd => by obtain ⟨a, _, rfl⟩ := List.mem_map.mp hd; exact ⟨(fun z => by cases z), fun _ z => by cases z⟩, by decide⟩
instance : Sorts Str := ⟨fun xs => .inr fun d hd => by obtain ⟨a, _, rfl⟩ := List.mem_map.mp hd; exact ⟨(fun z => by cases z), fun _ z => by cases z⟩, by decide⟩
instance : Sorts (T3 Str Str Str) := ⟨fun xs => .inl fun d hd => by obtain ⟨a, _, rfl⟩ := List.mem_map.mp hd; exact ⟨_, _, rfl⟩, by decide⟩
instance : Sorts (T3 Int Str Int) := ⟨fun xs => .inl fun d hd => by obtain ⟨a, _, rfl⟩ := List.mem_map.mp hd; exact ⟨_, _, rfl⟩, by decide⟩
theorem toD_inj {a b : α} (h : (Datum.toD a : PyData) = Datum.toD b) : a = b := by
  have z := Datum.eqv a b
  rw [h, Datum.eqv b b, decide_eq_true rfl] at z
  exact of_decide_eq_true z.symm
theorem toDs_inj : ∀ {xs ys : List α}, xs.map (Datum.toD : α → PyData) = ys.map Datum.toD → xs = ys
  | [], [], _ => rfl
  | [], _ :: _, h => by cases h
  | _ :: _, [], h => by cases h
  | x :: xs, y :: ys, h => by
    rw [List.map_cons, List.map_cons] at h
    rw [toD_inj (List.cons.inj h).1, toDs_inj (List.cons.inj h).2]
theorem zip_map_toD : ∀ (vs : List V) (xs : List α), (vs.zip xs).map (fun b => (b.1, (Datum.toD b.2 : PyData))) = vs.zip (xs.map Datum.toD)
  | [], _ => rfl
  | _ :: _, [] => rfl
  | v :: vs, x :: xs => by rw [List.zip_cons_cons, List.map_cons, zip_map_toD vs xs]; rfl
theorem paired_zip {R : V → α → Prop} : ∀ {vs : List V} {xs : List α}, Paired R vs xs → ∀ b ∈ vs.zip xs, R b.1 b.2
  | _, _, .nil, _, h => by cases h
  | _, _, .cons h1 h2, b, h => by
    rw [List.zip_cons_cons] at h
    rcases List.mem_cons.mp h with rfl | h
    · exact h1
    · exact paired_zip h2 b h
theorem paired_maps {R : V → α → Prop} : ∀ {bs : List (V × α)}, (∀ b ∈ bs, R b.1 b.2) → Paired R (bs.map (·.1)) (bs.map (·.2))
  | [], _ => .nil
  | b :: bs, h => .cons (h b List.mem_cons_self) (paired_maps fun c hc => h c (List.mem_cons_of_mem _ hc))
/-- sorted(l), l's items standing in R with xs -/
theorem sortedR [Sorts α] {K : PySem.W.Frag} {H : Hp} {p : Addr} {vs : List V} {xs : List α} {Q : VK} {R : V → α → Prop} (h : SqL K H p vs) (hy : HdL K H vs xs) (r : Paired R vs xs) (q : ∀ us l, Paired R us (srt xs) → us.Perm vs → H l = none → Q (.ref l) (upd H l (.lst us))) : rSortD K [.ref p] H Q := by
  unfold rSortD
  refine ⟨p, vs, _, rfl, h, hy, sort_ok xs, fun bs l pm hb hl => ?_⟩
  rw [← zip_map_toD] at pm
  obtain ⟨cs, pc, ec⟩ := perm_lift (fun b : V × α => (b.1, (Datum.toD b.2 : PyData))) pm _ rfl
  subst ec
  have e2 : cs.map (·.2) = srt xs := by
    refine toDs_inj ?_
    rw [← srt_toD, ← hb, List.map_map, List.map_map]
    rfl
  have e1 : (cs.map fun b : V × α => (b.1, (Datum.toD b.2 : PyData))).map (·.1) = cs.map (·.1) := by rw [List.map_map]; rfl
  have hlen : vs.length = xs.length := hy.len
  have pv : (cs.map (·.1)).Perm vs := by
    have z := pc.map (fun b : V × α => b.1)
    rw [List.map_fst_zip (by omega)] at z
    exact z
  rw [e1]
  refine q _ l ?_ pv hl
  rw [← e2]
  exact paired_maps fun b hb => paired_zip r b (pc.mem_iff.mp hb)
theorem HdL.paired {K : PySem.W.Frag} {H : Hp} : ∀ {vs : List V} {xs : List α}, HdL K H vs xs → Paired (fun v x => Hd K H v x) vs xs
  | [], [], _ => .nil
  | [], _ :: _, h => by cases h
  | _ :: _, [], h => by cases h
  | _ :: _, _ :: _, h => .cons h.head (HdL.paired h.tail)
theorem hdL_of {K : PySem.W.Frag} {H : Hp} : ∀ {vs : List V} {xs : List α}, Paired (fun v x => Hd K H v x) vs xs → HdL K H vs xs
  | _, _, .nil => .nil
  | _, _, .cons h t => .cons h (hdL_of t)
theorem sortedP [Sorts α] {K : PySem.W.Frag} {H : Hp} {p : Addr} {vs : List V} {xs : List α} {Q : VK} (h : SqL K H p vs) (hy : HdL K H vs xs) (q : ∀ us l, HdL K H us (srt xs) → us.Perm vs → H l = none → Q (.ref l) (upd H l (.lst us))) : rSortD K [.ref p] H Q :=
  sortedR h hy hy.paired fun us l r pm hl => q us l (hdL_of r) pm hl
end
/-! rows that stand in a relation, item by item -/
section
variable {α β : Type} {R S : V → β → Prop}
theorem paired_imp (f : ∀ v x, R v x → S v x) : ∀ {vs : List V} {xs : List β}, Paired R vs xs → Paired S vs xs
  | _, _, .nil => .nil
  | _, _, .cons h t => .cons (f _ _ h) (paired_imp f t)
theorem paired_app : ∀ {vs us : List V} {xs ys : List β}, Paired R vs xs → Paired R us ys → Paired R (vs ++ us) (xs ++ ys)
  | _, _, _, _, .nil, h => h
  | _, _, _, _, .cons h t, k => .cons h (paired_app t k)
theorem paired_len : ∀ {vs : List V} {xs : List β}, Paired R vs xs → vs.length = xs.length
  | _, _, .nil => rfl
  | _, _, .cons _ t => congrArg Nat.succ (paired_len t)
theorem paired_get2 : ∀ {vs : List V} {xs : List β} {i : Nat} {v : V}, Paired R vs xs → vs[i]? = some v → ∃ x, xs[i]? = some x ∧ R v x
  | _, _, _, _, .nil, e => by cases e
  | _, _, 0, _, .cons h _, e => ⟨_, rfl, by cases e; exact h⟩
  | _, _, i + 1, _, .cons _ t, e => paired_get2 (i := i) t e
theorem paired_at2 : ∀ {vs : List V} {xs : List β} {i : Nat} {x : β}, Paired R vs xs → xs[i]? = some x → ∃ v, vs[i]? = some v ∧ R v x
  | _, _, _, _, .nil, e => by cases e
  | _, _, 0, _, .cons h _, e => ⟨_, rfl, by cases e; exact h⟩
  | _, _, i + 1, _, .cons _ t, e => paired_at2 (i := i) t e
theorem paired_mem {vs : List V} {xs : List β} {v : V} (h : Paired R vs xs) (m : v ∈ vs) : ∃ x ∈ xs, R v x := by
  obtain ⟨i, hi⟩ := List.getElem?_of_mem m
  obtain ⟨x, hx, hv⟩ := paired_get2 h hi
  exact ⟨x, List.mem_of_getElem? hx, hv⟩
theorem paired_take (n : Nat) : ∀ {vs : List V} {xs : List β}, Paired R vs xs → Paired R (vs.take n) (xs.take n) := by
  induction n with
  | zero => intro _ _ _; exact .nil
  | succ n ih =>
    intro vs xs h
    cases h with
    | nil => exact .nil
    | cons h t => exact .cons h (ih t)
theorem paired_drop (n : Nat) : ∀ {vs : List V} {xs : List β}, Paired R vs xs → Paired R (vs.drop n) (xs.drop n) := by
  induction n with
  | zero => intro _ _ h; exact h
  | succ n ih =>
    intro vs xs h
    cases h with
    | nil => exact .nil
    | cons h t => exact ih t
theorem paired_perm : ∀ {us vs : List V}, us.Perm vs → ∀ {xs : List β}, Paired R vs xs → ∃ ys : List β, ys.Perm xs ∧ Paired R us ys := by
  intro us vs p
  induction p with
  | nil => intro xs h; exact ⟨xs, .refl _, h⟩
  | cons x _ ih =>
    intro xs h
    cases h with
    | @cons _ z _ zs h t =>
      obtain ⟨ys, p, hy⟩ := ih t
      exact ⟨z :: ys, p.cons z, .cons h hy⟩
  | swap a b l =>
    intro xs h
    cases h with
    | @cons _ z _ zs h t =>
      cases t with
      | @cons _ u _ us h2 t => exact ⟨u :: z :: us, List.Perm.swap .., .cons h2 (.cons h t)⟩
  | trans _ _ ih1 ih2 =>
    intro xs h
    obtain ⟨ys, p, hy⟩ := ih2 h
    obtain ⟨zs, q, hz⟩ := ih1 hy
    exact ⟨zs, q.trans p, hz⟩
end
end Ky
namespace Kt
open PySem L2 Evl PySem.Spec PyProof.Rows
/-! one entry laid by a comprehension, its key a text, an int or a tuple of them -/
theorem put_any {X : Cx} {pins : List (Addr × Obj)} {σ : L2.St} {H H' : Hp} {s : Shared} {E : Value → Shared → Prop} {a : Addr} {y v : V} {u r : Value} {Q : Unit → Shared → Prop} (hu : X.A.units < cLine)
    (I : Inv X pins σ H s) (g : DPut H a y v H') (ry : RelV y u) (rv : RelV v r) (h : ∀ t, Inv X pins σ H' t → Q () t) : wpAny (model X.prog X.w) X.A (dictSet a u r) Q E s := by
  rcases g with ⟨ps, k, e, rfl, hl, rfl⟩ | ⟨ps, k, b, e, rfl, eb, hl, rfl⟩
  · exact d_dictSet I e hl ry rv h
  · cases (show u = Value.ref b from ry)
    obtain ⟨hz, ha, zs, hr, dd⟩ := dt_of I.hok e
    have hn : ps.length = zs.length := Paired.length hr
    have hb : (putK ps k v).length ≤ sizeLine := Nat.le_trans (length_putK ps k v) hl
    refine wpAny_dictSet_heap (hsz := by omega) (knd := tupleKind (mixKind X.prog X.w)) hu (key_of I.hok eb) dd fun g' dg sb => h _ ?_
    obtain ⟨o, es, ep, h1, h2, h3, h4, _, h6⟩ := dg
    have kp : ∀ c zs', H c = some (.tup zs') → upd H a (.dT (putK ps k v)) c = some (.tup zs') := fun c zs' ec => by
      rw [upd_ne (fun z => by rw [z, e] at ec; cases ec)]
      exact ec
    exact d_write I (by rw [e]; exact trivial) sb ⟨o, h1⟩ ⟨hb, ha, _, (hr.put k eb rv).keeps kp, o, es, ep, h1, h2, h3, h4, h6⟩
/-! two dicts whose keys are tuples and whose values are all True -/
section
variable {prog : Program} {w : World} {K : Type} [DecidableEq K] {knd : HeapKind prog w K} {A : Around} {E : Value → Shared → Prop} {s : Shared}
def inAll (ys xs : List (K × Addr × Value)) : Bool := xs.all fun x => (atKey ys x.1).isSome
theorem same_tup {nm : String} {a b : Addr} {xs ys : List (K × Addr × Value)} {Q : Bool → Shared → Prop} (hu : knd.room A) (ha : (a == sysModules) = false) (hb : (b == sysModules) = false) (da : s.heap.DictOfH knd a xs) (db : s.heap.DictOfH knd b ys)
    (tx : ∀ x ∈ xs, x.2.2 = .bool true) (ty : ∀ y ∈ ys, y.2.2 = .bool true) (h : Q (xs.length == ys.length && inAll ys xs) s) : wpAny (model prog w) A (Builtin.Dict.samePairs nm a b) Q E s := by
  obtain ⟨oa, es, ep, ga, _, dta, ea, ia, _⟩ := da
  obtain ⟨ob, fs, eq, gb, _, dtb, eb, ib, nb⟩ := db
  have la : es.size = xs.length := size_of_entries ea
  have lb : fs.size = ys.length := size_of_entries eb
  rw [← la, ← lb] at h
  unfold Builtin.Dict.samePairs Builtin.Dict.showsAll
  rw [ha, hb]
  simp only [Bool.false_eq_true, if_false]
  refine wpAny_bind (wpAny_pure (wpAny_bind (wpAny_pure (wpAny_bind (wpAny_dictEntries ga dta ?_)))))
  refine wpAny_bind (wpAny_dictEntries gb dtb ?_)
  by_cases c : es.size = fs.size
  case neg =>
    have c' : (es.size == fs.size) = false := beq_eq_false_iff_ne.mpr c
    rw [c', Bool.false_and] at h
    rw [if_pos (show (es.size != fs.size) = true by unfold bne; rw [c']; rfl)]
    exact wpAny_bind (wpAny_rule (wpAny_pure h))
  case pos =>
    have c' : (es.size == fs.size) = true := beq_iff_eq.mpr c
    rw [c', Bool.true_and] at h
    rw [if_neg (show ¬ (es.size != fs.size) = true by unfold bne; rw [c']; exact Bool.false_ne_true)]
    refine wpAny_bind (wpAny_dictEpoch ga dta (wpAny_bind ?_))
    rw [Std.Legacy.Range.forIn_eq_forIn_range']
    simp only [Std.Legacy.Range.size, Nat.sub_zero, Nat.add_sub_cancel, Nat.div_one]
    refine wpAny_forIn_list _ (fun rest q t => t = s ∧ q = (none, ()) ∧ ∃ n, rest = List.range' n (es.size - n) ∧ n ≤ es.size ∧ inAll ys xs = inAll ys (xs.drop n)) _ ?_ ?_ _ _ ⟨rfl, rfl, 0, by simp, Nat.zero_le _, rfl⟩
    · rintro x rest q t ⟨rfl, rfl, n, er, hn, ei⟩
      have hlt : n < es.size := by
        by_cases z : n < es.size
        · exact z
        · rw [show es.size - n = 0 by omega] at er
          cases er
      obtain ⟨rfl, er2⟩ : x = n ∧ rest = List.range' (n + 1) (es.size - (n + 1)) := by
        rw [show es.size - n = es.size - (n + 1) + 1 by omega, List.range'_succ] at er
        exact ⟨(List.cons.inj er).1, (List.cons.inj er).2⟩
      obtain ⟨⟨k, p, v⟩, hk⟩ : ∃ z, xs[x]? = some z := ⟨xs[x]'(by omega), List.getElem?_eq_getElem _⟩
      have hm : (k, p, v) ∈ xs := List.mem_of_getElem? hk
      have he : es[x]? = some ⟨knd.hash k, .ref p, v⟩ := by rw [entry_at ea x, hk]; rfl
      have hv : v = .bool true := tx _ hm
      have hdr : xs.drop x = (k, p, v) :: xs.drop (x + 1) := by
        obtain ⟨hx, e2⟩ := List.getElem?_eq_some_iff.mp hk
        rw [List.drop_eq_getElem_cons hx, e2]
      have ei2 : inAll ys xs = ((atKey ys k).isSome && inAll ys (xs.drop (x + 1))) := by
        rw [ei, hdr]
        rfl
      refine wpAny_bind (wpAny_dictEntries ga dta ?_)
      rw [he]
      dsimp only
      refine wpAny_bind (wpAny_holding (wpAny_bind (wpAny_dictFind_heap hu (ia _ hm) gb dtb eb ib nb (fun hno => ?_) fun j q hj => ?_)))
      · rw [atKey_none_of_get hno] at ei2
        refine wpAny_pure ?_
        show wpAny _ _ (if (!false) = true then _ else _) _ _ _
        rw [if_pos (show (!false) = true by decide)]
        refine wpAny_pure (wpAny_pure ?_)
        rw [ei2] at h
        exact h
      · have hj2 : atKey ys k = some q := atKey_of_get nb hj
        rw [hj2] at ei2
        refine wpAny_bind (wpAny_dictEntries gb dtb ?_)
        rw [entry_at eb j, hj]
        have hw : q.2 = .bool true := ty _ (List.mem_of_getElem? hj)
        show wpAny _ _ (holding [q.2] (eqBool v q.2)) _ _ _
        rw [hv, hw]
        refine wpAny_holding (SeqAt.EqAt.same (Value.bool true) _ _ _ _ ?_)
        show wpAny _ _ (if (!true) = true then _ else _) _ _ _
        rw [if_neg (by decide)]
        refine wpAny_bind (wpAny_dictEpoch ga dta ?_)
        rw [if_neg (by simp)]
        exact wpAny_pure ⟨rfl, rfl, x + 1, er2, hlt, ei2⟩
    · rintro q t ⟨rfl, rfl, n, er, hn, ei⟩
      have hnn : n = es.size := by
        by_cases z : n < es.size
        · rw [show es.size - n = es.size - (n + 1) + 1 by omega, List.range'_succ] at er
          cases er
        · omega
      rw [ei, hnn, la, List.drop_length] at h
      exact wpAny_pure h
theorem dictH_type {d : Addr} {xs : List (K × Addr × Value)} (m : s.heap.DictOfH knd d xs) : s.TypeIs (.ref d) "dict" := let ⟨o, _, _, g, x, _⟩ := m; ⟨o, g, x.1⟩
theorem eq_tup {a b : Addr} {xs ys : List (K × Addr × Value)} {Q : Value → Shared → Prop} (hr : knd.room A.in1) (hu : A.units < cLine) (ha : (a == sysModules) = false) (hb : (b == sysModules) = false) (da : s.heap.DictOfH knd a xs) (db : s.heap.DictOfH knd b ys)
    (tx : ∀ x ∈ xs, x.2.2 = .bool true) (ty : ∀ y ∈ ys, y.2.2 = .bool true) (h : Q (.bool (xs.length == ys.length && inAll ys xs)) s) : wpAny (model prog w) A (compareOp .Eq (.ref a) (.ref b)) Q E s := by
  have t1 := dictH_type da
  have t2 := dictH_type db
  refine wpAny_richCompare_same_room (op := .Eq) t1 t2 F.slot_dict_eq (wpAny_call_entry F.slot_dict_eq t1 F.entry_dict_eq ?_ (F.args_dict_eq_2 _ _)) hu
  refine show wpAny _ _ (Builtin.Dict.dictSlotArgs "__eq__" ⟨[.ref a, .ref b], []⟩ >>= _) _ _ s from wpAny_bind ?_
  unfold Builtin.Dict.dictSlotArgs
  refine wpAny_bind (wpAny_notOrdered_dict t1 (show wpAny _ _ (pure (Value.ref a, Value.ref b)) _ _ s from wpAny_pure (wpAny_bind (wpAny_isInstance (T := "dict") t2 F.sub_dict_dict ?_))))
  simp only [Bool.not_true, if_false, Bool.false_eq_true]
  refine wpAny_bind (wpAny_pure (wpAny_bind (wpAny_pure (wpAny_bind (same_tup hr ha hb da db tx ty (wpAny_pure ⟨_, rfl, (fun z => nomatch z), ?_⟩))))))
  simpa using h
theorem ne_tup {a b : Addr} {xs ys : List (K × Addr × Value)} {Q : Value → Shared → Prop} (hr : knd.room A.in1) (hu : A.units < cLine) (ha : (a == sysModules) = false) (hb : (b == sysModules) = false) (da : s.heap.DictOfH knd a xs) (db : s.heap.DictOfH knd b ys)
    (tx : ∀ x ∈ xs, x.2.2 = .bool true) (ty : ∀ y ∈ ys, y.2.2 = .bool true) (h : Q (.bool (!(xs.length == ys.length && inAll ys xs))) s) : wpAny (model prog w) A (compareOp .NotEq (.ref a) (.ref b)) Q E s := by
  have t1 := dictH_type da
  have t2 := dictH_type db
  refine wpAny_richCompare_same_room (op := .NotEq) t1 t2 F.slot_dict_ne (wpAny_call_entry F.slot_dict_ne t1 F.entry_dict_ne ?_ (F.args_dict_ne_2 _ _)) hu
  refine show wpAny _ _ (Builtin.Dict.dictSlotArgs "__ne__" ⟨[.ref a, .ref b], []⟩ >>= _) _ _ s from wpAny_bind ?_
  unfold Builtin.Dict.dictSlotArgs
  refine wpAny_bind (wpAny_notOrdered_dict t1 (show wpAny _ _ (pure (Value.ref a, Value.ref b)) _ _ s from wpAny_pure (wpAny_bind (wpAny_isInstance (T := "dict") t2 F.sub_dict_dict ?_))))
  simp only [Bool.not_true, if_false, Bool.false_eq_true]
  refine wpAny_bind (wpAny_pure (wpAny_bind (wpAny_pure (wpAny_bind (same_tup hr ha hb da db tx ty (wpAny_pure ⟨_, rfl, (fun z => nomatch z), ?_⟩))))))
  simpa using h
end
/-! the rules over the layer -/
def tru (ks : List (List Key)) : HO := .dT (ks.map fun k => (k, V.bl true))
/-- the same keys, whatever their order (each list without repeats) -/
def sameK {K : Type} [DecidableEq K] (ks ls : List K) : Bool := ks.length == ls.length && ks.all fun k => decide (k ∈ ls)
theorem kt_tru {H : Hp} : ∀ {ks : List (List Key)} {xs : List (List Key × Addr × Value)}, KT H (ks.map fun k => (k, V.bl true)) xs → xs.map (·.1) = ks ∧ ∀ x ∈ xs, x.2.2 = .bool true
  | [], xs, h => by cases h; exact ⟨rfl, fun _ z => nomatch z⟩
  | k :: ks, xs, h => by
    cases h with
    | @cons _ y _ ys hq t =>
      obtain ⟨e1, e2⟩ := kt_tru t
      refine ⟨by rw [List.map_cons, e1, ← hq.1], fun x hx => ?_⟩
      rcases List.mem_cons.mp hx with rfl | hx
      · exact hq.2.2
      · exact e2 x hx
theorem atKey_mem {K : Type} [DecidableEq K] (k : K) (ys : List (K × Addr × Value)) : (atKey ys k).isSome = decide (k ∈ ys.map (·.1)) := by
  rw [← any_pairsH]
  unfold pairsH
  rw [List.any_map, Bool.eq_iff_iff, List.any_eq_true, decide_eq_true_iff, List.mem_map]
  constructor
  · rintro ⟨x, h1, h2⟩
    exact ⟨x, h1, of_decide_eq_true h2⟩
  · rintro ⟨x, h1, h2⟩
    exact ⟨x, h1, decide_eq_true h2⟩
theorem inAll_mem {K : Type} [DecidableEq K] (xs ys : List (K × Addr × Value)) : inAll ys xs = (xs.map (·.1)).all fun k => decide (k ∈ ys.map (·.1)) := by
  unfold inAll
  rw [List.all_map]
  congr 1
  funext x
  exact atKey_mem x.1 ys
section
variable {X : Cx}
def rEqT : R2 := fun x y H Q => ∃ a b ks ls, x = .ref a ∧ y = .ref b ∧ H a = some (tru ks) ∧ H b = some (tru ls) ∧ Q (.bl (sameK ks ls)) H
def rNeT : R2 := fun x y H Q => ∃ a b ks ls, x = .ref a ∧ y = .ref b ∧ H a = some (tru ks) ∧ H b = some (tru ls) ∧ Q (.bl (!sameK ks ls)) H
theorem op_eqT (hu : X.A.units + 1 < cLine) : OpR X (compareOp .Eq) rEqT := by
  intro pins s σ H x y v u Q I rx ry h
  obtain ⟨a, b, ks, ls, rfl, rfl, ea, eb, q⟩ := h
  cases (show v = Value.ref a from rx)
  cases (show u = Value.ref b from ry)
  obtain ⟨_, ya, za, ra, da⟩ := dt_of I.hok ea
  obtain ⟨_, yb, zb, rb, db⟩ := dt_of I.hok eb
  obtain ⟨e1, t1⟩ := kt_tru ra
  obtain ⟨e2, t2⟩ := kt_tru rb
  refine eq_tup (knd := tupleKind (mixKind X.prog X.w)) (show X.A.units + 1 < cLine from hu) (by omega) ya yb da db t1 t2 ⟨.bl _, H, I, rfl, ?_⟩
  rw [inAll_mem, e1, e2, ← List.length_map (f := (·.1)) (as := za), ← List.length_map (f := (·.1)) (as := zb), e1, e2]
  exact q
theorem op_neT (hu : X.A.units + 1 < cLine) : OpR X (compareOp .NotEq) rNeT := by
  intro pins s σ H x y v u Q I rx ry h
  obtain ⟨a, b, ks, ls, rfl, rfl, ea, eb, q⟩ := h
  cases (show v = Value.ref a from rx)
  cases (show u = Value.ref b from ry)
  obtain ⟨_, ya, za, ra, da⟩ := dt_of I.hok ea
  obtain ⟨_, yb, zb, rb, db⟩ := dt_of I.hok eb
  obtain ⟨e1, t1⟩ := kt_tru ra
  obtain ⟨e2, t2⟩ := kt_tru rb
  refine ne_tup (knd := tupleKind (mixKind X.prog X.w)) (show X.A.units + 1 < cLine from hu) (by omega) ya yb da db t1 t2 ⟨.bl _, H, I, rfl, ?_⟩
  rw [inAll_mem, e1, e2, ← List.length_map (f := (·.1)) (as := za), ← List.length_map (f := (·.1)) (as := zb), e1, e2]
  exact q
end
end Kt
namespace Kt
open PySem L2 Evl PySem.Spec PyProof.Rows
/-- {k: v for .. in .. if ..}: the keys texts, ints or tuples of them (o0 the empty dict of that kind) -/
def tDcP (o0 : HO) (wi : TI) (g : TG) (tt : TT) (tk tv : TE) (ns : List Nat) : TE := fun σ H Q => wi σ H fun J H1 => ∀ D, H1 D = none → ∃ W : Nat → Nat → Hp → Prop, (∃ m, W 0 m (upd H1 D o0)) ∧ ∀ n m G, W n m G →
  (J.stop n G ∧ Q (.ref D) G) ∨ (J.go n G ∧ ∃ Nx : Hp → Prop, (∀ G', Nx G' → ∃ m', m' < m ∧ W (n + 1) m' G') ∧ ∀ x G', J.yld n G x G' → g x (wipe σ ns) G' fun τ G2 => wipe τ ns = wipe σ ns ∧ tt τ G2 fun b G3 =>
    if b = true then tk τ G3 fun y G4 => tv τ G4 fun z G5 => ∃ G6, DPut G5 D y z G6 ∧ Nx G6 else Nx G3)
def Bare (o0 : HO) : Prop := o0 = .dK [] ∨ o0 = .dT []
theorem Bare.ok {o0 : HO} (b : Bare o0) {P : Program} {w : World} {H : Hp} (h : Heap) (hb : sysModules < h.objs.size) : ObjOk P w H (h.push { cls := .type "dict", data := .dict #[] }) h.objs.size o0 := by
  rcases b with rfl | rfl
  · exact dk_empty h hb
  · exact dt_empty h hb
section
variable {X : Cx}
theorem pe_dcP {o0 : HO} {kx vx tg iter : Expr} {ifs : List Expr} {scope : Scope} {own : List (Str × Nat)} {pos : Pos} {wi : TI} {g : TG} {tt : TT} {tk tv : TE} (b0 : Bare o0) (hu : X.A.units < cLine) (hc : X.calm = true) (hN : X.N.Nodup) (hi : PI X tg iter wi) (ok : BlkOk X.N X.env.scope scope own)
    (hg : ∀ (t : Shared) (G : Hp) (C : Addr) (cl : List (Str × Addr)) (fp : List Addr), PG (X.blk t G scope (compEnvC scope cl C X.env) fp) tg g) (ht : ∀ (t : Shared) (G : Hp) (C : Addr) (cl : List (Str × Addr)) (fp : List Addr), PTs (X.blk t G scope (compEnvC scope cl C X.env) fp) ifs tt)
    (hk : ∀ (t : Shared) (G : Hp) (C : Addr) (cl : List (Str × Addr)) (fp : List Addr), PE (X.blk t G scope (compEnvC scope cl C X.env) fp) kx tk) (hv : ∀ (t : Shared) (G : Hp) (C : Addr) (cl : List (Str × Addr)) (fp : List Addr), PE (X.blk t G scope (compEnvC scope cl C X.env) fp) vx tv)
    (hs : ∀ x, foldedSetIterable iter X.env x = pure x := by intro _; rfl) : PE X (.DictComp kx vx [⟨tg, iter, ifs, 0⟩] scope pos) (tDcP o0 wi g tt tk tv (own.map (·.2))) := by
  refine ⟨fun pins s σ H Q I h => ?_⟩
  rw [arm_eval_DictComp]
  have free : ∀ y ∈ scope.names, y.2 = .free → ∃ c, X.env.cells.lookup y.1 = some c := fun y hy e => (ok.free y hy e).elim (fun z => I.ok.has _ (.inl z)) fun z => I.ok.has _ (.inr z)
  refine wpAny_comprehension_free rfl hs (closure_ok free) ok.kind (fun y hy e => by rw [ok.uniq y hy, e]) (thn (hi.run pins s σ H _ I h) fun _ _ hx => thn hx fun _ t ht2 => ?_)
  obtain ⟨it, fp, tn, J, H2, rfl, I2, T, st, fpk, q⟩ := ht2
  refine wpAny_newObj_type (newEnv_comp ?_)
  obtain ⟨D, hD⟩ : ∃ D, D = t.heap.objs.size := ⟨_, rfl⟩
  have freshD : H2 D = none := I2.hok.fresh (Nat.le_of_eq hD.symm)
  obtain ⟨W, ⟨m0, w0⟩, turn⟩ := q D freshD
  obtain ⟨G3, hG3⟩ : ∃ G3, G3 = upd H2 D o0 := ⟨_, rfl⟩
  obtain ⟨t3, ht3⟩ : ∃ t3 : Shared, t3 = { t with heap := t.heap.push { cls := .type "dict", data := .dict #[] } } := ⟨_, rfl⟩
  have hp3 : t3.heap = t.heap.push { cls := .type "dict", data := .dict #[] } := by rw [ht3]
  have I3 : Inv X pins σ G3 t3 := by
    rw [ht3, hG3]
    refine I2.laid (t' := t.toks) (fun _ _ e => Heap.get?_push_of_some _ e) (Nat.le_of_eq hD.symm) ?_
    rw [hD]
    exact b0.ok t.heap I2.big
  have old : ∀ b ∈ fp, b < t.heap.objs.size := fun b hb => let ⟨_, e, _⟩ := T.obj _ _ st b hb; Heap.lt_size e
  have fpk3 : ∀ b ∈ fp, FpOk X pins G3 b ∧ b < t3.heap.objs.size := fun b hb => by
    have lt := old b hb
    have ne : b ≠ D := by rw [hD]; exact Nat.ne_of_lt lt
    have e3 : G3 b = none := by rw [hG3, upd_ne ne]; exact (fpk b hb).1
    exact ⟨⟨e3, (fpk b hb).2⟩, by rw [hp3, Heap.size_push]; exact Nat.lt_succ_of_lt lt⟩
  have st3 : tn 0 t3.heap := T.keep _ _ _ st fun _ _ _ e => by rw [hp3]; exact Heap.get?_push_of_some _ e
  have I4 := block_start I3 ok hN fpk3
  obtain ⟨cl, hcl⟩ : ∃ cl, cl = cellsFrom (t3.heap.objs.size + 1) scope.names (cloFrom X.env.cells scope.names []) := ⟨_, rfl⟩
  obtain ⟨ce, hce⟩ : ∃ ce, ce = compEnvC scope cl t3.heap.objs.size X.env := ⟨_, rfl⟩
  have pg := hg t3 G3 t3.heap.objs.size cl fp
  have pt := ht t3 G3 t3.heap.objs.size cl fp
  have pk := hk t3 G3 t3.heap.objs.size cl fp
  have pv := hv t3 G3 t3.heap.objs.size cl fp
  have hloc : ce.locals = t3.heap.objs.size := by rw [hce]; rfl
  obtain ⟨t4, ht4⟩ : ∃ t4 : Shared, t4 = { t3 with heap := pushCells (t3.heap.push { cls := .type "dict", data := .dict #[] }) scope.names } := ⟨_, rfl⟩
  rw [← hcl, ← hce, ← ht4] at I4
  rw [← hce] at pg pt pk pv
  have w3 : W 0 m0 G3 := by rw [hG3]; exact w0
  have none3 : ∀ b ∈ fp, G3 b = none := fun b hb => (fpk3 b hb).1.1
  have st4 : tn 0 t4.heap := T.keep _ _ _ st3 fun _ _ _ e => by rw [ht4]; exact pushCells_keeps _ _ _ _ (Heap.get?_push_of_some _ e)
  have stays : ∀ {τ : L2.St} {G : Hp} {r : Shared}, Inv (X.blk t3 G3 scope ce fp) [] τ G r → (∀ b ∈ fp, G b = none) → ∀ b ∈ fp, FpOk (X.blk t3 G3 scope ce fp) [] G b := fun {τ G r} J' hn b hb =>
    ⟨hn b hb, (J'.ok.exf b hb).1, J'.ok.exfs b hb, .inl hb, fun x c e => (J'.ok.exf b hb).2 x c e, fun p hp => absurd (show p ∈ ([] : List (Addr × Obj)) ++ [] from hp) (by simp)⟩
  have loop : codeAny (model X.prog X.w) X.A (.compLoop (.DictComp kx vx [⟨tg, iter, ifs, 0⟩] scope pos) 0 (.ref it) (.ref D) ce) (compPost (model X.prog X.w) X.A X.xe none (fun v s' => ∃ x H', Inv X pins σ H' s' ∧ RelV x v ∧ Q x H') (.ref D) t3.heap.objs.size) t4 := by
    refine compLoop_anyD (fun n r => ∃ i G, Inv (X.blk t3 G3 scope ce fp) [] (wipe σ (own.map (·.2))) G r ∧ tn i r.heap ∧ (∀ b ∈ fp, G b = none) ∧ W i n G) ?_ m0 ⟨0, G3, I4, st4, none3, w3⟩
    rintro n r5 ⟨i, G5, I5, st5, none5, w5⟩
    rcases turn i n G5 w5 with ⟨stop, fin⟩ | ⟨go, Nx, down, step⟩
    · refine thnF (T.done (X.blk t3 G3 scope ce fp) rfl rfl rfl hc i [] r5 _ G5 (fun _ _ => False) I5 (stays I5 none5) st5 stop) fun _ r6 ⟨hr, I6⟩ => ?_
      subst hr
      have I7 : Inv X pins σ G5 r6 := I3.call' (ch := fp) I6.os I6.base I6.hok I6.bare fun b hb => let z := (fpk3 b hb).1; ⟨z.2.2.2.1, z.2.1, z.2.2.2.2.1, z.2.2.2.2.2⟩
      have hC : G5 t3.heap.objs.size = none := by rw [← hloc]; exact I6.free
      obtain ⟨m, hn, _⟩ := I6.loc
      have hn2 : r6.heap.Ns t3.heap.objs.size m := by rw [← hloc]; exact hn
      obtain ⟨f0, f1, f2, f3, f4, f5⟩ := I3.fpOk (Nat.le_refl _) hC
      exact ⟨m, hn2, fun h'' sb => ⟨.ref D, G5, I7.turned (t' := r6.toks) (fun b o hb e => (sb.2 b hb).trans e) f0 f1 f3 f4 f5, rfl, fin⟩⟩
    · refine thnF (T.item (X.blk t3 G3 scope ce fp) rfl rfl rfl hc i [] r5 _ G5 (fun _ _ => False) I5 (stays I5 none5) st5 go) fun _ r6 ⟨u, hr, h6⟩ => ?_
      subst hr
      refine thnF h6 fun _ r7 ⟨x, G7, I7, rel7, y7, st7, none7⟩ => ?_
      refine thnF (pg.run _ r7 _ G7 x u _ (I7.pinned (stays I7 none7) (T.obj _ _ st7)) rel7 (step x G7 y7)) fun _ r8 ⟨τ, G8, I8, same, q8⟩ => ?_
      refine thnF (pt.run _ r8 τ G8 _ I8 q8) fun b r9 ⟨G9, I9, q9⟩ => ?_
      have back : ∀ {r : Shared} {G : Hp}, Inv (X.blk t3 G3 scope ce fp) ([] ++ pinsAt fp r7.heap) τ G r → Nx G → ∃ m, m < n ∧ ∃ i G, Inv (X.blk t3 G3 scope ce fp) [] (wipe σ (own.map (·.2))) G r ∧ tn i r.heap ∧ (∀ b ∈ fp, G b = none) ∧ W i m G := fun {r G} J' nx => by
        obtain ⟨m', lt, w'⟩ := down G nx
        have pin : ∀ b ∈ fp, ∀ o, r7.heap.get? b = some o → r.heap.get? b = some o ∧ G b = none := fun b hb o e => let z := J'.pin (b, o) (List.mem_append_right _ (List.mem_append_right _ (mem_pinsAt hb e))); ⟨z.1, z.2.1⟩
        have len : (wipe σ (own.map (·.2))).length = τ.length := by rw [← same]; exact wipe_length ..
        refine ⟨m', lt, i + 1, G, (J'.unpinned (pins := [])).weak len (fun j v e => (wipe_some (by rw [same]; exact e)).1), T.keep _ _ _ st7 fun b hb o e => (pin b hb o e).1, fun b hb => ?_, w'⟩
        obtain ⟨o, e, _⟩ := T.obj _ _ st7 b hb
        exact (pin b hb o e).2
      cases b with
      | false => exact back I9 (by simpa using q9)
      | true =>
        rw [if_pos rfl] at q9 ⊢
        refine thnF (pk.run _ r9 τ G9 _ I9 q9) fun ku r10 ⟨yk, G10, I10, rk, q10⟩ => ?_
        refine thnF (pv.run _ r10 τ G10 _ I10 q10) fun vu r11 ⟨yv, G11, I11, rv, G12, put, nx⟩ => ?_
        exact put_any (X := X.blk t3 G3 scope ce fp) hu I11 put rk rv fun r12 I12 => back I12 nx
  have start := codeAny_compStart_dict loop (T.self X.A 0 _ _ _ st4 loop)
  rw [hD] at start
  subst ht3 hce hcl ht4
  exact start
end
end Kt
/-! what a def binds whose defaults stand in a known tuple -/
namespace Kd
open PySem L2
theorem dfl_binds {K : PySem.W.Frag} {x qual : Str} {params : Arguments} {body : List Stmt} {scope : Scope} {dvs : List V} {f T : Addr} {kV doc pm cdv ct to : Value} {an td : Option Addr} {its : List Value} {m : Nat} {sl : Array (Option Value)} {ps : List Str}
    (F : FunD K x qual params body scope dvs [] f (PySem.W.fnOf x qual params body scope (.ref T) kV doc pm an cdv ct)) (lT : K.lookup T = some ⟨to, td, .seq its.toArray m, sl⟩) (n j : Nat) (hn : n + (its.length - j) = ps.length)
    (h : ∀ us zs : List Value, us.length = n → zs.length = its.length → ∃ k, bindArgs (PySem.W.fnOf x qual params body scope (.ref T) kV doc pm an cdv ct) ⟨us, []⟩ = seqItems? (.ref T) >>= k ∧ k (some zs.toArray) = pure (ps.zip (us ++ zs.drop j))) :
    Binds K (PySem.W.fnOf x qual params body scope (.ref T) kV doc pm an cdv ct) ps (its.drop j) := fun s us hK hl => by
  rw [List.length_append, List.length_drop] at hl
  obtain ⟨k, e1, e2⟩ := h us its (by omega) rfl
  refine BindsTo.of_looks fun M => ?_
  rw [e1]
  exact looks_items hK lT rfl (.of_pure e2)
end Kd
/-! Calls with stars and keywords at once: what a def with a star parameter and keyword-only parameters promises, and the calls of it (a class in a local name, a classmethod, a method). -/
namespace PySem.W
open PySem PySem.Calls PyProof.Rows
section
variable {M : Model} {A : Around} {E : Value → Shared → Prop} {s : Shared}
theorem ks_callK {f : Value} {first : List Value} {pos : Pos} {Q : Value → Shared → Prop} {P : Heap → Prop} {args : List (Bool × Sem Value)} {keywords : List (Option Str × Sem Value)} (hst : args.any (·.1) = true)
    (hk : ∀ h, P h → ∃ k, (k = Keeper.frame ∨ k = Keeper.machine ∨ k = Keeper.boundFrame) ∧ Looks M h (keeperOf f) k)
    (h : wpAny M A (evalArgs f true args keywords) (fun a s₁ => P s₁.heap ∧ wpAny M A (call f (first ++ a.pos) a.kw) Q E s₁) E s) : wpAny M A (callWith pos f first args keywords) Q E s := by
  unfold callWith
  refine wpAny_bind (wpAny_holding (wpAny_mono h (fun a s₁ h₁ => wpAny_bind (wpAny_standAt ?_)) fun _ _ x => x))
  obtain ⟨k, hk', L⟩ := hk _ h₁.1
  simp only [hst, Bool.true_or]
  refine wpAny_bind (L.here ?_)
  have tail : ∀ {t : Sem Value}, wpAny M A t Q E s₁ → wpAny M A (t >>= fun r => holding [r] point >>= fun _ => pure r) Q E s₁ :=
    fun ht => wpAny_bind (wpAny_mono ht (fun r s₂ hr => wpAny_bind (wpAny_holding (wpAny_point (wpAny_pure hr)))) fun _ _ x => x)
  have marked (mk : Value) : wpAny M A (callMarked mk f (first ++ a.pos) a.kw) Q E s₁ := by unfold callMarked; exact Calls.wpAny_keep h₁.2
  rcases hk' with rfl | rfl | rfl <;> dsimp only <;> first | exact tail (marked _) | exact tail (wpAny_operating h₁.2)
end
end PySem.W
namespace Kw
open PySem PySem.Spec PyProof.Rows L2
abbrev Sp2 := List V → List V → Hp → VK → XK → Prop
/-- what the def at f promises of values vs and keyword values zs (named ks) -/
def FnA (P : Program) (w : World) (K : PySem.W.Frag) (mg : Str → Option Value) (base : Heap) (CX : CXT) (k : Nat) (f : Addr) (ks : List Str) (sp : Sp2) : Prop :=
  ∀ (A : Around) (outer : List Env) (s : Shared) (H : Hp) (us ws : List Value) (vs zs : List V) (Q : VK) (E : XK), Room k A → Env0 P w K mg base A outer s H → Vals vs us → Vals zs ws → zs.length = ks.length → sp vs zs H Q E →
    codeAny (model P w) A (.call (.ref f) ⟨us, ks.zip ws⟩) (CR CX outer P w H s Q E) s
section
variable {P : Program} {w : World} {K : PySem.W.Frag} {mg : Str → Option Value} {base : Heap} {CX : CXT} {j k : Nat} {f : Addr} {ks : List Str} {sp : Sp2}
theorem FnA.r (F : FnA P w K mg base CX k f [] sp) : FnR P w K mg base CX k f (fun vs H Q E => sp vs [] H Q E) := fun A outer s H us vs Q E hr e0 r h => F A outer s H us [] vs [] Q E hr e0 r .nil rfl h
theorem FnA.mono (F : FnA P w K mg base CX j f ks sp) (h : j ≤ k) : FnA P w K mg base CX k f ks sp := fun A outer s H us ws vs zs Q E hr => F A outer s H us ws vs zs Q E (hr.mono h)
theorem FnA.imp {sp' : Sp2} (F : FnA P w K mg base CX k f ks sp) (h : ∀ vs zs H Q E, sp' vs zs H Q E → sp vs zs H Q E) : FnA P w K mg base CX k f ks sp' := fun A outer s H us ws vs zs Q E hr e0 r rz hl q => F A outer s H us ws vs zs Q E hr e0 r rz hl (h _ _ _ _ _ q)
theorem fnA_of {fd : FuncData} {ps : List Str} {sp : Sp} {n : Nat} {g : List Value → List Value → List Value} {gV : List V → List V → List V} (F : FnOk P w K mg base CX k f fd ps sp) (hb : KBn K fd ps n ks g gV) :
    FnA P w K mg base CX k f ks (fun vs zs H Q E => vs.length = n ∧ sp (gV vs zs) H Q E) := fun A outer s H us ws vs zs Q E hr e0 r rz hl ⟨h1, h2⟩ =>
  F.run A outer s H _ _ _ Q E hr e0 (hb.to s us ws (e0.mod.kin.keeps fun b o e => (e0.bs b o e).1) (r.length.symm.trans h1) (rz.length.symm.trans hl)) (hb.rel r rz) h2
end
section
variable {CX : CXT} {P : Program} {w : World} {K : PySem.W.Frag} {mg : Str → Option Value} {base : Heap} {k : Nat} {f : Addr} {name qual : Str} {params : Arguments} {body : List Stmt} {scope : Scope} {dV kV doc pm cdv ct oc : Value} {an od : Option Addr}
  {osl : Array (Option Value)} {N ps qs ks : List Str} {sp : Sp} {pv : Str} {dz : List V} {dw : List Value}
/-- what bindArgs does: looks the lacking keyword-only ones up, lays the tuple of what is left over -/
def StarB (K : PySem.W.Frag) (fd : FuncData) (ps qs ks : List Str) (pv : Str) (dw : List Value) : Prop := ∀ us rest ws : List Value, us.length = ps.length → ws.length = ks.length →
  ∃ (α : Type) (t : Sem α) (r : α) (c : α → Sem (List (Str × Value))), bindArgs fd ⟨us ++ rest, ks.zip ws⟩ = t >>= c ∧ (∀ M h, K.In h → PySem.W.Looks M h t r) ∧ c r = (newTuple rest >>= fun tp => pure (ps.zip us ++ (qs.zip (ws ++ dw) ++ [(pv, tp)])))
/-- def f(a, .., *v, k = d) -/
theorem fn_starB (lk : K.lookup f = some ⟨oc, od, .func (PySem.W.fnOf name qual params body scope dV kV doc pm an cdv ct), osl⟩) (hcd : PySem.W.codeIn K cdv qual = true) (S : FnScope N (ps ++ (qs ++ [pv])) scope) (hCX : StX.CXUp CX) (hdz : Vals dz dw) (hq : ks.length + dz.length = qs.length)
    (hb : StarB K (PySem.W.fnOf name qual params body scope dV kV doc pm an cdv ct) ps qs ks pv dw)
    (hbody : ∀ (A : Around) (outer : List Env) (s : Shared) (H : Hp) (vs : List V) (Q : VK) (E : XK), Room k (A.deeper (envOfC qual scope s.heap.objs.size f cdv)) → sp vs H Q E →
      ∃ t, PSs (cxOf CX P w K mg base N qual scope f cdv A outer s H E) body t ∧ t { nx := fun _ H' => Q .non H', rt := Q } (start N vs) H) :
    FnA P w K mg base CX (k + 1) f ks (fun vs zs H Q E => ∃ ws rest, vs = ws ++ rest ∧ ws.length = ps.length ∧ rest.length ≤ sizeLine ∧ ∀ p, H p = Option.none → sp (ws ++ ((zs ++ dz) ++ [V.ref p])) (upd H p (.tup rest)) Q E) := by
  intro A outer s H us kw vs zs Q E hr e0 r rz hkl hsp
  obtain ⟨ws, rest, ev, hl, hz, hq2⟩ := hsp
  subst ev
  obtain ⟨u1, u2, eu, r1, r2⟩ := StX.vals_split r
  subst eu
  have hn : H s.heap.objs.size = Option.none := e0.hok.fresh (Nat.le_refl _)
  have hl1 : u1.length = ps.length := by rw [← r1.length]; exact hl
  have hl2 : u2.length ≤ sizeLine := by rw [← r2.length]; exact hz
  have hkw : kw.length = ks.length := by rw [← rz.length]; exact hkl
  refine StX.run_bnd lk hcd S hr e0 (G := fun xs H2 => ∃ p, H p = Option.none ∧ xs = ws ++ ((zs ++ dz) ++ [V.ref p]) ∧ H2 = upd H p (.tup rest)) (fun A' Ex Q' h => ?_) fun s2 H2 xs ⟨p, hp, ex, eH⟩ hr' => ?_
  · obtain ⟨α, t, rr, c, e1, e2, e3⟩ := hb u1 u2 kw hl1 hkw
    have KX : K.In s.heap := e0.mod.kin.keeps fun b o e => (e0.bs b o e).1
    rw [e1]
    refine wpAny_bind ((e2 _ _ KX).here ?_)
    rw [e3]
    refine wpAny_bind (wpAny_newTuple (wpAny_pure ?_) hl2)
    have new : ObjOk P w (upd H s.heap.objs.size (.tup rest)) (s.heap.push ({ cls := .type "tuple", data := .seq u2.toArray } : Obj)) s.heap.objs.size (.tup rest) := ⟨hz, u2, r2, ⟨_, Heap.get?_push_size _ rfl, rfl, _, rfl⟩⟩
    have un := StX.un_laid (fs := frs outer) (s := s) (o := ({ cls := .type "tuple", data := .seq u2.toArray } : Obj)) (u := .tup rest) hn
    have z := h _ _ (ws ++ ((zs ++ dz) ++ [V.ref s.heap.objs.size])) (u1 ++ ((kw ++ dw) ++ [Value.ref s.heap.objs.size])) (StX.env0_laid e0 new) un rfl (fun e s' => hCX outer s H _ _ E e s' un (fun b o q => Heap.get?_push_of_some _ q) rfl) (r1.append ((rz.append hdz).append (.cons rfl .nil)))
      (by rw [List.length_append, List.length_append, List.length_append, List.length_append, List.length_append, hl, hkl, hq] <;> rfl) ⟨_, hn, rfl, rfl⟩
    rw [List.zip_append hl1.symm, List.zip_append (by rw [List.length_append, hkw, ← hdz.length, hq])] at z
    exact z
  · subst ex eH
    exact hbody A outer s2 _ _ Q E hr' (hq2 p hp)
end
section
variable {K : PySem.W.Frag} {fd : FuncData} {ps qs ks : List Str} {pv : Str}
/-- every keyword-only parameter is written (or there is none) -/
theorem starB_all (h : ∀ us rest ws : List Value, us.length = ps.length → ws.length = ks.length → bindArgs fd ⟨us ++ rest, ks.zip ws⟩ = (newTuple rest >>= fun tp => pure (ps.zip us ++ (qs.zip ws ++ [(pv, tp)])))) : StarB K fd ps qs ks pv [] := fun us rest ws h1 h2 =>
  ⟨Unit, pure (), (), fun _ => bindArgs fd ⟨us ++ rest, ks.zip ws⟩, by rw [pure_bind], fun M hp _ => PySem.W.Looks.of_pure rfl, by rw [List.append_nil]; exact h us rest ws h1 h2⟩
/-- one keyword-only parameter, which lacks -/
theorem starB_one {D : Addr} {n : Str} {u : Value} (hn : PySem.W.nsIn K D n = some (some u))
    (h : ∀ us rest : List Value, us.length = ps.length → ∃ (β γ : Type) (k1 : Option Value → Sem β) (k2 : β → Sem γ) (k3 : γ → Sem (List (Str × Value))) (a : β),
      bindArgs fd ⟨us ++ rest, []⟩ = ((nsGet D n >>= k1) >>= k2) >>= k3 ∧ k1 (some u) = pure a ∧ (k2 a >>= k3) = (newTuple rest >>= fun tp => pure (ps.zip us ++ (qs.zip [u] ++ [(pv, tp)])))) : StarB K fd ps qs [] pv [u] := fun us rest ws h1 h2 => by
  obtain ⟨β, γ, k1, k2, k3, a, e1, e2, e3⟩ := h us rest h1
  have ew : ws = [] := List.length_eq_zero_iff.mp h2
  subst ew
  refine ⟨β, nsGet D n >>= k1, a, fun b => k2 b >>= k3, ?_, fun M hp X => (PySem.W.looks_nsIn X hn).andThen (PySem.W.Looks.of_pure e2), e3⟩
  rw [← bind_assoc]
  exact e1
variable {P : Program} {w : World} {mg : Str → Option Value} {base : Heap} {x qual : Str} {params : Arguments} {body : List Stmt} {scope : Scope} {dvs dz : List V} {kws : List (Str × V)} {f : Addr} {N : List Str} {k : Nat} {sp : Sp} {dw : List Value}
/-- THE RULE for a def with a star parameter -/
theorem star_ok (F : FunD K x qual params body scope dvs kws f fd) (S : FnScope N (ps ++ (qs ++ [pv])) scope) (hdz : Vals dz dw) (hq : ks.length + dz.length = qs.length) (hb : StarB K fd ps qs ks pv dw)
    (hbody : ∀ (cdv : Value) (A : Around) (outer : List Env) (s : Shared) (H : Hp) (vs : List V) (Q : VK) (E : XK), Room k (A.deeper (envOfC qual scope s.heap.objs.size f cdv)) → sp vs H Q E →
      ∃ t, PSs (cxOf CX0 P w K mg base N qual scope f cdv A outer s H E).nox body t ∧ t { nx := fun _ H' => Q .non H', rt := Q } (start N vs) H) :
    FnA P w K mg base CX0 (k + 1) f ks (fun vs zs H Q E => ∃ ws rest, vs = ws ++ rest ∧ ws.length = ps.length ∧ rest.length ≤ sizeLine ∧ ∀ p, H p = Option.none → sp (ws ++ ((zs ++ dz) ++ [V.ref p])) (upd H p (.tup rest)) Q E) := by
  obtain ⟨oc, od, dV, kV, doc, pm, an, cdv, ct, osl, rfl, lk, hcd, _, _⟩ := F.ex
  refine fn_starB lk hcd S StX.cxUp_none hdz hq hb fun A outer s H vs Q E hr hsp => ?_
  obtain ⟨t, h, q⟩ := hbody cdv A outer s H vs Q E hr hsp
  exact ⟨t, h.nox, q⟩
end
/-! ### the calls -/
section
variable {X : Cx} {CX : CXT} {k i : Nat} {f C p g : Addr} {mc : Value} {ks : List Str} {sp : Sp2} {E : XK} {x m : Str} {o e : Expr} {es : List Expr} {kws : List Keyword} {te ta tf : TE} {t tk : TA} {np pos apos : Pos} {pl : Sem Bool}
theorem run_fnA {pins : List (Addr × Obj)} {σ : L2.St} {H : Hp} {s : Shared} {Q : VK} {us ws : List Value} {vs zs : List V} (F : FnA X.prog X.w X.K X.mg X.base CX k f ks sp) (hr : Room k X.A) (hx : Passes CX X E) (I : Inv X pins σ H s) (r : Vals vs us) (rz : Vals zs ws) (hl : zs.length = ks.length) (h : sp vs zs H Q E) :
    codeAny (model X.prog X.w) X.A (.call (.ref f) ⟨us, ks.zip ws⟩) (fun r s' => match r with | .ok (.ret v) => EP X pins σ Q v s' | .ok _ => False | .error e => X.xe e s') s := by
  refine codeAny_mono (F X.A X.stack s H us ws vs zs Q E hr I.env0 r rz hl h) fun r s' hq => ?_
  cases r with
  | error e => exact hx pins σ H s e s' I hq
  | ok fl =>
    cases fl with
    | ret u => exact I.after hq
    | next => exact False.elim hq
    | brk => exact False.elim hq
    | cont => exact False.elim hq
theorem run_makeA {pins : List (Addr × Obj)} {σ : L2.St} {H : Hp} {s : Shared} {Q : VK} {us ws : List Value} {vs zs : List V} (M : Mk X.K C f) (F : FnA X.prog X.w X.K X.mg X.base CX k f ks sp) (hr : Room (k + 1) X.A) (hx : Passes CX X E) (I : Inv X pins σ H s) (r : Vals vs us) (rz : Vals zs ws) (hl : zs.length = ks.length)
    (h : ∀ x dx, H x = Option.none → H dx = Option.none → dx ≠ x → sp (V.ref x :: vs) zs (upd (upd H dx (.own x)) x (.ins C dx [])) (fun v H2 => v = .non ∧ Q (.ref x) H2) E) :
    wpAny (model X.prog X.w) X.A (call (.ref C) us (ks.zip ws)) (EP X pins σ Q) X.xe s := by
  have hq := h (s.heap.objs.size + 1) s.heap.objs.size (I.hok.fresh (Nat.le_succ _)) (I.hok.fresh (Nat.le_refl _)) (Nat.ne_of_lt (Nat.lt_succ_self _))
  have I2 := Inv.made (C := C) I
  have r2 : Vals (V.ref (s.heap.objs.size + 1) :: vs) (Value.ref (s.heap.objs.size + 1) :: us) := .cons rfl r
  refine wpAny_call (make_map (f := f) I.kIn M.makes M.init (beq_iff_eq.mp M.fn) (codeAny_mono (F _ X.stack _ _ (Value.ref (s.heap.objs.size + 1) :: us) ws _ _ _ E (hr.make C us (ks.zip ws)) (I2.env0.make C us (ks.zip ws)) r2 rz hl hq) fun r s' hq' => ?_))
  cases r with
  | error e => exact hx pins σ _ _ e s' I2 hq'
  | ok fl =>
    cases fl with
    | ret u =>
      obtain ⟨v, H', I3, rv, ev, q3⟩ := I2.after hq'
      subst ev
      exact ⟨rv, ⟨V.ref (s.heap.objs.size + 1), H', I3, rfl, q3⟩⟩
    | next => exact False.elim hq'
    | brk => exact False.elim hq'
    | cont => exact False.elim hq'
def tMakeA (C : Addr) (m : Nat) (sp : Sp2) (E : XK) (tf : TE) (t tk : TA) : TE := fun σ H Q => tf σ H fun c H0 => c = V.ref C ∧ t σ H0 fun vs H1 => tk σ H1 fun zs H2 => zs.length = m ∧ ∀ x dx, H2 x = Option.none → H2 dx = Option.none → dx ≠ x →
  sp (V.ref x :: vs) zs (upd (upd H2 dx (.own x)) x (.ins C dx [])) (fun v H3 => v = .non ∧ Q (.ref x) H3) E
/-- c(e, .., *y, k = v): the callee's reading gives the class at C -/
theorem pe_makeSK (M : Mk X.K C f) (F : FnA X.prog X.w X.K X.mg X.base CX k f ks sp) (hr : Room (k + 1) X.A) (hx : Passes CX X E) (hf : PE X (.Name x np) tf) (ha : PA X (e :: es) t) (hkw : PK X kws tk)
    (hall : (backToKw pos (keywordEach kws X.env)).all (·.1.isSome) = true := by rfl) (hks : (backToKw pos (keywordEach kws X.env)).filterMap (·.1) = ks := by rfl)
    (he : starEach (e :: es) X.env = (false, eval e X.env) :: starEach es X.env := by rfl) (hst : (backTo pos (starEach (e :: es) X.env)).any (·.1) = true := by rfl) : PE X (.Call (.Name x np) (e :: es) kws pos) (tMakeA C ks.length sp E tf t tk) := by
  refine ⟨fun pins s σ H Q I h => ?_⟩
  refine wpAny_Call_Name_kw (thn (hf.run pins s σ H _ I h) fun u s1 ⟨c, H1, I1, rc, ec, q1⟩ => ?_)
  subst ec
  obtain rfl : u = Value.ref C := rc
  refine PySem.W.ks_callK hst (PySem.W.keeps_K M.kp) (evalArgs_kw2 hall (thn (ha.run pos pins s1 σ H1 _ I1 q1) fun us s2 ⟨vs, H2, I2, r, q2⟩ => ?_) he)
  refine thn (hkw.run pos pins s2 σ H2 _ I2 q2) fun ws s3 ⟨zs, H3, I3, rz, hl, q3⟩ => ⟨I3.kIn, ?_⟩
  rw [hks]
  exact run_makeA M F hr hx I3 r rz hl q3
def tCMethA (C : Addr) (m : Nat) (sp : Sp2) (E : XK) (ta : TE) (t tk : TA) : TE := fun σ H Q => ta σ H fun x H1 => x = .ref C ∧ t σ H1 fun vs H2 => tk σ H2 fun zs H3 => zs.length = m ∧ sp (.ref C :: vs) zs H3 Q E
/-- C.m(e, .., k = v), m a classmethod -/
theorem pe_cmethK (he : PE X o ta) (r : ClX.CRead X.K C mc) (c : ClX.CMet X.K C mc m p g) (F : FnA X.prog X.w X.K X.mg X.base CX k g ks sp) (hr : Room k X.A) (hx : Passes CX X E) (ha : PA X (e :: es) t) (hkw : PK X kws tk)
    (hall : (backToKw pos (keywordEach kws X.env)).all (·.1.isSome) = true := by rfl) (hks : (backToKw pos (keywordEach kws X.env)).filterMap (·.1) = ks := by rfl)
    (hst : starEach (e :: es) X.env = (false, eval e X.env) :: starEach es X.env := by rfl) (hpl : ((backTo pos (starEach (e :: es) X.env)).any (·.1) || (backToKw pos (keywordEach kws X.env)).any (·.1.isNone)) = false := by rfl)
    (ht : eval (.Call (.Attribute o m apos) (e :: es) kws pos) X.env = (do
      let ov ← eval o X.env
      standAt apos.atName
      let (f, first) ← holding [ov] (getMethod ov m pl)
      callWith pos f first (backTo pos (starEach (e :: es) X.env)) (backToKw pos (keywordEach kws X.env))) := by rfl) :
    PE X (.Call (.Attribute o m apos) (e :: es) kws pos) (tCMethA C ks.length sp E ta t tk) := by
  refine ⟨fun pins s σ H Q I h => ?_⟩
  refine PySem.W.methodCall_KW (pl := pl) (thn (he.run pins s σ H _ I h) fun u s1 ⟨x, H1, I1, rx, ex, q⟩ => ?_) ht
  subst ex
  obtain rfl : u = Value.ref C := rx
  refine ClX.getmethcm_ok I1 r c fun s2 I2 => ?_
  refine PySem.W.callWith_of (P := PySem.W.MethP X.K s1.heap.objs.size g (.ref C)) hpl (PySem.W.keeps_M c.fi) (evalArgs_kw2 hall (thn (ha.run pos _ s2 σ H1 _ I2 q) fun us s3 ⟨vs, H2, I3, rv, q2⟩ => ?_) hst)
  refine thn (hkw.run pos _ s3 σ H2 _ I3 q2) fun ws s4 ⟨zs, H3, I4, rz, hl, q3⟩ => ⟨⟨ClX.pin_at I4, I4.kIn⟩, ?_⟩
  rw [hks]
  have z : wpAny (model X.prog X.w) X.A (call (.ref s1.heap.objs.size) us (ks.zip ws)) (EP X ((s1.heap.objs.size, PySem.W.methodObj (.ref g) (.ref C)) :: pins) σ Q) X.xe s4 :=
    wpAny_call (PySem.W.method_call (ClX.pin_at I4) (run_fnA (us := .ref C :: us) (vs := .ref C :: vs) F hr hx I4 (.cons rfl rv) rz hl q3))
  exact thn z fun _ _ y => ClX.unpinE y
def tMethR (C : Addr) (m : Str) (sp : Sp) (E : XK) (ta : TE) (t : TA) : TE := fun σ H Q => ta σ H fun x H1 => ∃ a dx fs, x = .ref a ∧ H1 a = some (.ins C dx fs) ∧ fs.lookup m = none ∧ t σ H1 fun vs H2 => sp (.ref a :: vs) H2 Q E
variable {spR : Sp}
/-- o.m(e, ..), m promised by its values alone -/
theorem pe_methR (he : PE X o ta) (c : Cls X.K C) (hm : Meth X.K C m f) (F : FnR X.prog X.w X.K X.mg X.base CX k f spR) (hr : Room k X.A) (hx : Passes CX X E) (ha : PA X (e :: es) t)
    (hst : starEach (e :: es) X.env = (false, eval e X.env) :: starEach es X.env := by rfl) (hpl : (backTo pos (starEach es X.env)).any (·.1) = false := by rfl)
    (ht : eval (.Call (.Attribute o m apos) (e :: es) [] pos) X.env = (do
      let ov ← eval o X.env
      standAt apos.atName
      let (f, first) ← holding [ov] (getMethod ov m pl)
      callWith pos f first (backTo pos (starEach (e :: es) X.env)) (backToKw pos (keywordEach [] X.env))) := by rfl) :
    PE X (.Call (.Attribute o m apos) (e :: es) [] pos) (tMethR C m spR E ta t) := by
  refine ⟨fun pins s σ H Q I h => ?_⟩
  refine PySem.W.methodCall_KW (pl := pl) (thn (he.run pins s σ H _ I h) fun u s1 ⟨x, H1, I1, rx, a, dx, fs, ex, ea, l, q⟩ => ?_) ht
  subst ex
  obtain rfl : u = Value.ref a := rx
  refine getmeth_ok I1 ea c hm l ?_
  refine PySem.W.callWith_K (first := [.ref a]) (h₀ := X.base) I.ok.mod.kin hm.kp (thn (ha.run pos pins s1 σ H1 _ I1 q) fun us s2 ⟨vs, H2, I2, r, q2⟩ => ⟨I2.kIn, ?_⟩) hst hpl
  exact wpAny_call (run_fnR (us := .ref a :: us) (vs := .ref a :: vs) F hr hx I2 (.cons rfl r) q2)
theorem pe_methR0 (he : PE X o ta) (c : Cls X.K C) (hm : Meth X.K C m f) (F : FnR X.prog X.w X.K X.mg X.base CX k f spR) (hr : Room k X.A) (hx : Passes CX X E)
    (ht : eval (.Call (.Attribute o m apos) [] [] pos) X.env = (do
      let ov ← eval o X.env
      standAt apos.atName
      let (f, first) ← holding [ov] (getMethod ov m pl)
      callWith pos f first (backTo pos (starEach [] X.env)) (backToKw pos (keywordEach [] X.env))) := by rfl) :
    PE X (.Call (.Attribute o m apos) [] [] pos) (tMethR C m spR E ta tNil) := by
  refine ⟨fun pins s σ H Q I h => ?_⟩
  refine PySem.W.methodCall_KW (pl := pl) (thn (he.run pins s σ H _ I h) fun u s1 ⟨x, H1, I1, rx, a, dx, fs, ex, ea, l, q⟩ => ?_) ht
  subst ex
  obtain rfl : u = Value.ref a := rx
  refine getmeth_ok I1 ea c hm l ?_
  exact PySem.W.callWith_K0 (first := [.ref a]) I1.kIn hm.kp (wpAny_call (run_fnR (us := [.ref a]) (vs := [.ref a]) F hr hx I1 (.cons rfl .nil) q))
end
end Kw
/-! {**d, k: v}: keys ints and texts. -/
namespace Kw
open PySem PySem.Spec PyProof.Rows L2
section
variable {prog : Program} {w : World} {K : Type} [DecidableEq K] {knd : KeyKind prog w K} {A : Around} {E : Value → Shared → Prop} {s : Shared}
theorem wpAny_dictPut {d : Addr} {kvs : List (K × Value)} {k : K} {key v : Value} {Q : Unit → Shared → Prop} (hkey : knd.is k key = true) (hm : s.heap.DictOf knd d kvs)
    (hQ : ∀ h', h'.DictOf knd d (stored kvs k v) → Heap.SameBut d s.heap h' → Q () { s with heap := h' }) (hsz : kvs.length ≤ sizeLine) : wpAny (model prog w) A (dictPut d (knd.hash k) key v) Q E s := by
  obtain ⟨o, es, ep, ho, hc, hd, hk, hp, hn⟩ := hm
  have hes : es.size ≤ sizeLine := by have e1 := hp.length; have e2 : es.toList.length = es.size := by simp
                                      omega
  unfold dictPut
  refine wpAny_bind (wpAny_dictFind_of hkey ho hd hk ?_)
  have hidx : (es.findIdx? fun e => knd.is k e.key) = kvs.findIdx? fun kv => decide (kv.1 = k) := by
    rw [← hp.findIdx k]; obtain ⟨l⟩ := es; simp
  cases hi : es.findIdx? fun e => knd.is k e.key with
  | some i =>
    refine wpAny_updateDict ho hd (hQ _ ⟨_, _, ep, Heap.get?_update_self _ ho (Obj.isFreed_of_dict (Obj.data_mapDict hd _)), hc.mapDict _, Obj.data_mapDict hd _, hk.modify _ _, ?_, ?_⟩ (Heap.SameBut.update ..))
    · rw [stored, if_pos (any_of_findIdx_some (hidx ▸ hi))]
      have hl : (es.toList.findIdx? fun e => knd.is k e.key) = some i := by rw [← hi]; obtain ⟨l⟩ := es; simp
      have := hp.modify hn hl v
      obtain ⟨l⟩ := es
      simpa using this
    · rw [stored, if_pos (any_of_findIdx_some (hidx ▸ hi)), keys_map_store]; exact hn
  | none =>
    have hnot : k ∉ kvs.map (·.1) := not_mem_of_findIdx_none (hidx ▸ hi)
    have hany : ¬ (kvs.any fun kv => decide (kv.1 = k)) = true := by
      rw [List.any_eq_true]; rintro ⟨kv, hkv, he⟩
      exact hnot (List.mem_map.mpr ⟨kv, hkv, of_decide_eq_true he⟩)
    refine wpAny_updateDictKeys (hz := hes) ho hd (hQ _ ⟨_, _, ep + 1, Heap.get?_update_self _ ho (Obj.isFreed_of_dict (Obj.data_mapDictKeys hd _)), hc.mapDictKeys _, Obj.data_mapDictKeys hd _, hk.push hkey _, ?_, ?_⟩ (Heap.SameBut.update ..))
    · rw [stored, if_neg hany]
      have := hp.append hkey (knd.hash k) v
      obtain ⟨l⟩ := es
      simpa using this
    · rw [stored, if_neg hany, List.map_append, List.nodup_append]
      refine ⟨hn, by simp, ?_⟩
      intro a ha b hb
      simp only [List.map_cons, List.map_nil, List.mem_singleton] at hb
      subst hb
      exact fun e => hnot (e ▸ ha)
theorem len_stored (kvs : List (K × Value)) (k : K) (v : Value) : (stored kvs k v).length ≤ kvs.length + 1 := by
  unfold stored
  split
  · rw [List.length_map]; omega
  · rw [List.length_append]; exact Nat.le_refl _
theorem len_merged : ∀ (more kvs : List (K × Value)), (merged kvs more).length ≤ kvs.length + more.length
  | [], kvs => Nat.le_refl _
  | p :: r, kvs => by
    have h1 := len_merged r (stored kvs p.1 p.2)
    have h2 := len_stored kvs p.1 p.2
    show (merged (stored kvs p.1 p.2) r).length ≤ _
    rw [List.length_cons]; omega
theorem merged_snoc (kvs more : List (K × Value)) (p : K × Value) : merged kvs (more ++ [p]) = stored (merged kvs more) p.1 p.2 := by
  unfold merged
  rw [List.foldl_append]
  rfl
theorem pairs_at {es : List DictEntry} {kvs : List (K × Value)} (h : Pairs knd es kvs) : ∀ {i : Nat} {e : DictEntry}, es[i]? = some e → ∃ kv, kvs[i]? = some kv ∧ knd.is kv.1 e.key = true ∧ e.val = kv.2 := by
  induction h with
  | nil => intro i e z; simp at z
  | @cons e kv es kvs h1 h2 ht ih =>
    intro i e' z
    cases i with
    | zero =>
      obtain rfl : e = e' := by simpa using z
      exact ⟨kv, rfl, h1, h2⟩
    | succ i => exact ih (by simpa using z)
theorem wpAny_merge {d a : Addr} {kvs more : List (K × Value)} {Q : Unit → Shared → Prop} (hda : d ≠ a) (haS : (a == sysModules) = false) (hnr : ∀ k key, knd.is k key = true → ∀ b, key ≠ .ref b) (hd : s.heap.DictOf knd d kvs) (ha : s.heap.DictOf knd a more)
    (hsz : kvs.length + more.length ≤ sizeLine) (hQ : ∀ h', h'.DictOf knd d (merged kvs more) → Heap.SameBut d s.heap h' → Q () { s with heap := h' }) : wpAny (model prog w) A (mergeMapping d (.ref a) false) Q E s := by
  have hd0 := hd
  obtain ⟨od, esd, epd, hod, hcd, hdd, hkd, hpd, hnd⟩ := hd
  obtain ⟨oa, esa, epa, hoa, hca, hda', hka, hpa, hna⟩ := ha
  have hlen : more.length = esa.size := by have e1 := hpa.length; have e2 : esa.toList.length = esa.size := by simp
                                           omega
  have ta : s.TypeIs (.ref a) "dict" := ⟨oa, hoa, hca.1⟩
  unfold mergeMapping
  refine wpAny_bind (wpAny_isInstance ta isSubtype_dict_dict ?_)
  simp only [if_true]
  refine wpAny_bind (wpAny_specialOf ta F.slot_dict_iter.lookup ?_)
  simp only [beq_self_eq_true]
  refine wpAny_bind (wpAny_pure ?_)
  simp only [haS, Bool.false_eq_true, if_false]
  have loop : wpAny (model prog w) A (do
      let l ← dictEntries a
      let epoch ← dictEpoch a
      forIn (List.range l.size) PUnit.unit fun i __s => do
        let l2 ← dictEntries a
        match l2[i]? with
        | some e => do
          holding [e.key, e.val] (dictPut d e.hash e.key e.val)
          let ep2 ← dictEpoch a
          if (ep2 != epoch) = true then do
            unsupported "dict.changed-during-merge"
            pure (ForInStep.yield PUnit.unit)
          else pure (ForInStep.yield PUnit.unit)
        | x => do
          unsupported "dict.changed-during-merge"
          pure (ForInStep.yield PUnit.unit)
      pure ()) Q E s := by
    refine wpAny_bind (wpAny_dictEntries hoa hda' (wpAny_bind (wpAny_dictEpoch hoa hda' (wpAny_bind ?_))))
    refine wpAny_forIn_list _ (fun rest q t => ∃ i h', rest = List.range' i (esa.size - i) ∧ i ≤ esa.size ∧ t = { s with heap := h' } ∧ h'.DictOf knd d (merged kvs (more.take i)) ∧ Heap.SameBut d s.heap h') _ ?_ ?_ _ _ ⟨0, s.heap, by rw [List.range_eq_range', Nat.sub_zero], Nat.zero_le _, rfl, hd0, Heap.SameBut.refl _ _⟩
    · rintro x rest q t ⟨i, h', er, hi, rfl, hm, hs⟩
      have hlt : i < esa.size := by
        by_cases z : i < esa.size
        · exact z
        · rw [show esa.size - i = 0 by omega] at er
          cases er
      obtain ⟨rfl, er2⟩ : x = i ∧ rest = List.range' (i + 1) (esa.size - (i + 1)) := by
        rw [show esa.size - i = esa.size - (i + 1) + 1 by omega, List.range'_succ] at er
        exact ⟨(List.cons.inj er).1, (List.cons.inj er).2⟩
      have hoa' : h'.get? a = some oa := (hs.2 a (Ne.symm hda)).trans hoa
      obtain ⟨e, he⟩ : ∃ e, esa[x]? = some e := ⟨esa[x], Array.getElem?_eq_getElem hlt⟩
      obtain ⟨kv, hkv, his, hval⟩ := pairs_at hpa (i := x) (e := e) (by rw [Array.getElem?_toList]; exact he)
      obtain ⟨k2, hk2, hh⟩ := hka e (Array.mem_of_getElem? he)
      have ek : k2 = kv.1 := knd.inj _ _ _ hk2 his
      subst ek
      refine wpAny_bind (wpAny_dictEntries hoa' hda' ?_)
      rw [he]
      dsimp only
      have hl : (merged kvs (more.take x)).length ≤ sizeLine := by
        have h1 := len_merged (more.take x) kvs
        rw [List.length_take] at h1
        omega
      rw [hh]
      refine wpAny_bind (wpAny_holding (wpAny_dictPut his hm (fun h2 hm2 hs2 => ?_) hl))
      have hoa2 : h2.get? a = some oa := (hs2.2 a (Ne.symm hda)).trans hoa'
      refine wpAny_bind (wpAny_dictEpoch (s := { s with heap := h2 }) hoa2 hda' ?_)
      rw [if_neg (by simp)]
      refine wpAny_pure ⟨x + 1, h2, er2, hlt, rfl, ?_, ⟨hs2.1.trans hs.1, fun b hb => (hs2.2 b hb).trans (hs.2 b hb)⟩⟩
      rw [List.take_add_one, hkv]
      show h2.DictOf knd d (merged kvs (more.take x ++ [kv]))
      rw [merged_snoc, ← hval]
      exact hm2
    · rintro q t ⟨i, h', er, hi, rfl, hm, hs⟩
      have hin : i = esa.size := by
        by_cases z : i < esa.size
        · rw [show esa.size - i = esa.size - (i + 1) + 1 by omega, List.range'_succ] at er
          cases er
        · omega
      rw [hin, ← hlen, List.take_length] at hm
      exact wpAny_pure (hQ h' hm hs)
  refine wpAny_bind (wpAny_dictEntries hod hdd ?_)
  split
  · refine wpAny_bind (wpAny_dictEntries hoa hda' (wpAny_bind ?_))
    rw [← Array.forIn_toList]
    refine wpAny_forIn_list _ (fun rest q t => t = s ∧ ∀ e ∈ rest, e ∈ esa) _ ?_ ?_ _ _ ⟨rfl, fun e he => by simpa using he⟩
    · rintro e rest q t ⟨rfl, hm⟩
      obtain ⟨k, hk, _⟩ := hka e (hm e List.mem_cons_self)
      have nr := hnr k _ hk
      split
      · rename_i b hb
        exact absurd hb (nr b)
      · exact wpAny_pure ⟨rfl, fun e he => hm e (List.mem_cons_of_mem _ he)⟩
    · rintro q t ⟨rfl, _⟩
      exact loop
  · exact loop
end
/-! ### the display -/
theorem mix_noref {prog : Program} {w : World} : ∀ k key, (mixKind prog w).is k key = true → ∀ b, key ≠ .ref b := fun k key h b e => by
  rcases keyIs_shape h with ⟨_, _, _, rfl⟩ | ⟨_, _, _, rfl⟩ <;> cases e
section
variable {X : Cx} {pins : List (Addr × Obj)} {σ : L2.St} {H : Hp} {s : Shared} {E : Value → Shared → Prop} {d a : Addr} {kvs more : List (Key × V)} {Q : Unit → Shared → Prop}
theorem d_merge (I : Inv X pins σ H s) (hd : H d = some (.dK kvs)) (ha : Rd H a (.dK more)) (hda : d ≠ a) (hsz : kvs.length + more.length ≤ sizeLine) (h : ∀ s', Inv X pins σ (upd H d (.dK (mergeK kvs more))) s' → Q () s') :
    wpAny (model X.prog X.w) X.A (mergeMapping d (.ref a) false) Q E s := by
  obtain ⟨z1, y1, vs1, r1, d1⟩ := dk_of I.hok hd
  obtain ⟨z2, y2, vs2, r2, d2⟩ := dk_rd I.hok ha
  refine wpAny_merge hda y2 mix_noref d1 d2 (by rw [← r1.length, ← r2.length]; exact hsz) fun h' dd hs => h _ ?_
  have he : ∃ q, h'.get? d = some q := let ⟨q, _, _, hq, _⟩ := dd; ⟨q, hq⟩
  exact d_write I (by rw [hd]; exact True.intro) hs he (dk_new (Nat.le_trans (length_mergeK more kvs) hsz) y1 (r2.merge r1) dd)
end
/-- {**d, k: v}, keys ints and texts; D the new dict, D2 that of the pair -/
def tMrg (td tk tv : TE) : TE := fun σ H Q => ∀ D, H D = none → td σ (upd H D (.dK [])) fun x H1 => ∃ a kvs, x = .ref a ∧ D ≠ a ∧ Rd H1 a (.dK kvs) ∧ H1 D = some (.dK []) ∧ kvs.length < sizeLine ∧
  ∀ D2, H1 D2 = none → D2 ≠ D → tk σ (upd (upd H1 D (.dK (mergeK [] kvs))) D2 (.dK [])) fun y H2 => tv σ H2 fun z H3 => ∃ k, y = kV k ∧ H3 D = some (.dK (mergeK [] kvs)) ∧ H3 D2 = some (.dK []) ∧
    Q (.ref D) (upd (upd H3 D2 (.dK [(k, z)])) D (.dK (putK (mergeK [] kvs) k z)))
theorem pe_mrg {X : Cx} {pos : Pos} {de ke ve : Expr} {td tk tv : TE} (hd : PE X de td) (hk : PE X ke tk) (hv : PE X ve tv) : PE X (.Dict [none, some ke] [de, ve] pos) (tMrg td tk tv) := by
  refine ⟨fun pins s σ H Q I h => ?_⟩
  have hn := I.hok.fresh (Nat.le_refl s.heap.objs.size)
  have I1 := I.laid (a := s.heap.objs.size) (o := .dK []) (h' := s.heap.push { cls := .type "dict", data := .dict #[] }) (t' := s.toks) (fun _ _ q => Heap.get?_push_of_some _ q) (Nat.le_refl _) (dk_empty s.heap I.big)
  rw [arm_eval_Dict]
  refine wpAny_bind (wpAny_standAt ?_)
  unfold dictDisplay
  show wpAny _ _ (forIn [(none, (do let x ← eval de X.env; standAt pos; pure x)), (some (eval ke X.env), (do let x ← eval ve X.env; standAt pos; pure x))] _ _ >>= _) _ _ _
  rw [List.forIn_cons]
  refine wpAny_bind (wpAny_bind ?_)
  simp only [List.isEmpty_nil, if_true]
  refine wpAny_bind (wpAny_pure ?_)
  refine wpAny_bind (wpAny_alloc ?_)
  refine wpAny_bind (wpAny_holding (wpAny_bind ?_))
  refine thn (hd.run pins _ σ _ _ I1 (h _ hn)) fun u s1 ⟨x, H1, I2, rx, a, kvs, ex, hne, ha, hD, hz, q⟩ => ?_
  subst ex
  obtain rfl : u = Value.ref a := rx
  refine wpAny_bind (wpAny_standAt (wpAny_pure ?_))
  refine wpAny_bind (wpAny_onRaise (wpAny_tryCatch (wpAny_onRaise (wpAny_holding (d_merge I2 hD ha hne (by rw [List.length_nil]; omega) fun s2 I3 => ?_)))))
  refine wpAny_pure ?_
  dsimp only
  rw [List.forIn_cons]
  refine wpAny_bind ?_
  dsimp only
  rw [if_neg (by simp)]
  refine wpAny_pure ?_
  dsimp only
  rw [List.forIn_nil]
  refine wpAny_pure ?_
  dsimp only [List.nil_append]
  rw [if_neg (by simp)]
  generalize hDD : s.heap.objs.size = D at *
  have hD2 := I3.hok.fresh (Nat.le_refl s2.heap.objs.size)
  have hne2 : s2.heap.objs.size ≠ D := fun z => by rw [z, upd_same] at hD2; cases hD2
  have hD2' : H1 s2.heap.objs.size = none := by rw [upd_ne hne2] at hD2; exact hD2
  have I4 := I3.laid (a := s2.heap.objs.size) (o := .dK []) (h' := s2.heap.push { cls := .type "dict", data := .dict #[] }) (t' := s2.toks) (fun _ _ q => Heap.get?_push_of_some _ q) (Nat.le_refl _) (dk_empty s2.heap I3.big)
  refine wpAny_bind (wpAny_bind (wpAny_holding ?_))
  unfold subDict
  refine wpAny_bind (wpAny_alloc (wpAny_bind (wpAny_holding ?_)))
  rw [if_pos (by simp)]
  refine wpAny_bind ?_
  rw [evalPairs, evalPairs]
  refine wpAny_bind (thn (hk.run pins _ σ _ _ I4 (q _ hD2' hne2)) fun u s3 ⟨y, H2, I5, ry, q2⟩ => ?_)
  refine wpAny_bind (wpAny_holding (wpAny_bind (thn (hv.run pins s3 σ H2 _ I5 q2) fun u2 s4 ⟨z, H3, I6, rz, k, ek, e1, e2, q3⟩ => ?_)))
  subst ek
  refine wpAny_bind (wpAny_standAt (wpAny_pure (wpAny_bind (wpAny_holding (wpAny_pure (wpAny_pure (wpAny_holding ?_)))))))
  rw [List.forIn_cons]
  refine wpAny_bind (wpAny_bind (wpAny_bind (d_dictSet I6 e2 (by rw [List.length_nil]; decide) ry rz fun s5 I7 => wpAny_pure ?_)))
  dsimp only
  rw [List.forIn_nil]
  refine wpAny_pure (wpAny_pure (wpAny_pure ?_))
  have e3 : upd H3 s2.heap.objs.size (.dK (putK [] k z)) D = some (.dK (mergeK [] kvs)) := by rw [upd_ne (Ne.symm hne2)]; exact e1
  refine wpAny_bind (wpAny_onRaise (wpAny_holding (d_merge I7 e3 (.inl upd_same) (Ne.symm hne2) ?_ fun s6 I8 => ?_)))
  · have h1 := length_mergeK kvs []
    rw [List.length_nil] at h1
    show _ + 1 ≤ sizeLine
    omega
  · refine wpAny_pure (wpAny_pure ⟨.ref D, _, I8, rfl, q3⟩)
end Kw
/-! max(l, default = d) of a list of ints; *d in a display, d a dict with tuples as keys. -/
namespace Kw
open PySem PySem.Spec PyProof.Rows L2
section
variable {prog : Program} {w : World} {A : Around} {R : Result → Shared → Prop} {I : Addr} {fp wr : List Addr} {n : Nat} {P : Nat → Value → Prop} {St : Nat → Heap → Prop} {kw : List (Str × Value)}
theorem max_loopD (W : Walks prog w A.in1 I fp wr n P St) (bt : Nat → Nat → Bool) (hcmp : CmpOf prog w A.in1 .Gt P bt) (S : Addr) (hSf : S ∉ fp) :
    ∀ (k j : Nat) (s : Shared) (vb : Value) (c : Nat), n - (j + 1) = k → j + 1 ≤ n → St (j + 1) s.heap → P (argBest bt j) vb →
    s.heap.get? S = some { cls := .type "list", dict := none, data := .seq #[vb, vb] c, slots := #[] } →
    (∀ v h' tk, P (argBest bt (n - 1)) v → (∀ b o, b ∉ wr → b ≠ S → s.heap.get? b = some o → h'.get? b = some o) → R (.ok (.ret v)) { s with heap := h', toks := tk }) →
    codeAny (model prog w) A (.builtin "max.loop" ⟨[.ref I, .none, .ref S], kw⟩) R s := by
  have hSw : S ∉ wr := fun h => hSf (W.sub _ h)
  have hname : (toString "max" ++ toString ".loop" : String) = "max.loop" := by decide
  intro k
  induction k with
  | zero =>
    intro j s vb c hk hj hst hPb hS hR
    have hin : j + 1 = n := by omega
    refine codeAny_builtin PySem.F.entry_max_loop ?_
    rw [Around.under_plainId PySem.F.plain_max_loop _]
    show wpAny _ A.in1 (seqItems? (.ref S) >>= _) _ _ s
    refine wpAny_bind (wpAny_seqItems hS rfl ?_)
    show wpAny _ A.in1 (tryCatch (pyNext (.ref I)) _ >>= _) _ _ s
    refine wpAny_bind (wpAny_tryCatch (W.done s _ _ (hin ▸ hst) fun h' tk hk' => ?_))
    have hS' := hk' S _ hSw hS
    show wpAny _ A.in1 (updateSeq S (fun _ => #[]) >>= _) _ _ _
    refine wpAny_bind ?_
    refine wpAny_updateSeq hS' rfl (wpAny_bind (wpAny_letGo (wpAny_pure ?_)))
    refine hR vb _ tk (by rw [← hin]; exact hPb) fun b o hbw hbS e => (Heap.get?_update_other _ _ (Ne.symm hbS)).trans (hk' b o hbw e)
  | succ k ih =>
    intro j s vb c hk hj hst hPb hS hR
    have hlt : j + 1 < n := by omega
    refine codeAny_builtin PySem.F.entry_max_loop ?_
    rw [Around.under_plainId PySem.F.plain_max_loop _]
    show wpAny _ A.in1 (seqItems? (.ref S) >>= _) _ _ s
    refine wpAny_bind (wpAny_seqItems hS rfl ?_)
    show wpAny _ A.in1 (tryCatch (pyNext (.ref I)) _ >>= _) _ _ s
    refine wpAny_bind (wpAny_tryCatch (W.item (j + 1) s _ _ hlt hst fun v h' tk hP hst' hk' => ?_))
    have hS' := hk' S _ hSw hS
    show wpAny _ A.in1 (tryCatch (holding [v, v] (richCompare .Gt v vb >>= _)) _ >>= _) _ _ _
    refine wpAny_bind (wpAny_tryCatch (wpAny_holding (wpAny_bind (hcmp (j + 1) (argBest bt j) v vb _ _ _ hP hPb ?_))))
    refine wpAny_bind (wpAny_holding (wpAny_truthy_bool ?_))
    refine wpAny_bind (wpAny_letGo (wpAny_pure ?_))
    cases hb : bt (j + 1) (argBest bt j) with
    | true =>
      simp only [if_true]
      refine wpAny_bind ?_
      refine wpAny_updateSeq hS' rfl (wpAny_bind (wpAny_letGo ?_))
      rw [hname]
      refine wpAny_pure ⟨plainId_quiet PySem.F.plain_max_loop _, ih (j + 1) _ v _ (by omega) hlt (W.frame _ _ _ hst' fun b hbf o e => ?_) (by simp only [argBest, hb, if_true]; exact hP) (Heap.get?_update_self _ hS' rfl)
        fun v' h'' tk'' hP' hk'' => ?_⟩
      · exact (Heap.get?_update_other _ _ (fun h : S = b => hSf (by rw [h]; exact hbf))).trans e
      · exact hR v' h'' tk'' hP' fun b o hbw hbS e => hk'' b o hbw hbS ((Heap.get?_update_other _ _ (Ne.symm hbS)).trans (hk' b o hbw e))
    | false =>
      simp only [Bool.false_eq_true, if_false]
      refine wpAny_bind (wpAny_letGo ?_)
      rw [hname]
      refine wpAny_pure ⟨plainId_quiet PySem.F.plain_max_loop _, ih (j + 1) _ vb c (by omega) hlt hst' (by simp only [argBest, hb, Bool.false_eq_true, if_false]; exact hPb) hS' fun v' h'' tk'' hP' hk'' => ?_⟩
      exact hR v' h'' tk'' hP' fun b o hbw hbS e => hk'' b o hbw hbS (hk' b o hbw e)
theorem max_firstD (W : Walks prog w A.in1 I fp wr n P St) (bt : Nat → Nat → Bool) (hcmp : CmpOf prog w A.in1 .Gt P bt) (S : Addr) (hSf : S ∉ fp) {x : Str} {d : Value} {s : Shared} {c : Nat} (hst : St 0 s.heap)
    (hS : s.heap.get? S = some { cls := .type "list", dict := none, data := .seq #[] c, slots := #[] })
    (h0 : n = 0 → ∀ h' tk, (∀ b o, b ∉ wr → b ≠ S → s.heap.get? b = some o → h'.get? b = some o) → R (.ok (.ret d)) { s with heap := h', toks := tk })
    (hR : 0 < n → ∀ v h' tk, P (argBest bt (n - 1)) v → (∀ b o, b ∉ wr → b ≠ S → s.heap.get? b = some o → h'.get? b = some o) → R (.ok (.ret v)) { s with heap := h', toks := tk }) :
    codeAny (model prog w) A (.builtin "max.loop" ⟨[.ref I, .none, .ref S], [(x, d)]⟩) R s := by
  have hSw : S ∉ wr := fun h => hSf (W.sub _ h)
  have hname : (toString "max" ++ toString ".loop" : String) = "max.loop" := by decide
  refine codeAny_builtin PySem.F.entry_max_loop ?_
  rw [Around.under_plainId PySem.F.plain_max_loop _]
  show wpAny _ A.in1 (seqItems? (.ref S) >>= _) _ _ s
  refine wpAny_bind (wpAny_seqItems hS rfl ?_)
  show wpAny _ A.in1 (tryCatch (pyNext (.ref I)) _ >>= _) _ _ s
  rcases Nat.eq_zero_or_pos n with hn | hn
  · subst hn
    refine wpAny_bind (wpAny_tryCatch (W.done s _ _ hst fun h' tk hk' => ?_))
    exact wpAny_bind (wpAny_rule (wpAny_pure (h0 rfl h' tk fun b o hbw _ e => hk' b o hbw e)))
  · refine wpAny_bind (wpAny_tryCatch (W.item 0 s _ _ hn hst fun v h' tk hP hst' hk' => ?_))
    have hS' := hk' S _ hSw hS
    show wpAny _ A.in1 (updateSeq S (fun _ => #[v, v]) >>= _) _ _ _
    refine wpAny_bind ?_
    refine wpAny_updateSeq hS' rfl ?_
    rw [hname]
    refine wpAny_pure ⟨plainId_quiet PySem.F.plain_max_loop _, max_loopD W bt hcmp S hSf _ 0 _ v _ rfl hn (W.frame _ _ _ hst' fun b hbf o e => ?_) hP (Heap.get?_update_self _ hS' rfl) fun v' h'' tk'' hP' hk'' => ?_⟩
    · exact (Heap.get?_update_other _ _ (fun h : S = b => hSf (by rw [h]; exact hbf))).trans e
    · exact hR hn v' h'' tk'' hP' fun b o hbw hbS e => hk'' b o hbw hbS ((Heap.get?_update_other _ _ (Ne.symm hbS)).trans (hk' b o hbw e))
end
section
variable {prog : Program} {w : World} {A : Around} {E : Value → Shared → Prop} {s : Shared} {l : Addr} {its : List Value} {ns : List Int} {Q : Value → Shared → Prop} {d : Value}
theorem args_maxD (a v : Value) : argsOk "max" ⟨[a], [(Str.ofString "default", v)]⟩ := by unfold argsOk; kernel_rfl
theorem max_listD (hh : A.handled = none) (hl : s.heap.IsList l its.toArray) (hi : IntsAre its ns)
    (h0 : ns = [] → ∀ h' tk, (∀ b o, s.heap.get? b = some o → h'.get? b = some o) → Q d { s with heap := h', toks := tk })
    (h : ∀ h' tk M t', (∀ b o, s.heap.get? b = some o → h'.get? b = some o) → M ∈ ns → (∀ a, a ∈ ns → a ≤ M) → Q (.int M t') { s with heap := h', toks := tk }) : wpAny (model prog w) A (call (.builtin "max") [.ref l] [(Str.ofString "default", d)]) Q E s := by
  have hname : (toString "max" ++ toString ".loop" : String) = "max.loop" := by decide
  obtain ⟨xs, e⟩ := hi.allInts.items
  have hn : numsOf (intItems xs).toList = ns := by rw [← e]; exact hi.numsOf
  rw [nums_intItems] at hn
  subst hn
  rw [e] at hl
  refine PyProof.Rows.kmk_tree PySem.F.kind_max PySem.F.plain_max PySem.F.entry_max (args_maxD _ _) ?_
  show wpAny _ A.in1 (Builtin.Builtins.bindParams "max" ["key", "default"] 0 ⟨[], [(Str.ofString "default", d)]⟩ >>= _) _ _ s
  refine wpAny_bind (wpAny_of_eq (show Builtin.Builtins.bindParams "max" ["key", "default"] 0 ⟨[], [(Str.ofString "default", d)]⟩ = pure [none, some d] from rfl) ?_)
  refine wpAny_bind (wpAny_pure ?_)
  refine wpAny_bind (iter_intList hl fun s₂ es st hfp hlI => ?_)
  subst es
  refine wpAny_bind (wpAny_newObj_type ?_)
  have hSf : (s.heap.push { cls := .type "list_iterator", data := .fields #[.ref l, .int 0 0] }).objs.size ∉ [s.heap.objs.size, l] := fun hm => Nat.lt_irrefl _ (hfp _ hm)
  rw [hname]
  have W := Walks.list (prog := prog) (w := w) (A := A.in1) hh s.heap.objs.size l hlI (intItems xs)
  have old : ∀ {h' : Heap}, (∀ b o, b ∉ [s.heap.objs.size] → b ≠ (s.heap.push { cls := .type "list_iterator", data := .fields #[.ref l, .int 0 0] }).objs.size → ((s.heap.push { cls := .type "list_iterator", data := .fields #[.ref l, .int 0 0] }).push { cls := .type "list", data := .seq ([] : List Value).toArray }).get? b = some o → h'.get? b = some o) →
      ∀ b o, s.heap.get? b = some o → h'.get? b = some o := fun hk b o eb => hk b o (fun z => by
        have lt := Heap.lt_size eb
        rw [List.mem_singleton.mp z] at lt
        exact Nat.lt_irrefl _ lt) (fun z => by
        have lt := Heap.lt_size eb
        rw [z, Heap.size_push] at lt
        exact absurd lt (Nat.not_lt.mpr (Nat.le_succ _))) (Heap.get?_push_of_some _ (Heap.get?_push_of_some _ eb))
  refine wpAny_pure ⟨plainId_quiet PySem.F.plain_max_loop _, max_firstD W (fun i j => decide (numAt xs i > numAt xs j)) (CmpOf.ints_gt (numAt xs) (fun _ _ => intItems_at)) _ hSf (W.frame _ _ _ st fun b _ o e => Heap.get?_push_of_some _ e) (Heap.get?_push_size _ rfl) (fun hz h' tk hk => ?_) fun hz v h' tk hP hk => ?_⟩
  · refine h0 ?_ h' tk (old hk)
    have z : xs.size = 0 := by simpa [intItems] using hz
    have z2 : xs = #[] := Array.eq_empty_of_size_eq_zero z
    rw [z2]
    rfl
  · have hsz : 0 < xs.size := by simpa [intItems] using hz
    have hv : (intItems xs)[argBest (fun i j => decide (numAt xs i > numAt xs j)) (xs.size - 1)]? = some v := by simpa [intItems] using hP
    obtain ⟨t, rfl⟩ := intItems_at hv
    obtain ⟨h1, h2⟩ := argBest_gt (numAt xs) (xs.size - 1)
    refine h h' tk _ t (old hk) ?_ fun a ha => ?_
    · rw [numAt_eq]; exact PySem.getD_mem (by rw [List.length_map, Array.length_toList]; omega)
    · obtain ⟨j, hj, rfl⟩ := mem_getD ha
      rw [List.length_map, Array.length_toList] at hj
      rw [← numAt_eq]; exact h2 j (by omega)
end
/-- max(e, default = d), e a list of ints -/
def tMaxD (K : PySem.W.Frag) (ta tk : TA) : TE := fun σ H Q => ta σ H fun vs H1 => tk σ H1 fun zs H2 => ∃ (a : Addr) (ns : List Int) (y : V), vs = [.ref a] ∧ zs = [y] ∧ SqL K H2 a (ns.map V.int) ∧ (ns = [] → Q y H2) ∧ ∀ m, m ∈ ns → (∀ z ∈ ns, z ≤ m) → Q (.int m) H2
theorem pe_maxD {X : Cx} {e : Expr} {kws : List Keyword} {ta tk : TA} {p pos : Pos} (hc : X.calm = true) (hg : Gl X "max") (hm : X.mg "max" = none) (ha : PA X [e] ta) (hkw : PK X kws tk)
    (hall : (backToKw pos (keywordEach kws X.env)).all (·.1.isSome) = true := by rfl) (hks : (backToKw pos (keywordEach kws X.env)).filterMap (·.1) = [Str.ofString "default"] := by rfl)
    (hpl : (backTo pos (starEach [e] X.env)).any (·.1) = false := by rfl) (hno : (backToKw pos (keywordEach kws X.env)).any (·.1.isNone) = false := by rfl) (hb : backTo pos (starEach [e] X.env) = (false, eval e X.env) :: backTo pos (starEach [] X.env) := by rfl) :
    PE X (.Call (.Name "max" p) [e] kws pos) (tMaxD X.K ta tk) := by
  refine ⟨fun pins s σ H Q I h => ?_⟩
  refine wpAny_Call_Name_kw (ld_blt I hg hm (by decide +kernel : bootBuiltins "max" = some (.builtin "max")) ?_)
  refine PyProof.Rows.callWith_kw (thn (ha.run pos pins s σ H _ I h) fun us s1 ⟨vs, H1, I1, r, q⟩ => ?_) hb hpl hall hno
  refine thn (hkw.run pos pins s1 σ H1 _ I1 q) fun ws s2 ⟨zs, H2, I2, rz, a, ns, y, ev, ez, hl, q0, q1⟩ => ?_
  subst ev ez
  rw [hks, Vals.ref1 r]
  obtain ⟨u, rfl, ru⟩ := vals1 rz
  obtain ⟨its, rv, hl2, _⟩ := I2.list hl
  exact max_listD (I2.ok.hd hc) hl2.isList rv.ints (fun z h' tk hk => ⟨y, H2, I2.kept hk, ru, q0 z⟩) fun h' tk m t' hk h1 h2 => ⟨.int m, H2, I2.kept hk, ⟨_, rfl⟩, q1 m h1 h2⟩
/-! ### *d, d a dict with tuples as keys -/
section
variable {X : Cx} {pins : List (Addr × Obj)} {σ : L2.St} {H : Hp} {s : Shared}
theorem star_dT {d : Addr} {kvs : List (List Key × V)} {E : Value → Shared → Prop} {Q : List Value → Shared → Prop} (hc : X.calm = true) (I : Inv X pins σ H s) (hd : Rd H d (.dT kvs))
    (hQ : ∀ us s' bs, Inv X pins σ H s' → IsKeys H kvs bs → Vals (bs.map V.ref) us → Q us s') : PySem.W.StarOf (model X.prog X.w) X.A E (.ref d) Q s := by
  obtain ⟨z, hs, ks, pr, o, es, ep, ho, hx, hdt, he, hn⟩ := (show ObjOk X.prog X.w H s.heap d (.dT kvs) from hd.ok I.hok)
  have l1 : es.size = ks.length := size_of_entries he
  have l2 : kvs.length = ks.length := Paired.length pr
  have hT : s.TypeIs (.ref d) "dict" := ⟨o, ho, hx.1⟩
  have zz : wpAny (model X.prog X.w) X.A (collect (.ref d)) Q E s := by
    refine PySem.W.kdu_collect (kdl_raw hs hx hdt) (I.ok.hd hc) ho (by omega) fun h' tk acc' kp it => ?_
    have ea : acc'.toList = ks.map fun x => Value.ref x.2.1 := by
      have hl : acc'.toList.length = ks.length := by rw [Array.length_toList, it.1]; exact l1
      apply List.ext_getElem?
      intro j
      rw [List.getElem?_map]
      cases hj : acc'.toList[j]? with
      | none =>
        have h1 := List.getElem?_eq_none_iff.mp hj
        rw [List.getElem?_eq_none (by omega)]
        all_goals rfl
      | some v =>
        obtain ⟨en, hen, hv⟩ := it.2 j v (by rw [← Array.getElem?_toList]; exact hj)
        have qe := entry_at he j
        rw [hen] at qe
        cases hb : ks[j]? with
        | none =>
          rw [hb] at qe
          exact nomatch (show some en = none from qe)
        | some b =>
          rw [hb] at qe
          have e2 : en = entryOfKey (tupleKind (mixKind X.prog X.w)) b := Option.some.inj qe
          rw [hv, e2]
          all_goals rfl
    have eb : acc'.toList = (ks.map fun x => x.2.1).map Value.ref := by rw [ea, List.map_map]; all_goals rfl
    exact hQ _ _ (ks.map fun x => x.2.1) (I.kept kp) (isKeys_of pr) (by rw [eb]; exact vals_refs _)
  unfold PySem.W.StarOf notIterableAtAll
  exact wpAny_bind (wpAny_specialOf hT PySem.F.slot_dict_iter.lookup (wpAny_pure ⟨rfl, zz⟩))
end
def tStarT (te : TE) (t : TA) : TA := fun σ H Q => te σ H fun x H1 => ∃ p kvs, x = V.ref p ∧ Rd H1 p (.dT kvs) ∧ ∀ bs, IsKeys H1 kvs bs → t σ H1 fun ys H2 => Q (bs.map V.ref ++ ys) H2
theorem pa_starT {X : Cx} {e : Expr} {es : List Expr} {te : TE} {t : TA} {p : Pos} (hc : X.calm = true) (he : PE X e te) (hr : PA X es t) (hs : starEach (.Starred e p :: es) X.env = (true, eval e X.env) :: starEach es X.env := by rfl) : PA X (.Starred e p :: es) (tStarT te t) := by
  refine ⟨fun pos pins s σ H Q I h => ?_⟩
  refine PySem.W.items_star (thn (he.run pins s σ H _ I h) fun v s1 ⟨y, H1, I1, ry, a, kvs, ey, hx, q⟩ => ?_) hs
  subst ey
  obtain rfl : v = Value.ref a := ry
  refine star_dT hc I1 hx fun us s2 bs I2 hk rv => ?_
  exact thn (hr.run pos pins s2 σ H1 _ I2 (q bs hk)) fun ws s3 ⟨vs, H3, I3, r3, q3⟩ => ⟨bs.map V.ref ++ vs, H3, I3, rv.append r3, q3⟩
end Kw
/-! Own errors under any built-in one, with an __init__ of their own: made, kept, asked. -/
namespace PySem
namespace Kx
open PySem.W PySem.Calls PyProof.Rows PySem.HandSPX Builtin Builtin.ObjectAttr
/-- a built-in error B under which own ones stand: who makes them, who sets them up, the row of classes -/
structure Bs (B newId initId : String) (tl : List Value) : Prop where
  new : ∃ (D i0 : String) (bmD : List Value), ExcBaseFacts D newId i0 bmD ∧ tl.contains (.type D) = true
  nA : tl.contains (.type "AttributeError") = false
  nN : tl.contains (.type "NameError") = false
  ini : PyProof.Rows.ExcClass B newId initId
  has : tl.contains (.type B) = true
  obj : tl.contains (.type "object") = true
  pass : ∀ self : Value, refuseLoop self "__setattr__" tl = pure ()
abbrev tIndex : List Value := [.type "IndexError", .type "LookupError", .type "Exception", .type "BaseException", .type "object"]
abbrev tKey : List Value := [.type "KeyError", .type "LookupError", .type "Exception", .type "BaseException", .type "object"]
abbrev tOver : List Value := [.type "OverflowError", .type "ArithmeticError", .type "Exception", .type "BaseException", .type "object"]
abbrev tLook : List Value := [.type "LookupError", .type "Exception", .type "BaseException", .type "object"]
abbrev tRun : List Value := [.type "RuntimeError", .type "Exception", .type "BaseException", .type "object"]
abbrev tArith : List Value := [.type "ArithmeticError", .type "Exception", .type "BaseException", .type "object"]
theorem bs_Index : Bs "IndexError" "IndexError.__new__" "IndexError.__init__" tIndex := ⟨⟨_, _, _, F.excBase_IndexError, by decide +kernel⟩, by decide +kernel, by decide +kernel, excClass_IndexError, by decide +kernel, by decide +kernel, fun x => by kernel_rfl⟩
theorem bs_Key : Bs "KeyError" "LookupError.__new__" "KeyError.__init__" tKey := ⟨⟨_, _, _, F.excBase_LookupError, by decide +kernel⟩, by decide +kernel, by decide +kernel, excClass_KeyError, by decide +kernel, by decide +kernel, fun x => by kernel_rfl⟩
theorem bs_Over : Bs "OverflowError" "OverflowError.__new__" "OverflowError.__init__" tOver := ⟨⟨_, _, _, F.excBase_OverflowError, by decide +kernel⟩, by decide +kernel, by decide +kernel, excClass_OverflowError, by decide +kernel, by decide +kernel, fun x => by kernel_rfl⟩
theorem bs_Look : Bs "LookupError" "LookupError.__new__" "LookupError.__init__" tLook := ⟨⟨_, _, _, F.excBase_LookupError, by decide +kernel⟩, by decide +kernel, by decide +kernel, excClass_LookupError, by decide +kernel, by decide +kernel, fun x => by kernel_rfl⟩
theorem bs_Run : Bs "RuntimeError" "RuntimeError.__new__" "RuntimeError.__init__" tRun := ⟨⟨_, _, _, F.excBase_RuntimeError, by decide +kernel⟩, by decide +kernel, by decide +kernel, excClass_RuntimeError, by decide +kernel, by decide +kernel, fun x => by kernel_rfl⟩
theorem bs_Arith : Bs "ArithmeticError" "ArithmeticError.__new__" "ArithmeticError.__init__" tArith := ⟨⟨_, _, _, F.excBase_ArithmeticError, by decide +kernel⟩, by decide +kernel, by decide +kernel, excClass_ArithmeticError, by decide +kernel, by decide +kernel, fun x => by kernel_rfl⟩
/-- the written class: over the row tl, made by newId, with a dict -/
def oxB (K : Frag) (C : Addr) (tl : List Value) (newId : String) : Bool :=
  match K.lookup C with
  | some ⟨.type "type", _, .cls c, sl⟩ =>
    match c.mro, sl.toList with
    | .ref C1 :: bm, [_, _, _, _, some (.builtin n), _] => (C1 == C && n == newId) && (!c.hasDel && (c.hasDict && bm == tl))
    | _, _ => false
  | _ => false
theorem ox_obj {K : Frag} {C : Addr} {tl : List Value} {newId : String} (q : oxB K C tl newId = true) :
    ∃ nm qn N bs sn sub ab col dd k0 k1 k2 k3 k5, K.lookup C = some (excClassObj nm qn C N bs tl true sn sub ab col dd k0 k1 k2 k3 k5 newId) := by
  unfold oxB at q
  split at q
  · rename_i dd c sl e
    split at q
    · rename_i C1 bm k0 k1 k2 k3 n k5 em es
      obtain ⟨q1, q2⟩ := Bool.and_eq_true_iff.mp q
      obtain ⟨q3, q4⟩ := Bool.and_eq_true_iff.mp q1
      obtain ⟨q5, q6⟩ := Bool.and_eq_true_iff.mp q2
      obtain ⟨q7, q8⟩ := Bool.and_eq_true_iff.mp q6
      obtain rfl := beq_iff_eq.mp q3
      obtain rfl := beq_iff_eq.mp q4
      obtain rfl := beq_iff_eq.mp q8
      obtain ⟨nm, bs, mr, N, qn, hd, sn, sub, ab, col, dl⟩ := c
      dsimp only at em q5 q7
      subst em
      subst q7
      have q9 : dl = false := by cases dl <;> first | rfl | cases q5
      subst q9
      obtain ⟨l⟩ := sl
      dsimp only at es
      subst es
      exact ⟨nm, qn, N, bs, sn, sub, ab, col, dd, k0, k1, k2, k3, k5, e⟩
    · cases q
  · cases q
section
variable {M : Model} {A : Around} {E : Value → Shared → Prop} {h : Heap} {g : Array GenState} {d : Drawn} {t : Nat} {os : OsState}
variable {nm q : Str} {C N : Addr} {bs tl bmD : List Value} {sn : List Str} {sub : List Value} {ab : Bool} {col : Option Bool} {dd : Option Addr} {k0 k1 k2 k3 k5 : Option Value} {B D newId initId i0 : String}
theorem chk_new (fb : ExcBaseFacts D newId i0 bmD) (hD : tl.contains (.type D) = true) {us : List Value} {Q : Unit → Shared → Prop} (eC : h.get? C = some (excClassObj nm q C N bs tl true sn sub ab col dd k0 k1 k2 k3 k5 newId)) (k : Q () ⟨h, g, d, t, os⟩) :
    wpAny M A (checkBuiltinCall newId ⟨.ref C :: us, []⟩) Q E ⟨h, g, d, t, os⟩ := by
  have cD : (Value.ref C :: tl).contains (.type D) = true := by rw [List.contains_cons, hD, Bool.or_true]
  have ns := fb.noStar
  simp only [checkBuiltinCall, fb.newKind, fb.newSplit, fb.newRow]
  repeat (first | refine wpAny_loadPart_at eC ?_ | (refine wpAny_isSubtype_exc eC ?_; rw [cD]) | refine wpAny_staticBase_exc eC ?_ | refine wpAny_madeBy_exc eC ?_ | simp only [bne_self_eq_false, Bool.false_eq_true, if_false] | wp_step)
  exact k
theorem chk_init (b : Bs B newId initId tl) {x : Addr} {ox : Obj} {us : List Value} {Q : Unit → Shared → Prop} (eC : h.get? C = some (excClassObj nm q C N bs tl true sn sub ab col dd k0 k1 k2 k3 k5 newId)) (ex : h.get? x = some ox) (ec : ox.cls = .ref C)
    (k : Q () ⟨h, g, d, t, os⟩) : wpAny M A (checkBuiltinCall initId ⟨.ref x :: us, []⟩) Q E ⟨h, g, d, t, os⟩ := by
  have cB : (Value.ref C :: tl).contains (.type B) = true := by rw [List.contains_cons, b.has, Bool.or_true]
  have ns := b.ini.notStar
  simp only [checkBuiltinCall, b.ini.initKind, b.ini.initSplit, b.ini.initSig]
  repeat (first | (with_reducible refine wpAny_loadPart_at ex ?_; rw [ec]) | with_reducible refine wpAny_loadPart_at eC ?_ | (with_reducible refine wpAny_isSubtype_exc eC ?_; rw [cB]) | wp_step)
  refine wpAny_onRaise ?_
  rw [show ∀ (a1 a2 : String) (n : Nat), Bind.check ⟨.positional, "*", B, .self, [⟨"args", .varPos, false⟩]⟩ a1 a2 n (List.map (fun z => z.fst) ({ pos := Value.ref x :: us } : Args).kw) = pure () from fun a1 a2 n => check_star_args _ _ _ _ _ _]
  exact wpAny_pure k
end
section
variable {prog : Program} {w : World} {A : Around} {E : Value → Shared → Prop} {R : Result → Shared → Prop} {h : Heap} {g : Array GenState} {d : Drawn} {t : Nat} {os : OsState}
variable {nm q : Str} {C N : Addr} {bs tl bmD : List Value} {sn : List Str} {sub : List Value} {ab : Bool} {col : Option Bool} {dd : Option Addr} {k0 k1 k2 k3 k5 : Option Value} {B D newId initId i0 : String}
theorem the_new (fb : ExcBaseFacts D newId i0 bmD) (hD : tl.contains (.type D) = true) (nA : tl.contains (.type "AttributeError") = false) (nN : tl.contains (.type "NameError") = false) {us : List Value} (eC : h.get? C = some (excClassObj nm q C N bs tl true sn sub ab col dd k0 k1 k2 k3 k5 newId))
    (k : R (.ok (.ret (.ref (h.objs.size + 1)))) ⟨(h.push (kdv_tup us)).push (excO C h.objs.size), g, d, t, os⟩) (hz : us.length ≤ sizeLine) : codeAny (model prog w) A (.builtin newId ⟨.ref C :: us, []⟩) R ⟨h, g, d, t, os⟩ := by
  have he := fb.ends
  have c1 : (Value.ref C :: tl).contains (.type D) = true := by rw [List.contains_cons, hD, Bool.or_true]
  have c2 : (Value.ref C :: tl).contains (.type "AttributeError") = false := by rw [List.contains_cons, nA]; rfl
  have c3 : (Value.ref C :: tl).contains (.type "NameError") = false := by rw [List.contains_cons, nN]; rfl
  refine codeAny_builtinAt fb.entry ?_
  unfold Builtin.«BaseException.__new__»
  refine wpAt_bind ?_
  show wpAt _ _ _ (stack >>= _) _ _ _
  refine wpAt_bind (wpAt_stack fun y1 y2 => wpAt_of_wpAny ?_)
  wp_walk
  refine wpAt_of_wpAny ?_
  rw [fb.owner]
  repeat (first | with_reducible refine wpAny_madeHere_exc fb.canon eC ?_ | with_reducible refine wpAny_loadPart_at eC ?_ | (with_reducible refine wpAny_isSubtype_exc eC ?_; first | rw [c1] | rw [c2] | rw [c3]) | wp_step)
  show R _ _
  rw [Heap.size_push]
  exact k
/-- C(us), C over tl, by its own __init__ at fI -/
theorem the_call (b : Bs B newId initId tl) {us : List Value} {fI : Addr} (eC : h.get? C = some (excClassObj nm q C N bs tl true sn sub ab col dd k0 k1 k2 k3 k5 newId))
    (hi : W.Looks (model prog w) h (typeLookup (.ref C) "__init__") (some (.ref fI))) (hb : ∀ x, W.Looks (model prog w) h (bindSpecial (.ref fI) x) (.ref fI, [x])) (hz : us.length ≤ sizeLine)
    (k : codeAny (model prog w) (A.under (.builtin "type.__call__" ⟨.ref C :: us, []⟩)) (.call (.ref fI) ⟨.ref (h.objs.size + 1) :: us, []⟩) (W.InitBack (h.objs.size + 1) R) ⟨(h.push (W.kdv_tup us)).push (excO C h.objs.size), g, d, t, os⟩) :
    codeAny (model prog w) A (.call (.ref C) ⟨us, []⟩) R ⟨h, g, d, t, os⟩ := by
  obtain ⟨D, i0, bmD, fb, hD⟩ := b.new
  have t1 := tc_lookup
  have t2 := tc_bind (.ref C)
  have tC : (⟨h, g, d, t, os⟩ : Shared).TypeIs (.ref C) "type" := ⟨_, eC, rfl⟩
  refine codeAny_of_tree ?_
  show wpAny _ _ (callAny (.ref C) _) _ _ _
  repeat (any_goals (first | assumption | with_reducible refine wpAny_loadPart_at eC ?_ | wp_step))
  refine ⟨rfl, codeAny_call_builtin_at (Code.quiet_builtin _ (by decide +kernel)) entry_typeCall (wpAny_check_type_call_sub eC ?_)⟩
  show wpAny (model prog w) (A.under (.builtin "type.__call__" ⟨.ref C :: us, []⟩)) (Builtin.«type.__call__» ⟨.ref C :: us, []⟩) _ _ _
  repeat (first | with_reducible refine wpAny_loadPart_at eC ?_ | with_reducible refine wpAny_madeBy_exc eC ?_ | wp_step)
  refine codeAny_call_builtin_code (Code.quiet_builtin _ fb.quiet) (chk_new fb hD eC ?_)
  refine the_new fb hD b.nA b.nN eC ?_ hz
  show wpAny _ _ _ _ _ _
  have kp : ∀ y o, h.get? y = some o → ((h.push (W.kdv_tup us)).push (excO C h.objs.size)).get? y = some o := fun y o z => Heap.get?_push_of_some _ (Heap.get?_push_of_some _ z)
  have eC1 := kp _ _ eC
  have e1 : ((h.push (W.kdv_tup us)).push (excO C h.objs.size)).get? (h.objs.size + 1) = some (excO C h.objs.size) := by heap_get
  have cC : (Value.ref C :: tl).contains (.ref C) = true := by simp
  have j1 := hi.keeps kp
  have j2 := (hb (.ref (h.objs.size + 1))).keeps kp
  unfold isInstance
  repeat (first | with_reducible refine wpAny_loadPart_at e1 ?_ | (with_reducible refine wpAny_isSubtype_exc eC1 ?_; rw [cC]) | wp_step)
  show wpAny _ _ (typeLookup (.ref C) _) _ _ _
  refine j1.at (wpAny_holding (wpAny_bind (j2.at ?_)))
  refine wpAny_bind (wpAny_call (codeAny_mono k fun r s' z => ?_))
  rcases r with e | (v | _ | _ | _) <;> first | exact z | exact z.elim | skip
  obtain ⟨rfl, z⟩ := z
  first
    | exact wpAny_pure (wpAny_pure z)
    | (wp_walk; exact z)
/-- B.__init__(x, ..): the args are laid anew -/
theorem the_init (b : Bs B newId initId tl) {x t0 : Addr} {us : List Value} (eC : h.get? C = some (excClassObj nm q C N bs tl true sn sub ab col dd k0 k1 k2 k3 k5 newId)) (ex : h.get? x = some (excO C t0)) (hz : us.length ≤ sizeLine)
    (k : ∀ h' t1, (∀ y o, y ≠ x → h.get? y = some o → h'.get? y = some o) → h'.get? x = some (excO C t1) → R (.ok (.ret .none)) ⟨h', g, d, t, os⟩) :
    codeAny (model prog w) A (.call (.builtin initId) ⟨.ref x :: us, []⟩) R ⟨h, g, d, t, os⟩ := by
  refine codeAny_call_builtin b.ini.init.plain b.ini.initEntry (chk_init b eC ex rfl ?_)
  wp_walk
  refine k _ h.objs.size (fun y o hy ho => ?_) ?_
  · rw [Heap.get?_update_other _ _ (Ne.symm hy)]
    exact Heap.get?_push_of_some _ ho
  · rw [Heap.get?_update_self _ (Heap.get?_push_of_some _ ex) rfl]
    rfl
end
end Kx
end PySem
namespace PySem
namespace Kx
open PySem.W PySem.Calls PyProof.Rows PySem.HandSPX Builtin Builtin.ObjectAttr
section
variable {prog : Program} {w : World} {A : Around} {E : Value → Shared → Prop} {R : Result → Shared → Prop} {hp : Heap} {g : Array GenState} {d : Drawn} {t : Nat} {os : OsState}
/-- x.name = v, the first name -/
theorem set_first {K : W.Frag} {B newId initId : String} {tl : List Value} {name : Str} {tk : Tok} {v : Value} {x C : Addr} {fv : Array Value} {cd : ClassData} (b : Bs B newId initId tl)
    (X : K.In hp) (ex : hp.get? x = some { cls := .ref C, data := .fields fv }) (ec : W.clsIn K C = some cd) (em : cd.mro = .ref C :: tl) (ed : cd.hasDict = true) (no : W.findIn K (.ref C) name = some none)
    (k : ∀ h' tk' dx, (∀ y o, y ≠ x → hp.get? y = some o → h'.get? y = some o) → hp.objs.size ≤ dx → dx ≠ x → h'.get? x = some { cls := .ref C, dict := some dx, data := .fields fv } →
      h'.Ns1 dx (fun z => if z = name then some v else none) → R (.ok (.ret .none)) ⟨h', g, d, tk', os⟩) :
    codeAny (model prog w) A (.call (.builtin "object.__setattr__") ⟨[.ref x, .str name tk, v], []⟩) R ⟨hp, g, d, t, os⟩ := by
  have I : W.InstAt hp x { cls := .ref C, data := .fields fv } C none := ⟨ex, rfl, rfl, trivial⟩
  have SF := F.store_object
  have ob : cd.mro.contains (.type "object") = true := by rw [em, List.contains_cons, b.obj, Bool.or_true]
  have nx : x ≠ hp.objs.size := Nat.ne_of_lt (Heap.lt_size ex)
  have sb : W.Looks (model prog w) hp (isInstance (.ref x) (.type "object")) true := I.type.andThen (W.looks_mroIn X (by unfold W.mroIn; rw [ec, Option.bind_some, if_neg (by rw [em]; exact Bool.false_ne_true), ob]))
  refine codeAny_call_builtin SF.slot.plain SF.entry (@W.check_slot (model prog w) _ _ ⟨hp, g, d, t, os⟩ "object.__setattr__" "object" "__setattr__" (.ref x) [.str name tk, v] [] _ SF.kind SF.split sb (SF.args (.ref x) (.str name tk) v) ?_)
  have mr : W.Looks (model prog w) hp (mroOf (.ref C)) cd.mro := (W.looks_clsIn X ec).andThen .now
  have l3 : W.Looks (model prog w) hp (storeTaker? none) none := .now
  have lc : W.Looks (model prog w) hp (classData C) cd := W.looks_clsIn X ec
  rw [W.osa_eq, refuse_eq]
  refine wpAny_bind (wpAny_bind (I.type.at (wpAny_bind (mr.at ?_))))
  rw [em, refuseLoop_ref, b.pass]
  refine wpAny_pure (wpAny_bind (I.type.at (wpAny_bind ((W.looks_findIn X no).at (wpAny_bind (l3.at ?_))))))
  show wpAny _ _ (storeInOwnDict (.ref x) (.ref C) (.str name tk) name v false) _ _ _
  obtain ⟨nm, bs, mro, ns, qn, hd, sn, su, ab, col, del⟩ := cd
  dsimp only at ed
  subst ed
  unfold storeInOwnDict ownDictForStores
  repeat (first | with_reducible refine store_in_new ?_ ?_ | with_reducible refine wpAny_loadPart_at ex ?_ | with_reducible refine lc.at ?_ | wp_step)
  · exact ⟨_, #[], _, (Heap.get?_update_ne _ _ _ _ nx.symm).trans (Heap.get?_push_at rfl rfl), rfl, fun z hz => absurd hz (by simp), fun _ => rfl⟩
  · intro h' tk' hn hs
    have ex1 : (hp.push { cls := .type "dict", data := .dict #[] }).get? x = some { cls := .ref C, data := .fields fv } := Heap.get?_push_of_some _ ex
    refine k h' tk' hp.objs.size (fun y o hy ho => ?_) (Nat.le_refl _) nx.symm ?_ hn
    · exact (hs.2 y (Nat.ne_of_lt (Heap.lt_size ho))).trans ((Heap.get?_update_ne _ _ _ _ hy).trans (Heap.get?_push_of_some _ ho))
    · exact (hs.2 x nx).trans (Heap.get?_update_self _ ex1 rfl)
/-- x.name = v, a further one -/
theorem set_more {K : W.Frag} {B newId initId : String} {tl : List Value} {name : Str} {tk : Tok} {v : Value} {x C dx : Addr} {fv : Array Value} {cd : ClassData} {m0 : Str → Option Value} {nl : List Str} (b : Bs B newId initId tl)
    (X : K.In hp) (ex : hp.get? x = some { cls := .ref C, dict := some dx, data := .fields fv }) (ns1 : hp.Ns1 dx m0) (hw : Within m0 nl) (hz : nl.length ≤ 1000) (ec : W.clsIn K C = some cd) (em : cd.mro = .ref C :: tl) (eh : cd.hasDict = true)
    (no : W.findIn K (.ref C) name = some none)
    (k : ∀ h' tk', (∀ y o, y ≠ dx → hp.get? y = some o → h'.get? y = some o) → h'.Ns1 dx (fun z => if z = name then some v else m0 z) → R (.ok (.ret .none)) ⟨h', g, d, tk', os⟩) :
    codeAny (model prog w) A (.call (.builtin "object.__setattr__") ⟨[.ref x, .str name tk, v], []⟩) R ⟨hp, g, d, t, os⟩ := by
  obtain ⟨oD, esD, epD, hoD, hdD, _⟩ := ns1.count hw
  have I : W.InstAt hp x { cls := .ref C, dict := some dx, data := .fields fv } C (some oD) := ⟨ex, rfl, rfl, hoD⟩
  have SF := F.store_object
  have ob : cd.mro.contains (.type "object") = true := by rw [em, List.contains_cons, b.obj, Bool.or_true]
  have sb : W.Looks (model prog w) hp (isInstance (.ref x) (.type "object")) true := I.type.andThen (W.looks_mroIn X (by unfold W.mroIn; rw [ec, Option.bind_some, if_neg (by rw [em]; exact Bool.false_ne_true), ob]))
  refine codeAny_call_builtin SF.slot.plain SF.entry (@W.check_slot (model prog w) _ _ ⟨hp, g, d, t, os⟩ "object.__setattr__" "object" "__setattr__" (.ref x) [.str name tk, v] [] _ SF.kind SF.split sb (SF.args (.ref x) (.str name tk) v) ?_)
  have mr : W.Looks (model prog w) hp (mroOf (.ref C)) cd.mro := (W.looks_clsIn X ec).andThen .now
  have l3 : W.Looks (model prog w) hp (storeTaker? none) none := .now
  have lc : W.Looks (model prog w) hp (classData C) cd := W.looks_clsIn X ec
  rw [W.osa_eq, refuse_eq]
  refine wpAny_bind (wpAny_bind (I.type.at (wpAny_bind (mr.at ?_))))
  rw [em, refuseLoop_ref, b.pass]
  refine wpAny_pure (wpAny_bind (I.type.at (wpAny_bind ((W.looks_findIn X no).at (wpAny_bind (l3.at ?_))))))
  show wpAny _ _ (storeInOwnDict (.ref x) (.ref C) (.str name tk) name v false) _ _ _
  obtain ⟨nm, bs, mro, ns, qn, hd, sn, su, ab, col, del⟩ := cd
  dsimp only at eh
  subst eh
  unfold storeInOwnDict ownDictForStores
  repeat (first | with_reducible refine OEX.store_in_old ns1 hw hz ?_ | with_reducible refine wpAny_loadPart_at ex ?_ | with_reducible refine lc.at ?_ | wp_step)
  intro h' tk' hn hs
  exact k h' tk' (fun y o hy ho => (hs.2 y hy).trans ho) hn
end
end Kx
end PySem
namespace L2
open PySem PySem.Spec PyProof.Rows PySem.Kx
/-- an own error class over B with an __init__ of its own -/
structure OxC (K : PySem.W.Frag) (C : Addr) (B newId initId : String) (tl : List Value) : Prop where
  bs : Bs B newId initId tl
  cls : oxB K C tl newId = true
  sa : PySem.W.findIn K (.ref C) "__setattr__" = some (some (.builtin "object.__setattr__"))
  kC : PySem.W.keepIn K (.ref C) = true
/-- it is such a class, whichever B is -/
def Ox (K : PySem.W.Frag) (C : Addr) : Prop := ∃ B n i tl, OxC K C B n i tl
section
variable {X : Cx} {pins : List (Addr × Obj)} {σ : St} {H : Hp} {s : Shared} {a C dx : Addr} {f : Str} {y : V} {u : Value} {fs : List (Str × V)} {Q : Unit → Shared → Prop} {E : Value → Shared → Prop} {A : Around} {B newId initId : String} {tl : List Value}
theorem ox_cls (T : OxC X.K C B newId initId tl) : ∃ cd, PySem.W.clsIn X.K C = some cd ∧ cd.mro = .ref C :: tl ∧ cd.hasDict = true := by
  obtain ⟨nm, qn, N, bs, sn, sub, ab, col, dd, k0, k1, k2, k3, k5, hC⟩ := ox_obj T.cls
  have z : PySem.W.clsIn X.K C = some { name := nm, bases := bs, mro := .ref C :: tl, ns := N, qualname := qn, hasDict := true, slotNames := sn, subclasses := sub, abstract := ab, collection := col, hasDel := false } := by
    unfold PySem.W.clsIn
    rw [hC] <;> rfl
  exact ⟨_, z, rfl, rfl⟩
theorem ox_new (T : OxC X.K C B newId initId tl) (I : Inv X pins σ H s) (e : H a = some (exo a C none)) (no : PySem.W.findIn X.K (.ref C) f = some none) (ry : RelV y u)
    (h : ∀ dx s', H dx = none → dx ≠ a → Inv X pins σ (upd (upd H dx (exd dx [(f, y)])) a (exo a C (some dx))) s' → Q () s') : wpAny (model X.prog X.w) A (setAttr (.ref a) f u) Q E s := by
  obtain ⟨cd, ec, em, ed⟩ := ox_cls T
  obtain ⟨t1, ho⟩ := exo_at I.hok e
  obtain ⟨hp, g, d, t, os⟩ := s
  refine PySem.W.set_plain I.kIn (ox := { cls := .ref C, dict := none, data := .fields #[.ref t1, .none, .none, .none, .bool false, .none] }) (od := none) ⟨ho, rfl, rfl, trivial⟩ T.sa ?_
  refine set_first T.bs I.kIn ho ec em ed no (fun h' tk' dx k dn dne hx hn => ?_)
  have hnd : H dx = none := I.hok.fresh dn
  have nd : ∀ {b : Addr} {o : Obj}, hp.get? b = some o → b ≠ dx := fun {b o} q => Nat.ne_of_lt (Nat.lt_of_lt_of_le (Heap.lt_size q) dn)
  have na : ∀ {b : Addr}, H b = none → b ≠ a := fun {b} n z => by
    rw [z] at n
    exact absurd (n.symm.trans e) (by intro q; cases q)
  have U1 : Un X.fs [] H (upd (upd H dx (exd dx [(f, y)])) a (exo a C (some dx))) hp h' := {
    keep := fun b o q n _ _ => k b o (na n) q
    slot := fun b o q n _ _ => ⟨o.slots, k b o (na n) q⟩
    free := fun b o q n _ => (upd_ne (na n)).trans ((upd_ne (nd q)).trans n)
    there := fun b o q _ => (Classical.em (b = a)).elim (fun hb => ⟨_, (congrArg h'.get? hb).trans hx⟩) fun hb => ⟨o, k b o hb q⟩
    tups := fun b xs q => (upd_ne (at_ne e q exo_tup)).trans ((upd_ne (ne_of_none q hnd)).trans q)
    frzs := fun b o v q => (upd_ne (at_ne e q exo_frz)).trans ((upd_ne (ne_of_none q hnd)).trans q)
    tbls := fun b ps q => ⟨#[], by rw [upd_ne (at_ne e q exo_tbl), upd_ne (ne_of_none q hnd), q, Array.append_empty]⟩ }
  refine h dx _ hnd dne (I.un (t' := tk') U1 fun b o q => ?_)
  by_cases hb : b = a
  · subst hb
    obtain rfl := Option.some.inj (upd_same.symm.trans q)
    exact exo_ok hx
  · have q := (upd_ne hb).symm.trans q
    by_cases hd : b = dx
    · subst hd
      obtain rfl := Option.some.inj (upd_same.symm.trans q)
      exact exd_ok hn (relO_put (fs := []) ry fun _ => True.intro)
    · have q := (upd_ne hd).symm.trans q
      refine (I.hok b o q).stay (fun c v hc z => k c v ?_ z) (fun c hc => (upd_ne (at_ne e hc exo_own)).trans ((upd_ne (ne_of_none hc hnd)).trans hc)) (fun c xs hc => (upd_ne (at_ne e hc exo_tup)).trans ((upd_ne (ne_of_none hc hnd)).trans hc))
      rcases hc with hc | hc
      · exact fun z => hb (hc ▸ z)
      · exact at_ne e hc exo_own
theorem ox_old (T : OxC X.K C B newId initId tl) (I : Inv X pins σ H s) (e : H a = some (exo a C (some dx))) (ed : H dx = some (exd dx fs)) (hl : fs.length ≤ 900) (no : PySem.W.findIn X.K (.ref C) f = some none) (ry : RelV y u)
    (h : ∀ s', Inv X pins σ (upd H dx (exd dx ((f, y) :: fs))) s' → Q () s') : wpAny (model X.prog X.w) A (setAttr (.ref a) f u) Q E s := by
  obtain ⟨cd, ec, em, eh⟩ := ox_cls T
  obtain ⟨t1, ho⟩ := exo_at I.hok e
  obtain ⟨mA, hns, rel⟩ := exd_at I.hok ed
  have hw := within_of rel
  obtain ⟨hp, g, d, t, os⟩ := s
  obtain ⟨oD, _, _, hoD, _, _⟩ := hns.count hw
  refine PySem.W.set_plain I.kIn (ox := { cls := .ref C, dict := some dx, data := .fields #[.ref t1, .none, .none, .none, .bool false, .none] }) (od := some oD) ⟨ho, rfl, rfl, hoD⟩ T.sa ?_
  refine set_more T.bs I.kIn ho hns hw (by rw [List.length_map]; omega) ec em eh no (fun h' tk' k hn => ?_)
  have hd : ∃ o, h'.get? dx = some o := hn.elim fun o z => z.elim fun _ z => z.elim fun _ z => ⟨o, z.1⟩
  exact h _ (I.write (t' := tk') (x := dx) (e := dx) (o := exd dx ((f, y) :: fs)) (by rw [ed]; exact True.intro) (.inl rfl) k hd (exd_ok hn (relO_put ry rel)))
theorem ox_init {us : List Value} {Q : Value → Shared → Prop} (T : OxC X.K C B newId initId tl) (I : Inv X pins σ H s) (e : H a = some (exo a C none)) (hl : us.length ≤ sizeLine) (h : ∀ s', Inv X pins σ H s' → Q .none s') :
    wpAny (model X.prog X.w) A (call (.builtin initId) (.ref a :: us)) Q E s := by
  obtain ⟨nm, qn, N, bs, sn, sub, ab, col, dd, k0, k1, k2, k3, k5, hC⟩ := ox_obj T.cls
  obtain ⟨t1, ho⟩ := exo_at I.hok e
  obtain ⟨hp, g, d, t, os⟩ := s
  refine wpAny_call (the_init T.bs (I.kIn _ _ hC) ho hl fun h' t2 k hx => ?_)
  have J := I.write (t' := t) (x := a) (e := a) (o := exo a C none) (by rw [e]; exact True.intro) (.inl rfl) k ⟨_, hx⟩ (exo_ok hx)
  have eu : upd H a (exo a C none) = H := funext fun b => (Classical.em (b = a)).elim (fun hb => by rw [hb, upd_same, e]) upd_ne
  exact h _ (eu ▸ J)
end
end L2
namespace L2
open PySem PySem.Spec PyProof.Rows PySem.Kx
/-! own errors as values: made, read, asked -/
/-- B.__init__(self, ..) -/
def tXi (K : PySem.W.Frag) (B newId initId : String) (tl : List Value) (ta : TA) : TE := fun σ H Q => ta σ H fun vs H1 => ∃ (a C : Addr) (ws : List V), vs = .ref a :: ws ∧ ws.length ≤ 1000 ∧ OxC K C B newId initId tl ∧ H1 a = some (exo a C none) ∧ Q .non H1
/-- self.f = e -/
def tXs (K : PySem.W.Frag) (f : Str) (to te : TE) : TS := fun D σ H => te σ H fun y H1 => to σ H1 fun x H2 => ∃ a C : Addr, x = .ref a ∧ Ox K C ∧ PySem.W.findIn K (.ref C) f = some none ∧
  ((H2 a = some (exo a C none) ∧ ∀ dx, H2 dx = none → dx ≠ a → D.nx σ (upd (upd H2 dx (exd dx [(f, y)])) a (exo a C (some dx)))) ∨
    ∃ (dx : Addr) (fs : List (Str × V)), H2 a = some (exo a C (some dx)) ∧ H2 dx = some (exd dx fs) ∧ fs.length ≤ 900 ∧ D.nx σ (upd H2 dx (exd dx ((f, y) :: fs))))
/-- C(e, ..), by its own __init__ -/
def tXm (C : Addr) (sp : Sp) (ta : TA) : TE := fun σ H Q => ta σ H fun vs H1 => vs.length ≤ 1000 ∧ ∀ a, H1 a = none → sp (.ref a :: vs) (upd H1 a (exo a C none)) (fun v H2 => v = .non ∧ Q (.ref a) H2) (fun _ _ _ => False)
/-- an error held at a, of the class at C -/
def ErO (H : Hp) (a C : Addr) : Prop := H a = some (ExO (.ref C) a) ∨ ∃ d fs, H a = some (exo a C (some d)) ∧ H d = some (exd d fs)
def rIsX (K : PySem.W.Frag) : List V → Hp → VK → Prop := fun xs H Q => ∃ (a C : Addr) (c : V) (cv : Value) (b : Bool), xs = [.ref a, c] ∧ ErO H a C ∧ ExcC K C ∧ RelV c cv ∧ (∀ u, RelV c u → u = cv) ∧ PySem.W.kitOne K (.ref C) cv = some b ∧ Q (.bl b) H
/-- o.f -/
def tXg (K : PySem.W.Frag) (f : Str) (te : TE) : TE := fun σ H Q => te σ H fun x H1 => ∃ (a C d : Addr) (fs : List (Str × V)) (v : V), x = .ref a ∧ H1 a = some (exo a C (some d)) ∧ H1 d = some (exd d fs) ∧ XfC K C ∧ PySem.W.findIn K (.ref C) f = some none ∧ fs.lookup f = some v ∧ Q v H1
section
variable {X : Cx} {o e : Expr} {es : List Expr} {to te : TE} {ta : TA} {f : Str} {p p' p1 p2 pos : Pos} {B newId initId : String} {tl : List Value}
theorem pe_xinit {pl : Sem Bool} {x : Str} (hg : Gl X x) (hm : X.mg x = none) (hbt : bootBuiltins x = some (.type B)) (hty : typeOf (.type B) = pure (.type "type")) (hst : Manifest.isStub B = false) (hha : PySem.W.handedIn (.builtin initId) = true)
    (vV : PySem.W.findCls X.K (.type B) (.type "type") "__init__" = some (.val (.builtin initId))) (ha : PA X (e :: es) ta) (hnm : x ≠ "__name__" := by decide) (hdb : (x == ("__debug__" : Str)) = false := by decide)
    (hc : eval (.Call (.Attribute (.Name x p1) "__init__" p2) (e :: es) [] pos) X.env = (do
      let ov ← eval (.Name x p1) X.env
      standAt p2.atName
      let (f, first) ← holding [ov] (getMethod ov "__init__" pl)
      callWith pos f first (backTo pos (starEach (e :: es) X.env)) (backToKw pos (keywordEach [] X.env))) := by rfl)
    (he : starEach (e :: es) X.env = (false, eval e X.env) :: starEach es X.env := by rfl) (hpl : (backTo pos (starEach es X.env)).any (·.1) = false := by rfl) :
    PE X (.Call (.Attribute (.Name x p1) "__init__" p2) (e :: es) [] pos) (tXi X.K B newId initId tl ta) := by
  refine ⟨fun pins s σ H Q I h => ?_⟩
  refine PySem.W.methodCall_KW (ld_blt I hg hm hbt ?_ hnm hdb) hc
  obtain ⟨m, fr⟩ := I.fr
  refine PySem.W.method_type fr I.ok.mod.kin hty hst vV hha ?_
  show wpAny _ _ (callWith pos (Value.builtin initId) [] (backTo pos (starEach (e :: es) X.env)) []) _ _ _
  refine PyProof.Rows.callWith_method1 (thn (ha.run pos pins _ σ H _ (I.tok _) h) fun us s1 ⟨vs, H1, I1, r1, a, C, ws, ev, hl, T, ea, q⟩ => ?_) he hpl
  subst ev
  cases r1 with
  | @cons _ u0 _ ur ra rw' =>
    obtain rfl : u0 = Value.ref a := ra
    have hlen : ur.length ≤ sizeLine := by
      rw [← Paired.length rw', sizeLine_eq]
      omega
    exact ox_init T I1 ea hlen fun s' J => ⟨.non, H1, J, rfl, q⟩
theorem ps_xset (ho : PE X o to) (he : PE X e te) (hs : swapsWith e (some (.Attribute o f p')) pos.line X.env = pure false := by rfl) : PS X (.Assign [.Attribute o f p'] e pos) (tXs X.K f to te) := by
  refine ⟨fun pins s σ H D I h => ?_⟩
  refine plainObj_wpAny_Assign_Attribute (thn (he.run pins s σ H _ I h) fun v s1 ⟨y, H1, I1, r1, q1⟩ => thn (ho.run pins s1 σ H1 _ I1 q1) fun u s2 ⟨x, H2, I2, r2, a, C, ex, T, hno, q⟩ => ?_) hs
  subst ex
  obtain rfl : u = Value.ref a := r2
  obtain ⟨B, n, i, tl, T⟩ := T
  rcases q with ⟨ea, q⟩ | ⟨dx, fs, ea, ed, hl, q⟩
  · exact ox_new T I2 ea hno r1 fun dx s' n ne J => ⟨σ, _, J, q dx n ne⟩
  · exact ox_old T I2 ea ed hl hno r1 fun s' J => ⟨σ, _, J, q⟩
theorem pe_xmake {x : Str} {C fI : Addr} {k : Nat} {fd : FuncData} {ps : List Str} {sp : Sp} (T : OxC X.K C B newId initId tl) (iC : PySem.W.findIn X.K (.ref C) "__init__" = some (some (.ref fI))) (tI : PySem.W.typeIn X.K (.ref fI) = some (.type "function"))
    (F1 : FnOk X.prog X.w X.K X.mg X.base CX0 k fI fd ps sp) (hr : Room (k + 1) X.A) (hb : Binds X.K fd ps []) (hg : Gl X x) (hm : X.mg x = some (.ref C)) (ha : PA X (e :: es) ta)
    (hdb : (x == ("__debug__" : Str)) = false := by decide) (he : starEach (e :: es) X.env = (false, eval e X.env) :: starEach es X.env := by rfl) (hpl : (backTo pos (starEach es X.env)).any (·.1) = false := by rfl) :
    PE X (.Call (.Name x p) (e :: es) [] pos) (tXm C sp ta) := by
  refine ⟨fun pins s σ H Q I h => ?_⟩
  obtain ⟨nm, qn, N, bs, sn, sub, ab, col, dd, k0, k1, k2, k3, k5, hC⟩ := ox_obj T.cls
  refine wpAny_Call_Name_kw (ld_glob I hg hm ?_ hdb)
  refine PySem.W.callWith_K (h₀ := X.base) I.ok.mod.kin T.kC (thn (ha.run pos pins s σ H _ I h) fun us s1 ⟨vs, H1, I1, r1, hz, q1⟩ => ⟨I1.kIn, ?_⟩) he hpl
  show wpAny _ _ (call (.ref C) us) _ _ _
  obtain ⟨hp, g, dr, tk, os⟩ := s1
  have hsz : hp.objs.size ≤ hp.objs.size + 1 := Nat.le_succ _
  have hn : H1 (hp.objs.size + 1) = none := I1.hok.fresh hsz
  have hq := q1 (hp.objs.size + 1) hn
  have kk : ∀ b o, hp.get? b = some o → ((hp.push (PySem.W.kdv_tup us)).push (PySem.HandSPX.excO C hp.objs.size)).get? b = some o := fun b o e => Heap.get?_push_of_some _ (Heap.get?_push_of_some _ e)
  have hget : ((hp.push (PySem.W.kdv_tup us)).push (PySem.HandSPX.excO C hp.objs.size)).get? (hp.objs.size + 1) = some (PySem.HandSPX.excO C hp.objs.size) := by heap_get
  have I2 : Inv X pins σ (upd H1 (hp.objs.size + 1) (exo (hp.objs.size + 1) C none)) ⟨(hp.push (PySem.W.kdv_tup us)).push (PySem.HandSPX.excO C hp.objs.size), g, dr, tk, os⟩ :=
    I1.laid (t' := tk) (a := hp.objs.size + 1) (o := exo (hp.objs.size + 1) C none) (h' := (hp.push (PySem.W.kdv_tup us)).push (PySem.HandSPX.excO C hp.objs.size)) kk hsz (exo_ok hget)
  have r2 : Vals (V.ref (hp.objs.size + 1) :: vs) (Value.ref (hp.objs.size + 1) :: us) := .cons rfl r1
  have hl : (Value.ref (hp.objs.size + 1) :: us).length = ps.length := by
    have e := r2.length
    rw [F1.len _ _ _ _ hq] at e
    exact e.symm
  have hus : us.length ≤ sizeLine := by
    rw [← Paired.length r1, sizeLine_eq]
    omega
  have hbb := hb ⟨(hp.push (PySem.W.kdv_tup us)).push (PySem.HandSPX.excO C hp.objs.size), g, dr, tk, os⟩ (Value.ref (hp.objs.size + 1) :: us) I2.kIn (by rw [List.append_nil]; exact hl)
  rw [List.append_nil] at hbb
  refine wpAny_call (the_call T.bs (I1.kIn _ _ hC) (PySem.W.looks_findIn I1.kIn iC) (fun self => PySem.W.bind_fn I1.kIn self tI) hus
    (codeAny_mono (F1.run _ X.stack _ _ ⟨Value.ref (hp.objs.size + 1) :: us, []⟩ (Value.ref (hp.objs.size + 1) :: us) _ _ (fun _ _ _ => False) (hr.make C us []) (I2.env0.make C us []) hbb r2 hq) fun r s' hq' => ?_))
  cases r with
  | error er => exact False.elim hq'
  | ok fl =>
    cases fl with
    | ret u =>
      obtain ⟨v, H', I3, rv, ev, q3⟩ := I2.after hq'
      subst ev
      exact ⟨rv, ⟨V.ref (hp.objs.size + 1), H', I3, rfl, q3⟩⟩
    | next => exact False.elim hq'
    | brk => exact False.elim hq'
    | cont => exact False.elim hq'
theorem er_at {pins : List (Addr × Obj)} {σ : St} {H : Hp} {s : Shared} {a C : Addr} (I : Inv X pins σ H s) (h : ErO H a C) : ∃ oe od, PySem.W.InstAt s.heap a oe C od := by
  rcases h with h | ⟨d, fs, h1, h2⟩
  · obtain ⟨⟨oe, vs, ho, hz, hd, _⟩, _, _⟩ := I.hok a _ h
    refine ⟨oe, none, ho, hz.1, by unfold PySem.W.notCls; rw [hd] <;> rfl, ?_⟩
    rw [hz.2]
    trivial
  · obtain ⟨t1, ho⟩ := exo_at I.hok h1
    obtain ⟨mA, hns, _⟩ := exd_at I.hok h2
    obtain ⟨od, hod, _⟩ := lookIn_ns hns
    exact ⟨_, some od, ho, rfl, rfl, hod⟩
theorem call_isX : CallR X (.builtin "isinstance") (rIsX X.K) := by
  intro pins s σ H xs us Q I r h
  obtain ⟨a, C, c, cv, b, rfl, er, T, _, hcv, e, q⟩ := h
  cases r with
  | cons rx rr =>
    cases rr with
    | cons rt rr =>
      cases rr
      cases rx
      have ec := hcv _ rt
      subst ec
      obtain ⟨oe, od, J⟩ := er_at I er
      obtain ⟨cdD, hcD, _⟩ := PySem.W.any_some T.hd
      exact PySem.W.kia_one (PySem.W.kitx_exc (by rw [hcD]; rfl) T.hg T.hk T.hs T.ha T.hn T.ht T.hm) I.kIn J e (fun z => nomatch z) fun tk => ⟨.bl b, H, I.kept (t' := tk) fun _ _ z => z, rfl, q⟩
theorem pe_xget (he : PE X e te) (hb : attributeBase e f X.env (eval e X.env) = eval e X.env := by rfl) : PE X (.Attribute e f pos) (tXg X.K f te) := by
  refine ⟨fun pins s σ H Q I h => ?_⟩
  refine attr_of hb (thn (he.run pins s σ H _ I h) fun u s1 hh => ?_)
  obtain ⟨x, H1, I1, rx, a, C, d, fs, v, ex, ea, ed, T, hno, l, q⟩ := hh
  subst ex
  obtain rfl : u = Value.ref a := rx
  obtain ⟨t1, ho⟩ := exo_at I1.hok ea
  obtain ⟨mA, hns, hr⟩ := exd_at I1.hok ed
  obtain ⟨od, hod, hl⟩ := lookIn_ns hns
  obtain ⟨u, hu, ru⟩ := RelO.some_of (v := v) (o := mA f) (by rw [← l]; exact hr f)
  have J : PySem.W.InstAt s1.heap a _ C (some od) := ⟨ho, rfl, rfl, hod⟩
  exact HandSPX.exc_get I1.kIn J T.ga T.gg T.exC (PySem.W.findObj_own T.hdC hno rfl (by rw [hl, hu])) (handed_of ru) ⟨v, H1, I1.tok _, ru, q⟩
end
end L2
namespace L2
open PySem PySem.Spec PyProof.Rows PySem.Kx
/-- an own error class: its name, its row of classes, how it is asked -/
def exB (K : PySem.W.Frag) (D : Addr) (nm : Str) (ml : List Value) : Bool :=
  (match PySem.W.clsIn K D with | some c => decide (c.name = nm) && decide (c.mro = ml) | none => false) && (decide (PySem.W.typeIn K (.ref D) = some (.type "type")) && (xfB K D &&
    (decide (PySem.W.findIn K (.ref D) "__class__" = some (some (.builtin "object.__class__"))) && (decide (PySem.W.specialIn K (.builtin "object.__class__") "__get__" = some (some (.builtin "getset_descriptor.__get__"))) && decide (PySem.W.takesIn K (.builtin "object.__class__") = some true)))))
structure ExB (K : PySem.W.Frag) (D : Addr) (nm : Str) (ml : List Value) : Prop where
  cl : ∃ c, PySem.W.clsIn K D = some c ∧ c.name = nm ∧ c.mro = ml
  ty : PySem.W.typeIn K (.ref D) = some (.type "type")
  xf : XfC K D
  ha : PySem.W.findIn K (.ref D) "__class__" = some (some (.builtin "object.__class__"))
  hn : PySem.W.specialIn K (.builtin "object.__class__") "__get__" = some (some (.builtin "getset_descriptor.__get__"))
  ht : PySem.W.takesIn K (.builtin "object.__class__") = some true
section
variable {K : PySem.W.Frag} {D C : Addr} {nm nm' : Str} {ml ml' : List Value}
theorem exB_ok (h : exB K D nm ml = true) : ExB K D nm ml := by
  obtain ⟨h1, h⟩ := Bool.and_eq_true_iff.mp h
  obtain ⟨h2, h⟩ := Bool.and_eq_true_iff.mp h
  obtain ⟨h3, h⟩ := Bool.and_eq_true_iff.mp h
  obtain ⟨h4, h⟩ := Bool.and_eq_true_iff.mp h
  obtain ⟨h5, h6⟩ := Bool.and_eq_true_iff.mp h
  refine ⟨?_, of_decide_eq_true h2, xfB_ok h3, of_decide_eq_true h4, of_decide_eq_true h5, of_decide_eq_true h6⟩
  split at h1
  · rename_i c e
    obtain ⟨q1, q2⟩ := Bool.and_eq_true_iff.mp h1
    exact ⟨c, e, of_decide_eq_true q1, of_decide_eq_true q2⟩
  · cases h1
theorem ExB.ne (h1 : ExB K D nm ml) (h2 : ExB K C nm' ml') (n : nm ≠ nm') : D ≠ C := fun z => by
  subst z
  obtain ⟨c, e, e1, _⟩ := h1.cl
  obtain ⟨c', e', e1', _⟩ := h2.cl
  cases e.symm.trans e'
  exact n (e1.symm.trans e1')
theorem ExB.sub (h : ExB K D nm ml) (hne : ml ≠ []) (v : Value) : PySem.W.mroIn K D v = some (ml.contains v) := by
  obtain ⟨c, e, _, em⟩ := h.cl
  unfold PySem.W.mroIn
  rw [e, Option.bind_some, em, if_neg]
  intro z
  exact hne (List.isEmpty_iff.mp z)
theorem ExB.exc (h : ExB K D nm ml) (ho : ml.contains (.type "object") = true) : ExcC K D :=
  ⟨h.xf.ga, h.xf.gg, h.xf.exC, h.xf.hdC, h.ha, h.hn, h.ht, by rw [h.sub (fun z => by rw [z] at ho; cases ho), ho]⟩
theorem ExB.kitC (h1 : ExB K D nm ml) (h2 : ExB K C nm' ml') (hne : ml ≠ []) : PySem.W.kitOne K (.ref D) (.ref C) = some (decide (D = C) || ml.contains (.ref C)) := by
  by_cases e : D = C
  · subst e
    show (if (Value.ref D == Value.ref D) = true then some true else _) = _
    rw [if_pos (by simp)]
    simp
  · show (if (Value.ref D == Value.ref C) = true then some true else PySem.W.kitCls K (.ref D) (.ref C)) = _
    rw [if_neg (by simp [e]), decide_eq_false e, Bool.false_or]
    obtain ⟨c, ec, _, _⟩ := h2.cl
    unfold PySem.W.kitCls
    dsimp only
    rw [if_pos (by rw [ec, h2.ty]; simp)]
    exact h1.sub hne _
theorem ExB.kitT (h1 : ExB K D nm ml) (hne : ml ≠ []) {T : String} (hT : PySem.W.kitMeta T = true) : PySem.W.kitOne K (.ref D) (.type T) = some (ml.contains (.type T)) := by
  show (if (Value.ref D == Value.type T) = true then some true else PySem.W.kitCls K (.ref D) (.type T)) = _
  rw [if_neg (by simp)]
  unfold PySem.W.kitCls
  dsimp only
  rw [if_pos hT]
  exact h1.sub hne _
end
end L2
/-! own errors with an __init__ below any built-in error, raised; o[k] by an own __getitem__ that may raise -/
namespace L2
open PySem PySem.Spec PyProof.Rows PySem.Kx
section
variable {X : Cx} {e : Expr} {es : List Expr} {ta : TA} {p pos : Pos} {B newId initId : String} {tl : List Value}
theorem pmk_ox {CX : CXT} {x : Str} {C fI : Addr} {k : Nat} {fd : FuncData} {ps : List Str} {sp : Sp} (T : OxC X.K C B newId initId tl) (exC : PySem.W.subIn X.K (.ref C) (.type "BaseException") = some true) (tyC : PySem.W.typeIn X.K (.ref C) = some (.type "type")) (iC : PySem.W.findIn X.K (.ref C) "__init__" = some (some (.ref fI))) (tI : PySem.W.typeIn X.K (.ref fI) = some (.type "function"))
    (F1 : FnOk X.prog X.w X.K X.mg X.base CX k fI fd ps sp) (hr : Room (k + 1) X.A) (hb : Binds X.K fd ps []) (hx : Passes CX X (fun _ _ _ => False)) (hg : Gl X x) (hm : X.mg x = some (.ref C)) (ha : PA X (e :: es) ta)
    (hdb : (x == ("__debug__" : Str)) = false := by decide) (he : starEach (e :: es) X.env = (false, eval e X.env) :: starEach es X.env := by rfl) (hpl : (backTo pos (starEach es X.env)).any (·.1) = false := by rfl) :
    PMk X (.Call (.Name x p) (e :: es) [] pos) (tMkO C sp [] ta) := by
  intro pins s σ H Q I h
  obtain ⟨nm, qn, N, bs, sn, sub, ab, col, dd, k0, k1, k2, k3, k5, hC⟩ := ox_obj T.cls
  refine wpAny_Call_Name_kw (ld_glob I hg hm ?_ hdb)
  refine PySem.W.callWith_K (h₀ := X.base) I.ok.mod.kin T.kC (thn (ha.run pos pins s σ H _ I h) fun us s1 ⟨vs, H1, I1, r1, hz, q1⟩ => ⟨I1.kIn, ?_⟩) he hpl
  show wpAny _ _ (call (.ref C) us) _ _ _
  obtain ⟨hp, g, dr, tk, os⟩ := s1
  have hsz : hp.objs.size ≤ hp.objs.size + 1 := Nat.le_succ _
  have hn : H1 (hp.objs.size + 1) = none := I1.hok.fresh hsz
  have hq := q1 (hp.objs.size + 1) hn
  rw [List.append_nil] at hq
  have kk : ∀ b o, hp.get? b = some o → ((hp.push (PySem.W.kdv_tup us)).push (PySem.HandSPX.excO C hp.objs.size)).get? b = some o := fun b o e => Heap.get?_push_of_some _ (Heap.get?_push_of_some _ e)
  have hget : ((hp.push (PySem.W.kdv_tup us)).push (PySem.HandSPX.excO C hp.objs.size)).get? (hp.objs.size + 1) = some (PySem.HandSPX.excO C hp.objs.size) := by heap_get
  have I2 : Inv X pins σ (upd H1 (hp.objs.size + 1) (exo (hp.objs.size + 1) C none)) ⟨(hp.push (PySem.W.kdv_tup us)).push (PySem.HandSPX.excO C hp.objs.size), g, dr, tk, os⟩ :=
    I1.laid (t' := tk) (a := hp.objs.size + 1) (o := exo (hp.objs.size + 1) C none) (h' := (hp.push (PySem.W.kdv_tup us)).push (PySem.HandSPX.excO C hp.objs.size)) kk hsz (exo_ok hget)
  have r2 : Vals (V.ref (hp.objs.size + 1) :: vs) (Value.ref (hp.objs.size + 1) :: us) := .cons rfl r1
  have hl : (Value.ref (hp.objs.size + 1) :: us).length = ps.length := by
    have e := r2.length
    rw [F1.len _ _ _ _ hq] at e
    exact e.symm
  have hus : us.length ≤ sizeLine := by
    rw [← Paired.length r1, sizeLine_eq]
    omega
  have hbb := hb ⟨(hp.push (PySem.W.kdv_tup us)).push (PySem.HandSPX.excO C hp.objs.size), g, dr, tk, os⟩ (Value.ref (hp.objs.size + 1) :: us) I2.kIn (by rw [List.append_nil]; exact hl)
  rw [List.append_nil] at hbb
  refine wpAny_call (the_call T.bs (I1.kIn _ _ hC) (PySem.W.looks_findIn I1.kIn iC) (fun self => PySem.W.bind_fn I1.kIn self tI) hus
    (codeAny_mono (F1.run _ X.stack _ _ ⟨Value.ref (hp.objs.size + 1) :: us, []⟩ (Value.ref (hp.objs.size + 1) :: us) _ _ (fun _ _ _ => False) (hr.make C us []) (I2.env0.make C us []) hbb r2 hq) fun r s' hq' => ?_))
  cases r with
  | error er => exact hx pins σ _ _ er s' I2 hq'
  | ok fl =>
    cases fl with
    | ret u =>
      obtain ⟨v, H2, os2, bare2, un2, hok2, rv, ev, d, fs, ea, ed, hd1, q2⟩ := hq'
      subst ev
      obtain ⟨h2, g2, d2, t2, os'⟩ := s'
      exact ⟨rv, mk_end (raises_own exC tyC) I1 hsz kk un2 hok2 os2 bare2 ea ed hd1 q2⟩
    | next => exact False.elim hq'
    | brk => exact False.elim hq'
    | cont => exact False.elim hq'
end
section
variable {X : Cx} {CX : CXT} {k : Nat} {f C : Addr} {fd : FuncData} {ps : List Str} {sp : Sp} {E : St → XK} {o e : Expr} {to te : TE} {pos : Pos}
theorem run_atS {pins : List (Addr × Obj)} {σ : St} {H : Hp} {s : Shared} {vs : List V} {us : List Value} {Q : VK} {A : Around} (F : FnOk X.prog X.w X.K X.mg X.base CX k f fd ps sp) (hb : Binds X.K fd ps []) (hx : PassesAt CX X σ (E σ)) (hA : A.frames = X.A.frames) (hr : Room k A)
    (I : Inv X pins σ H s) (r : Vals vs us) (q : sp vs H Q (E σ)) : wpAny (model X.prog X.w) A (call (.ref f) us) (EP X pins σ Q) X.xe s := by
  have e0 : Env0 X.prog X.w X.K X.mg X.base A X.stack s H := by
    have e := I.env0
    exact ⟨hA.trans e.frames, e.mod, e.bs, e.bsz, e.funs, e.frf, e.hok, e.bare⟩
  have hl := F.len _ _ _ _ q
  have hlu : us.length = ps.length := by rw [← r.length]; exact hl
  refine wpAny_call (codeAny_mono (F.run A X.stack s H ⟨us, []⟩ us vs Q (E σ) hr e0 (by simpa using hb s us I.kIn (by simpa using hlu)) r q) fun r' s' hq => ?_)
  cases r' with
  | error e => exact hx pins H s e s' I hq
  | ok fl =>
    cases fl with
    | ret w => exact I.after hq
    | next => exact hq.elim
    | brk => exact hq.elim
    | cont => exact hq.elim
/-- o[k] by an own __getitem__ -/
def tGetO (C : Addr) (sp : Sp) (E : St → XK) (to te : TE) : TE := fun σ H Q => to σ H fun x H1 => te σ H1 fun y H2 => ∃ a dx fs, x = .ref a ∧ H2 a = some (.ins C dx fs) ∧ sp [.ref a, y] H2 Q (E σ)
theorem pe_getO (F : FnOk X.prog X.w X.K X.mg X.base CX k f fd ps sp) (hs : PySem.W.findIn X.K (.ref C) "__getitem__" = some (some (.ref f))) (hf : PySem.W.isFn X.K (.ref f) = true) (hfn : PySem.W.fnIn X.K f = true) (hb : Binds X.K fd ps []) (hx : ∀ σ, PassesAt CX X σ (E σ)) (hr : Room (k + 1) X.A)
    (ho : PE X o to) (he : PE X e te) (hsl : ∀ (a : Value) (i : Value), subscripted e true a i = runValue (.builtin "lifetime.subscript" ⟨[a, i], []⟩) := by intro _ _; with_unfolding_all rfl) : PE X (.Subscript o e pos) (tGetO C sp E to te) := by
  refine ⟨fun pins s σ H Q I h => ?_⟩
  refine Subscript_ (thn (ho.run pins s σ H _ I h) fun v s1 ⟨x, H1, I1, rx, q1⟩ => ?_)
  refine thn (he.run pins s1 σ H1 _ I1 q1) fun u s2 ⟨y, H2, I2, ry, a, dx, fs, ex, ha, q⟩ => ?_
  subst ex
  cases rx
  obtain ⟨ox, od, J⟩ := own_at I2 ha
  obtain ⟨m, hF⟩ := I2.fr
  refine PySem.W.sub_K hF I2.ok.mod.kin J hs hfn hf ?_ (hsl _ _)
  exact run_atS (A := X.A.in1) F hb (hx σ) rfl hr.in1 I2 (vs := [.ref a, y]) (.cons rfl (.cons ry .nil)) q
end
end L2
/-! x in o by an own __contains__; bool(o) by an own __bool__ -/
namespace L2
open PySem PySem.W PyProof.Rows PySem.Calls
section
variable {X : Cx} {K : PySem.W.Frag} {C f : Addr} {fd : FuncData} {ps : List Str} {sp : Sp} {n : Nat}
def rInOwn (C : Addr) (sp : Sp) (g : Bool → Bool) : R2 := fun x y H Q => ∃ a dx fs, y = .ref a ∧ H a = some (.ins C dx fs) ∧ sp [.ref a, x] H (fun v H' => ∃ c, v = .bl c ∧ Q (.bl (g c)) H') fun _ _ _ => False
theorem op_inOwn (hK : X.K = K) (F : FnOk X.prog X.w K X.mg X.base CX0 n f fd ps sp) (hs : PySem.W.findIn K (.ref C) "__contains__" = some (some (.ref f))) (hf : PySem.W.isFn K (.ref f) = true) (hb : Binds K fd ps []) (hr : Room n X.A) : OpR X (compareOp .In) (rInOwn C sp id) := by
  subst hK
  intro pins s σ H x y v u Q I rx ry ⟨a, dx, fs, ey, ha, q⟩
  subst ey
  cases ry
  obtain ⟨ox, od, J⟩ := own_at I ha
  obtain ⟨m, hF⟩ := I.fr
  refine PySem.W.in_K hF I.ok.mod.kin J hs hf ?_
  refine wpAny_mono (run_at F hb pass0 rfl hr I (vs := [.ref a, x]) (.cons rfl (.cons rx .nil)) q) (fun r s' z => ?_) fun _ _ z => z
  obtain ⟨v', H', I', rv, c, e, q'⟩ := z
  subst e
  cases rv
  exact wpAny_pure ⟨.bl c, H', I', rfl, q'⟩
theorem op_notInOwn (hK : X.K = K) (F : FnOk X.prog X.w K X.mg X.base CX0 n f fd ps sp) (hs : PySem.W.findIn K (.ref C) "__contains__" = some (some (.ref f))) (hf : PySem.W.isFn K (.ref f) = true) (hb : Binds K fd ps []) (hr : Room n X.A) : OpR X (compareOp .NotIn) (rInOwn C sp not) := by
  subst hK
  intro pins s σ H x y v u Q I rx ry ⟨a, dx, fs, ey, ha, q⟩
  subst ey
  cases ry
  obtain ⟨ox, od, J⟩ := own_at I ha
  obtain ⟨m, hF⟩ := I.fr
  refine PySem.W.notIn_K hF I.ok.mod.kin J hs hf ?_
  refine wpAny_mono (run_at F hb pass0 rfl hr I (vs := [.ref a, x]) (.cons rfl (.cons rx .nil)) q) (fun r s' z => ?_) fun _ _ z => z
  obtain ⟨v', H', I', rv, c, e, q'⟩ := z
  subst e
  cases rv
  exact wpAny_pure ⟨.bl (!c), H', I', rfl, q'⟩
end
end L2
/-! bool(o) by an own __bool__ -/
namespace L2
open PySem PySem.W PyProof.Rows PySem.Calls
section
variable {prog : Program} {w : World}
theorem meets_bool_own (v : Value) : MeetsIn prog w (Builtin.«bool.__new__» ⟨[.type "bool", v], []⟩) (fun A R s => wpAny (model prog w) A.in1 (truthy v) (fun b s' => R (.ok (.ret (.bool b))) s') (fun e s' => R (.error e) s') s) := by
  intro A R s h
  obtain ⟨hp, g, d, tk, os⟩ := s
  have f1 := F.conv_sub_bool
  repeat (any_goals (first | assumption | with_reducible refine wpAny_bind (wpAny_mono h (fun b s' hb => ?_) fun _ _ z => z) | wp_step))
  all_goals first | exact hb | skip
end
section
variable {X : Cx} {C f : Addr} {fd : FuncData} {ps : List Str} {sp : Sp} {n : Nat}
def rBoolOwn (C : Addr) (sp : Sp) : List V → Hp → VK → Prop := fun xs H Q => ∃ a dx fs, xs = [.ref a] ∧ H a = some (.ins C dx fs) ∧ sp [.ref a] H (fun v H' => ∃ b, v = .bl b ∧ Q v H') fun _ _ _ => False
theorem call_boolOwn (F : FnOk X.prog X.w X.K X.mg X.base CX0 n f fd ps sp) (hs : PySem.W.findIn X.K (.ref C) "__bool__" = some (some (.ref f))) (hf : PySem.W.isFn X.K (.ref f) = true) (hb : Binds X.K fd ps []) (hr : Room (n + 2) X.A) :
    CallR X (.type "bool") (rBoolOwn C sp) := by
  intro pins s σ H xs us Q I r ⟨a, dx, fs, e, ha, q⟩
  subst e
  rw [Vals.ref1 r]
  obtain ⟨ox, od, J⟩ := own_at I ha
  obtain ⟨m, hF⟩ := I.fr
  refine callType_newIn PySem.F.called_bool PySem.F.newNe_bool (PySem.F.typeCall_bool_1 _) (PySem.F.newCall_bool_1 _) (fun obj => PySem.F.args_object_init_2 obj _) PySem.F.entry_bool_new (meets_bool_own _) ?_
  refine PySem.W.truthy_K (Q := fun b s' => _) hF I.ok.mod.kin J hs hf ?_
  refine wpAny_mono (run_at (A := X.A.in1.in1) F hb pass0 rfl hr.in1.in1 I (vs := [.ref a]) (.cons rfl .nil) q) (fun v s' z => ?_) fun _ _ z => z
  obtain ⟨v', H', I', rv, b, e, q'⟩ := z
  subst e
  cases rv
  exact ⟨rfl, .bl b, H', I', rfl, q'⟩
end
end L2
/-! len(o) by an own __len__ -/
namespace L2
open PySem PySem.W PyProof.Rows PySem.Calls
section
variable {X : Cx} {C f : Addr} {fd : FuncData} {ps : List Str} {sp : Sp} {n : Nat}
def rLenOwn (C : Addr) (sp : Sp) : List V → Hp → VK → Prop := fun xs H Q => ∃ a dx fs, xs = [.ref a] ∧ H a = some (.ins C dx fs) ∧ sp [.ref a] H (fun v H' => ∃ i : Int, v = .int i ∧ 0 ≤ i ∧ i < 2 ^ 63 ∧ Q v H') fun _ _ _ => False
theorem call_lenOwn (F : FnOk X.prog X.w X.K X.mg X.base CX0 n f fd ps sp) (hs : PySem.W.findIn X.K (.ref C) "__len__" = some (some (.ref f))) (hf : PySem.W.isFn X.K (.ref f) = true) (hb : Binds X.K fd ps []) (hr : Room (n + 1) X.A) :
    CallR X (.builtin "len") (rLenOwn C sp) := by
  intro pins s σ H xs us Q I r ⟨a, dx, fs, e, ha, q⟩
  subst e
  rw [Vals.ref1 r]
  obtain ⟨ox, od, J⟩ := own_at I ha
  refine Calls.call_function_entry kind_len plain_len entry_len (args_len1 _) ?_
  unfold Builtin.«len»
  refine wpAny_bind (m := oneArg "len" _) (wpAny_pure (wpAny_bind (m := callSpecial? (.ref a) (Str.ofString "__len__")) (special_fn I.kIn J hs (beq_iff_eq.mp hf) (wpAny_mono (run_at (A := X.A.in1) F hb pass0 rfl hr.in1 I (vs := [.ref a]) (.cons rfl .nil) q) (fun v s' z => ?_) fun _ _ z => z))))
  obtain ⟨v', H', I', rv, i, e, i0, i1, q'⟩ := z
  subst e
  obtain ⟨t, rfl⟩ := rv
  refine wpAny_bind (wpAny_holding (wpAny_pure (wpAny_bind (wpAny_letGo ?_))))
  show wpAny _ _ (if i < 0 then _ else _) _ _ _
  rw [if_neg (show ¬ i < 0 by omega)]
  show wpAny _ _ (if i ≥ 2 ^ 63 then _ else _) _ _ _
  rw [if_neg (show ¬ i ≥ 2 ^ 63 by omega)]
  exact wpAny_bind (wpAny_mkInt (wpAny_pure ⟨_, rfl, .int i, H', I'.tok _, ⟨_, rfl⟩, q'⟩))
end
end L2
/-! a == b of two equal lists whose items are data, or flat dicts. -/
namespace Ky
open PySem L2 Evl Kd PySem.Spec PyProof.Rows
open PySem.W (Datum DatumOrd T3 Tup)
def EqM (K : PySem.W.Frag) (H : Hp) (x y : V) : Prop := EqV K H 2 x y ∨ ∃ d e, Dp K H x d ∧ Dp K H y e ∧ deepOk d ∧ deepOk e ∧ PyData.eqv d e = true
def rEqM (K : PySem.W.Frag) : R2 := fun x y H Q => ∃ a b xs ys, x = .ref a ∧ y = .ref b ∧ SqL K H a xs ∧ SqL K H b ys ∧ Paired (EqM K H) xs ys ∧ Q (.bl true) H
theorem op_eqM {X : Cx} (hu : X.A.units + 64 < cLine) : OpR X (compareOp .Eq) (rEqM X.K) := by
  intro pins s σ H x y v u Q I rx ry ⟨a, b, xs, ys, e1, e2, ha, hb, hp, q⟩
  subst e1 e2
  refine eqR_run I (A := X.A) (F := EqM X.K H) (by omega) (fun x y v u h rx ry => ?_) (.inl ⟨a, b, xs, ys, rfl, rfl, ha, hb, hp⟩) rx ry _ _ ⟨.bl true, H, I, rfl, q⟩
  rcases h with h | ⟨d, e, hd, he, od, oe, eq⟩
  · exact eqV_run I 2 X.A.in1 (by show X.A.units + 1 + 2 < cLine; omega) x y v u h rx ry
  · obtain ⟨as, r1⟩ := Dp.reads I d x v hd rx
    obtain ⟨bs, r2⟩ := Dp.reads I e y u he ry
    have z := PySem.SeqAt.eqAt_plain d e X.A.in1 s v u as bs r1 r2 od.1 oe.1 (by
      have := od.2
      show X.A.units + 1 + min d.depth e.depth < cLine
      omega)
    rw [eq] at z
    exact z.eqP
section
variable {α : Type} [DecidableEq α] [Datum α] {K : PySem.W.Frag} {H : Hp} {x y : V} {a b : α}
theorem EqM.of [Low α] (hx : Hd K H x a) (hy : Hd K H y a) : EqM K H x y := .inr ⟨_, _, hx, hy, deep_of a, deep_of a, by rw [Datum.eqv, decide_eq_true rfl]⟩
theorem hd_tups {xs : List α} {vs : List V} {p : Addr} (h : SqT K H p vs) (hl : HdL K H vs xs) : Hd K H (.ref p) (⟨xs⟩ : Tup α) := Dp.tup h hl
instance : Low (Tup (T3 Int Str Int)) := ⟨by decide⟩
theorem EqM.dict {p q : Addr} {ks : List (Key × V)} (hp : H p = some (.dK ks)) (hq : H q = some (.dK ks)) (h : ∀ kv ∈ ks, valV ks kv.1 = some kv.2 ∧ flatB kv.2 = true) : EqM K H (.ref p) (.ref q) :=
  .inl (.inr (.inr (.inr ⟨p, q, ks, ks, rfl, rfl, hp, hq, rfl, fun kv hkv => ⟨kv.2, (h kv hkv).1, .inl ⟨rfl, (h kv hkv).2⟩⟩⟩)))
end
end Ky
/-! dicts from texts (or ints) to texts and None: ==, locks, what a lock keeps -/
namespace Kt
open PySem L2 Evl PySem.Spec PyProof.Rows Kd
/-- None or a text -/
def plV : V → Bool
  | .non | .str _ => true
  | _ => false
def eqV : V → V → Bool
  | .non, .non => true
  | .str a, .str b => decide (a = b)
  | _, _ => false
theorem eqV_iff {x y : V} (hx : plV x = true) (hy : plV y = true) : eqV x y = true ↔ x = y := by
  cases x <;> cases y <;> simp_all [plV, eqV]
def hitB (ls : List (Key × V)) : List (Key × V) → Bool
  | [] => true
  | (k, v) :: r => match valV ls k with
    | none => false
    | some y => eqV v y && hitB ls r
theorem eqAt_pl {A : Around} {s : Shared} {x y : V} {u v : Value} (hx : plV x = true) (hy : plV y = true) (rx : RelV x u) (ry : RelV y v) : SeqAt.EqAt A s u v (eqV x y) := by
  cases x with
  | non =>
    cases (show u = Value.none from rx)
    cases y with
    | non =>
      cases (show v = Value.none from ry)
      exact SeqAt.EqAt.same _
    | str b =>
      obtain ⟨t, rfl⟩ := ry
      exact SeqAt.EqAt.none_str b t
    | _ => cases hy
  | str a =>
    obtain ⟨t, rfl⟩ := rx
    cases y with
    | non =>
      cases (show v = Value.none from ry)
      have z := PySem.W.keq_flat (A := A) (s := s) (v := Value.str a t) (y := Value.none) (d := .str a) (e := .none) (fun h => Reads.str a t) (fun h => Reads.none)
      simpa [PyData.eqv, eqV] using z
    | str b =>
      obtain ⟨t', rfl⟩ := ry
      have z := PySem.W.keq_flat (A := A) (s := s) (v := Value.str a t) (y := Value.str b t') (d := .str a) (e := .str b) (fun h => Reads.str a t) (fun h => Reads.str b t')
      rw [show PyData.eqv (.str a) (.str b) = decide (a = b) by simp only [PyData.eqv]; exact PySem.W.beq_decide a b] at z
      exact z
    | _ => cases hy
  | _ => cases hx
theorem hits_of {A : Around} {s : Shared} {ls : List (Key × V)} {vb : List (Key × Value)} (rb : KV ls vb) (pb : ∀ p ∈ ls, plV p.2 = true) : ∀ {ks : List (Key × V)} {va : List (Key × Value)}, KV ks va → (∀ p ∈ ks, plV p.2 = true) → PySem.W.KeqHits A s vb va (hitB ls ks)
  | [], _, h, _ => by cases h; exact .nil
  | (k, v) :: r, _, h, pa => by
    cases h with
    | @cons _ q _ qs hq t =>
      obtain ⟨k', u⟩ := q
      obtain ⟨e1, e2⟩ := hq
      cases (show k = k' from e1)
      have rel := rb.val k
      show PySem.W.KeqHits A s vb ((k, u) :: qs) (match valV ls k with | none => false | some y => eqV v y && hitB ls r)
      cases hv : valV ls k with
      | none =>
        rw [hv] at rel
        refine .miss ?_
        cases hw : valueAt vb k with
        | none => rfl
        | some z => rw [hw] at rel; cases rel
      | some y =>
        rw [hv] at rel
        cases hw : valueAt vb k with
        | none => rw [hw] at rel; cases rel
        | some z =>
          rw [hw] at rel
          have hy : plV y = true := by
            unfold valV at hv
            obtain ⟨p, hp, rfl⟩ := Option.map_eq_some_iff.mp hv
            exact pb p (List.mem_of_find?_eq_some hp)
          exact .hit hw (eqAt_pl (pa (k, v) List.mem_cons_self) hy e2 rel) (hits_of rb pb t fun p hp => pa p (List.mem_cons_of_mem _ hp))
section
variable {X : Cx}
def sameD (ks ls : List (Key × V)) : Bool := ks.length == ls.length && hitB ls ks
def rEqK : R2 := fun x y H Q => ∃ a b ks ls, x = .ref a ∧ y = .ref b ∧ Rd H a (.dK ks) ∧ Rd H b (.dK ls) ∧ (∀ p ∈ ks, plV p.2 = true) ∧ (∀ p ∈ ls, plV p.2 = true) ∧ Q (.bl (sameD ks ls)) H
def rNeK : R2 := fun x y H Q => ∃ a b ks ls, x = .ref a ∧ y = .ref b ∧ Rd H a (.dK ks) ∧ Rd H b (.dK ls) ∧ (∀ p ∈ ks, plV p.2 = true) ∧ (∀ p ∈ ls, plV p.2 = true) ∧ Q (.bl (!sameD ks ls)) H
theorem op_eqK (hu : X.A.units + 1 < cLine) : OpR X (compareOp .Eq) rEqK := by
  intro pins s σ H x y v u Q I rx ry ⟨a, b, ks, ls, ex, ey, ea, eb, pa, pb, q⟩
  subst ex ey
  cases (show v = Value.ref a from rx)
  cases (show u = Value.ref b from ry)
  obtain ⟨_, ya, va, ra, da⟩ := dk_rd I.hok ea
  obtain ⟨_, yb, vb, rb, db⟩ := dk_rd I.hok eb
  refine PySem.W.keq_eq (knd := mixKind X.prog X.w) ya yb da db (by omega) (fun _ => hits_of rb pb ra pa) ⟨.bl _, H, I, rfl, ?_⟩
  rw [← ra.length, ← rb.length]
  exact q
theorem op_neK (hu : X.A.units + 1 < cLine) : OpR X (compareOp .NotEq) rNeK := by
  intro pins s σ H x y v u Q I rx ry ⟨a, b, ks, ls, ex, ey, ea, eb, pa, pb, q⟩
  subst ex ey
  cases (show v = Value.ref a from rx)
  cases (show u = Value.ref b from ry)
  obtain ⟨_, ya, va, ra, da⟩ := dk_rd I.hok ea
  obtain ⟨_, yb, vb, rb, db⟩ := dk_rd I.hok eb
  refine PySem.W.keq_ne (knd := mixKind X.prog X.w) ya yb da db (by omega) (fun _ => hits_of rb pb ra pa) ⟨.bl _, H, I, rfl, ?_⟩
  rw [← ra.length, ← rb.length]
  exact q
end
/-! k in d, k not in d -/
section
variable {X : Cx}
def rInK : R2 := fun y x H Q => ∃ a o, x = .ref a ∧ DGet H a y o ∧ Q (.bl o.isSome) H
def rNotInK : R2 := fun y x H Q => ∃ a o, x = .ref a ∧ DGet H a y o ∧ Q (.bl (!o.isSome)) H
theorem op_inK (hu : X.A.units + 1 < cLine) : OpR X (compareOp .In) rInK := by
  intro pins s σ H y x u v Q I ry rx ⟨a, o, ex, g, q⟩
  subst ex
  cases (show v = Value.ref a from rx)
  exact d_in hu I g ry fun t I' => ⟨.bl _, H, I', rfl, q⟩
theorem op_notInK (hu : X.A.units + 1 < cLine) : OpR X (compareOp .NotIn) rNotInK := by
  intro pins s σ H y x u v Q I ry rx ⟨a, o, ex, g, q⟩
  subst ex
  cases (show v = Value.ref a from rx)
  exact d_notIn hu I g ry fun t I' => ⟨.bl _, H, I', rfl, q⟩
/-- d[k], k there -/
def rIxK : R2 := fun x y H Q => ∃ a v, x = .ref a ∧ DGet H a y (some v) ∧ Q v H
end
/-! what is known through a lock -/
theorem ex_unlock {H H' : Hp} {d : Addr} {o : Obj} {u : HO} (hd : H d = some u) (e : Ex (upd H d (.frz o u)) H') : Ex H (upd H' d u) := fun a v ha => by
  by_cases c : a = d
  · subst c
    rw [upd_same]
    rw [hd] at ha
    exact ha
  · rw [upd_ne c]
    exact e a v (by rw [upd_ne c]; exact ha)
theorem un_at {H' : Hp} {d a : Addr} {o : Obj} {u v : HO} (hd : H' d = some (.frz o u)) (ha : H' a = some v) (hv : ∀ o' u', v ≠ .frz o' u') : upd H' d u a = some v := by
  rw [upd_ne (fun z => by rw [z, hd] at ha; cases ha; exact hv _ _ rfl)]
  exact ha
theorem lock_at {H : Hp} {d a : Addr} {o : Obj} {kvs : List (Key × V)} {v : HO} (hd : H d = some (.dK kvs)) (ha : H a = some v) (hv : ∀ l, v ≠ .dK l) : upd H d (.frz o (.dK kvs)) a = some v := by
  rw [upd_ne (fun z => by rw [z, hd] at ha; cases ha; exact hv _ rfl)]
  exact ha
section
variable {K : PySem.W.Frag} {H' : Hp} {d : Addr} {o : Obj} {kvs : List (Key × V)}
theorem sqL_un {a : Addr} {xs : List V} (hd : H' d = some (.frz o (.dK kvs))) (h : SqL K H' a xs) : SqL K (upd H' d (.dK kvs)) a xs := by
  rcases h with (h | ⟨q, h⟩) | h
  · exact .inl (.inl (un_at hd h fun _ _ z => by cases z))
  · refine .inl (.inr ⟨q, ?_⟩)
    rw [upd_ne (fun z => by rw [z, hd] at h; cases h)]
    exact h
  · exact .inr h
theorem sqT_un {a : Addr} {xs : List V} (hd : H' d = some (.frz o (.dK kvs))) (h : SqT K H' a xs) : SqT K (upd H' d (.dK kvs)) a xs := by
  rcases h with (h | ⟨q, h⟩) | h
  · exact .inl (.inl (un_at hd h fun _ _ z => by cases z))
  · refine .inl (.inr ⟨q, ?_⟩)
    rw [upd_ne (fun z => by rw [z, hd] at h; cases h)]
    exact h
  · exact .inr h
mutual
theorem dp_un (hd : H' d = some (.frz o (.dK kvs))) : ∀ (x : PyData) (v : V), Dp K H' v x → Dp K (upd H' d (.dK kvs)) v x
  | .none, _, h => by cases h; exact .non
  | .bool b, _, h => by cases h; exact .bl b
  | .int i, _, h => by cases h; exact .int i
  | .str z, _, h => by cases h; exact .str z
  | .list ds, _, h => by cases h with | lst hs ha => exact .lst (sqL_un hd hs) (dpAll_un hd ds _ ha)
  | .tuple ds, _, h => by cases h with | tup hs ha => exact .tup (sqT_un hd hs) (dpAll_un hd ds _ ha)
  | .dict _, _, h => by cases h
theorem dpAll_un (hd : H' d = some (.frz o (.dK kvs))) : ∀ (ds : List PyData) (vs : List V), DpAll K H' vs ds → DpAll K (upd H' d (.dK kvs)) vs ds
  | [], _, h => by cases h; exact .nil
  | x :: ds, _, h => by cases h with | cons h1 h2 => exact .cons (dp_un hd x _ h1) (dpAll_un hd ds _ h2)
end
end
end Kt
/-! a == b, a != b of two tuples (or lists) whose items are data or flat dicts, both answers -/
namespace Ky
open PySem L2 Evl Kd Kt PySem.Spec PyProof.Rows
open PySem.W (Datum DatumOrd T3)
def EqB (K : PySem.W.Frag) (H : Hp) (x y : V) (b : Bool) : Prop :=
  (∃ d e, Dp K H x d ∧ Dp K H y e ∧ deepOk d ∧ deepOk e ∧ b = PyData.eqv d e) ∨ ∃ p q ks ls, x = .ref p ∧ y = .ref q ∧ Rd H p (.dK ks) ∧ Rd H q (.dK ls) ∧ (∀ z ∈ ks, plV z.2 = true) ∧ (∀ z ∈ ls, plV z.2 = true) ∧ (p = q → b = true) ∧ b = sameD ks ls
theorem eqB_at {X : Cx} {pins : List (Addr × Obj)} {σ : L2.St} {H : Hp} {s : Shared} (I : Inv X pins σ H s) {A : Around} (hu : A.units + 42 < cLine) {x y : V} {v u : Value} {b : Bool} (h : EqB X.K H x y b) (rx : RelV x v) (ry : RelV y u) : PySem.SeqAt.EqIn X.prog X.w A s v u b := by
  rcases h with ⟨d, e, hd, he, od, oe, rfl⟩ | ⟨p, q, ks, ls, rfl, rfl, hp, hq, pk, pl, hpq, rfl⟩
  · obtain ⟨as, r1⟩ := Dp.reads I d x v hd rx
    obtain ⟨bs, r2⟩ := Dp.reads I e y u he ry
    have z := PySem.SeqAt.eqAt_plain d e A s v u as bs r1 r2 od.1 oe.1 (by
      have := od.2
      omega)
    exact PySem.SeqAt.EqAt.inModel z _ _
  · cases (show v = Value.ref p from rx)
    cases (show u = Value.ref q from ry)
    by_cases c : p = q
    · subst c
      rw [hpq rfl]
      exact PySem.SeqAt.EqAt.inModel (PySem.SeqAt.EqAt.same _) _ _
    · obtain ⟨_, ya, va, ra, da⟩ := dk_rd I.hok hp
      obtain ⟨_, yb, vb, rb, db⟩ := dk_rd I.hok hq
      refine PySem.SeqAt.EqIn.of_refs c fun E Q hq => PySem.W.keq_eq (knd := mixKind X.prog X.w) ya yb da db (by omega) (fun _ => hits_of rb pl ra pk) ?_
      rw [← ra.length, ← rb.length]
      exact hq
def rEqT (K : PySem.W.Frag) (g : Bool → Bool) : R2 := fun x y H Q => ∃ (p q : Addr) (xs ys : List V) (f : Nat → Bool), x = .ref p ∧ y = .ref q ∧ SqT K H p xs ∧ SqT K H q ys ∧ xs.length = ys.length ∧ (∀ i x y, xs[i]? = some x → ys[i]? = some y → EqB K H x y (f i)) ∧ Q (.bl (g ((List.range xs.length).all f))) H
theorem vals_at : ∀ {xs : List V} {us : List Value}, Vals xs us → ∀ (j : Nat) (h : j < us.length), ∃ x, xs[j]? = some x ∧ RelV x us[j]
  | _, _, .nil, j, h => absurd h (Nat.not_lt_zero j)
  | _, _, .cons r _, 0, _ => ⟨_, rfl, r⟩
  | _, _, .cons _ t, j + 1, h => vals_at t j (Nat.lt_of_succ_lt_succ h)
theorem op_eqTup {X : Cx} {K : PySem.W.Frag} (hK : X.K = K) (hu : X.A.units + 64 < cLine) : OpR X (compareOp .Eq) (rEqT K id) := by
  intro pins s σ H x y v u Q I rx ry ⟨p, q, xs, ys, f, e1, e2, hp, hq, hl, hf, qq⟩
  subst e1 e2 hK
  cases (show v = Value.ref p from rx)
  cases (show u = Value.ref q from ry)
  obtain ⟨us, r1, p1, _⟩ := I.tuple hp
  obtain ⟨ws, r2, p2, _⟩ := I.tuple hq
  have l1 := r1.length
  have l2 := r2.length
  refine PySem.SeqAt.rcIn_tuples (e := f) p1 p2 (by omega) (fun j h1 h2 => ?_) ?_
  · obtain ⟨x, hx, rx⟩ := vals_at r1 j (by simpa using h1)
    obtain ⟨y, hy, ry⟩ := vals_at r2 j (by simpa using h2)
    exact eqB_at I (A := X.A.in1) (by show X.A.units + 1 + 42 < cLine; omega) (hf j x y hx hy) (by simpa using rx) (by simpa using ry)
  · have e : us.toArray.size = ws.toArray.size := by rw [List.size_toArray, List.size_toArray]; omega
    rw [e, Nat.min_self, beq_self_eq_true, Bool.and_true, List.size_toArray, ← l2, ← hl]
    exact ⟨.bl _, H, I, rfl, qq⟩
end Ky
/-! t[::-1], t a tuple -/
namespace HT
open PySem PySem.Spec PyProof.Rows
section
variable {prog : Program} {w : World} {A : Around} {E : Value → Shared → Prop} {s : Shared}
theorem places_rev (n : Nat) : Builtin.Slice.slicePlaces ((n : Int) - 1) (-1) (-1) = n := by
  unfold Builtin.Slice.slicePlaces
  rw [if_neg (by decide : ¬ (-1 : Int) > 0)]
  split
  · simp only [Int.neg_neg, Int.ediv_one]
    omega
  · omega
theorem applied_rev {sl : Addr} {vl vu vs : Value} {n : Nat} {Q : Int × Int × Nat → Shared → Prop} (hs : s.heap.IsSliceOf sl vl vu vs) (pl : IsPart vl none) (pu : IsPart vu none) (ps : IsPart vs (some (-1)))
    (h : Q ((n : Int) - 1, -1, n) s) : wpAny (model prog w) A (Builtin.Slice.sliceApplied (.ref sl) (pure (n : Int))) Q E s := by
  obtain ⟨os, hos, hcs, hds⟩ := id hs
  unfold Builtin.Slice.sliceApplied Builtin.Slice.sliceFields
  refine wpAny_bind (wpAny_bind (wpAny_field hos hds (x := vl) rfl (wpAny_bind (wpAny_field hos hds (x := vu) rfl (wpAny_bind (wpAny_field hos hds (x := vs) rfl (wpAny_pure ?_)))))))
  refine wpAny_bind (slicePart_ ps ?_)
  show wpAny _ _ (if ((-1 : Int) == 0) = true then _ else _) _ _ s
  rw [if_neg (by decide)]
  refine wpAny_bind (slicePart_ pl (wpAny_bind (slicePart_ pu (wpAny_bind (wpAny_pure ?_)))))
  have e : Builtin.Slice.sliceAdjust none none (-1) (n : Int) = ((n : Int) - 1, -1) := rfl
  show wpAny _ _ (match Builtin.Slice.sliceAdjust none none (-1) (n : Int) with | (lo, hi) => pure (lo, (-1 : Int), Builtin.Slice.slicePlaces lo hi (-1))) _ _ s
  rw [e]
  show wpAny _ _ (pure ((n : Int) - 1, (-1 : Int), Builtin.Slice.slicePlaces ((n : Int) - 1) (-1) (-1))) _ _ s
  rw [places_rev]
  exact wpAny_pure h
theorem fm_congr {α β : Type} {f g : α → Option β} : ∀ l : List α, (∀ x ∈ l, f x = g x) → l.filterMap f = l.filterMap g
  | [], _ => rfl
  | x :: l, h => by rw [List.filterMap_cons, List.filterMap_cons, h x List.mem_cons_self, fm_congr l fun y hy => h y (List.mem_cons_of_mem _ hy)]
theorem pick_rev (xs : Array Value) : ((List.range xs.size).filterMap fun (m : Nat) => xs[(((xs.size : Int) - 1) + (m : Int) * (-1)).toNat]?).toArray = xs.toList.reverse.toArray := by
  have e : ((List.range xs.size).filterMap fun (m : Nat) => xs[(((xs.size : Int) - 1) + (m : Int) * (-1)).toNat]?) = (List.range xs.size).filterMap fun m => xs[xs.size - 1 - m]? := by
    refine fm_congr _ fun m hm => ?_
    have h := List.mem_range.mp hm
    have e2 : (((xs.size : Int) - 1) + (m : Int) * (-1)).toNat = xs.size - 1 - m := by omega
    rw [e2]
  rw [e]
  have e3 : ((List.range xs.size).filterMap fun m => xs[xs.size - 1 - m]?) = ((List.range xs.size).map fun m => xs.size - 1 - m).filterMap (xs[·]?) := by
    rw [List.filterMap_map]
    rfl
  rw [e3, PySem.W.krv_range, List.filterMap_reverse, PySem.W.krv_all]
theorem getItem_tuple_rev {t sl : Addr} {items : Array Value} {vl vu vs : Value} {Q : Value → Shared → Prop} (ht : IsTup s.heap t items) (hs : s.heap.IsSliceOf sl vl vu vs) (pl : IsPart vl none) (pu : IsPart vu none) (ps : IsPart vs (some (-1)))
    (h : Q (.ref s.heap.objs.size) { s with heap := s.heap.push { cls := .type "tuple", data := .seq items.toList.reverse.toArray } })
    (hsz : items.size ≤ sizeLine) : wpAny (model prog w) A (getItem (.ref t) (.ref sl)) Q E s := by
  have htake : sizeOk (.seq items.toList.reverse.toArray) := by
    show items.toList.reverse.toArray.size ≤ sizeLine
    rw [List.size_toArray, List.length_reverse, Array.length_toList]
    exact hsz
  obtain ⟨os, hos, hcs, hds⟩ := id hs
  have hTs : s.TypeIs (.ref sl) "slice" := ⟨os, hos, hcs⟩
  unfold getItem
  try with_reducible refine wpAny_holding ?_
  first | refine wpAny_bind (wpAny_pure ?_) | skip
  refine wpAny_bind (wpAny_sequenceKey ht.typeIs (by decide) ?_)
  refine wpAny_bind (wpAny_callSpecial?_slot (name := Str.ofString "__getitem__") ht.typeIs PyProof.Rows.slot_tuple_getitem
    (wpAny_call_entry PyProof.Rows.slot_tuple_getitem ht.typeIs entry_tuple_getitem ?_ (args_tuple_getitem _ _)))
  show wpAny _ _ (Builtin.Tuple.tupleItemsOf (.ref t) >>= _) _ _ s
  refine wpAny_bind (tupleItemsOf_ ht ?_)
  refine wpAny_bind (wpAny_typeOf hTs ?_)
  rw [if_pos (by decide)]
  refine wpAny_bind (applied_rev hs pl pu ps ?_)
  show wpAny _ _ (if (((items.size : Int) - 1) == 0 && (-1 : Int) == 1 && items.size == items.size) = true then _ else _) _ _ s
  rw [if_neg (by simp), pick_rev]
  first
    | exact wpAny_bind (m := Builtin.Tuple.tupleExact _) (wpAny_newObj_type (wpAny_pure ⟨_, rfl, wpAny_pure h⟩) htake)
    | exact wpAny_bind (m := Builtin.Tuple.tupleExact _) (wpAny_newObj_type (wpAny_bind (wpAny_pure (wpAny_pure ⟨_, rfl, wpAny_pure h⟩))) htake)
    | exact wpAny_bind (wpAny_bind (m := Builtin.Tuple.tupleExact _) (wpAny_newObj_type (wpAny_pure (wpAny_pure ⟨_, rfl, wpAny_pure h⟩)) htake))
    | exact wpAny_bind (wpAny_bind (m := Builtin.Tuple.tupleExact _) (wpAny_newObj_type (wpAny_pure ⟨_, rfl, wpAny_pure h⟩) htake))
end
end HT
namespace L2
open PySem PySem.Spec PyProof.Rows
variable {X : Cx}
def tRevT (K : PySem.W.Frag) (te : TE) : TE := fun σ H Q => te σ H fun x H1 => ∃ a xs, x = .ref a ∧ SqT K H1 a xs ∧ ∀ p, H1 p = none → Q (.ref p) (upd H1 p (.tup xs.reverse))
theorem pe_revT {e : Expr} {te : TE} {k : Nat} {p1 p2 p3 pos : Pos} (he : PE X e te) : PE X (.Subscript e (.Slice none none (some (.UnaryOp .USub (.Constant (.int 1) k p1) p2)) p3) pos) (tRevT X.K te) := by
  refine ⟨fun pins s σ H Q I h => ?_⟩
  refine Subscript_ (thn (he.run pins s σ H _ I h) fun v s1 ⟨x, H1, I1, r1, q1⟩ => ?_)
  obtain ⟨a, xs, ex, hx, q⟩ := q1
  subst ex
  cases r1
  have hst : PO X (some (.UnaryOp .USub (.Constant (.int 1) k p1) p2)) (tPart (tUn (rU fun i => .int (-i)) (tC (.int 1)))) := po_some (pe_un un_neg pe_int)
  refine wpAny_Slice (thn (po_none.run pins s1 σ H1 (fun o H2 => o = none ∧ H2 = H1) I1 ⟨rfl, rfl⟩) fun vl s2 ⟨l, H2, I2, pl, el, e2⟩ => ?_)
  subst el e2
  refine thn (po_none.run pins s2 σ H2 (fun o H3 => o = none ∧ H3 = H2) I2 ⟨rfl, rfl⟩) fun vu s3 ⟨u, H3, I3, pu, eu, e3⟩ => ?_
  subst eu e3
  refine thn (hst.run pins s3 σ H3 (fun o H4 => o = some (-1) ∧ H4 = H3) I3 ⟨1, rfl, -1, rfl, rfl, rfl⟩) fun vs s4 ⟨o, H4, I4, ps, eo, e4⟩ => ?_
  subst eo e4
  have I5 : Inv X pins σ H4 { s4 with heap := s4.heap.push { cls := .type "slice", data := .fields #[vl, vu, vs] } } := I4.kept (t' := s4.toks) fun b ob q => Heap.get?_push_of_some _ q
  obtain ⟨its, r, ht, hz⟩ := I5.tuple hx
  have hlen := r.length
  show wpAny (model X.prog X.w) X.A (subscriptTail e (.Slice none none (some (.UnaryOp .USub (.Constant (.int 1) k p1) p2)) p3) (.ref a) (.ref s4.heap.objs.size)) (EP X pins σ Q) X.xe { s4 with heap := s4.heap.push { cls := .type "slice", data := .fields #[vl, vu, vs] } }
  refine tail_any (ops := [.ref a, .ref s4.heap.objs.size]) ht.typeIs (PyProof.Rows.slot_tuple_getitem.lookup) ?_ (by with_unfolding_all rfl)
  refine HT.getItem_tuple_rev ht (Heap.IsSliceOf.new _ vl vu vs) pl pu ps ?_ (by rw [List.size_toArray]; omega)
  refine ⟨.ref _, _, I5.laid (t' := s4.toks) (o := .tup xs.reverse) (fun b ob q => Heap.get?_push_of_some _ q) (Nat.le_refl _) ?_, rfl, q _ (I5.hok.fresh (Nat.le_refl _))⟩
  exact ⟨by rw [List.length_reverse]; exact hz, _, r.reverse, IsTup.new _ _⟩
end L2
/-! sorted(d.items()), keys ints and texts, values data -/
namespace Kd
open PySem PySem.W PyProof.Rows L2
theorem sort_half {X : Cx} (hu : X.A.units + 64 < cLine) {pins : List (Addr × Obj)} {σ : L2.St} {H : Hp} {s : Shared} {h1 : Heap} {t : Nat} (J : Inv X pins σ H { s with heap := h1, toks := t }) {xs : List V} {its : List Value} {ds : List PyData} (rv : Vals xs its) (hd : DpAll X.K H xs ds) (ok : SortOk ds) (hz0 : xs.length ≤ sizeLine) {Q : VK}
    (q : ∀ (bs : List (V × PyData)) (p : Addr), bs.Perm (xs.zip ds) → bs.map (·.2) = srtD ds → H p = none → Q (.ref p) (upd H p (.lst (bs.map (·.1))))) :
    wpAny (model X.prog X.w) X.A.in1 (call (.builtin "list.sort") [.ref h1.objs.size]) (fun _ s' => EP X pins σ Q (.ref h1.objs.size) s') X.xe { s with heap := h1.push (seqObj "list" its.toArray 0), toks := t } := by
  have len := dpAll_len' hd
  have lz : (xs.zip ds).length = xs.length := by rw [List.length_zip, len]; exact Nat.min_self _
  have hln : its.length ≤ sizeLine := by rw [← rv.length]; exact hz0
  have e2 : (xs.zip ds).map (fun b => b.2) = ds := zip_snd len
  have hnew : (h1.push (seqObj "list" its.toArray 0)).get? h1.objs.size = some (seqObj "list" its.toArray 0) := Heap.get?_push_size _ rfl
  have es := each_of hd rv
  have er0 := reads_of J hd rv
  have er' : EachIs (fun v (b : V × PyData) => ∃ as, Reads (sortingHeap (h1.push (seqObj "list" its.toArray 0)) h1.objs.size its) v b.2 as) its (xs.zip ds) := er0.mono fun _ _ ⟨as, r⟩ => ⟨as, PyProof.Rows.Reads.keeps (fun b o e => sortingHeap_old (Nat.ne_of_lt (Heap.lt_size e)) (Heap.get?_push_of_some _ e)) r⟩
  have hal : AllAlike ((xs.zip ds).map fun b => b.2) := by rw [e2]; exact ok.al
  have hso : Sortable ((xs.zip ds).map fun b => b.2) := by rw [e2]; exact ok.so
  have hdep : ∀ d, d ∈ (xs.zip ds).map (fun b : V × PyData => b.2) → X.A.in1.in1.units + d.depth < cLine := fun d hm => by
    rw [e2] at hm
    have h1 := ok.dp d hm
    show X.A.units + 2 + d.depth < cLine
    omega
  refine wpAny_call_entry slot_list_sort ⟨_, hnew, rfl⟩ entry_list_sort
    (list_sort_vals (κ := dataKind (sortingHeap (h1.push (seqObj "list" its.toArray 0)) h1.objs.size its) ((xs.zip ds).map fun b => b.2)) hnew (SortsAt.data (s := { s with heap := sortingHeap (h1.push (seqObj "list" its.toArray 0)) h1.objs.size its, toks := t }) (each_map (R := fun v d => ∃ as, Reads (sortingHeap (h1.push (seqObj "list" its.toArray 0)) h1.objs.size its) v d as) (fun b : V × PyData => b.2) er') hal hso hdep) hln ⟨.none, rfl, ?_⟩) (args_list_sort _)
  have eo := sortVals_data (enc := fun b : V × PyData => b.2) (R := fun v b => RelV b.1 v) false es er' hal
  have pm : ((xs.zip ds).mergeSort (dataLe false fun b : V × PyData => b.2)).Perm (xs.zip ds) := List.mergeSort_perm _ _
  have hy := vals_each eo
  have hp : (((xs.zip ds).mergeSort (dataLe false fun b : V × PyData => b.2)).map (·.1)).length = xs.length := by rw [List.length_map, pm.length_eq, lz]
  have hsnd : ((xs.zip ds).mergeSort (dataLe false fun b : V × PyData => b.2)).map (fun b : V × PyData => b.2) = srtD ds := by
    unfold srtD
    have z := sort_maps (r := dataLe false fun b : V × PyData => b.2) (s := dataLe false (id : PyData → PyData)) (fun b : V × PyData => b.2) (l := xs.zip ds) (fun _ _ _ _ => rfl)
    rw [z, e2]
  obtain ⟨n', h'⟩ := sortedHeap_at (vs := its) (out := (sortVals (dataKind (sortingHeap (h1.push (seqObj "list" its.toArray 0)) h1.objs.size its) ((xs.zip ds).map fun b => b.2)) false its its).toArray) hnew
  refine ⟨.ref h1.objs.size, upd H h1.objs.size (.lst (((xs.zip ds).mergeSort (dataLe false fun b : V × PyData => b.2)).map (·.1))), J.laid (t' := t) (fun b u e => ?_) (Nat.le_refl _) ⟨by rw [hp]; exact hz0, _, n', hy, h'⟩, rfl, q _ _ pm hsnd (J.hok.fresh (Nat.le_refl _))⟩
  have hb : b < h1.objs.size := Heap.lt_size e
  rw [sortedHeap_old (Nat.ne_of_lt hb) (by rw [size_push']; exact Nat.lt_succ_of_lt hb)]
  exact Heap.get?_push_of_some _ e
end Kd
namespace Kt
open PySem PySem.Spec PyProof.Rows L2 L2.DX Evl Kd Ky
open PySem.W (Datum DatumOrd T3)
variable {X : Cx}
theorem raw_of {prog : Program} {w : World} {K : Type} [DecidableEq K] {knd : KeyKind prog w K} {h : Heap} {d : Addr} {kvs : List (K × Value)} (m : h.DictOf knd d kvs) : ∃ es ep, DT.Raw h d es ep ∧ es.size = kvs.length ∧ Pairs knd es.toList kvs := by
  obtain ⟨o, es, ep, ho, hc, hd, hk, hp, hn⟩ := m
  refine ⟨es, ep, ⟨o, ho, hc, hd⟩, ?_, hp⟩
  have e1 := hp.length
  have e2 : es.toList.length = es.size := by simp
  omega
def rItemsK : V → List V → Hp → VK → Prop := fun x xs H Q => ∃ (a : Addr) (kvs : List (Key × V)), x = .ref a ∧ xs = [] ∧ Rd H a (.dK kvs) ∧ ∀ p, H p = none → Q (.ref p) (upd H p (itemsO p a))
theorem mt_itemsK : MtR X "dict.items" rItemsK := by
  intro pins s σ H x xs v us Q I rx rxs h
  obtain ⟨a, kvs, rfl, rfl, ha, q⟩ := h
  cases rx
  cases rxs
  obtain ⟨size, notSys, vs, rel, isD⟩ := dk_rd I.hok ha
  obtain ⟨es, ep, raw, _, _⟩ := raw_of isD
  refine DT.callItems (es := es) (ep := ep) notSys raw ?_
  have hf : H s.heap.objs.size = none := I.hok.fresh (Nat.le_refl _)
  exact ⟨.ref s.heap.objs.size, upd H s.heap.objs.size (itemsO s.heap.objs.size a), I.laid (t' := s.toks) (fun b u e => Heap.get?_push_of_some _ e) (Nat.le_refl _) (itemsO_ok (Heap.get?_push_size _ rfl)), rfl, q _ hf⟩
/-- pairs of a dict, as new tuples -/
abbrev PairsN (H : Hp) (bs : List Addr) (kvs : List (Key × V)) : Prop := Paired (fun (b : Addr) (kv : Key × V) => H b = some (.tup [kV kv.1, kv.2])) bs kvs
@[irreducible] def rSortIK (K : PySem.W.Frag) : List V → Hp → VK → Prop := fun vs H Q => ∃ (p a : Addr) (kvs : List (Key × V)) (ds : List PyData), vs = [.ref p] ∧ H p = some (itemsO p a) ∧ Rd H a (.dK kvs) ∧ SortOk ds ∧ (∀ H2 bs, Ex H H2 → PairsN H2 bs kvs → DpAll K H2 (bs.map V.ref) ds) ∧
  ∀ (H' : Hp) (bs : List Addr) (cs : List (V × PyData)) (l : Addr), Ex H H' → PairsN H' bs kvs → cs.Perm ((bs.map V.ref).zip ds) → cs.map (·.2) = srtD ds → H' l = none → Q (.ref l) (upd H' l (.lst (cs.map (·.1))))
theorem refsV : ∀ as : List Addr, Vals (as.map V.ref) (as.map Value.ref)
  | [] => .nil
  | _ :: as => .cons rfl (refsV as)
theorem paired_idx {α β : Type} {F : α → β → Prop} : ∀ (as : List α) (bs : List β), as.length = bs.length → (∀ (j : Nat) (a : α), as[j]? = some a → ∃ b, bs[j]? = some b ∧ F a b) → Paired F as bs
  | [], [], _, _ => .nil
  | [], _ :: _, h, _ => by cases h
  | _ :: _, [], h, _ => by cases h
  | a :: as, b :: bs, h, q => by
    obtain ⟨b', e, f⟩ := q 0 a rfl
    cases e
    exact .cons f (paired_idx as bs (Nat.succ.inj h) fun j x e => q (j + 1) x e)
theorem cr_sortItems {K : PySem.W.Frag} (hK : X.K = K) (hc : X.calm = true) (hu : X.A.units + 64 < cLine) : CallR X (.builtin "sorted") (rSortIK K) := by
  intro pins s σ H xs us Q I r h
  unfold rSortIK at h
  obtain ⟨p, a, kvs, ds, e, hp, ha, ok, hdp, q⟩ := h
  subst e hK
  obtain rfl := Vals.ref1 r
  have view : s.heap.IsItemsView p a := (show ObjOk X.prog X.w H s.heap p (itemsO p a) from I.hok p _ hp).1
  obtain ⟨size, notSys, vs, rel, isD⟩ := dk_rd I.hok ha
  obtain ⟨es, ep, raw, esz, prs⟩ := raw_of isD
  have lk : kvs.length = vs.length := Paired.length rel
  have hh : X.A.handled = none := I.ok.hd hc
  refine DT.sortedI (es := es) (ep := ep) hh view raw (by omega) fun h' tk as hk hlt hl hG => ?_
  have lak : as.length = kvs.length := by omega
  have nd : as.Nodup := List.Pairwise.imp (fun h => Nat.ne_of_lt h) hG.rise
  have I1 : Inv X pins σ H { s with heap := h', toks := tk } := I.kept (t' := tk) hk
  obtain ⟨H2, I2, g2, t2⟩ := takeT (P := fun b ys => ∃ (j : Nat) (kv : Key × V), as[j]? = some b ∧ kvs[j]? = some kv ∧ ys = [kV kv.1, kv.2]) I as H I1 nd fun b hb => by
    obtain ⟨j, hj⟩ := List.mem_iff_getElem?.mp hb
    obtain ⟨en, he, hg⟩ := hG.pairs j b hj
    obtain ⟨kv, hkv, k1, k2⟩ := Kw.pairs_at prs (i := j) (e := en) (by rw [Array.getElem?_toList]; exact he)
    obtain ⟨y, hy, y1, y2⟩ := L2.DX.pget rel hkv
    refine ⟨Nat.le_of_lt (hG.above b hb), I.hok.fresh (Nat.le_of_lt (hG.above b hb)), [kV y.1, y.2], ⟨j, y, hj, hy, rfl⟩, fun H3 => ⟨by show 2 ≤ sizeLine; decide, [en.key, en.val], .cons (relV_key (by rw [y1]; exact k1)) (.cons (by rw [k2]; exact y2) .nil), ⟨_, hg, rfl, _, rfl⟩⟩⟩
  have x2 : Ex H H2 := g2
  have pn : PairsN H2 as kvs := paired_idx as kvs lak fun j b hj => by
    obtain ⟨ys, ⟨i, kv, hi, hkv, ey⟩, hb⟩ := t2 b (List.mem_of_getElem? hj)
    have ij : i = j := (List.getElem?_inj (List.getElem?_eq_some_iff.mp hi).1 nd).mp (hi.trans hj.symm)
    subst ij ey
    exact ⟨kv, hkv, hb⟩
  have rv : Vals (as.map V.ref) (as.map Value.ref) := refsV as
  exact sort_half hu I2 rv (hdp H2 as x2 pn) ok (by rw [List.length_map]; omega) fun cs l pm e hl => q H2 as cs l x2 pn pm e hl
end Kt
namespace Ky
open PySem L2 L2.DX Evl Kd Kt
open PySem.W (Datum DatumOrd T3)
variable {α : Type} [DecidableEq α] [DatumOrd α]
theorem sortItemsP [Sorts α] {K : PySem.W.Frag} {H : Hp} {p a : Addr} {kvs : List (Key × V)} {xs : List α} {Q : VK} (hp : H p = some (itemsO p a)) (ha : Rd H a (.dK kvs)) (hx : ∀ H2 bs, Ex H H2 → PairsN H2 bs kvs → HdL K H2 (bs.map V.ref) xs)
    (q : ∀ H' us l, Ex H H' → HdL K H' us (srt xs) → H' l = none → Q (.ref l) (upd H' l (.lst us))) : rSortIK K [.ref p] H Q := by
  unfold rSortIK
  refine ⟨p, a, kvs, _, rfl, hp, ha, sort_ok xs, hx, fun H' bs cs l e pn pm ec hl => ?_⟩
  have hy := hx H' bs e pn
  rw [← zip_map_toD] at pm
  obtain ⟨cs', pc, ee⟩ := perm_lift (fun b : V × α => (b.1, (Datum.toD b.2 : PyData))) pm _ rfl
  subst ee
  have e2 : cs'.map (·.2) = srt xs := by
    refine toDs_inj ?_
    rw [← srt_toD, ← ec, List.map_map, List.map_map]
    rfl
  have e1 : (cs'.map fun b : V × α => (b.1, (Datum.toD b.2 : PyData))).map (·.1) = cs'.map (·.1) := by rw [List.map_map]; rfl
  rw [e1]
  refine q H' _ l e ?_ hl
  rw [← e2]
  exact hdL_of (paired_maps fun b hb => paired_zip hy.paired b (pc.mem_iff.mp hb))
end Ky
/-! Data with dicts, to be shown (repr). -/
namespace L2
open PySem PySem.Spec PyProof.Rows Evl
def kD : Key → PyData
  | .inl i => .int i
  | .inr x => .str x
mutual
/-- data in the heap; dicts and lists stand elsewhere than the table of modules -/
inductive Th (K : PySem.W.Frag) (H : Hp) : V → PyData → Prop
  | non : Th K H .non .none
  | bl (b : Bool) : Th K H (.bl b) (.bool b)
  | int (i : Int) : Th K H (.int i) (.int i)
  | str (x : Str) : Th K H (.str x) (.str x)
  | lst {a : Addr} {xs : List V} {ds : List PyData} : SqL K H a xs → a ≠ sysModules → ThAll K H xs ds → Th K H (.ref a) (.list ds)
  | tup {a : Addr} {xs : List V} {ds : List PyData} : SqT K H a xs → ThAll K H xs ds → Th K H (.ref a) (.tuple ds)
  | dic {a : Addr} {kvs : List (Key × V)} {ds : List PyData} : H a = some (.dK kvs) → ThAll K H (kvs.map (·.2)) ds → Th K H (.ref a) (.dict ((kvs.map fun p => kD p.1).zip ds))
inductive ThAll (K : PySem.W.Frag) (H : Hp) : List V → List PyData → Prop
  | nil : ThAll K H [] []
  | cons {v : V} {d : PyData} {vs : List V} {ds : List PyData} : Th K H v d → ThAll K H vs ds → ThAll K H (v :: vs) (d :: ds)
end
theorem ThAll.length {K : PySem.W.Frag} {H : Hp} : ∀ {vs : List V} {ds : List PyData}, ThAll K H vs ds → vs.length = ds.length
  | _, _, .nil => rfl
  | _, _, .cons _ h => by simp [h.length]
mutual
theorem th_ex {K : PySem.W.Frag} {H H' : Hp} (x : Ex H H') : ∀ {v : V} {d : PyData}, Th K H v d → Th K H' v d
  | _, _, .non => .non
  | _, _, .bl b => .bl b
  | _, _, .int i => .int i
  | _, _, .str s => .str s
  | _, _, .lst h n a => .lst (ex_l x h) n (thAll_ex x a)
  | _, _, .tup h a => .tup (ex_t x h) (thAll_ex x a)
  | _, _, .dic h a => .dic (x _ _ h) (thAll_ex x a)
theorem thAll_ex {K : PySem.W.Frag} {H H' : Hp} (x : Ex H H') : ∀ {vs : List V} {ds : List PyData}, ThAll K H vs ds → ThAll K H' vs ds
  | _, _, .nil => .nil
  | _, _, .cons h a => .cons (th_ex x h) (thAll_ex x a)
end
section
variable {X : Cx} {pins : List (Addr × Obj)} {σ : St} {H : Hp} {s : Shared}
theorem pairs_keys {P : Program} {w : World} {h : Heap} : ∀ {es : List DictEntry} {kvs : List (Key × V)} {vs : List (Key × Value)}, Pairs (mixKind P w) es vs → KV kvs vs → ReadsAll h (es.map (·.key)) (kvs.map fun p => kD p.1) []
  | _, _, _, .nil, .nil => .nil
  | _, _, _, .cons (e := e) h1 h2 h3, .cons (a := x) r1 r2 => by
    have ih := pairs_keys (h := h) h3 r2
    rcases keyIs_shape h1 with ⟨i, t, e1, e2⟩ | ⟨z, t, e1, e2⟩
    · have e3 : kD x.1 = .int i := by rw [r1.1, e1]; rfl
      show ReadsAll h (e.key :: _) (kD x.1 :: _) ([] ++ [])
      rw [e2, e3]
      exact .cons (.int i t) ih
    · have e3 : kD x.1 = .str z := by rw [r1.1, e1]; rfl
      show ReadsAll h (e.key :: _) (kD x.1 :: _) ([] ++ [])
      rw [e2, e3]
      exact .cons (.str z t) ih
theorem pairs_vals {P : Program} {w : World} : ∀ {es : List DictEntry} {kvs : List (Key × V)} {vs : List (Key × Value)}, Pairs (mixKind P w) es vs → KV kvs vs → Vals (kvs.map (·.2)) (es.map (·.val))
  | _, _, _, .nil, .nil => .nil
  | _, _, _, .cons h1 h2 h3, .cons r1 r2 => .cons (by dsimp only; rw [h2]; exact r1.2) (pairs_vals h3 r2)
mutual
theorem Th.reads (I : Inv X pins σ H s) : ∀ {v : V} {d : PyData} {u : Value}, Th X.K H v d → RelV v u → ∃ as, Reads s.heap u d as ∧ sysModules ∉ as
  | _, _, _, .non, r => by cases r; exact ⟨_, .none, by simp⟩
  | _, _, _, .bl b, r => by cases r; exact ⟨_, .bool b, by simp⟩
  | _, _, _, .int i, r => by obtain ⟨t, rfl⟩ := r; exact ⟨_, .int i t, by simp⟩
  | _, _, _, .str x, r => by obtain ⟨t, rfl⟩ := r; exact ⟨_, .str x t, by simp⟩
  | _, _, _, .lst hs hn ha, r => by
    cases r
    obtain ⟨its, rv, ⟨o, n, ho, hc, _, hd⟩, _⟩ := I.list hs
    obtain ⟨as, hr, hm⟩ := ThAll.reads I ha rv
    refine ⟨_, Reads.list ho hc hd hr, ?_⟩
    simp only [List.mem_cons, not_or]
    exact ⟨fun z => hn z.symm, hm⟩
  | _, _, _, .tup hs ha, r => by
    cases r
    obtain ⟨its, rv, ⟨o, ho, hc, n, hd⟩, _⟩ := I.tuple hs
    obtain ⟨as, hr, hm⟩ := ThAll.reads I ha rv
    exact ⟨_, Reads.tuple ho hc hd hr, hm⟩
  | _, _, _, .dic (kvs := kvs) (ds := ds) he ha, r => by
    cases r
    obtain ⟨_, hsm, vs, rel, o, es, ep, ho, hx, hd, _, hp, _⟩ := dk_of I.hok he
    have hv := pairs_vals hp rel
    obtain ⟨as, hr, hm⟩ := ThAll.reads I ha hv
    have hl := ha.length
    rw [List.length_map] at hl
    refine ⟨_, Reads.dict (kvs := (kvs.map fun p => kD p.1).zip ds) ho hx.1 hd (as := []) (bs := as) ?_ ?_, ?_⟩
    · rw [List.map_fst_zip (by rw [List.length_map]; omega)]
      exact pairs_keys hp rel
    · rw [List.map_snd_zip (by rw [List.length_map]; omega)]
      exact hr
    · have hsm' := ne_of_beq_false hsm
      simp only [List.append_nil, List.cons_append, List.nil_append, List.mem_cons, not_or]
      exact ⟨fun z => hsm' z.symm, hm⟩
theorem ThAll.reads (I : Inv X pins σ H s) : ∀ {vs : List V} {ds : List PyData} {us : List Value}, ThAll X.K H vs ds → Vals vs us → ∃ as, ReadsAll s.heap us ds as ∧ sysModules ∉ as
  | _, _, _, .nil, r => by cases r; exact ⟨_, .nil, by simp⟩
  | _, _, _, .cons h a, r => by
    cases r with
    | cons r1 r2 =>
      obtain ⟨as, q1, n1⟩ := Th.reads I h r1
      obtain ⟨bs, q2, n2⟩ := ThAll.reads I a r2
      exact ⟨_, .cons q1 q2, by simp only [List.mem_append, not_or]; exact ⟨n1, n2⟩⟩
end
/-- repr(x), x a list -/
def rReprT (K : PySem.W.Frag) : List V → Hp → VK → Prop := fun xs H Q => ∃ a ds, xs = [.ref a] ∧ Th K H (.ref a) (.list ds) ∧ PyData.showable (.list ds) = true ∧ (PyData.list ds).depth ≤ 40 ∧ (PyData.list ds).shown.length ≤ sizeLine ∧ Q (.str (PyData.list ds).shown) H
theorem call_reprT (hG : X.A.guards = some []) (hu : X.A.units + 64 < cLine) : CallR X (.builtin "repr") (rReprT X.K) := by
  intro pins s σ H xs us Q I r ⟨a, ds, ex, hd, hs, hdp, hz, q⟩
  subst ex
  obtain ⟨u, rfl, ru⟩ := r.one
  obtain ⟨as, hr, hm⟩ := Th.reads I hd ru
  cases ru
  exact repr_of_reads' hr hs (fun _ => hm) hG (by omega) (fun _ _ z => z) (fun h' t tk k => ⟨.str (PyData.list ds).shown, H, I.kept (t' := tk) k, ⟨t, rfl⟩, q⟩) hz
/-- [..], elsewhere than the table of modules -/
def tLstN (t : TA) : TE := fun σ H Q => t σ H fun xs H1 => xs.length ≤ sizeLine ∧ ∀ p, H1 p = none → p ≠ sysModules → Q (.ref p) (upd H1 p (.lst xs))
theorem pe_lstN {es : List Expr} {t : TA} {pos : Pos} (h : PA X es t) : PE X (.List es pos) (tLstN t) := by
  refine ⟨fun pins s σ H Q I hq => ?_⟩
  refine wpAny_List_spliced (thn (h.run pos pins s σ H _ I hq) fun us s1 ⟨xs, H1, I1, r, z, q⟩ => ⟨by rw [← r.length]; exact z, ?_⟩)
  have hf : H1 s1.heap.objs.size = none := I1.hok.fresh (Nat.le_refl _)
  refine ⟨.ref s1.heap.objs.size, upd H1 s1.heap.objs.size (.lst xs), I1.laid (t' := s1.toks) (fun b u e => Heap.get?_push_of_some _ e) (Nat.le_refl _) ?_, rfl, q _ hf (Nat.ne_of_gt I1.big)⟩
  exact ⟨z, us, 0, r, Heap.get?_push_size _ rfl⟩
end
end L2
namespace Kt
open PySem L2 Evl Kd Ks
/-- {k: v for x in ..}, no test: o tells the dict by the turn -/
theorem dcR {J : It} {n : Nat} {G : Hp → Prop} {Y : Nat → Hp → V → Hp → Prop} (w : Walk J n G Y) {i : Nat} {tk tv : TE} {σ : L2.St} {H1 : Hp} {D : Addr} {Qd : Hp → Prop} (hD : H1 D = none) (xs : List V) (o : Nat → HO) (hn : xs.length = n)
    (hG : ∀ H, Ex H1 H → G H) (hY : ∀ k H x H', Y k H x H' → H' = H ∧ xs[k]? = some x) (hw : ∀ v, wipe ((wipe σ [i]).set i v) [i] = wipe σ [i])
    (step : ∀ (k : Nat) x H, xs[k]? = some x → Ex H1 H → H D = some (o k) → tk ((wipe σ [i]).set i (some x)) H fun y H4 => tv ((wipe σ [i]).set i (some x)) H4 fun z H5 => ∃ H6, DPut H5 D y z H6 ∧ Ex H1 H6 ∧ H6 D = some (o (k + 1)))
    (hq : ∀ H, Ex H1 H → H D = some (o n) → Qd H) :
    ∃ W : Nat → Nat → Hp → Prop, (∃ m, W 0 m (upd H1 D (o 0))) ∧ ∀ k m H, W k m H →
      (J.stop k H ∧ Qd H) ∨ (J.go k H ∧ ∃ Nx : Hp → Prop, (∀ H', Nx H' → ∃ m', m' < m ∧ W (k + 1) m' H') ∧ ∀ x H', J.yld k H x H' → gName i x (wipe σ [i]) H' fun σ2 H2 => wipe σ2 [i] = wipe σ [i] ∧ tYes σ2 H2 fun b H3 =>
        if b = true then tk σ2 H3 fun y H4 => tv σ2 H4 fun z H5 => ∃ H6, DPut H5 D y z H6 ∧ Nx H6 else Nx H3) := by
  refine ⟨fun k m H => m = n - k ∧ k ≤ n ∧ Ex H1 H ∧ H D = some (o k), ⟨n, by simp, Nat.zero_le _, Ex.mut (Ex.refl H1) hD, upd_same⟩, ?_⟩
  rintro k m H ⟨rfl, hk, e, hd⟩
  have g := hG H e
  by_cases c : k < n
  · refine .inr ⟨w.goes k H c g, fun H' => Ex H1 H' ∧ H' D = some (o (k + 1)), fun H' p => ⟨n - (k + 1), by omega, rfl, c, p⟩, fun x H' y => ?_⟩
    obtain ⟨rfl, hx⟩ := hY k H x H' (w.yields k H x H' c g y)
    exact ⟨hw (some x), step k x H' hx e hd⟩
  · obtain rfl : k = n := by omega
    exact .inl ⟨w.stops H g, hq H e hd⟩
/-- each once, in the order of the first -/
def once {α : Type} [DecidableEq α] : List α → List α
  | [] => []
  | x :: r => x :: (once r).filter fun y => decide (y ≠ x)
def addO {α : Type} [DecidableEq α] (l : List α) (k : α) : List α := if k ∈ l then l else l ++ [k]
/-- the keys of a row of ties, each once, in their order -/
theorem put_tru {κ : Type} [DecidableEq κ] (l : List κ) (k : κ) : putK (l.map fun q => (q, V.bl true)) k (.bl true) = (addO l k).map fun q => (q, V.bl true) := by
  unfold putK addO
  have e : ((l.map fun q => (q, V.bl true)).any fun kv => decide (kv.1 = k)) = decide (k ∈ l) := by
    rw [List.any_map, Bool.eq_iff_iff, List.any_eq_true, decide_eq_true_iff]
    constructor
    · rintro ⟨x, h1, h2⟩
      rw [← of_decide_eq_true h2]
      exact h1
    · intro h
      exact ⟨k, h, decide_eq_true rfl⟩
  rw [e]
  by_cases c : k ∈ l
  · rw [decide_eq_true c, if_pos rfl, if_pos c, List.map_map]
    refine List.map_congr_left fun q _ => ?_
    show (if q = k then (q, V.bl true) else (q, V.bl true)) = (q, V.bl true)
    split <;> rfl
  · rw [decide_eq_false c, if_neg Bool.false_ne_true, if_neg c, List.map_append]
    rfl
theorem mem_once {α : Type} [DecidableEq α] {y : α} : ∀ {l : List α}, y ∈ once l ↔ y ∈ l
  | [] => Iff.rfl
  | x :: r => by
    unfold once
    rw [List.mem_cons, List.mem_cons, List.mem_filter, decide_eq_true_iff, mem_once (l := r)]
    constructor
    · rintro (h | h)
      · exact .inl h
      · exact .inr h.1
    · rintro (h | h)
      · exact .inl h
      · by_cases c : y = x
        · exact .inl c
        · exact .inr ⟨h, c⟩
theorem nodup_once {α : Type} [DecidableEq α] : ∀ l : List α, (once l).Nodup
  | [] => List.nodup_nil
  | x :: r => by
    unfold once
    refine List.nodup_cons.mpr ⟨fun h => ?_, (nodup_once r).filter _⟩
    exact of_decide_eq_true (List.mem_filter.mp h).2 rfl
theorem once_snoc {α : Type} [DecidableEq α] (k : α) : ∀ l : List α, once (l ++ [k]) = addO (once l) k
  | [] => rfl
  | x :: r => by
    show x :: (once (r ++ [k])).filter (fun y => decide (y ≠ x)) = addO (x :: (once r).filter fun y => decide (y ≠ x)) k
    rw [once_snoc k r]
    unfold addO
    by_cases c : k = x
    · subst c
      rw [if_pos List.mem_cons_self]
      by_cases c2 : k ∈ once r
      · rw [if_pos c2]
      · rw [if_neg c2, List.filter_append]
        simp
    · by_cases c2 : k ∈ once r
      · rw [if_pos c2, if_pos (List.mem_cons_of_mem _ (List.mem_filter.mpr ⟨c2, decide_eq_true c⟩))]
      · rw [if_neg c2, if_neg (fun z => by
          rcases List.mem_cons.mp z with z | z
          · exact c z
          · exact c2 (List.mem_filter.mp z).1), List.filter_append]
        simp [c]
theorem once_map {α β : Type} [DecidableEq α] [DecidableEq β] (f : α → β) (hf : ∀ a b, f a = f b → a = b) : ∀ l : List α, once (l.map f) = (once l).map f
  | [] => rfl
  | x :: r => by
    show f x :: (once (r.map f)).filter (fun y => decide (y ≠ f x)) = (x :: (once r).filter fun y => decide (y ≠ x)).map f
    rw [once_map f hf r, List.map_cons, List.filter_map]
    congr 2
    refine List.filter_congr fun y _ => ?_
    show decide (f y ≠ f x) = decide (y ≠ x)
    rw [decide_eq_decide]
    exact ⟨fun h z => h (by rw [z]), fun h z => h (hf _ _ z)⟩
theorem once_nodup {α : Type} [DecidableEq α] : ∀ {l : List α}, l.Nodup → once l = l
  | [], _ => rfl
  | x :: r, h => by
    obtain ⟨h1, h2⟩ := List.nodup_cons.mp h
    show x :: (once r).filter (fun y => decide (y ≠ x)) = x :: r
    have e : r.filter (fun y => decide (y ≠ x)) = r := List.filter_eq_self.mpr fun y hy => decide_eq_true (show y ≠ x from fun z => h1 (by rw [← z]; exact hy))
    rw [once_nodup h2, e]
theorem once_sub {α : Type} [DecidableEq α] : ∀ l : List α, (once l).Sublist l
  | [] => .slnil
  | x :: r => (List.filter_sublist.trans (once_sub r)).cons_cons x
theorem once_len {α : Type} [DecidableEq α] (l : List α) : (once l).length ≤ l.length := (once_sub l).length_le
end Kt
/-! list(d.items()), d perhaps locked by a walk. -/
namespace Kt
open PySem L2 LiI
def rItR : V → Hp → VK → Prop := fun x H Q => ∃ (d : Addr) (kvs : List (Key × V)), x = .ref d ∧ Rd H d (.dK kvs) ∧
  ∀ (H' : Hp) (p : Addr) (ts : List Addr), (∀ b o, H b = some o → H' b = some o) → H p = none → H' p = some (.lst (ts.map V.ref)) → Paired (fun (t : Addr) (q : Key × V) => H' t = some (.tup [kV q.1, q.2])) ts kvs → Q (.ref p) H'
def tItR (te : TE) : TE := fun σ H Q => te σ H fun x H1 => rItR x H1 Q
theorem pe_itemsR {X : Cx} {e : Expr} {te : TE} {p apos cpos pos : Pos} (calm : X.calm = true) (pe : PE X e te) (gl : Gl X "list") (mn : X.mg "list" = none) (bo : bootBuiltins "list" = some (.type "list")) (ab : attributeBase e "items" X.env (eval e X.env) = eval e X.env := by rfl) (li : (apos.endLine == cpos.line) = true := by rfl)
    (st : starEach [.Call (.Attribute e "items" apos) [] [] cpos] X.env = (false, eval (.Call (.Attribute e "items" apos) [] [] cpos) X.env) :: starEach [] X.env := by rfl) : PE X (.Call (.Name "list" p) [.Call (.Attribute e "items" apos) [] [] cpos] [] pos) (tItR te) := by
  constructor
  intro pins s σ H Q I ask
  refine wpAny_Call_Name_kw (ld_blt I gl mn bo (PyProof.Rows.callWith_type1 ?_ st rfl))
  rw [st]
  show wpAny _ _ (spliced ((false, eval (.Call (.Attribute e "items" apos) [] [] cpos) X.env) :: backTo pos (starEach [] X.env))) _ _ s
  refine Calls.spliced_cons ?_
  refine (wpAny_Call_method (T := "dict") (id := "dict.items") ab rfl li F.plainAttrs_dict F.slot_dict_items F.type_dict_items (thn (pe.run pins s σ H _ I ask) ?_))
  rintro u s1 ⟨x, H1, J, rx, d, kvs, rfl, rd, q⟩
  obtain rfl : u = Value.ref d := rx
  obtain ⟨size, notSys, vs, rel, isD⟩ := dk_rd J.hok rd
  obtain ⟨ep, isAt⟩ := isD.dictAt
  have len : kvs.length = vs.length := Paired.length rel
  have J2 : Inv X pins σ H1 { s1 with heap := s1.heap.push { cls := .type "dict_items", data := .fields #[.ref d] } } := J.kept (t' := s1.toks) fun _ _ z => Heap.get?_push_of_some _ z
  refine ⟨isD.typeIs, isD.mapOf.noDict, ?_⟩
  show wpAny _ _ (callWith cpos (.builtin "dict.items") [.ref d] [] []) _ X.xe s1
  refine method_meetsIn F.slot_dict_items F.entry_dict_items rfl (PySem.evalArgs_none ⟨rfl, isD.typeIs, F.args_dict_items_1 _, _, meets_dict_items (mixKind X.prog X.w) d notSys, ⟨vs, isD⟩, Calls.spliced_nil ?_⟩)
  refine PySem.W.kdx_call (knd := mixKind X.prog X.w) (kvs := vs) (ep := ep) (J.ok.hd calm) ⟨_, Heap.get?_push_size _ rfl, rfl, rfl⟩ (isAt.push _) (by omega) ?_
  intro h' tk acc c as hk hS hl hG hacc
  obtain ⟨H', k1, k2, _, _, k5, k6, J3⟩ := items_laid (tk := tk) J2 size rel hk hS hl hG hacc
  exact ⟨.ref _, H', J3, rfl, q H' _ as k1 k2 k5 k6⟩
end Kt
/-! A statement with a word of its own for what stands behind it (where two ways meet). -/
namespace L2
open PySem
def tJoin (t : TS) : TS := fun D σ H => ∃ J : St → Hp → Prop, t { D with nx := J } σ H ∧ ∀ σ' H', J σ' H' → D.nx σ' H'
theorem ps_join {X : Cx} {st : Stmt} {t : TS} (h : PS X st t) : PS X st (tJoin t) := by
  constructor
  rintro pins s σ H D I ⟨J, h1, h2⟩
  refine thn (h.run pins s σ H { D with nx := J } I h1) fun f s1 q => ?_
  cases f with
  | next =>
    obtain ⟨σ', H', I2, q⟩ := q
    exact ⟨σ', H', I2, h2 _ _ q⟩
  | brk => exact q
  | cont => exact q
  | ret u => exact q
end L2
/-! sorted(t), t a tuple of data of one kind -/
namespace Kd
open PySem PySem.W PyProof.Rows L2
@[irreducible] def rSortDT (K : PySem.W.Frag) : List V → Hp → VK → Prop := fun vs H Q => ∃ (a : Addr) (xs : List V) (ds : List PyData), vs = [V.ref a] ∧ SqT K H a xs ∧ DpAll K H xs ds ∧ SortOk ds ∧
  ∀ (bs : List (V × PyData)) (p : Addr), bs.Perm (xs.zip ds) → bs.map (·.2) = srtD ds → H p = none → Q (.ref p) (upd H p (.lst (bs.map (·.1))))
theorem cr_sortT {X : Cx} {K : PySem.W.Frag} (hK : X.K = K) (hu : X.A.units + 64 < cLine) : CallR X (.builtin "sorted") (rSortDT K) := by
  intro pins s σ H vs us Q I r h
  unfold rSortDT at h
  obtain ⟨a, xs, ds, e, hs, hd, ok, q⟩ := h
  subst e
  subst hK
  rw [Vals.ref1 r]
  obtain ⟨its, rv, ⟨o, ho, hc, n, hdt⟩, hz0⟩ := I.tuple hs
  have len := dpAll_len' hd
  have lz : (xs.zip ds).length = xs.length := by rw [List.length_zip, len]; exact Nat.min_self _
  have hln : its.length ≤ sizeLine := by rw [← rv.length]; exact hz0
  have e2 : (xs.zip ds).map (fun b => b.2) = ds := zip_snd len
  refine Calls.call_function_entry kind_sorted plain_sorted entry_sorted (args_sorted1 _) ?_
  unfold Builtin.«sorted»
  refine wpAny_bind (m := checkCount "sorted" 1 1 _) (wpAny_pure ?_)
  refine wpAny_bind (wpAny_collect_seq a (.inr rfl) ho hc hdt (fun h1 kp => ?_) (by rw [List.size_toArray]; exact hln))
  refine wpAny_bind (wpAny_newList ?_ hln)
  have J : Inv X pins σ H { s with heap := h1 } := I.kept (t' := s.toks) kp
  have hnew : (h1.push (seqObj "list" its.toArray 0)).get? h1.objs.size = some (seqObj "list" its.toArray 0) := Heap.get?_push_size _ rfl
  show wpAny _ _ _ _ _ { s with heap := h1.push (seqObj "list" its.toArray 0) }
  have es := each_of hd rv
  have er0 := reads_of J hd rv
  have er' : EachIs (fun v (b : V × PyData) => ∃ as, Reads (sortingHeap (h1.push (seqObj "list" its.toArray 0)) h1.objs.size its) v b.2 as) its (xs.zip ds) := er0.mono fun _ _ ⟨as, r⟩ => ⟨as, PyProof.Rows.Reads.keeps (fun b o e => sortingHeap_old (Nat.ne_of_lt (Heap.lt_size e)) (Heap.get?_push_of_some _ e)) r⟩
  have hal : AllAlike ((xs.zip ds).map fun b => b.2) := by rw [e2]; exact ok.al
  have hso : Sortable ((xs.zip ds).map fun b => b.2) := by rw [e2]; exact ok.so
  have hdep : ∀ d, d ∈ (xs.zip ds).map (fun b : V × PyData => b.2) → X.A.in1.in1.units + d.depth < cLine := fun d hm => by
    rw [e2] at hm
    have h1 := ok.dp d hm
    show X.A.units + 2 + d.depth < cLine
    omega
  refine wpAny_bind (wpAny_holding (wpAny_call_entry slot_list_sort ⟨_, hnew, rfl⟩ entry_list_sort
    (list_sort_vals (κ := dataKind (sortingHeap (h1.push (seqObj "list" its.toArray 0)) h1.objs.size its) ((xs.zip ds).map fun b => b.2)) hnew (SortsAt.data (s := { s with heap := sortingHeap (h1.push (seqObj "list" its.toArray 0)) h1.objs.size its }) (each_map (R := fun v d => ∃ as, Reads (sortingHeap (h1.push (seqObj "list" its.toArray 0)) h1.objs.size its) v d as) (fun b : V × PyData => b.2) er') hal hso hdep) hln ⟨.none, rfl, ?_⟩) (args_list_sort _)))
  have eo := sortVals_data (enc := fun b : V × PyData => b.2) (R := fun v b => RelV b.1 v) false es er' hal
  have pm : ((xs.zip ds).mergeSort (dataLe false fun b : V × PyData => b.2)).Perm (xs.zip ds) := List.mergeSort_perm _ _
  have hy := vals_each eo
  have hp : (((xs.zip ds).mergeSort (dataLe false fun b : V × PyData => b.2)).map (·.1)).length = xs.length := by rw [List.length_map, pm.length_eq, lz]
  have hsnd : ((xs.zip ds).mergeSort (dataLe false fun b : V × PyData => b.2)).map (fun b : V × PyData => b.2) = srtD ds := by
    unfold srtD
    have z := sort_maps (r := dataLe false fun b : V × PyData => b.2) (s := dataLe false (id : PyData → PyData)) (fun b : V × PyData => b.2) (l := xs.zip ds) (fun _ _ _ _ => rfl)
    rw [z, e2]
  obtain ⟨n', h'⟩ := sortedHeap_at (vs := its) (out := (sortVals (dataKind (sortingHeap (h1.push (seqObj "list" its.toArray 0)) h1.objs.size its) ((xs.zip ds).map fun b => b.2)) false its its).toArray) hnew
  refine wpAny_pure ⟨_, rfl, .ref h1.objs.size, upd H h1.objs.size (.lst (((xs.zip ds).mergeSort (dataLe false fun b : V × PyData => b.2)).map (·.1))), J.laid (t' := s.toks) (fun b u e => ?_) (Nat.le_refl _) ⟨by rw [hp]; exact hz0, _, n', hy, h'⟩, rfl, q _ _ pm hsnd (J.hok.fresh (Nat.le_refl _))⟩
  have hb : b < h1.objs.size := Heap.lt_size e
  rw [sortedHeap_old (Nat.ne_of_lt hb) (by rw [size_push']; exact Nat.lt_succ_of_lt hb)]
  exact Heap.get?_push_of_some _ e
end Kd
namespace Ky
open PySem L2 Evl Kd
open PySem.W (Datum DatumOrd T3)
variable {α : Type} [DecidableEq α] [DatumOrd α]
/-- sorted(t), t's items standing in R with xs -/
theorem sortedRT [Sorts α] {K : PySem.W.Frag} {H : Hp} {p : Addr} {vs : List V} {xs : List α} {Q : VK} {R : V → α → Prop} (h : SqT K H p vs) (hy : HdL K H vs xs) (r : Paired R vs xs) (q : ∀ us l, Paired R us (srt xs) → us.Perm vs → H l = none → Q (.ref l) (upd H l (.lst us))) : rSortDT K [.ref p] H Q := by
  unfold rSortDT
  refine ⟨p, vs, _, rfl, h, hy, sort_ok xs, fun bs l pm hb hl => ?_⟩
  rw [← zip_map_toD] at pm
  obtain ⟨cs, pc, ec⟩ := perm_lift (fun b : V × α => (b.1, (Datum.toD b.2 : PyData))) pm _ rfl
  subst ec
  have e2 : cs.map (·.2) = srt xs := by
    refine toDs_inj ?_
    rw [← srt_toD, ← hb, List.map_map, List.map_map]
    rfl
  have e1 : (cs.map fun b : V × α => (b.1, (Datum.toD b.2 : PyData))).map (·.1) = cs.map (·.1) := by rw [List.map_map]; rfl
  have hlen : vs.length = xs.length := hy.len
  have pv : (cs.map (·.1)).Perm vs := by
    have z := pc.map (fun b : V × α => b.1)
    rw [List.map_fst_zip (by omega)] at z
    exact z
  rw [e1]
  refine q _ l ?_ pv hl
  rw [← e2]
  exact paired_maps fun b hb => paired_zip r b (pc.mem_iff.mp hb)
end Ky
/-! x = {k: v for ..}, x a plain local name of the def -/
namespace L2
open PySem PySem.Spec PyProof.Rows
section
variable {X : Cx}
theorem ps_setDc {i : Nat} {y : Str} {py : Pos} {kx vx tg iter : Expr} {ifs : List Expr} {scope : Scope} {own : List (Str × Nat)} {pos spos : Pos} {wi : TI} {g : TG} {tt : TT} {tk tv : TE} (hc : X.calm = true) (hN : X.N.Nodup) (hy : X.N[i]? = some y) (hyl : X.env.scope.names.lookup y = some .local)
    (hsw : swapsWith (.DictComp kx vx [⟨tg, iter, ifs, 0⟩] scope pos) (some (.Name y py)) spos.line X.env = pure true) (hi : PI X tg iter wi) (ok : BlkOk X.N X.env.scope scope own)
    (hg : ∀ (s : Shared) (H : Hp) (C : Addr) (cl : List (Str × Addr)) (fp : List Addr), PG (X.blk s H scope (compEnvC scope cl C X.env) fp) tg g) (ht : ∀ (s : Shared) (H : Hp) (C : Addr) (cl : List (Str × Addr)) (fp : List Addr), PTs (X.blk s H scope (compEnvC scope cl C X.env) fp) ifs tt)
    (hk : ∀ (s : Shared) (H : Hp) (C : Addr) (cl : List (Str × Addr)) (fp : List Addr), PE (X.blk s H scope (compEnvC scope cl C X.env) fp) kx tk)
    (he : ∀ (s : Shared) (H : Hp) (C : Addr) (cl : List (Str × Addr)) (fp : List Addr), PE (X.blk s H scope (compEnvC scope cl C X.env) fp) vx tv) (hs : ∀ x, foldedSetIterable iter X.env x = pure x := by intro _; rfl) :
    PS X (.Assign [.Name y py] (.DictComp kx vx [⟨tg, iter, ifs, 0⟩] scope pos) spos) (tAsg (tDc wi g tt tk tv (own.map (·.2))) (gName i)) := by
  refine ⟨fun pins s σ H D I h => ?_⟩
  rw [exec_Assign_Name_used _ _ _ _ hsw]
  refine wpAny_bind (wpAny_standAt (wpAny_bind ?_))
  show wpAny _ X.A (do let _ ← comprehension (.DictComp kx vx [⟨tg, iter, ifs, 0⟩] scope pos) scope X.env (firstIterPos [⟨tg, iter, ifs, 0⟩] pos) newDict false (eval iter X.env) (some (assign (.Name y py) X.env))) _ _ s
  have h : tDc wi g tt tk tv (own.map (·.2)) σ H (fun x H1 => gName i x σ H1 D.nx) := h
  refine wpAny_bind (thn (dc_core (Qf := fun _ s' => SP X pins D .next s') hc hN I hi ok hg ht hk he hs h fun L C s' m H' I' q hn f => ?_) fun _ s' hq => wpAny_pure (wpAny_pure hq))
  show wpAny _ _ (assign (.Name y py) X.env (.ref L)) _ _ _
  refine wpAny_assign_Name (store_ok2 (v := V.ref L) I' hN hy (.inl hyl) rfl (fun s2 I2 ⟨a, sb, ha⟩ => ?_) (.inr hyl))
  obtain ⟨f0, f1, f2, f3, f4, f5⟩ := f
  have haC : C ≠ a := by
    rcases ha with z | z
    · rw [z]; exact f1
    · exact fun e => f4 y a z e.symm
  refine ⟨m, hn.sameBut sb haC, fun h3 sb3 => ?_⟩
  exact ⟨_, H', I2.turned (t' := s2.toks) (fun b o hb e => (sb3.2 b hb).trans e) f0 f1 f3 f4 f5, q⟩
theorem sw_trueD {kx vx : Expr} {gs : List Comprehension} {scope : Scope} {pos py : Pos} {y : Str} {l : Nat} {env : Env} (hk : env.scope.kind = .function) (hy : env.scope.names.lookup y = some .local) (hl : (py.line == pos.line) = true)
    (ha : (scope.names.any fun (n, k) => n == y && (k == .local || k == .cell)) = false) : swapsWith (.DictComp kx vx gs scope pos) (some (.Name y py)) l env = pure true := by
  have ky : env.kindOf y = some .local := hy
  have hb : env.blockKind = .function := by unfold Env.blockKind; rw [hk]; rfl
  unfold swapsWith
  simp only [hb, ky, ha, Expr.pos, hl]
  rfl
/-- {k: v for .. in .. if ..}, keys ints and texts, by a word of the turn -/
theorem dcK {J : It} {n : Nat} {G : Hp → Prop} {Y : Nat → Hp → V → Hp → Prop} (w : Walk J n G Y) {g : TG} {tt : TT} {tk tv : TE} {vs : List Nat} {σ : L2.St} {H1 : Hp} {D : Addr} {Qd : Hp → Prop} (Pv : Nat → Hp → Prop) (h0 : Pv 0 (upd H1 D (.dK []))) (hG : ∀ i H, i ≤ n → Pv i H → G H)
    (hs : ∀ i x H H', i < n → Pv i H → Y i H x H' → g x (wipe σ vs) H' fun σ2 H2 => wipe σ2 vs = wipe σ vs ∧ tt σ2 H2 fun b H3 => if b = true then tk σ2 H3 fun y H4 => tv σ2 H4 fun z H5 => ∃ kvs k, y = kV k ∧ H5 D = some (.dK kvs) ∧ kvs.length < sizeLine ∧ Pv (i + 1) (upd H5 D (.dK (putK kvs k z))) else Pv (i + 1) H3) (hd : ∀ H, Pv n H → Qd H) :
    ∃ W : Nat → Nat → Hp → Prop, (∃ m, W 0 m (upd H1 D (.dK []))) ∧ ∀ i m H, W i m H →
      (J.stop i H ∧ Qd H) ∨ (J.go i H ∧ ∃ Nx : Hp → Prop, (∀ H', Nx H' → ∃ m', m' < m ∧ W (i + 1) m' H') ∧ ∀ x H', J.yld i H x H' → g x (wipe σ vs) H' fun σ2 H2 => wipe σ2 vs = wipe σ vs ∧ tt σ2 H2 fun b H3 =>
        if b = true then tk σ2 H3 fun y H4 => tv σ2 H4 fun z H5 => ∃ kvs k, y = kV k ∧ H5 D = some (.dK kvs) ∧ kvs.length < sizeLine ∧ Nx (upd H5 D (.dK (putK kvs k z))) else Nx H3) := by
  refine ⟨fun i m H => m = n - i ∧ i ≤ n ∧ Pv i H, ⟨n, by simp, Nat.zero_le _, h0⟩, ?_⟩
  rintro i m H ⟨rfl, hi, p⟩
  have q := hG i H hi p
  by_cases hlt : i < n
  · exact .inr ⟨w.goes i H hlt q, Pv (i + 1), fun H' p' => ⟨n - (i + 1), by omega, rfl, hlt, p'⟩, fun x H' y => hs i x H H' hlt p (w.yields i H x H' hlt q y)⟩
  · have e : i = n := by omega
    subst e
    exact .inl ⟨w.stops H q, hd H p⟩
end
end L2
/-! repr of an integer, a truth value, None or a text -/
namespace L2
open PySem PySem.Spec PyProof.Rows
def repB : V → Str
  | .int i => toString i
  | .bl b => if b then "True" else "False"
  | .non => "None"
  | .str x => reprText x
  | _ => ""
def shortB : V → Prop
  | .int i => i.natAbs.log2 < 1920
  | .bl _ => True
  | .non => True
  | .str x => (reprText x).length ≤ sizeLine
  | _ => False
def rReprB : List V → Hp → VK → Prop := fun xs H Q => ∃ v, xs = [v] ∧ shortB v ∧ Q (.str (repB v)) H
theorem call_reprB {X : Cx} : CallR X (.builtin "repr") rReprB := by
  intro pins s σ H xs us Q I r h
  obtain ⟨v, rfl, hz, q⟩ := h
  obtain ⟨u, rfl, rv⟩ := vals1 r
  cases v with
  | int i =>
    obtain ⟨t, rfl⟩ := rv
    exact PySem.P.repr_of_int hz ⟨.str _, H, I.tok _, ⟨_, rfl⟩, q⟩
  | bl b =>
    cases rv
    exact PySem.P.repr_of_bool ⟨.str _, H, I.tok _, ⟨s.toks, by cases b <;> rfl⟩, q⟩
  | non =>
    cases rv
    exact PySem.P.repr_of_none ⟨.str _, H, I.tok _, ⟨_, rfl⟩, q⟩
  | str x =>
    obtain ⟨t, rfl⟩ := rv
    exact PySem.P.repr_of_str ⟨.str _, H, I.tok _, ⟨_, rfl⟩, q⟩ hz
  | _ => exact hz.elim
end L2
/-! x in xs, xs == ys, xs != ys where the items are instances with an own ==, both answers -/
namespace Kq
open PySem PySem.SeqAt
open AutoSeq1 (wpAny_loadPart')
open MeetsSeq MeetsSeq2 MeetsSeq3 SeqRoads2
section
variable {P : Program} {w : World} {A : Around} {R : Result → Shared → Prop}
/-- the list at l is its as long as J holds -/
def Stays (J : Shared → Prop) (T : String) (l : Addr) (its : Array Value) : Prop := ∀ t, J t → ∃ dd n sl, t.heap.get? l = some { cls := .type T, dict := dd, data := .seq its n, slots := sl }
/-- y == x answers b, and J stays -/
def Asks (P : Program) (w : World) (A : Around) (E : Value → Shared → Prop) (J : Shared → Prop) (y x : Value) (b : Bool) : Prop := ∀ t, J t → wpAny (model P w) A (eqBool y x) (fun r t' => r = b ∧ J t') E t
theorem any_stop {n i : Nat} {e : Nat → Bool} (hi : i < n) (h : e i = true) : (List.range n).any e = true := List.any_eq_true.mpr ⟨i, List.mem_range.mpr hi, h⟩
theorem any_none {n : Nat} {e : Nat → Bool} (h : ∀ j, j < n → e j = false) : (List.range n).any e = false := by
  rw [List.any_eq_false]
  intro j hj
  rw [h j (List.mem_range.mp hj)]
  exact Bool.false_ne_true
theorem all_stop {n i : Nat} {e : Nat → Bool} (hi : i < n) (h : e i = false) : (List.range n).all e = false := List.all_eq_false.mpr ⟨i, List.mem_range.mpr hi, by rw [h]; exact Bool.false_ne_true⟩
theorem all_full {n : Nat} {e : Nat → Bool} (h : ∀ j, j < n → e j = true) : (List.range n).all e = true := List.all_eq_true.mpr fun j hj => h j (List.mem_range.mp hj)
theorem in_loop (J : Shared → Prop) (l : Addr) (its : Array Value) (hl : Stays J "list" l its) (x : Value) (e : Nat → Bool) (he : ∀ j (h : j < its.size), Asks P w A.in1 (fun z t => R (.error z) t) J its[j] x (e j))
    (fin : ∀ t, J t → R (.ok (.ret (.bool ((List.range its.size).any e)))) t) (k : Nat) :
    ∀ i : Nat, its.size - i = k → i ≤ its.size → (∀ j, j < i → e j = false) → ∀ t, J t → wpAny (model P w) A.in1 (Builtin.«list.__contains__.loop» ⟨[.ref l, x, rawInt i], []⟩) (GQ.FinOf P w A R) (fun z t => R (.error z) t) t := by
  induction k with
  | zero =>
    intro i hk hi none t ht
    obtain ⟨dd, n, sl, hg⟩ := hl t ht
    have ei : i = its.size := by omega
    have q := fin t ht
    rw [any_none (fun j hj => none j (by omega))] at q
    have out : its[((i : Nat) : Int).toNat]? = Option.none := by simp; omega
    obtain ⟨h1, h2, h3, h4, h5⟩ := t
    wp_walk using wpAny_loadPart' hg
    rw [out]
    wp_walk
    exact q
  | succ k ih =>
    intro i hk hi none t ht
    obtain ⟨dd, n, sl, hg⟩ := hl t ht
    have small : i < its.size := by omega
    have here : its[((i : Nat) : Int).toNat]? = some its[i] := by simp [small]
    have ask := he i small t ht
    obtain ⟨h1, h2, h3, h4, h5⟩ := t
    wp_walk using wpAny_loadPart' hg
    rw [here]
    refine wpAny_bind (wpAny_mono ask (fun r t' z => ?_) fun _ _ z => z)
    obtain ⟨rfl, ht'⟩ := z
    cases c : e i with
    | true =>
      have q := fin t' ht'
      rw [any_stop small c] at q
      obtain ⟨h1, h2, h3, h4, h5⟩ := t'
      wp_walk
      exact q
    | false =>
      have next := ih (i + 1) (by omega) small (fun j hj => by
        rcases Nat.lt_or_ge j i with z | z
        · exact none j z
        · have : j = i := by omega
          rw [this]; exact c) t' ht'
      have cast : ((i : Int) + 1) = ((i + 1 : Nat) : Int) := by omega
      obtain ⟨h1, h2, h3, h4, h5⟩ := t'
      wp_walk
      rw [cast]
      refine ⟨plainId_quiet plain_contains_loop _, codeAny_builtin entry_contains_loop ?_⟩
      rw [Around.under_plainId plain_contains_loop _]
      exact next
theorem in_whole (J : Shared → Prop) (l : Addr) (its : Array Value) (hl : Stays J "list" l its) (x : Value) (e : Nat → Bool) (he : ∀ j (h : j < its.size), Asks P w A.in1 (fun z t => R (.error z) t) J its[j] x (e j))
    (fin : ∀ t, J t → R (.ok (.ret (.bool ((List.range its.size).any e)))) t) (t : Shared) (ht : J t) : wpAny (model P w) A.in1 (Builtin.«list.__contains__» ⟨[.ref l, x], []⟩) (GQ.FinOf P w A R) (fun z t => R (.error z) t) t := by
  have go := in_loop J l its hl x e he fin _ 0 rfl (Nat.zero_le _) (fun j hj => absurd hj (Nat.not_lt_zero j)) t ht
  obtain ⟨dd, n, sl, hg⟩ := hl t ht
  obtain ⟨h1, h2, h3, h4, h5⟩ := t
  wp_walk using wpAny_loadPart' hg
  refine ⟨plainId_quiet plain_contains_loop _, codeAny_builtin entry_contains_loop ?_⟩
  rw [Around.under_plainId plain_contains_loop _]
  exact go
theorem in_tup (J : Shared → Prop) (l : Addr) (its : Array Value) (hl : Stays J "tuple" l its) (x : Value) (e : Nat → Bool) (he : ∀ j (h : j < its.size), Asks P w A.in1 (fun z t => R (.error z) t) J its[j] x (e j))
    (fin : ∀ t, J t → R (.ok (.ret (.bool ((List.range its.size).any e)))) t) (t : Shared) (ht : J t) : wpAny (model P w) A.in1 (Builtin.«tuple.__contains__» ⟨[.ref l, x], []⟩) (GQ.FinOf P w A R) (fun z t => R (.error z) t) t := by
  obtain ⟨dd, n, sl, hg⟩ := hl t ht
  have ht0 := ht
  obtain ⟨h1, h2, h3, h4, h5⟩ := t
  wp_walk using wpAny_loadPart' hg, wpAny_forIn_array _ (fun rest b t' => b.1 = none ∧ J t' ∧ ∃ i, rest = its.toList.drop i ∧ ∀ j, j < i → e j = false) _
  case turn =>
    rintro y rest b t' ⟨hb, ht', i, hz, no⟩
    have small : i < its.toList.length := by
      rcases Nat.lt_or_ge i its.toList.length with z | z
      · exact z
      · rw [List.drop_of_length_le z] at hz; cases hz
    rw [List.drop_eq_getElem_cons small] at hz
    injection hz with ey er
    have small' : i < its.size := by simpa using small
    have ey' : y = its[i] := by simpa using ey
    subst ey'
    refine wpAny_bind (wpAny_mono (he i small' t' ht') (fun r t2 z => ?_) fun _ _ z => z)
    obtain ⟨rfl, ht2⟩ := z
    cases c : e i with
    | true =>
      have q := fin t2 ht2
      rw [any_stop small' c] at q
      wp_walk
      exact q
    | false =>
      wp_walk
      refine ⟨rfl, ht2, i + 1, er, fun j hj => ?_⟩
      rcases Nat.lt_or_ge j i with z | z
      · exact no j z
      · have : j = i := by omega
        rw [this]; exact c
  case fin =>
    rintro ⟨b1, b2⟩ t' ⟨hb, ht', i, hz, no⟩
    simp only at hb
    subst hb
    have big : its.size ≤ i := by
      have z := congrArg List.length hz
      rw [List.length_nil, List.length_drop, Array.length_toList] at z
      omega
    have q := fin t' ht'
    rw [any_none (fun j hj => no j (by omega))] at q
    wp_walk
    exact q
  case h => exact ⟨rfl, ht0, 0, rfl, fun j hj => absurd hj (Nat.not_lt_zero j)⟩
/-- what the two loops end with: eq, or its negation -/
def sgn (ne : Bool) (b : Bool) : Bool := if ne then !b else b
theorem eq_loop (ne : Bool) (J : Shared → Prop) (l m : Addr) (its jts : Array Value) (hl : Stays J "list" l its) (hm : Stays J "list" m jts) (hz : its.size = jts.size) (e : Nat → Bool) (he : ∀ j (h : j < its.size) (h' : j < jts.size), Asks P w A.in1 (fun z t => R (.error z) t) J its[j] jts[j] (e j))
    (fin : ∀ t, J t → R (.ok (.ret (.bool (sgn ne ((List.range its.size).all e))))) t) (k : Nat) :
    ∀ i : Nat, its.size - i = k → i ≤ its.size → (∀ j, j < i → e j = true) → ∀ t, J t → wpAny (model P w) A.in1 (Builtin.«list.__eq__.loop» ⟨[.ref l, .ref m, rawInt i, rawInt (if ne then 3 else 2)], []⟩) (GQ.FinOf P w A R) (fun z t => R (.error z) t) t := by
  induction k with
  | zero =>
    intro i hk hi full t ht
    obtain ⟨dd, n, sl, hg⟩ := hl t ht
    obtain ⟨dd', n', sl', hg'⟩ := hm t ht
    have q := fin t ht
    rw [all_full (fun j hj => full j (by omega))] at q
    have out : its[((i : Nat) : Int).toNat]? = Option.none := by simp; omega
    have out' : jts[((i : Nat) : Int).toNat]? = Option.none := by simp; omega
    obtain ⟨h1, h2, h3, h4, h5⟩ := t
    cases ne with
    | false =>
      wp_walk using wpAny_loadPart' hg, wpAny_loadPart' hg'
      rw [out, out']
      wp_walk using wpAny_loadPart' hg, wpAny_loadPart' hg'
      show R (.ok (.ret (.bool (its.size == jts.size)))) _
      rw [hz, beq_self_eq_true]
      exact q
    | true =>
      wp_walk using wpAny_loadPart' hg, wpAny_loadPart' hg'
      rw [out, out']
      wp_walk using wpAny_loadPart' hg, wpAny_loadPart' hg'
      show R (.ok (.ret (.bool (its.size != jts.size)))) _
      rw [hz, bne_self_eq_false]
      exact q
  | succ k ih =>
    intro i hk hi full t ht
    obtain ⟨dd, n, sl, hg⟩ := hl t ht
    obtain ⟨dd', n', sl', hg'⟩ := hm t ht
    have small : i < its.size := by omega
    have small' : i < jts.size := by omega
    have here : its[((i : Nat) : Int).toNat]? = some its[i] := by simp [small]
    have here' : jts[((i : Nat) : Int).toNat]? = some jts[i] := by simp [small']
    have ask := he i small small' t ht
    have cast : ((i : Int) + 1) = ((i + 1 : Nat) : Int) := by omega
    obtain ⟨h1, h2, h3, h4, h5⟩ := t
    cases ne with
    | false =>
      wp_walk using wpAny_loadPart' hg, wpAny_loadPart' hg'
      rw [here, here']
      refine wpAny_bind (wpAny_mono ask (fun r t' z => ?_) fun _ _ z => z)
      obtain ⟨rfl, ht'⟩ := z
      cases c : e i with
      | true =>
        have next := ih (i + 1) (by omega) small (fun j hj => by
          rcases Nat.lt_or_ge j i with z | z
          · exact full j z
          · have : j = i := by omega
            rw [this]; exact c) t' ht'
        obtain ⟨h1, h2, h3, h4, h5⟩ := t'
        wp_walk
        rw [cast]
        refine ⟨plainId_quiet plain_eq_loop _, codeAny_builtin entry_eq_loop ?_⟩
        rw [Around.under_plainId plain_eq_loop _]
        exact next
      | false =>
        have q := fin t' ht'
        rw [all_stop small c] at q
        obtain ⟨dd, n, sl, hg⟩ := hl t' ht'
        obtain ⟨dd', n', sl', hg'⟩ := hm t' ht'
        obtain ⟨h1, h2, h3, h4, h5⟩ := t'
        wp_walk using wpAny_loadPart' hg, wpAny_loadPart' hg'
        rw [here, here']
        wp_walk
        exact q
    | true =>
      wp_walk using wpAny_loadPart' hg, wpAny_loadPart' hg'
      rw [here, here']
      refine wpAny_bind (wpAny_mono ask (fun r t' z => ?_) fun _ _ z => z)
      obtain ⟨rfl, ht'⟩ := z
      cases c : e i with
      | true =>
        have next := ih (i + 1) (by omega) small (fun j hj => by
          rcases Nat.lt_or_ge j i with z | z
          · exact full j z
          · have : j = i := by omega
            rw [this]; exact c) t' ht'
        obtain ⟨h1, h2, h3, h4, h5⟩ := t'
        wp_walk
        rw [cast]
        refine ⟨plainId_quiet plain_eq_loop _, codeAny_builtin entry_eq_loop ?_⟩
        rw [Around.under_plainId plain_eq_loop _]
        exact next
      | false =>
        have q := fin t' ht'
        rw [all_stop small c] at q
        obtain ⟨dd, n, sl, hg⟩ := hl t' ht'
        obtain ⟨dd', n', sl', hg'⟩ := hm t' ht'
        obtain ⟨h1, h2, h3, h4, h5⟩ := t'
        wp_walk using wpAny_loadPart' hg, wpAny_loadPart' hg'
        rw [here, here']
        wp_walk
        exact q
theorem eq_whole (J : Shared → Prop) (l m : Addr) (its jts : Array Value) (hl : Stays J "list" l its) (hm : Stays J "list" m jts) (e : Nat → Bool) (he : its.size = jts.size → ∀ j (h : j < its.size) (h' : j < jts.size), Asks P w A.in1 (fun z t => R (.error z) t) J its[j] jts[j] (e j))
    (fin : ∀ t, J t → R (.ok (.ret (.bool (decide (its.size = jts.size) && (List.range its.size).all e)))) t) (t : Shared) (ht : J t) : wpAny (model P w) A.in1 (Builtin.«list.__eq__» ⟨[.ref l, .ref m], []⟩) (GQ.FinOf P w A R) (fun z t => R (.error z) t) t := by
  have sub := AutoSeq1.sub_list_list
  by_cases hz : its.size = jts.size
  · have go := eq_loop (R := R) false J l m its jts hl hm hz e (he hz) (fun t z => by have q := fin t z; rw [decide_eq_true hz] at q; exact q) _ 0 rfl (Nat.zero_le _) (fun j hj => absurd hj (Nat.not_lt_zero j)) t ht
    obtain ⟨dd, n, sl, hg⟩ := hl t ht
    obtain ⟨dd', n', sl', hg'⟩ := hm t ht
    have same : ¬ (its.size != jts.size) = true := by simp [hz]
    obtain ⟨h1, h2, h3, h4, h5⟩ := t
    wp_walk using wpAny_loadPart' hg, wpAny_loadPart' hg'
    refine ⟨plainId_quiet plain_eq_loop _, codeAny_builtin entry_eq_loop ?_⟩
    rw [Around.under_plainId plain_eq_loop _]
    exact go
  · have q := fin t ht
    rw [decide_eq_false hz] at q
    obtain ⟨dd, n, sl, hg⟩ := hl t ht
    obtain ⟨dd', n', sl', hg'⟩ := hm t ht
    have other : (its.size != jts.size) = true := by simp [hz]
    obtain ⟨h1, h2, h3, h4, h5⟩ := t
    wp_walk using wpAny_loadPart' hg, wpAny_loadPart' hg'
    exact q
theorem ne_whole (J : Shared → Prop) (l m : Addr) (its jts : Array Value) (hl : Stays J "list" l its) (hm : Stays J "list" m jts) (e : Nat → Bool) (he : its.size = jts.size → ∀ j (h : j < its.size) (h' : j < jts.size), Asks P w A.in1 (fun z t => R (.error z) t) J its[j] jts[j] (e j))
    (fin : ∀ t, J t → R (.ok (.ret (.bool (!(decide (its.size = jts.size) && (List.range its.size).all e))))) t) (t : Shared) (ht : J t) : wpAny (model P w) A.in1 (Builtin.«list.__ne__» ⟨[.ref l, .ref m], []⟩) (GQ.FinOf P w A R) (fun z t => R (.error z) t) t := by
  have sub := AutoSeq1.sub_list_list
  by_cases hz : its.size = jts.size
  · have go := eq_loop (R := R) true J l m its jts hl hm hz e (he hz) (fun t z => by have q := fin t z; rw [decide_eq_true hz] at q; exact q) _ 0 rfl (Nat.zero_le _) (fun j hj => absurd hj (Nat.not_lt_zero j)) t ht
    obtain ⟨dd, n, sl, hg⟩ := hl t ht
    obtain ⟨dd', n', sl', hg'⟩ := hm t ht
    have same : ¬ (its.size != jts.size) = true := by simp [hz]
    obtain ⟨h1, h2, h3, h4, h5⟩ := t
    wp_walk using wpAny_loadPart' hg, wpAny_loadPart' hg'
    refine ⟨plainId_quiet plain_eq_loop _, codeAny_builtin entry_eq_loop ?_⟩
    rw [Around.under_plainId plain_eq_loop _]
    exact go
  · have q := fin t ht
    rw [decide_eq_false hz] at q
    obtain ⟨dd, n, sl, hg⟩ := hl t ht
    obtain ⟨dd', n', sl', hg'⟩ := hm t ht
    have other : (its.size != jts.size) = true := by simp [hz]
    obtain ⟨h1, h2, h3, h4, h5⟩ := t
    wp_walk using wpAny_loadPart' hg, wpAny_loadPart' hg'
    exact q
theorem eq_tup (J : Shared → Prop) (l m : Addr) (its jts : Array Value) (hl : Stays J "tuple" l its) (hm : Stays J "tuple" m jts) (e : Nat → Bool) (he : ∀ j (h : j < its.size) (h' : j < jts.size), Asks P w A.in1 (fun z t => R (.error z) t) J its[j] jts[j] (e j))
    (fin : ∀ t, J t → R (.ok (.ret (.bool (decide (its.size = jts.size) && (List.range (min its.size jts.size)).all e)))) t) (t : Shared) (ht : J t) : wpAny (model P w) A.in1 (Builtin.«tuple.__eq__» ⟨[.ref l, .ref m], []⟩) (GQ.FinOf P w A R) (fun z t => R (.error z) t) t := by
  obtain ⟨dd, n, sl, hg⟩ := hl t ht
  obtain ⟨dd', n', sl', hg'⟩ := hm t ht
  have ht0 := ht
  have sub := AutoSeq1.sub_tuple_tuple
  have both : (its.toList.zip jts.toList).length = min its.size jts.size := by simp
  obtain ⟨h1, h2, h3, h4, h5⟩ := t
  wp_walk using wpAny_loadPart' hg, wpAny_loadPart' hg', wpAny_forIn_list _ (fun rest b t' => b.1 = none ∧ J t' ∧ ∃ i, rest = (its.toList.zip jts.toList).drop i ∧ ∀ j, j < i → e j = true) _
  case turn =>
    rintro ⟨y, x⟩ rest b t' ⟨hb, ht', i, hz, full⟩
    have small : i < (its.toList.zip jts.toList).length := by
      rcases Nat.lt_or_ge i (its.toList.zip jts.toList).length with z | z
      · exact z
      · rw [List.drop_of_length_le z] at hz; cases hz
    rw [List.drop_eq_getElem_cons small] at hz
    injection hz with ep er
    have s0 : i < min its.size jts.size := both ▸ small
    have s1 : i < its.size := Nat.lt_of_lt_of_le s0 (Nat.min_le_left _ _)
    have s2 : i < jts.size := Nat.lt_of_lt_of_le s0 (Nat.min_le_right _ _)
    have ey : y = its[i] := by simpa using congrArg Prod.fst ep
    have ex : x = jts[i] := by simpa using congrArg Prod.snd ep
    subst ey ex
    refine wpAny_bind (wpAny_mono (he i s1 s2 t' ht') (fun r t2 z => ?_) fun _ _ z => z)
    obtain ⟨rfl, ht2⟩ := z
    cases c : e i with
    | true =>
      wp_walk
      refine ⟨rfl, ht2, i + 1, er, fun j hj => ?_⟩
      rcases Nat.lt_or_ge j i with z | z
      · exact full j z
      · have : j = i := by omega
        rw [this]; exact c
    | false =>
      have q := fin t2 ht2
      rw [all_stop s0 c, Bool.and_false] at q
      wp_walk
      exact q
  case fin =>
    rintro ⟨b1, b2⟩ t' ⟨hb, ht', i, hz, full⟩
    simp only at hb
    subst hb
    have big : min its.size jts.size ≤ i := by
      have z := congrArg List.length hz
      rw [List.length_nil, List.length_drop, both] at z
      omega
    have q := fin t' ht'
    rw [all_full (fun j hj => full j (by omega)), Bool.and_true] at q
    wp_walk
    show R (.ok (.ret (.bool (its.size == jts.size)))) t'
    rw [show (its.size == jts.size) = decide (its.size = jts.size) by rw [Bool.eq_iff_iff]; simp]
    exact q
  case h => exact ⟨rfl, ht0, 0, rfl, fun j hj => absurd hj (Nat.not_lt_zero j)⟩
end
end Kq
namespace Kq
open PySem PySem.Spec PyProof.Rows L2 PySem.SeqAt
open MeetsSeq MeetsSeq2 MeetsSeq3 SeqRoads2
section
variable {X : Cx} {K : PySem.W.Frag} {C f : Addr} {fd : FuncData} {ps : List Str} {sp : Sp} {n : Nat}
/-- two instances of C: their own == answers b -/
def DOwn (C : Addr) (sp : Sp) (x y : V) (b : Bool) (H : Hp) : Prop := ∃ a c dx dy fs gs, x = .ref a ∧ y = .ref c ∧ H a = some (.ins C dx fs) ∧ H c = some (.ins C dy gs) ∧ (a = c → b = true) ∧ sp [.ref a, .ref c] H (fun v H' => v = .bl b ∧ H' = H) fun _ _ _ => False
/-- what X says of two values, at any depth with the room n -/
def AskD (X : Cx) (n : Nat) (D : V → V → Bool → Hp → Prop) : Prop := ∀ (A : Around) (pins : List (Addr × Obj)) (σ : L2.St) (H : Hp) (x y : V) (b : Bool) (u v : Value), A.frames = X.A.frames → Room n A → RelV x u → RelV y v → D x y b H → Asks X.prog X.w A X.xe (fun t => Inv X pins σ H t) u v b
theorem askD_own (F : FnOk X.prog X.w X.K X.mg X.base CX0 n f fd ps sp) (O : OwnCmp X.K C f) (hb : Binds X.K fd ps []) : AskD X n (DOwn C sp) := by
  intro A pins σ H x y b u v hA hr rx ry ⟨a, c, dx, dy, fs, gs, ex, ey, ha, hc, same, q⟩ t I
  subst ex ey
  cases rx
  cases ry
  by_cases z : a = c
  · subst z
    rw [same rfl]
    exact EqAt.same (A := A) (s := t) (.ref a) X.prog X.w X.xe _ ⟨rfl, I⟩
  · obtain ⟨ox, od, J⟩ := own_at I ha
    obtain ⟨oy, oe, J'⟩ := own_at I hc
    obtain ⟨m, hF⟩ := I.fr
    refine GQ.eqBool_refG z (PySem.W.cmp_K (op := .Eq) (tb := .ref C) hr.units0 hF I.ok.mod.kin J J'.type (by simp [PySem.W.notFirst]) O.eq O.fn ?_)
    refine wpAny_mono (run_at F hb pass0 hA hr I (vs := [.ref a, .ref c]) (.cons rfl (.cons rfl .nil)) q) (fun r s' h => ?_) fun _ _ h => h
    obtain ⟨v', H', I', rv, ev, eH⟩ := h
    subst ev eH
    cases rv
    exact ⟨b, rfl, rfl, I'⟩
theorem refs_at : ∀ {cs : List Addr} {us : List Value}, Vals (cs.map V.ref) us → us = cs.map Value.ref
  | [], _, .nil => rfl
  | _ :: _, _, .cons r t => by rw [show _ = Value.ref _ from r, refs_at t]; rfl
theorem refs_of {xs : List V} (h : ∀ z ∈ xs, ∃ a, z = .ref a) : ∃ cs : List Addr, xs = cs.map V.ref := by
  induction xs with
  | nil => exact ⟨[], rfl⟩
  | cons x r ih =>
    obtain ⟨a, rfl⟩ := h x List.mem_cons_self
    obtain ⟨cs, e⟩ := ih fun z hz => h z (List.mem_cons_of_mem _ hz)
    exact ⟨a :: cs, by rw [e]; rfl⟩
theorem stays_list {pins : List (Addr × Obj)} {σ : L2.St} {H : Hp} {l : Addr} {cs : List Addr} (h : SqL X.K H l (cs.map V.ref)) : Stays (fun t => Inv X pins σ H t) "list" l (cs.map Value.ref).toArray := by
  intro t I
  obtain ⟨its, r, p, _⟩ := I.list h
  obtain ⟨⟨cls, dd, data, sl⟩, ho, hc, n, hd⟩ := p.isList
  simp only at hc hd
  subst hc hd
  rw [← refs_at r]
  exact ⟨dd, n, sl, ho⟩
theorem stays_tup {pins : List (Addr × Obj)} {σ : L2.St} {H : Hp} {l : Addr} {cs : List Addr} (h : SqT X.K H l (cs.map V.ref)) : Stays (fun t => Inv X pins σ H t) "tuple" l (cs.map Value.ref).toArray := by
  intro t I
  obtain ⟨its, r, p, _⟩ := I.tuple h
  obtain ⟨⟨cls, dd, data, sl⟩, ho, hc, n, hd⟩ := id p
  simp only at hc hd
  subst hc hd
  rw [← refs_at r]
  exact ⟨dd, n, sl, ho⟩
/-- x in ys -/
def rInD (K : PySem.W.Frag) (D : V → V → Bool → Hp → Prop) (g : Bool → Bool) : R2 := fun x y H Q => ∃ (p c : Addr) (cs : List Addr) (e : Nat → Bool), x = .ref c ∧ y = .ref p ∧ (SqL K H p (cs.map V.ref) ∨ SqT K H p (cs.map V.ref)) ∧ (∀ i a, cs[i]? = some a → D (.ref a) (.ref c) (e i) H) ∧ Q (.bl (g ((List.range cs.length).any e))) H
theorem asks_in {D : V → V → Bool → Hp → Prop} (k : AskD X n D) (hr : Room (n + 1) X.A) {pins : List (Addr × Obj)} {σ : L2.St} {H : Hp} {c : Addr} {cs : List Addr} {e : Nat → Bool} (h : ∀ i a, cs[i]? = some a → D (.ref a) (.ref c) (e i) H) :
    ∀ j (z : j < (cs.map Value.ref).toArray.size), Asks X.prog X.w X.A.in1 X.xe (fun t => Inv X pins σ H t) (cs.map Value.ref).toArray[j] (.ref c) (e j) := by
  intro j z
  have zl : j < cs.length := by simpa using z
  have q := k X.A.in1 pins σ H (.ref cs[j]) (.ref c) (e j) (.ref cs[j]) (.ref c) rfl hr.in1 rfl rfl (h j _ (List.getElem?_eq_getElem zl))
  have w : (cs.map Value.ref).toArray[j] = Value.ref cs[j] := by simp
  rw [w]
  exact q
theorem in_seq {D : V → V → Bool → Hp → Prop} (k : AskD X n D) (hr : Room (n + 1) X.A) {pins : List (Addr × Obj)} {σ : L2.St} {H : Hp} {s : Shared} {p c : Addr} {cs : List Addr} {e : Nat → Bool} {g : Bool → Bool} {Q : Value → Shared → Prop} (I : Inv X pins σ H s) (hs : SqL X.K H p (cs.map V.ref) ∨ SqT X.K H p (cs.map V.ref))
    (h : ∀ i a, cs[i]? = some a → D (.ref a) (.ref c) (e i) H) (q : ∀ t, Inv X pins σ H t → Q (.bool (g ((List.range cs.length).any e))) t) : wpAny (model X.prog X.w) X.A (contains (.ref p) (.ref c)) (fun r t => Q (.bool (g r)) t) X.xe s := by
  have sz : (cs.map Value.ref).toArray.size = cs.length := by simp
  rcases hs with hs | hs
  · obtain ⟨dd, m, sl, ho⟩ := stays_list (pins := pins) (σ := σ) hs s I
    refine wpAny_contains_slot ⟨_, ho, rfl⟩ F.slot_list_contains (wpAny_mono (GQ.call_here F.slot_list_contains ⟨_, ho, rfl⟩ F.entry_list_contains (F.args_list_contains_2 _ _)
      (in_whole (R := wants (fun v t => ∃ b, v = .bool b ∧ Q (.bool (g b)) t) X.xe) (fun t => Inv X pins σ H t) p _ (stays_list hs) (.ref c) e (asks_in k hr h) (fun t I' => ⟨_, rfl, by rw [sz]; exact q t I'⟩) s I)) (fun v t z => ?_) fun _ _ z => z)
    obtain ⟨b, rfl, z⟩ := z
    exact wpAny_truthy_bool z
  · obtain ⟨dd, m, sl, ho⟩ := stays_tup (pins := pins) (σ := σ) hs s I
    refine wpAny_contains_slot ⟨_, ho, rfl⟩ F.slot_tuple_contains (wpAny_mono (GQ.call_here F.slot_tuple_contains ⟨_, ho, rfl⟩ F.entry_tuple_contains (F.args_tuple_contains_2 _ _)
      (in_tup (R := wants (fun v t => ∃ b, v = .bool b ∧ Q (.bool (g b)) t) X.xe) (fun t => Inv X pins σ H t) p _ (stays_tup hs) (.ref c) e (asks_in k hr h) (fun t I' => ⟨_, rfl, by rw [sz]; exact q t I'⟩) s I)) (fun v t z => ?_) fun _ _ z => z)
    obtain ⟨b, rfl, z⟩ := z
    exact wpAny_truthy_bool z
theorem op_inD {D : V → V → Bool → Hp → Prop} (hK : X.K = K) (k : AskD X n D) (hr : Room (n + 1) X.A) : OpR X (compareOp .In) (rInD K D id) := by
  subst hK
  intro pins s σ H x y v u Q I rx ry ⟨p, c, cs, e, ex, ey, hs, h, q⟩
  subst ex ey
  cases rx
  cases ry
  show wpAny _ X.A (do return Value.bool (← contains (.ref p) (.ref c))) _ _ s
  exact wpAny_bind (wpAny_mono (in_seq (g := id) (Q := EP X pins σ Q) k hr I hs h fun t I' => ⟨.bl _, H, I', rfl, q⟩) (fun r t z => wpAny_pure z) fun _ _ z => z)
theorem op_notInD {D : V → V → Bool → Hp → Prop} (hK : X.K = K) (k : AskD X n D) (hr : Room (n + 1) X.A) : OpR X (compareOp .NotIn) (rInD K D not) := by
  subst hK
  intro pins s σ H x y v u Q I rx ry ⟨p, c, cs, e, ex, ey, hs, h, q⟩
  subst ex ey
  cases rx
  cases ry
  show wpAny _ X.A (do return Value.bool (!(← contains (.ref p) (.ref c)))) _ _ s
  exact wpAny_bind (wpAny_mono (in_seq (g := not) (Q := EP X pins σ Q) k hr I hs h fun t I' => ⟨.bl _, H, I', rfl, q⟩) (fun r t z => wpAny_pure z) fun _ _ z => z)
/-- xs == ys, xs != ys: two lists, or two tuples -/
def rEqS (K : PySem.W.Frag) (D : V → V → Bool → Hp → Prop) (g : Bool → Bool) : R2 := fun x y H Q => ∃ (p q : Addr) (cs ds : List Addr) (e : Nat → Bool), x = .ref p ∧ y = .ref q ∧ ((SqL K H p (cs.map V.ref) ∧ SqL K H q (ds.map V.ref)) ∨ (SqT K H p (cs.map V.ref) ∧ SqT K H q (ds.map V.ref))) ∧
  (∀ i a b, cs[i]? = some a → ds[i]? = some b → D (.ref a) (.ref b) (e i) H) ∧ Q (.bl (g (decide (cs.length = ds.length) && (List.range (min cs.length ds.length)).all e))) H
theorem asks_eq {D : V → V → Bool → Hp → Prop} (k : AskD X n D) (hr : Room (n + 1) X.A) {pins : List (Addr × Obj)} {σ : L2.St} {H : Hp} {cs ds : List Addr} {e : Nat → Bool} (h : ∀ i a b, cs[i]? = some a → ds[i]? = some b → D (.ref a) (.ref b) (e i) H) :
    ∀ j (z : j < (cs.map Value.ref).toArray.size) (z' : j < (ds.map Value.ref).toArray.size), Asks X.prog X.w X.A.in1 X.xe (fun t => Inv X pins σ H t) (cs.map Value.ref).toArray[j] (ds.map Value.ref).toArray[j] (e j) := by
  intro j z z'
  have zl : j < cs.length := by simpa using z
  have zr : j < ds.length := by simpa using z'
  have q := k X.A.in1 pins σ H (.ref cs[j]) (.ref ds[j]) (e j) (.ref cs[j]) (.ref ds[j]) rfl hr.in1 rfl rfl (h j _ _ (List.getElem?_eq_getElem zl) (List.getElem?_eq_getElem zr))
  have w : (cs.map Value.ref).toArray[j] = Value.ref cs[j] := by simp
  have w' : (ds.map Value.ref).toArray[j] = Value.ref ds[j] := by simp
  rw [w, w']
  exact q
theorem op_eqS {D : V → V → Bool → Hp → Prop} (hK : X.K = K) (k : AskD X n D) (hr : Room (n + 1) X.A) : OpR X (compareOp .Eq) (rEqS K D id) := by
  subst hK
  intro pins s σ H x y v u Q I rx ry ⟨p, r, cs, ds, e, ex, ey, hs, h, q⟩
  subst ex ey
  cases rx
  cases ry
  have sz : (cs.map Value.ref).toArray.size = cs.length := by simp
  have sz' : (ds.map Value.ref).toArray.size = ds.length := by simp
  have hu := hr.units0
  show wpAny _ X.A (richCompare .Eq (.ref p) (.ref r)) _ _ s
  rcases hs with ⟨h1, h2⟩ | ⟨h1, h2⟩
  · obtain ⟨dd, m, sl, ho⟩ := stays_list (pins := pins) (σ := σ) h1 s I
    obtain ⟨dd', m', sl', ho'⟩ := stays_list (pins := pins) (σ := σ) h2 s I
    refine wpAny_richCompare_same_room (op := .Eq) ⟨_, ho, rfl⟩ ⟨_, ho', rfl⟩ F.slot_list_eq (GQ.call_here F.slot_list_eq ⟨_, ho, rfl⟩ F.entry_list_eq (F.args_list_eq_2 _ _) ?_) hu
    refine eq_whole (R := wants (fun v t => v ≠ .notImplemented ∧ EP X pins σ Q v t) X.xe) (fun t => Inv X pins σ H t) p r _ _ (stays_list h1) (stays_list h2) e (fun _ => asks_eq k hr h) (fun t I' => ⟨(fun z => nomatch z), .bl _, H, I', rfl, ?_⟩) s I
    rw [sz, sz']
    by_cases hz : cs.length = ds.length
    · rw [hz, Nat.min_self] at q
      rw [hz]
      exact q
    · rw [decide_eq_false hz] at q ⊢
      exact q
  · obtain ⟨dd, m, sl, ho⟩ := stays_tup (pins := pins) (σ := σ) h1 s I
    obtain ⟨dd', m', sl', ho'⟩ := stays_tup (pins := pins) (σ := σ) h2 s I
    refine wpAny_richCompare_same_room (op := .Eq) ⟨_, ho, rfl⟩ ⟨_, ho', rfl⟩ F.slot_tuple_eq (GQ.call_here F.slot_tuple_eq ⟨_, ho, rfl⟩ F.entry_tuple_eq (F.args_tuple_eq_2 _ _) ?_) hu
    refine eq_tup (R := wants (fun v t => v ≠ .notImplemented ∧ EP X pins σ Q v t) X.xe) (fun t => Inv X pins σ H t) p r _ _ (stays_tup h1) (stays_tup h2) e (asks_eq k hr h) (fun t I' => ⟨(fun z => nomatch z), .bl _, H, I', rfl, ?_⟩) s I
    rw [sz, sz']
    exact q
def rNeL (K : PySem.W.Frag) (D : V → V → Bool → Hp → Prop) : R2 := fun x y H Q => ∃ (p q : Addr) (cs ds : List Addr) (e : Nat → Bool), x = .ref p ∧ y = .ref q ∧ SqL K H p (cs.map V.ref) ∧ SqL K H q (ds.map V.ref) ∧
  (∀ i a b, cs[i]? = some a → ds[i]? = some b → D (.ref a) (.ref b) (e i) H) ∧ Q (.bl (!(decide (cs.length = ds.length) && (List.range (min cs.length ds.length)).all e))) H
theorem op_neL {D : V → V → Bool → Hp → Prop} (hK : X.K = K) (k : AskD X n D) (hr : Room (n + 1) X.A) : OpR X (compareOp .NotEq) (rNeL K D) := by
  subst hK
  intro pins s σ H x y v u Q I rx ry ⟨p, r, cs, ds, e, ex, ey, h1, h2, h, q⟩
  subst ex ey
  cases rx
  cases ry
  have sz : (cs.map Value.ref).toArray.size = cs.length := by simp
  have sz' : (ds.map Value.ref).toArray.size = ds.length := by simp
  have hu := hr.units0
  show wpAny _ X.A (richCompare .NotEq (.ref p) (.ref r)) _ _ s
  obtain ⟨dd, m, sl, ho⟩ := stays_list (pins := pins) (σ := σ) h1 s I
  obtain ⟨dd', m', sl', ho'⟩ := stays_list (pins := pins) (σ := σ) h2 s I
  refine wpAny_richCompare_same_room (op := .NotEq) ⟨_, ho, rfl⟩ ⟨_, ho', rfl⟩ F.slot_list_ne (GQ.call_here F.slot_list_ne ⟨_, ho, rfl⟩ F.entry_list_ne (F.args_list_ne_2 _ _) ?_) hu
  refine ne_whole (R := wants (fun v t => v ≠ .notImplemented ∧ EP X pins σ Q v t) X.xe) (fun t => Inv X pins σ H t) p r _ _ (stays_list h1) (stays_list h2) e (fun _ => asks_eq k hr h) (fun t I' => ⟨(fun z => nomatch z), .bl _, H, I', rfl, ?_⟩) s I
  rw [sz, sz']
  by_cases hz : cs.length = ds.length
  · rw [hz, Nat.min_self] at q
    rw [hz]
    exact q
  · rw [decide_eq_false hz] at q ⊢
    exact q
theorem askD_none : AskD X n (fun _ _ _ _ => False) := fun _ _ _ _ _ _ _ _ _ _ _ _ _ h => h.elim
/-- a row of objects beside [] -/
theorem rowNe {H : Hp} {Q : VK} {p q : Addr} {vs : List V} (hv : ∀ z ∈ vs, ∃ a, z = .ref a) (h1 : SqL K H p vs) (h2 : SqL K H q []) (k : Q (.bl (!vs.isEmpty)) H) : rNeL K (fun _ _ _ _ => False) (.ref p) (.ref q) H Q := by
  obtain ⟨cs, rfl⟩ := refs_of hv
  refine ⟨p, q, cs, [], fun _ => true, rfl, rfl, h1, h2, (fun i a b _ hb => nomatch hb), ?_⟩
  cases cs <;> exact k
theorem rowEq {H : Hp} {Q : VK} {p q : Addr} {vs : List V} (hv : ∀ z ∈ vs, ∃ a, z = .ref a) (h1 : SqL K H p vs) (h2 : SqL K H q []) (k : Q (.bl vs.isEmpty) H) : rEqS K (fun _ _ _ _ => False) id (.ref p) (.ref q) H Q := by
  obtain ⟨cs, rfl⟩ := refs_of hv
  refine ⟨p, q, cs, [], fun _ => true, rfl, rfl, .inl ⟨h1, h2⟩, (fun i a b _ hb => nomatch hb), ?_⟩
  cases cs <;> exact k
end
end Kq
/-! a | b and its like: two instances of one own class with the operator's own method -/
namespace Kq
open PySem PySem.W PySem.Calls PyProof.Rows
section
variable {prog : Program} {w : World} {A : Around} {E : Value → Shared → Prop} {s : Shared} {K : PySem.W.Frag} {x y C f : Addr} {ox oy : Obj} {od oe : Option Obj}
theorem bin_same {op : Operator} {Q : Value → Shared → Prop} (X : K.In s.heap) (I : InstAt s.heap x ox C od) (J : InstAt s.heap y oy C oe) (hc : selfFirst K C = true) (hs : findIn K (.ref C) (PySem.dunder op.info.2) = some (some (.ref f))) (hf : isFn K (.ref f) = true)
    (h : wpAny (model prog w) A (call (.ref f) [.ref x, .ref y]) (PySem.W.CmpBack Q) E s) : wpAny (model prog w) A (binaryOp op (.ref x) (.ref y)) Q E s := by
  obtain ⟨cd, rest, hcd, hm⟩ := ksp_first hc
  rcases hi : op.info with ⟨sym, nm⟩
  rw [hi] at hs
  dsimp only at hs
  have one := ksp_try X I hs hf h
  obtain ⟨h1, h2, h3, h4, h5⟩ := s
  have L1 : Looks (model prog w) h1 (typeOf (.ref x)) (.ref C) := I.type
  have L2 : Looks (model prog w) h1 (typeOf (.ref y)) (.ref C) := J.type
  have L3 : Looks (model prog w) h1 (fillsNumberSlot (.ref C) nm) true := fills_K X hcd hm hs
  simp only [binaryOp, hi]
  refine wpAny_holding (wpAny_bind ?_)
  unfold binaryOp1
  refine wpAny_bind (L1.at (wpAny_bind (L2.at (wpAny_bind (L3.at ?_)))))
  simp only [beq_self_eq_true, if_true]
  ksp_lk
  refine wpAny_mono one (fun r s' z => ?_) fun _ _ z => z
  obtain ⟨v, rfl, hq⟩ := z
  ksp_lk
  exact hq
end
end Kq
namespace L2
open PySem PySem.W PyProof.Rows
section
variable {X : Cx} {K : PySem.W.Frag} {C f : Addr} {fd : FuncData} {ps : List Str} {sp : Sp} {n : Nat} {op : Operator}
def rBinO (C : Addr) (sp : Sp) : R2 := fun x y H Q => ∃ a b dx dy fs gs, x = .ref a ∧ y = .ref b ∧ H a = some (.ins C dx fs) ∧ H b = some (.ins C dy gs) ∧ sp [.ref a, .ref b] H (fun v H' => (∃ p, v = .ref p) ∧ Q v H') fun _ _ _ => False
theorem op_binOwn (hK : X.K = K) (F : FnOk X.prog X.w K X.mg X.base CX0 n f fd ps sp) (hc : PySem.W.selfFirst K C = true) (hs : PySem.W.findIn K (.ref C) (PySem.dunder op.info.2) = some (some (.ref f))) (hf : PySem.W.isFn K (.ref f) = true) (hb : Binds K fd ps []) (hr : Room n X.A) : OpR X (binaryOp op) (rBinO C sp) := by
  subst hK
  intro pins s σ H x y v u Q I rx ry ⟨a, b, dx, dy, fs, gs, ex, ey, ha, hb', q⟩
  subst ex ey
  cases rx
  cases ry
  obtain ⟨ox, od, J⟩ := own_at I ha
  obtain ⟨oy, oe, J'⟩ := own_at I hb'
  refine Kq.bin_same I.kIn J J' hc hs hf ?_
  refine wpAny_mono (run_at F hb pass0 rfl hr I (vs := [.ref a, .ref b]) (.cons rfl (.cons rfl .nil)) q) (fun r s' z => ?_) fun _ _ z => z
  obtain ⟨v', H', I', rv, ⟨p, e⟩, q'⟩ := z
  subst e
  cases rv
  exact ⟨.ref p, H', I', rfl, q'⟩
end
end L2
/-! list(x), x a text -/
namespace L2
open PySem PySem.Spec PyProof.Rows
section
variable {X : Cx}
/-- the signs of a text -/
def signsOf (x : Str) : List Str := x.cps.toList.map fun c => ⟨#[c]⟩
theorem vals_build : ∀ {vs : List V} {us : List Value}, vs.length = us.length → (∀ (i : Nat) (v : V) (u : Value), vs[i]? = some v → us[i]? = some u → RelV v u) → Vals vs us
  | [], [], _, _ => .nil
  | [], _ :: _, h, _ => by cases h
  | _ :: _, [], h, _ => by cases h
  | _ :: _, _ :: _, h, f => .cons (f 0 _ _ rfl rfl) (vals_build (Nat.succ.inj h) fun i v u hv hu => f (i + 1) v u hv hu)
def rListS : List V → Hp → VK → Prop := fun xs H Q => ∃ x : Str, xs = [.str x] ∧ x.length ≤ sizeLine ∧ ∀ l, H l = none → Q (.ref l) (upd H l (.lst ((signsOf x).map V.str)))
theorem call_listS (hc : X.calm = true) : CallR X (.type "list") rListS := by
  intro pins s σ H xs us Q I r ⟨x, e, hz, q⟩
  subst e
  obtain ⟨u, rfl, t, rfl⟩ := vals1 r
  refine call_list_str (hn := hz) (I.ok.hd hc) x t fun h' tk acc c' keep new items => ?_
  refine ⟨.ref s.heap.objs.size, _, I.laid (t' := tk) keep (Nat.le_refl _) (show ObjOk X.prog X.w _ h' _ (.lst ((signsOf x).map V.str)) from ⟨?_, acc.toList, c', ?_, new⟩), rfl, q _ (I.hok.fresh (Nat.le_refl _))⟩
  · rw [List.length_map, signsOf, List.length_map, Array.length_toList]
    exact hz
  · refine vals_build ?_ fun i v u hv hu => ?_
    · rw [List.length_map, signsOf, List.length_map, Array.length_toList, Array.length_toList]
      exact items.1.symm
    · have hu' : acc[i]? = some u := by rw [← Array.getElem?_toList]; exact hu
      obtain ⟨c, k, hc, rfl⟩ := items.2 i u hu'
      rw [signsOf, List.getElem?_map, List.getElem?_map, Array.getElem?_toList, hc] at hv
      cases hv
      exact ⟨k, rfl⟩
end
end L2
/-! repr(x), x data or {} -/
namespace L2
open PySem PySem.Spec PyProof.Rows Evl Kd
section
variable {X : Cx} {K : PySem.W.Frag}
/-- z is what repr tells of v -/
def ShownV (K : PySem.W.Frag) (H : Hp) (v : V) (z : Str) : Prop := (∃ d, Dp K H v d ∧ d.showable = true ∧ d.depth ≤ 40 ∧ d.shown.length ≤ sizeLine ∧ z = d.shown) ∨ ∃ a, v = .ref a ∧ H a = some (.dK []) ∧ z = (PyData.dict []).shown
theorem ShownV.ex {H H' : Hp} {v : V} {z : Str} (h : ShownV K H v z) (e : Ex H H') : ShownV K H' v z := by
  rcases h with ⟨d, h1, h2⟩ | ⟨a, e1, h1, h2⟩
  · exact .inl ⟨d, dp_ex e _ _ h1, h2⟩
  · exact .inr ⟨a, e1, e _ _ h1, h2⟩
def rReprV (K : PySem.W.Frag) : List V → Hp → VK → Prop := fun xs H Q => ∃ v z, xs = [v] ∧ ShownV K H v z ∧ Q (.str z) H
theorem call_reprV (hK : X.K = K) (hG : X.A.guards = some []) (hu : X.A.units + 64 < cLine) : CallR X (.builtin "repr") (rReprV K) := by
  subst hK
  intro pins s σ H xs us Q I r ⟨v, z, ex, h, q⟩
  rcases h with ⟨d, h1, h2, h3, h4, rfl⟩ | ⟨a, rfl, h1, rfl⟩
  · exact call_reprD hG hu pins s σ H xs us Q I r ⟨v, d, ex, h1, h2, h3, h4, q⟩
  · subst ex
    obtain ⟨u, rfl, ru⟩ := r.one
    have th : Th X.K H (.ref a) (.dict ((([] : List (Key × V)).map fun p => kD p.1).zip [])) := .dic h1 .nil
    obtain ⟨as, hr, hm⟩ := Th.reads I th ru
    cases ru
    exact repr_of_reads' hr (by rfl) (fun _ => hm) hG (by show X.A.units + ((PyData.dict []).depth + 1) < cLine; have : (PyData.dict []).depth ≤ 8 := by decide
                                                          omega) (fun _ _ z => z) (fun h' t tk k => ⟨.str (PyData.dict []).shown, H, I.kept (t' := tk) k, ⟨t, rfl⟩, q⟩) (by decide +kernel)
end
end L2
/-! what a comprehension within a comprehension walks: the written part as a letter -/
namespace Kv
open PySem L2
section
variable {X : Cx} {K : PySem.W.Frag} {tg e : Expr} {tl : TE}
theorem pi_list (hK : X.K = K) (h : PE X e tl) : PI X tg e (iList K tl) := by
  subst hK
  exact L2.pi_list h
theorem pi_tup (hK : X.K = K) (h : PE X e tl) : PI X tg e (iTup K tl) := by
  subst hK
  exact L2.pi_tup h
end
end Kv
/-! C(e, .., k = v), C's __init__ with a star parameter and keyword-only ones -/
namespace Kw
open PySem PySem.Calls PyProof.Rows L2
section
variable {X : Cx} {CX : CXT} {k i : Nat} {f C : Addr} {ks : List Str} {sp : Sp2} {E : XK} {x : Str} {e : Expr} {es : List Expr} {kws : List Keyword} {t tk : TA} {p pos : Pos}
def tMakeN (C : Addr) (m : Nat) (sp : Sp2) (E : XK) (t tk : TA) : TE := fun σ H Q => t σ H fun vs H1 => tk σ H1 fun zs H2 => zs.length = m ∧ ∀ x dx, H2 x = Option.none → H2 dx = Option.none → dx ≠ x →
  sp (V.ref x :: vs) zs (upd (upd H2 dx (.own x)) x (.ins C dx [])) (fun v H3 => v = .non ∧ Q (.ref x) H3) E
theorem pe_makeNK (M : Mk X.K C f) (F : FnA X.prog X.w X.K X.mg X.base CX k f ks sp) (hr : Room (k + 1) X.A) (hg : Gl X x) (hm : X.mg x = some (.ref C)) (hx : Passes CX X E) (ha : PA X (e :: es) t) (hkw : PK X kws tk)
    (hall : (backToKw pos (keywordEach kws X.env)).all (·.1.isSome) = true := by rfl) (hks : (backToKw pos (keywordEach kws X.env)).filterMap (·.1) = ks := by rfl) (hdb : (x == ("__debug__" : Str)) = false := by decide)
    (he : starEach (e :: es) X.env = (false, eval e X.env) :: starEach es X.env := by rfl) (hpl : ((backTo pos (starEach (e :: es) X.env)).any (·.1) || (backToKw pos (keywordEach kws X.env)).any (·.1.isNone)) = false := by rfl) :
    PE X (.Call (.Name x p) (e :: es) kws pos) (tMakeN C ks.length sp E t tk) := by
  refine ⟨fun pins s σ H Q I h => ?_⟩
  refine wpAny_Call_Name_kw (ld_glob I hg hm ?_ hdb)
  refine PySem.W.callWith_KW (h₀ := X.base) I.ok.mod.kin M.kp hall (thn (ha.run pos pins s σ H _ I h) fun us s1 ⟨vs, H1, I1, r, q⟩ => ?_) hpl he
  refine thn (hkw.run pos pins s1 σ H1 _ I1 q) fun ws s2 ⟨zs, H2, I2, rz, hl, q2⟩ => ⟨I2.kIn, ?_⟩
  rw [hks]
  exact run_makeA M F hr hx I2 r rz hl q2
end
end Kw
/-! o.m(k = v, ..), m a method of an own class, keyword values alone -/
namespace Kw
open PySem PySem.Calls PyProof.Rows L2
section
variable {X : Cx} {CX : CXT} {k : Nat} {f C : Addr} {ks : List Str} {sp : Sp2} {E : XK} {m : Str} {o : Expr} {kws : List Keyword} {ta : TE} {tk : TA} {pos apos : Pos} {pl : Sem Bool}
def tMethK (C : Addr) (m : Str) (n : Nat) (sp : Sp2) (E : XK) (ta : TE) (tk : TA) : TE := fun σ H Q => ta σ H fun x H1 => ∃ a dx fs, x = .ref a ∧ H1 a = some (.ins C dx fs) ∧ fs.lookup m = Option.none ∧ tk σ H1 fun zs H2 => zs.length = n ∧ sp [V.ref a] zs H2 Q E
theorem pe_methK0 (he : PE X o ta) (c : Cls X.K C) (hm : Meth X.K C m f) (F : FnA X.prog X.w X.K X.mg X.base CX k f ks sp) (hr : Room k X.A) (hx : Passes CX X E) (hkw : PK X kws tk)
    (hall : (backToKw pos (keywordEach kws X.env)).all (·.1.isSome) = true := by rfl) (hks : (backToKw pos (keywordEach kws X.env)).filterMap (·.1) = ks := by rfl)
    (hpl : ((backTo pos (starEach [] X.env)).any (·.1) || (backToKw pos (keywordEach kws X.env)).any (·.1.isNone)) = false := by rfl)
    (ht : eval (.Call (.Attribute o m apos) [] kws pos) X.env = (do
      let ov ← eval o X.env
      standAt apos.atName
      let (f, first) ← holding [ov] (getMethod ov m pl)
      callWith pos f first (backTo pos (starEach [] X.env)) (backToKw pos (keywordEach kws X.env))) := by rfl) :
    PE X (.Call (.Attribute o m apos) [] kws pos) (tMethK C m ks.length sp E ta tk) := by
  refine ⟨fun pins s σ H Q I h => ?_⟩
  refine PySem.W.methodCall_KW (pl := pl) (thn (he.run pins s σ H _ I h) fun u s1 ⟨x, H1, I1, rx, a, dx, fs, ex, ea, l, q⟩ => ?_) ht
  subst ex
  obtain rfl : u = Value.ref a := rx
  refine getmeth_ok I1 ea c hm l ?_
  refine PySem.W.callWith_KW0 (first := [.ref a]) (h₀ := X.base) I.ok.mod.kin hm.kp hall ?_ hpl
  refine thn (hkw.run pos pins s1 σ H1 _ I1 q) fun ws s2 ⟨zs, H2, I2, rz, hl, q2⟩ => ⟨I2.kIn, ?_⟩
  rw [hks]
  exact wpAny_call (run_fnA (us := [.ref a]) (vs := [.ref a]) F hr hx I2 (.cons rfl .nil) rz hl q2)
end
end Kw
namespace K23
open PySem L2 Kd
def top (i : Nat) : Stmt := PySem.Challenge.pw_keptshapes_k23_bans_made_and_asked.main.body.getD i (.Pass ⟨0, 0, 0, 0⟩)
abbrev s_InvalidNumber_init : Stmt := inClass (top 7) 0
abbrev N_InvalidNumber_init : List Str := ["self", "value"]
theorem sc_InvalidNumber_init : FnScope N_InvalidNumber_init ["self", "value"] (defScope s_InvalidNumber_init) := ⟨rfl, rfl, rfl, by decide +kernel, rfl, by decide +kernel, by decide +kernel⟩
abbrev s_is_integer : Stmt := top 13
abbrev N_is_integer : List Str := ["value"]
theorem sc_is_integer : FnScope N_is_integer ["value"] (defScope s_is_integer) := ⟨rfl, rfl, rfl, by decide +kernel, rfl, by decide +kernel, by decide +kernel⟩
abbrev s_is_name : Stmt := top 14
abbrev N_is_name : List Str := ["value", "letter"]
theorem sc_is_name : FnScope N_is_name ["value"] (defScope s_is_name) := ⟨rfl, rfl, rfl, by decide +kernel, rfl, by decide +kernel, by decide +kernel⟩
abbrev s_are_names : Stmt := top 15
abbrev N_are_names : List Str := ["value", "most", "name"]
theorem sc_are_names : FnScope N_are_names ["value", "most"] (defScope s_are_names) := ⟨rfl, rfl, rfl, by decide +kernel, rfl, by decide +kernel, by decide +kernel⟩
abbrev s_Sheet_init : Stmt := inClass (top 16) 0
abbrev N_Sheet_init : List Str := ["self", "kinds", "words"]
theorem sc_Sheet_init : FnScope N_Sheet_init ["self", "kinds", "words"] (defScope s_Sheet_init) := ⟨rfl, rfl, rfl, by decide +kernel, rfl, by decide +kernel, by decide +kernel⟩
abbrev s_Sheet_kinds : Stmt := inClass (top 16) 1
abbrev N_Sheet_kinds : List Str := ["self"]
theorem sc_Sheet_kinds : FnScope N_Sheet_kinds ["self"] (defScope s_Sheet_kinds) := ⟨rfl, rfl, rfl, by decide +kernel, rfl, by decide +kernel, by decide +kernel⟩
abbrev s_Sheet_words : Stmt := inClass (top 16) 2
abbrev N_Sheet_words : List Str := ["self"]
theorem sc_Sheet_words : FnScope N_Sheet_words ["self"] (defScope s_Sheet_words) := ⟨rfl, rfl, rfl, by decide +kernel, rfl, by decide +kernel, by decide +kernel⟩
abbrev s_Sheet_eq : Stmt := inClass (top 16) 3
abbrev N_Sheet_eq : List Str := ["self", "other"]
theorem sc_Sheet_eq : FnScope N_Sheet_eq ["self", "other"] (defScope s_Sheet_eq) := ⟨rfl, rfl, rfl, by decide +kernel, rfl, by decide +kernel, by decide +kernel⟩
abbrev s_Sheet_str : Stmt := inClass (top 16) 4
abbrev N_Sheet_str : List Str := ["self"]
theorem sc_Sheet_str : FnScope N_Sheet_str ["self"] (defScope s_Sheet_str) := ⟨rfl, rfl, rfl, by decide +kernel, rfl, by decide +kernel, by decide +kernel⟩
abbrev s_require_sheet : Stmt := top 17
abbrev N_require_sheet : List Str := ["sheet"]
theorem sc_require_sheet : FnScope N_require_sheet ["sheet"] (defScope s_require_sheet) := ⟨rfl, rfl, rfl, by decide +kernel, rfl, by decide +kernel, by decide +kernel⟩
abbrev s_is_kind : Stmt := top 18
abbrev N_is_kind : List Str := ["sheet", "value"]
theorem sc_is_kind : FnScope N_is_kind ["sheet", "value"] (defScope s_is_kind) := ⟨rfl, rfl, rfl, by decide +kernel, rfl, by decide +kernel, by decide +kernel⟩
abbrev s_is_tie : Stmt := top 19
abbrev N_is_tie : List Str := ["sheet", "value"]
theorem sc_is_tie : FnScope N_is_tie ["sheet", "value"] (defScope s_is_tie) := ⟨rfl, rfl, rfl, by decide +kernel, rfl, by decide +kernel, by decide +kernel⟩
abbrev s_are_posts : Stmt := top 22
abbrev N_are_posts : List Str := ["sheet", "value", "kind", "name"]
theorem sc_are_posts : FnScope N_are_posts ["sheet", "value"] (defScope s_are_posts) := ⟨rfl, rfl, rfl, by decide +kernel, rfl, by decide +kernel, by decide +kernel⟩
abbrev s_is_triple_of : Stmt := top 23
abbrev N_is_triple_of : List Str := ["sheet", "names", "value"]
theorem sc_is_triple_of : FnScope N_is_triple_of ["sheet", "names", "value"] (defScope s_is_triple_of) := ⟨rfl, rfl, rfl, by decide +kernel, rfl, by decide +kernel, by decide +kernel⟩
abbrev s_are_triples : Stmt := top 24
abbrev N_are_triples : List Str := ["sheet", "names", "value", "triple"]
theorem sc_are_triples : FnScope N_are_triples ["sheet", "names", "value"] (defScope s_are_triples) := ⟨rfl, rfl, rfl, by decide +kernel, rfl, by decide +kernel, by decide +kernel⟩
abbrev s_Shape_init : Stmt := inClass (top 25) 0
abbrev N_Shape_init : List Str := ["self", "sheet", "posts", "there", "lacking", "name", "triple"]
theorem sc_Shape_init : FnScope N_Shape_init ["self", "sheet", "posts", "there", "lacking"] (defScope s_Shape_init) := ⟨rfl, rfl, rfl, by decide +kernel, rfl, by decide +kernel, by decide +kernel⟩
abbrev s_Shape_sheet : Stmt := inClass (top 25) 1
abbrev N_Shape_sheet : List Str := ["self"]
theorem sc_Shape_sheet : FnScope N_Shape_sheet ["self"] (defScope s_Shape_sheet) := ⟨rfl, rfl, rfl, by decide +kernel, rfl, by decide +kernel, by decide +kernel⟩
abbrev s_Shape_posts : Stmt := inClass (top 25) 2
abbrev N_Shape_posts : List Str := ["self"]
theorem sc_Shape_posts : FnScope N_Shape_posts ["self"] (defScope s_Shape_posts) := ⟨rfl, rfl, rfl, by decide +kernel, rfl, by decide +kernel, by decide +kernel⟩
abbrev s_Shape_there : Stmt := inClass (top 25) 3
abbrev N_Shape_there : List Str := ["self"]
theorem sc_Shape_there : FnScope N_Shape_there ["self"] (defScope s_Shape_there) := ⟨rfl, rfl, rfl, by decide +kernel, rfl, by decide +kernel, by decide +kernel⟩
abbrev s_Shape_lacking : Stmt := inClass (top 25) 4
abbrev N_Shape_lacking : List Str := ["self"]
theorem sc_Shape_lacking : FnScope N_Shape_lacking ["self"] (defScope s_Shape_lacking) := ⟨rfl, rfl, rfl, by decide +kernel, rfl, by decide +kernel, by decide +kernel⟩
abbrev s_Shape_names : Stmt := inClass (top 25) 5
abbrev N_Shape_names : List Str := ["self"]
theorem sc_Shape_names : FnScope N_Shape_names ["self"] (defScope s_Shape_names) := ⟨rfl, rfl, rfl, by decide +kernel, rfl, by decide +kernel, by decide +kernel⟩
abbrev s_Shape_len : Stmt := inClass (top 25) 17
abbrev N_Shape_len : List Str := ["self"]
theorem sc_Shape_len : FnScope N_Shape_len ["self"] (defScope s_Shape_len) := ⟨rfl, rfl, rfl, by decide +kernel, rfl, by decide +kernel, by decide +kernel⟩
abbrev s_Shape_eq : Stmt := inClass (top 25) 18
abbrev N_Shape_eq : List Str := ["self", "other"]
theorem sc_Shape_eq : FnScope N_Shape_eq ["self", "other"] (defScope s_Shape_eq) := ⟨rfl, rfl, rfl, by decide +kernel, rfl, by decide +kernel, by decide +kernel⟩
abbrev s_Shape_str : Stmt := inClass (top 25) 19
abbrev N_Shape_str : List Str := ["self"]
theorem sc_Shape_str : FnScope N_Shape_str ["self"] (defScope s_Shape_str) := ⟨rfl, rfl, rfl, by decide +kernel, rfl, by decide +kernel, by decide +kernel⟩
abbrev s_can_be_ban : Stmt := top 29
abbrev N_can_be_ban : List Str := ["sheet", "value"]
theorem sc_can_be_ban : FnScope N_can_be_ban ["sheet", "value"] (defScope s_can_be_ban) := ⟨rfl, rfl, rfl, by decide +kernel, rfl, by decide +kernel, by decide +kernel⟩
abbrev s_different : Stmt := top 30
abbrev N_different : List Str := ["shapes", "found", "shape"]
theorem sc_different : FnScope N_different ["shapes"] (defScope s_different) := ⟨rfl, rfl, rfl, by decide +kernel, rfl, by decide +kernel, by decide +kernel⟩
abbrev s_Bans_init : Stmt := inClass (top 31) 0
abbrev N_Bans_init : List Str := ["self", "sheet", "shapes", "shape", "found"]
theorem sc_Bans_init : FnScope N_Bans_init ["self", "sheet", "shapes"] (defScope s_Bans_init) := ⟨rfl, rfl, rfl, by decide +kernel, rfl, by decide +kernel, by decide +kernel⟩
abbrev s_Bans_of : Stmt := inClass (top 31) 1
abbrev N_Bans_of : List Str := ["cls", "sheet", "shapes"]
theorem sc_Bans_of : FnScope N_Bans_of ["cls", "sheet", "shapes"] (defScope s_Bans_of) := ⟨rfl, rfl, rfl, by decide +kernel, rfl, by decide +kernel, by decide +kernel⟩
abbrev s_Bans_sheet : Stmt := inClass (top 31) 2
abbrev N_Bans_sheet : List Str := ["self"]
theorem sc_Bans_sheet : FnScope N_Bans_sheet ["self"] (defScope s_Bans_sheet) := ⟨rfl, rfl, rfl, by decide +kernel, rfl, by decide +kernel, by decide +kernel⟩
abbrev s_Bans_shapes : Stmt := inClass (top 31) 3
abbrev N_Bans_shapes : List Str := ["self"]
theorem sc_Bans_shapes : FnScope N_Bans_shapes ["self"] (defScope s_Bans_shapes) := ⟨rfl, rfl, rfl, by decide +kernel, rfl, by decide +kernel, by decide +kernel⟩
abbrev s_Bans_or : Stmt := inClass (top 31) 7
abbrev N_Bans_or : List Str := ["self", "other", "found"]
theorem sc_Bans_or : FnScope N_Bans_or ["self", "other"] (defScope s_Bans_or) := ⟨rfl, rfl, rfl, by decide +kernel, rfl, by decide +kernel, by decide +kernel⟩
abbrev s_Bans_contains : Stmt := inClass (top 31) 8
abbrev N_Bans_contains : List Str := ["self", "value"]
theorem sc_Bans_contains : FnScope N_Bans_contains ["self", "value"] (defScope s_Bans_contains) := ⟨rfl, rfl, rfl, by decide +kernel, rfl, by decide +kernel, by decide +kernel⟩
abbrev s_Bans_getitem : Stmt := inClass (top 31) 9
abbrev N_Bans_getitem : List Str := ["self", "at"]
theorem sc_Bans_getitem : FnScope N_Bans_getitem ["self", "at"] (defScope s_Bans_getitem) := ⟨rfl, rfl, rfl, by decide +kernel, rfl, by decide +kernel, by decide +kernel⟩
abbrev s_Bans_iter : Stmt := inClass (top 31) 10
abbrev N_Bans_iter : List Str := ["self"]
theorem sc_Bans_iter : FnScope N_Bans_iter ["self"] (defScope s_Bans_iter) := ⟨rfl, rfl, rfl, by decide +kernel, rfl, by decide +kernel, by decide +kernel⟩
abbrev s_Bans_len : Stmt := inClass (top 31) 11
abbrev N_Bans_len : List Str := ["self"]
theorem sc_Bans_len : FnScope N_Bans_len ["self"] (defScope s_Bans_len) := ⟨rfl, rfl, rfl, by decide +kernel, rfl, by decide +kernel, by decide +kernel⟩
abbrev s_Bans_eq : Stmt := inClass (top 31) 12
abbrev N_Bans_eq : List Str := ["self", "other"]
theorem sc_Bans_eq : FnScope N_Bans_eq ["self", "other"] (defScope s_Bans_eq) := ⟨rfl, rfl, rfl, by decide +kernel, rfl, by decide +kernel, by decide +kernel⟩
abbrev s_Bans_str : Stmt := inClass (top 31) 13
abbrev N_Bans_str : List Str := ["self"]
theorem sc_Bans_str : FnScope N_Bans_str ["self"] (defScope s_Bans_str) := ⟨rfl, rfl, rfl, by decide +kernel, rfl, by decide +kernel, by decide +kernel⟩
abbrev s_law_dice : Stmt := top 33
abbrev N_law_dice : List Str := ["_law_script", "_law_spot", "_law_cell", "_law_great", "_law_seed"]
theorem sc_law_dice : FnScope N_law_dice ["_law_script", "_law_spot"] (defScope s_law_dice) := ⟨rfl, rfl, rfl, by decide +kernel, rfl, by decide +kernel, by decide +kernel⟩
abbrev s_law_roll : Stmt := top 34
abbrev N_law_roll : List Str := ["_law_dice_here", "_law_many", "_law_one", "_law_two", "_law_digit"]
theorem sc_law_roll : FnScope N_law_roll ["_law_dice_here", "_law_many"] (defScope s_law_roll) := ⟨rfl, rfl, rfl, by decide +kernel, rfl, by decide +kernel, by decide +kernel⟩
abbrev s_law_pick : Stmt := top 35
abbrev N_law_pick : List Str := ["_law_dice_here", "_law_items"]
theorem sc_law_pick : FnScope N_law_pick ["_law_dice_here", "_law_items"] (defScope s_law_pick) := ⟨rfl, rfl, rfl, by decide +kernel, rfl, by decide +kernel, by decide +kernel⟩
abbrev s_law_mixed : Stmt := top 36
abbrev N_law_mixed : List Str := ["_law_dice_here", "_law_items", "_law_left", "_law_found"]
theorem sc_law_mixed : FnScope N_law_mixed ["_law_dice_here", "_law_items"] (defScope s_law_mixed) := ⟨rfl, rfl, rfl, by decide +kernel, rfl, by decide +kernel, by decide +kernel⟩
abbrev s_law_fresh : Stmt := top 37
abbrev N_law_fresh : List Str := ["_law_dice_here", "_law_taken", "_law_letters", "_law_word", "_law_turn", "_law_name"]
theorem sc_law_fresh : FnScope N_law_fresh ["_law_dice_here", "_law_taken"] (defScope s_law_fresh) := ⟨rfl, rfl, rfl, by decide +kernel, rfl, by decide +kernel, by decide +kernel⟩
abbrev s_law_names : Stmt := top 38
abbrev N_law_names : List Str := ["_law_dice_here", "_law_many", "_law_taken", "_law_found", "_law_turn"]
theorem sc_law_names : FnScope N_law_names ["_law_dice_here", "_law_many", "_law_taken"] (defScope s_law_names) := ⟨rfl, rfl, rfl, by decide +kernel, rfl, by decide +kernel, by decide +kernel⟩
abbrev s_law_new_sheet : Stmt := top 39
abbrev N_law_new_sheet : List Str := ["_law_dice_here", "_law_kinds"]
theorem sc_law_new_sheet : FnScope N_law_new_sheet ["_law_dice_here"] (defScope s_law_new_sheet) := ⟨rfl, rfl, rfl, by decide +kernel, rfl, by decide +kernel, by decide +kernel⟩
abbrev s_law_sheet_made : Stmt := top 40
abbrev N_law_sheet_made : List Str := ["_law_sheet"]
theorem sc_law_sheet_made : FnScope N_law_sheet_made ["_law_sheet"] (defScope s_law_sheet_made) := ⟨rfl, rfl, rfl, by decide +kernel, rfl, by decide +kernel, by decide +kernel⟩
abbrev s_law_twin : Stmt := top 41
abbrev N_law_twin : List Str := ["_law_sheet"]
theorem sc_law_twin : FnScope N_law_twin ["_law_sheet"] (defScope s_law_twin) := ⟨rfl, rfl, rfl, by decide +kernel, rfl, by decide +kernel, by decide +kernel⟩
abbrev s_law_ties : Stmt := top 42
abbrev N_law_ties : List Str := ["_law_dice_here", "_law_items", "_law_words", "_law_many", "_law_found", "_law_turn", "_law_tie"]
theorem sc_law_ties : FnScope N_law_ties ["_law_dice_here", "_law_items", "_law_words", "_law_many"] (defScope s_law_ties) := ⟨rfl, rfl, rfl, by decide +kernel, rfl, by decide +kernel, by decide +kernel⟩
abbrev s_law_shape_made : Stmt := top 43
abbrev N_law_shape_made : List Str := ["_law_thing", "_law_shape"]
theorem sc_law_shape_made : FnScope N_law_shape_made ["_law_thing", "_law_shape"] (defScope s_law_shape_made) := ⟨rfl, rfl, rfl, by decide +kernel, rfl, by decide +kernel, by decide +kernel⟩
abbrev s_law_new_ban : Stmt := top 44
abbrev N_law_new_ban : List Str := ["_law_dice_here", "_law_sheet", "_law_names_here", "_law_posts", "_law_told", "_law_lots", "_law_name"]
theorem sc_law_new_ban : FnScope N_law_new_ban ["_law_dice_here", "_law_sheet"] (defScope s_law_new_ban) := ⟨rfl, rfl, rfl, by decide +kernel, rfl, by decide +kernel, by decide +kernel⟩
abbrev s_law_same_shape : Stmt := top 45
abbrev N_law_same_shape : List Str := ["_law_one", "_law_other"]
theorem sc_law_same_shape : FnScope N_law_same_shape ["_law_one", "_law_other"] (defScope s_law_same_shape) := ⟨rfl, rfl, rfl, by decide +kernel, rfl, by decide +kernel, by decide +kernel⟩
abbrev s_law_new_bans : Stmt := top 46
abbrev N_law_new_bans : List Str := ["_law_dice_here", "_law_sheet", "_law_most", "_law_found", "_law_turn", "_law_ban", "_law_one"]
theorem sc_law_new_bans : FnScope N_law_new_bans ["_law_dice_here", "_law_sheet", "_law_most"] (defScope s_law_new_bans) := ⟨rfl, rfl, rfl, by decide +kernel, rfl, by decide +kernel, by decide +kernel⟩
abbrev s_law_bans_made : Stmt := top 47
abbrev N_law_bans_made : List Str := ["_law_thing", "_law_bans", "_law_ban"]
theorem sc_law_bans_made : FnScope N_law_bans_made ["_law_thing", "_law_bans"] (defScope s_law_bans_made) := ⟨rfl, rfl, rfl, by decide +kernel, rfl, by decide +kernel, by decide +kernel⟩
abbrev s_law_is_told : Stmt := top 48
abbrev N_law_is_told : List Str := ["_law_made", "_law_thing", "_law_bans", "_law_due", "_law_at", "_law_shape", "_law_ban"]
theorem sc_law_is_told : FnScope N_law_is_told ["_law_made", "_law_thing", "_law_bans"] (defScope s_law_is_told) := ⟨rfl, rfl, rfl, by decide +kernel, rfl, by decide +kernel, by decide +kernel⟩
abbrev s_law_refuses : Stmt := top 49
abbrev N_law_refuses : List Str := ["_law_made", "_law_value", "e", "_law_told"]
theorem sc_law_refuses : FnScope N_law_refuses ["_law_made", "_law_value"] (defScope s_law_refuses) := ⟨rfl, rfl, rfl, by decide +kernel, rfl, by decide +kernel, by decide +kernel⟩
abbrev s_law_right : Stmt := top 50
abbrev N_law_right : List Str := ["_law_dice_here", "_law_sheet", "_law_made", "_law_odds", "_law_turn", "_law_mixed_here", "_law_is_same", "_law_rest", "_law_ban", "_law_back", "_law_value", "_law_thing", "_law_bans", "_law_others", "_law_again", "_law_less", "_law_both", "_law_two", "_law_one", "_law_other", "_law_odd"]
theorem sc_law_right : FnScope N_law_right ["_law_dice_here"] (defScope s_law_right) := ⟨rfl, rfl, rfl, by decide +kernel, rfl, by decide +kernel, by decide +kernel⟩
abbrev s_law_by_place : Stmt := top 51
abbrev N_law_by_place : List Str := ["_law_dice_here", "_law_sheet", "_law_thing", "_law_one", "_law_two"]
theorem sc_law_by_place : FnScope N_law_by_place ["_law_dice_here"] (defScope s_law_by_place) := ⟨rfl, rfl, rfl, by decide +kernel, rfl, by decide +kernel, by decide +kernel⟩
abbrev s_law : Stmt := top 52
abbrev N_law : List Str := ["_law_script", "_law_spot", "_law_dice_here"]
theorem sc_law : FnScope N_law ["_law_script"] (defScope s_law) := ⟨rfl, rfl, rfl, by decide +kernel, rfl, by decide +kernel, by decide +kernel⟩
theorem sbq_Bans_init {K : PySem.W.Frag} {kV dc pm cd ct : Value} {an : Option Addr} : Kw.StarB K (PySem.W.fnOf "__init__" "Bans.__init__" (defArgs s_Bans_init) (defBody s_Bans_init) (defScope s_Bans_init) .none kV dc pm an cd ct) ["self", "sheet"] [] [] "shapes" [] :=
  Kw.starB_all fun us rest ws h1 h2 => match us, rest, ws, h1, h2 with
  | [_, _], [], [], _, _ => rfl
  | [_, _], _ :: _, [], _, _ => rfl
structure Ads where
  a_InvalidNumber_init : Addr
  d_InvalidNumber_init : FuncData
  a_is_integer : Addr
  d_is_integer : FuncData
  a_is_name : Addr
  d_is_name : FuncData
  a_are_names : Addr
  d_are_names : FuncData
  a_Sheet_init : Addr
  d_Sheet_init : FuncData
  a_Sheet_kinds : Addr
  d_Sheet_kinds : FuncData
  a_Sheet_words : Addr
  d_Sheet_words : FuncData
  a_Sheet_eq : Addr
  d_Sheet_eq : FuncData
  a_Sheet_str : Addr
  d_Sheet_str : FuncData
  a_require_sheet : Addr
  d_require_sheet : FuncData
  a_is_kind : Addr
  d_is_kind : FuncData
  a_is_tie : Addr
  d_is_tie : FuncData
  a_are_posts : Addr
  d_are_posts : FuncData
  a_is_triple_of : Addr
  d_is_triple_of : FuncData
  a_are_triples : Addr
  d_are_triples : FuncData
  a_Shape_init : Addr
  d_Shape_init : FuncData
  a_Shape_sheet : Addr
  d_Shape_sheet : FuncData
  a_Shape_posts : Addr
  d_Shape_posts : FuncData
  a_Shape_there : Addr
  d_Shape_there : FuncData
  a_Shape_lacking : Addr
  d_Shape_lacking : FuncData
  a_Shape_names : Addr
  d_Shape_names : FuncData
  a_Shape_len : Addr
  d_Shape_len : FuncData
  a_Shape_eq : Addr
  d_Shape_eq : FuncData
  a_Shape_str : Addr
  d_Shape_str : FuncData
  a_can_be_ban : Addr
  d_can_be_ban : FuncData
  a_different : Addr
  d_different : FuncData
  a_Bans_init : Addr
  d_Bans_init : FuncData
  a_Bans_of : Addr
  d_Bans_of : FuncData
  a_Bans_sheet : Addr
  d_Bans_sheet : FuncData
  a_Bans_shapes : Addr
  d_Bans_shapes : FuncData
  a_Bans_or : Addr
  d_Bans_or : FuncData
  a_Bans_contains : Addr
  d_Bans_contains : FuncData
  a_Bans_getitem : Addr
  d_Bans_getitem : FuncData
  a_Bans_iter : Addr
  d_Bans_iter : FuncData
  a_Bans_len : Addr
  d_Bans_len : FuncData
  a_Bans_eq : Addr
  d_Bans_eq : FuncData
  a_Bans_str : Addr
  d_Bans_str : FuncData
  a_law_dice : Addr
  d_law_dice : FuncData
  a_law_roll : Addr
  d_law_roll : FuncData
  a_law_pick : Addr
  d_law_pick : FuncData
  a_law_mixed : Addr
  d_law_mixed : FuncData
  a_law_fresh : Addr
  d_law_fresh : FuncData
  a_law_names : Addr
  d_law_names : FuncData
  a_law_new_sheet : Addr
  d_law_new_sheet : FuncData
  a_law_sheet_made : Addr
  d_law_sheet_made : FuncData
  a_law_twin : Addr
  d_law_twin : FuncData
  a_law_ties : Addr
  d_law_ties : FuncData
  a_law_shape_made : Addr
  d_law_shape_made : FuncData
  a_law_new_ban : Addr
  d_law_new_ban : FuncData
  a_law_same_shape : Addr
  d_law_same_shape : FuncData
  a_law_new_bans : Addr
  d_law_new_bans : FuncData
  a_law_bans_made : Addr
  d_law_bans_made : FuncData
  a_law_is_told : Addr
  d_law_is_told : FuncData
  a_law_refuses : Addr
  d_law_refuses : FuncData
  a_law_right : Addr
  d_law_right : FuncData
  a_law_by_place : Addr
  d_law_by_place : FuncData
  a_law : Addr
  d_law : FuncData
  e_Shape_init_0 : Addr
  e_Shape_init_1 : Addr
  C_Sheet : Addr
  C_Shape : Addr
  C_Bans : Addr
  C_ShapeError : Addr
  C_InvalidSheet : Addr
  C_InvalidShape : Addr
  C_InvalidBans : Addr
  C_InvalidOperation : Addr
  C_InvalidNumber : Addr
  p_Sheet_kinds : Addr
  p_Sheet_words : Addr
  p_Shape_sheet : Addr
  p_Shape_posts : Addr
  p_Shape_there : Addr
  p_Shape_lacking : Addr
  p_Shape_names : Addr
  p_Bans_sheet : Addr
  p_Bans_shapes : Addr
  p_Bans_of : Addr
  c_MAX_KINDS : Value
  c_MAX_WORDS : Value
  c_MAX_LETTERS : Value
  c_LETTERS : Value
  c_MAX_NAMES : Value
  c_MAX_BANS : Value
  c_MOST_POSTS : Value
structure Txt (K : PySem.W.Frag) (mg : Str → Option Value) (A : Ads) : Prop where
  F_InvalidNumber_init : Fun K "__init__" "InvalidNumber.__init__" s_InvalidNumber_init A.a_InvalidNumber_init A.d_InvalidNumber_init
  b_InvalidNumber_init : Binds K A.d_InvalidNumber_init ["self", "value"] []
  F_is_integer : Fun K "is_integer" "is_integer" s_is_integer A.a_is_integer A.d_is_integer
  b_is_integer : Binds K A.d_is_integer ["value"] []
  g_is_integer : mg "is_integer" = some (.ref A.a_is_integer)
  k_is_integer : PySem.W.keepIn K (.ref A.a_is_integer) = true
  F_is_name : Fun K "is_name" "is_name" s_is_name A.a_is_name A.d_is_name
  b_is_name : Binds K A.d_is_name ["value"] []
  g_is_name : mg "is_name" = some (.ref A.a_is_name)
  k_is_name : PySem.W.keepIn K (.ref A.a_is_name) = true
  F_are_names : Fun K "are_names" "are_names" s_are_names A.a_are_names A.d_are_names
  b_are_names : Binds K A.d_are_names ["value", "most"] []
  g_are_names : mg "are_names" = some (.ref A.a_are_names)
  k_are_names : PySem.W.keepIn K (.ref A.a_are_names) = true
  F_Sheet_init : Fun K "__init__" "Sheet.__init__" s_Sheet_init A.a_Sheet_init A.d_Sheet_init
  b_Sheet_init : Binds K A.d_Sheet_init ["self", "kinds", "words"] []
  F_Sheet_kinds : Fun K "kinds" "Sheet.kinds" s_Sheet_kinds A.a_Sheet_kinds A.d_Sheet_kinds
  b_Sheet_kinds : Binds K A.d_Sheet_kinds ["self"] []
  F_Sheet_words : Fun K "words" "Sheet.words" s_Sheet_words A.a_Sheet_words A.d_Sheet_words
  b_Sheet_words : Binds K A.d_Sheet_words ["self"] []
  F_Sheet_eq : Fun K "__eq__" "Sheet.__eq__" s_Sheet_eq A.a_Sheet_eq A.d_Sheet_eq
  b_Sheet_eq : Binds K A.d_Sheet_eq ["self", "other"] []
  F_Sheet_str : Fun K "__str__" "Sheet.__str__" s_Sheet_str A.a_Sheet_str A.d_Sheet_str
  b_Sheet_str : Binds K A.d_Sheet_str ["self"] []
  F_require_sheet : Fun K "require_sheet" "require_sheet" s_require_sheet A.a_require_sheet A.d_require_sheet
  b_require_sheet : Binds K A.d_require_sheet ["sheet"] []
  g_require_sheet : mg "require_sheet" = some (.ref A.a_require_sheet)
  k_require_sheet : PySem.W.keepIn K (.ref A.a_require_sheet) = true
  F_is_kind : Fun K "is_kind" "is_kind" s_is_kind A.a_is_kind A.d_is_kind
  b_is_kind : Binds K A.d_is_kind ["sheet", "value"] []
  g_is_kind : mg "is_kind" = some (.ref A.a_is_kind)
  k_is_kind : PySem.W.keepIn K (.ref A.a_is_kind) = true
  F_is_tie : Fun K "is_tie" "is_tie" s_is_tie A.a_is_tie A.d_is_tie
  b_is_tie : Binds K A.d_is_tie ["sheet", "value"] []
  g_is_tie : mg "is_tie" = some (.ref A.a_is_tie)
  k_is_tie : PySem.W.keepIn K (.ref A.a_is_tie) = true
  F_are_posts : Fun K "are_posts" "are_posts" s_are_posts A.a_are_posts A.d_are_posts
  b_are_posts : Binds K A.d_are_posts ["sheet", "value"] []
  g_are_posts : mg "are_posts" = some (.ref A.a_are_posts)
  k_are_posts : PySem.W.keepIn K (.ref A.a_are_posts) = true
  F_is_triple_of : Fun K "is_triple_of" "is_triple_of" s_is_triple_of A.a_is_triple_of A.d_is_triple_of
  b_is_triple_of : Binds K A.d_is_triple_of ["sheet", "names", "value"] []
  g_is_triple_of : mg "is_triple_of" = some (.ref A.a_is_triple_of)
  k_is_triple_of : PySem.W.keepIn K (.ref A.a_is_triple_of) = true
  F_are_triples : Fun K "are_triples" "are_triples" s_are_triples A.a_are_triples A.d_are_triples
  b_are_triples : Binds K A.d_are_triples ["sheet", "names", "value"] []
  g_are_triples : mg "are_triples" = some (.ref A.a_are_triples)
  k_are_triples : PySem.W.keepIn K (.ref A.a_are_triples) = true
  F_Shape_init : FunD K "__init__" "Shape.__init__" (defArgs s_Shape_init) (defBody s_Shape_init) (defScope s_Shape_init) [.ref A.e_Shape_init_0, .ref A.e_Shape_init_1] [] A.a_Shape_init A.d_Shape_init
  b_Shape_init_1 : Binds K A.d_Shape_init ["self", "sheet", "posts", "there", "lacking"] [.ref A.e_Shape_init_1]
  b_Shape_init_2 : Binds K A.d_Shape_init ["self", "sheet", "posts", "there", "lacking"] [.ref A.e_Shape_init_0, .ref A.e_Shape_init_1]
  q_Shape_init_0 : ∀ H : Hp, SqT K H A.e_Shape_init_0 []
  q_Shape_init_1 : ∀ H : Hp, SqT K H A.e_Shape_init_1 []
  b_Shape_init : Binds K A.d_Shape_init ["self", "sheet", "posts", "there", "lacking"] []
  F_Shape_sheet : Fun K "sheet" "Shape.sheet" s_Shape_sheet A.a_Shape_sheet A.d_Shape_sheet
  b_Shape_sheet : Binds K A.d_Shape_sheet ["self"] []
  F_Shape_posts : Fun K "posts" "Shape.posts" s_Shape_posts A.a_Shape_posts A.d_Shape_posts
  b_Shape_posts : Binds K A.d_Shape_posts ["self"] []
  F_Shape_there : Fun K "there" "Shape.there" s_Shape_there A.a_Shape_there A.d_Shape_there
  b_Shape_there : Binds K A.d_Shape_there ["self"] []
  F_Shape_lacking : Fun K "lacking" "Shape.lacking" s_Shape_lacking A.a_Shape_lacking A.d_Shape_lacking
  b_Shape_lacking : Binds K A.d_Shape_lacking ["self"] []
  F_Shape_names : Fun K "names" "Shape.names" s_Shape_names A.a_Shape_names A.d_Shape_names
  b_Shape_names : Binds K A.d_Shape_names ["self"] []
  F_Shape_len : Fun K "__len__" "Shape.__len__" s_Shape_len A.a_Shape_len A.d_Shape_len
  b_Shape_len : Binds K A.d_Shape_len ["self"] []
  F_Shape_eq : Fun K "__eq__" "Shape.__eq__" s_Shape_eq A.a_Shape_eq A.d_Shape_eq
  b_Shape_eq : Binds K A.d_Shape_eq ["self", "other"] []
  F_Shape_str : Fun K "__str__" "Shape.__str__" s_Shape_str A.a_Shape_str A.d_Shape_str
  b_Shape_str : Binds K A.d_Shape_str ["self"] []
  F_can_be_ban : Fun K "can_be_ban" "can_be_ban" s_can_be_ban A.a_can_be_ban A.d_can_be_ban
  b_can_be_ban : Binds K A.d_can_be_ban ["sheet", "value"] []
  g_can_be_ban : mg "can_be_ban" = some (.ref A.a_can_be_ban)
  k_can_be_ban : PySem.W.keepIn K (.ref A.a_can_be_ban) = true
  F_different : Fun K "different" "different" s_different A.a_different A.d_different
  b_different : Binds K A.d_different ["shapes"] []
  g_different : mg "different" = some (.ref A.a_different)
  k_different : PySem.W.keepIn K (.ref A.a_different) = true
  F_Bans_init : FunD K "__init__" "Bans.__init__" (defArgs s_Bans_init) (defBody s_Bans_init) (defScope s_Bans_init) [] [] A.a_Bans_init A.d_Bans_init
  sb_Bans_init_0 : Kw.StarB K A.d_Bans_init ["self", "sheet"] [] [] "shapes" []
  F_Bans_of : Fun K "of" "Bans.of" s_Bans_of A.a_Bans_of A.d_Bans_of
  b_Bans_of : Binds K A.d_Bans_of ["cls", "sheet", "shapes"] []
  F_Bans_sheet : Fun K "sheet" "Bans.sheet" s_Bans_sheet A.a_Bans_sheet A.d_Bans_sheet
  b_Bans_sheet : Binds K A.d_Bans_sheet ["self"] []
  F_Bans_shapes : Fun K "shapes" "Bans.shapes" s_Bans_shapes A.a_Bans_shapes A.d_Bans_shapes
  b_Bans_shapes : Binds K A.d_Bans_shapes ["self"] []
  F_Bans_or : Fun K "__or__" "Bans.__or__" s_Bans_or A.a_Bans_or A.d_Bans_or
  b_Bans_or : Binds K A.d_Bans_or ["self", "other"] []
  F_Bans_contains : Fun K "__contains__" "Bans.__contains__" s_Bans_contains A.a_Bans_contains A.d_Bans_contains
  b_Bans_contains : Binds K A.d_Bans_contains ["self", "value"] []
  F_Bans_getitem : Fun K "__getitem__" "Bans.__getitem__" s_Bans_getitem A.a_Bans_getitem A.d_Bans_getitem
  b_Bans_getitem : Binds K A.d_Bans_getitem ["self", "at"] []
  F_Bans_iter : Fun K "__iter__" "Bans.__iter__" s_Bans_iter A.a_Bans_iter A.d_Bans_iter
  b_Bans_iter : Binds K A.d_Bans_iter ["self"] []
  F_Bans_len : Fun K "__len__" "Bans.__len__" s_Bans_len A.a_Bans_len A.d_Bans_len
  b_Bans_len : Binds K A.d_Bans_len ["self"] []
  F_Bans_eq : Fun K "__eq__" "Bans.__eq__" s_Bans_eq A.a_Bans_eq A.d_Bans_eq
  b_Bans_eq : Binds K A.d_Bans_eq ["self", "other"] []
  F_Bans_str : Fun K "__str__" "Bans.__str__" s_Bans_str A.a_Bans_str A.d_Bans_str
  b_Bans_str : Binds K A.d_Bans_str ["self"] []
  F_law_dice : Fun K "_law_dice" "_law_dice" s_law_dice A.a_law_dice A.d_law_dice
  b_law_dice : Binds K A.d_law_dice ["_law_script", "_law_spot"] []
  g_law_dice : mg "_law_dice" = some (.ref A.a_law_dice)
  k_law_dice : PySem.W.keepIn K (.ref A.a_law_dice) = true
  F_law_roll : Fun K "_law_roll" "_law_roll" s_law_roll A.a_law_roll A.d_law_roll
  b_law_roll : Binds K A.d_law_roll ["_law_dice_here", "_law_many"] []
  g_law_roll : mg "_law_roll" = some (.ref A.a_law_roll)
  k_law_roll : PySem.W.keepIn K (.ref A.a_law_roll) = true
  F_law_pick : Fun K "_law_pick" "_law_pick" s_law_pick A.a_law_pick A.d_law_pick
  b_law_pick : Binds K A.d_law_pick ["_law_dice_here", "_law_items"] []
  g_law_pick : mg "_law_pick" = some (.ref A.a_law_pick)
  k_law_pick : PySem.W.keepIn K (.ref A.a_law_pick) = true
  F_law_mixed : Fun K "_law_mixed" "_law_mixed" s_law_mixed A.a_law_mixed A.d_law_mixed
  b_law_mixed : Binds K A.d_law_mixed ["_law_dice_here", "_law_items"] []
  g_law_mixed : mg "_law_mixed" = some (.ref A.a_law_mixed)
  k_law_mixed : PySem.W.keepIn K (.ref A.a_law_mixed) = true
  F_law_fresh : Fun K "_law_fresh" "_law_fresh" s_law_fresh A.a_law_fresh A.d_law_fresh
  b_law_fresh : Binds K A.d_law_fresh ["_law_dice_here", "_law_taken"] []
  g_law_fresh : mg "_law_fresh" = some (.ref A.a_law_fresh)
  k_law_fresh : PySem.W.keepIn K (.ref A.a_law_fresh) = true
  F_law_names : Fun K "_law_names" "_law_names" s_law_names A.a_law_names A.d_law_names
  b_law_names : Binds K A.d_law_names ["_law_dice_here", "_law_many", "_law_taken"] []
  g_law_names : mg "_law_names" = some (.ref A.a_law_names)
  k_law_names : PySem.W.keepIn K (.ref A.a_law_names) = true
  F_law_new_sheet : Fun K "_law_new_sheet" "_law_new_sheet" s_law_new_sheet A.a_law_new_sheet A.d_law_new_sheet
  b_law_new_sheet : Binds K A.d_law_new_sheet ["_law_dice_here"] []
  g_law_new_sheet : mg "_law_new_sheet" = some (.ref A.a_law_new_sheet)
  k_law_new_sheet : PySem.W.keepIn K (.ref A.a_law_new_sheet) = true
  F_law_sheet_made : Fun K "_law_sheet_made" "_law_sheet_made" s_law_sheet_made A.a_law_sheet_made A.d_law_sheet_made
  b_law_sheet_made : Binds K A.d_law_sheet_made ["_law_sheet"] []
  g_law_sheet_made : mg "_law_sheet_made" = some (.ref A.a_law_sheet_made)
  k_law_sheet_made : PySem.W.keepIn K (.ref A.a_law_sheet_made) = true
  F_law_twin : Fun K "_law_twin" "_law_twin" s_law_twin A.a_law_twin A.d_law_twin
  b_law_twin : Binds K A.d_law_twin ["_law_sheet"] []
  g_law_twin : mg "_law_twin" = some (.ref A.a_law_twin)
  k_law_twin : PySem.W.keepIn K (.ref A.a_law_twin) = true
  F_law_ties : Fun K "_law_ties" "_law_ties" s_law_ties A.a_law_ties A.d_law_ties
  b_law_ties : Binds K A.d_law_ties ["_law_dice_here", "_law_items", "_law_words", "_law_many"] []
  g_law_ties : mg "_law_ties" = some (.ref A.a_law_ties)
  k_law_ties : PySem.W.keepIn K (.ref A.a_law_ties) = true
  F_law_shape_made : Fun K "_law_shape_made" "_law_shape_made" s_law_shape_made A.a_law_shape_made A.d_law_shape_made
  b_law_shape_made : Binds K A.d_law_shape_made ["_law_thing", "_law_shape"] []
  g_law_shape_made : mg "_law_shape_made" = some (.ref A.a_law_shape_made)
  k_law_shape_made : PySem.W.keepIn K (.ref A.a_law_shape_made) = true
  F_law_new_ban : Fun K "_law_new_ban" "_law_new_ban" s_law_new_ban A.a_law_new_ban A.d_law_new_ban
  b_law_new_ban : Binds K A.d_law_new_ban ["_law_dice_here", "_law_sheet"] []
  g_law_new_ban : mg "_law_new_ban" = some (.ref A.a_law_new_ban)
  k_law_new_ban : PySem.W.keepIn K (.ref A.a_law_new_ban) = true
  F_law_same_shape : Fun K "_law_same_shape" "_law_same_shape" s_law_same_shape A.a_law_same_shape A.d_law_same_shape
  b_law_same_shape : Binds K A.d_law_same_shape ["_law_one", "_law_other"] []
  g_law_same_shape : mg "_law_same_shape" = some (.ref A.a_law_same_shape)
  k_law_same_shape : PySem.W.keepIn K (.ref A.a_law_same_shape) = true
  F_law_new_bans : Fun K "_law_new_bans" "_law_new_bans" s_law_new_bans A.a_law_new_bans A.d_law_new_bans
  b_law_new_bans : Binds K A.d_law_new_bans ["_law_dice_here", "_law_sheet", "_law_most"] []
  g_law_new_bans : mg "_law_new_bans" = some (.ref A.a_law_new_bans)
  k_law_new_bans : PySem.W.keepIn K (.ref A.a_law_new_bans) = true
  F_law_bans_made : Fun K "_law_bans_made" "_law_bans_made" s_law_bans_made A.a_law_bans_made A.d_law_bans_made
  b_law_bans_made : Binds K A.d_law_bans_made ["_law_thing", "_law_bans"] []
  g_law_bans_made : mg "_law_bans_made" = some (.ref A.a_law_bans_made)
  k_law_bans_made : PySem.W.keepIn K (.ref A.a_law_bans_made) = true
  F_law_is_told : Fun K "_law_is_told" "_law_is_told" s_law_is_told A.a_law_is_told A.d_law_is_told
  b_law_is_told : Binds K A.d_law_is_told ["_law_made", "_law_thing", "_law_bans"] []
  g_law_is_told : mg "_law_is_told" = some (.ref A.a_law_is_told)
  k_law_is_told : PySem.W.keepIn K (.ref A.a_law_is_told) = true
  F_law_refuses : Fun K "_law_refuses" "_law_refuses" s_law_refuses A.a_law_refuses A.d_law_refuses
  b_law_refuses : Binds K A.d_law_refuses ["_law_made", "_law_value"] []
  g_law_refuses : mg "_law_refuses" = some (.ref A.a_law_refuses)
  k_law_refuses : PySem.W.keepIn K (.ref A.a_law_refuses) = true
  F_law_right : Fun K "_law_right" "_law_right" s_law_right A.a_law_right A.d_law_right
  b_law_right : Binds K A.d_law_right ["_law_dice_here"] []
  g_law_right : mg "_law_right" = some (.ref A.a_law_right)
  k_law_right : PySem.W.keepIn K (.ref A.a_law_right) = true
  F_law_by_place : Fun K "_law_by_place" "_law_by_place" s_law_by_place A.a_law_by_place A.d_law_by_place
  b_law_by_place : Binds K A.d_law_by_place ["_law_dice_here"] []
  g_law_by_place : mg "_law_by_place" = some (.ref A.a_law_by_place)
  k_law_by_place : PySem.W.keepIn K (.ref A.a_law_by_place) = true
  F_law : Fun K "law" "law" s_law A.a_law A.d_law
  b_law : Binds K A.d_law ["_law_script"] []
  g_law : mg "law" = some (.ref A.a_law)
  k_law : PySem.W.keepIn K (.ref A.a_law) = true
  g_Sheet : mg "Sheet" = some (.ref A.C_Sheet)
  cl_Sheet : Cls K A.C_Sheet
  I_Sheet : Kd.InsT K A.C_Sheet
  M_Sheet : Mk K A.C_Sheet A.a_Sheet_init
  n_Sheet_own_kinds : NoAttr K A.C_Sheet "own_kinds"
  n_Sheet_own_words : NoAttr K A.C_Sheet "own_words"
  P_Sheet_kinds : PropOf K A.C_Sheet "kinds" A.p_Sheet_kinds A.a_Sheet_kinds
  P_Sheet_words : PropOf K A.C_Sheet "words" A.p_Sheet_words A.a_Sheet_words
  m_Sheet_init : Meth K A.C_Sheet "__init__" A.a_Sheet_init
  m_Sheet_eq : Meth K A.C_Sheet "__eq__" A.a_Sheet_eq
  m_Sheet_str : Meth K A.C_Sheet "__str__" A.a_Sheet_str
  g_Shape : mg "Shape" = some (.ref A.C_Shape)
  cl_Shape : Cls K A.C_Shape
  I_Shape : Kd.InsT K A.C_Shape
  M_Shape : Mk K A.C_Shape A.a_Shape_init
  n_Shape_own_sheet : NoAttr K A.C_Shape "own_sheet"
  n_Shape_own_posts : NoAttr K A.C_Shape "own_posts"
  n_Shape_own_there : NoAttr K A.C_Shape "own_there"
  n_Shape_own_lacking : NoAttr K A.C_Shape "own_lacking"
  P_Shape_sheet : PropOf K A.C_Shape "sheet" A.p_Shape_sheet A.a_Shape_sheet
  P_Shape_posts : PropOf K A.C_Shape "posts" A.p_Shape_posts A.a_Shape_posts
  P_Shape_there : PropOf K A.C_Shape "there" A.p_Shape_there A.a_Shape_there
  P_Shape_lacking : PropOf K A.C_Shape "lacking" A.p_Shape_lacking A.a_Shape_lacking
  P_Shape_names : PropOf K A.C_Shape "names" A.p_Shape_names A.a_Shape_names
  m_Shape_init : Meth K A.C_Shape "__init__" A.a_Shape_init
  m_Shape_len : Meth K A.C_Shape "__len__" A.a_Shape_len
  m_Shape_eq : Meth K A.C_Shape "__eq__" A.a_Shape_eq
  m_Shape_str : Meth K A.C_Shape "__str__" A.a_Shape_str
  g_Bans : mg "Bans" = some (.ref A.C_Bans)
  cl_Bans : Cls K A.C_Bans
  I_Bans : Kd.InsT K A.C_Bans
  M_Bans : Mk K A.C_Bans A.a_Bans_init
  n_Bans_own_sheet : NoAttr K A.C_Bans "own_sheet"
  n_Bans_own_shapes : NoAttr K A.C_Bans "own_shapes"
  P_Bans_sheet : PropOf K A.C_Bans "sheet" A.p_Bans_sheet A.a_Bans_sheet
  P_Bans_shapes : PropOf K A.C_Bans "shapes" A.p_Bans_shapes A.a_Bans_shapes
  m_Bans_init : Meth K A.C_Bans "__init__" A.a_Bans_init
  m_Bans_or : Meth K A.C_Bans "__or__" A.a_Bans_or
  m_Bans_contains : Meth K A.C_Bans "__contains__" A.a_Bans_contains
  m_Bans_getitem : Meth K A.C_Bans "__getitem__" A.a_Bans_getitem
  m_Bans_iter : Meth K A.C_Bans "__iter__" A.a_Bans_iter
  m_Bans_len : Meth K A.C_Bans "__len__" A.a_Bans_len
  m_Bans_eq : Meth K A.C_Bans "__eq__" A.a_Bans_eq
  m_Bans_str : Meth K A.C_Bans "__str__" A.a_Bans_str
  R_Bans : ClX.CRead K A.C_Bans (.type "type")
  K_Bans_of : ClX.CMet K A.C_Bans (.type "type") "of" A.p_Bans_of A.a_Bans_of
  g_ShapeError : mg "ShapeError" = some (.ref A.C_ShapeError)
  x_ShapeError : PySem.W.excIn K A.C_ShapeError [.type "ValueError", .type "Exception", .type "BaseException", .type "object"] "ValueError.__new__" = true
  k_ShapeError : PySem.W.keepIn K (.ref A.C_ShapeError) = true
  s_ShapeError : PySem.W.subIn K (.ref A.C_ShapeError) (.type "BaseException") = some true
  t_ShapeError : PySem.W.typeIn K (.ref A.C_ShapeError) = some (.type "type")
  e_ShapeError : PySem.W.exmOne K (.ref A.C_ShapeError) (.ref A.C_ShapeError) = some true
  g_InvalidSheet : mg "InvalidSheet" = some (.ref A.C_InvalidSheet)
  x_InvalidSheet : PySem.W.excIn K A.C_InvalidSheet [.type "ValueError", .type "Exception", .type "BaseException", .type "object"] "ValueError.__new__" = true
  k_InvalidSheet : PySem.W.keepIn K (.ref A.C_InvalidSheet) = true
  s_InvalidSheet : PySem.W.subIn K (.ref A.C_InvalidSheet) (.type "BaseException") = some true
  t_InvalidSheet : PySem.W.typeIn K (.ref A.C_InvalidSheet) = some (.type "type")
  e_InvalidSheet : PySem.W.exmOne K (.ref A.C_InvalidSheet) (.ref A.C_InvalidSheet) = some true
  g_InvalidShape : mg "InvalidShape" = some (.ref A.C_InvalidShape)
  x_InvalidShape : PySem.W.excIn K A.C_InvalidShape [.type "ValueError", .type "Exception", .type "BaseException", .type "object"] "ValueError.__new__" = true
  k_InvalidShape : PySem.W.keepIn K (.ref A.C_InvalidShape) = true
  s_InvalidShape : PySem.W.subIn K (.ref A.C_InvalidShape) (.type "BaseException") = some true
  t_InvalidShape : PySem.W.typeIn K (.ref A.C_InvalidShape) = some (.type "type")
  e_InvalidShape : PySem.W.exmOne K (.ref A.C_InvalidShape) (.ref A.C_InvalidShape) = some true
  g_InvalidBans : mg "InvalidBans" = some (.ref A.C_InvalidBans)
  x_InvalidBans : PySem.W.excIn K A.C_InvalidBans [.type "ValueError", .type "Exception", .type "BaseException", .type "object"] "ValueError.__new__" = true
  k_InvalidBans : PySem.W.keepIn K (.ref A.C_InvalidBans) = true
  s_InvalidBans : PySem.W.subIn K (.ref A.C_InvalidBans) (.type "BaseException") = some true
  t_InvalidBans : PySem.W.typeIn K (.ref A.C_InvalidBans) = some (.type "type")
  e_InvalidBans : PySem.W.exmOne K (.ref A.C_InvalidBans) (.ref A.C_InvalidBans) = some true
  g_InvalidOperation : mg "InvalidOperation" = some (.ref A.C_InvalidOperation)
  x_InvalidOperation : PySem.W.excIn K A.C_InvalidOperation [.type "ValueError", .type "Exception", .type "BaseException", .type "object"] "ValueError.__new__" = true
  k_InvalidOperation : PySem.W.keepIn K (.ref A.C_InvalidOperation) = true
  s_InvalidOperation : PySem.W.subIn K (.ref A.C_InvalidOperation) (.type "BaseException") = some true
  t_InvalidOperation : PySem.W.typeIn K (.ref A.C_InvalidOperation) = some (.type "type")
  e_InvalidOperation : PySem.W.exmOne K (.ref A.C_InvalidOperation) (.ref A.C_InvalidOperation) = some true
  g_InvalidNumber : mg "InvalidNumber" = some (.ref A.C_InvalidNumber)
  m_InvalidNumber_init : Meth K A.C_InvalidNumber "__init__" A.a_InvalidNumber_init
  n_InvalidNumber_value : PySem.W.findIn K (.ref A.C_InvalidNumber) "value" = some none
  k_InvalidNumber : PySem.W.keepIn K (.ref A.C_InvalidNumber) = true
  s_InvalidNumber : PySem.W.subIn K (.ref A.C_InvalidNumber) (.type "BaseException") = some true
  t_InvalidNumber : PySem.W.typeIn K (.ref A.C_InvalidNumber) = some (.type "type")
  e_InvalidNumber : PySem.W.exmOne K (.ref A.C_InvalidNumber) (.ref A.C_InvalidNumber) = some true
  c_MAX_KINDS : mg "MAX_KINDS" = some A.c_MAX_KINDS
  r_MAX_KINDS : RelV (.int 3) A.c_MAX_KINDS
  c_MAX_WORDS : mg "MAX_WORDS" = some A.c_MAX_WORDS
  r_MAX_WORDS : RelV (.int 2) A.c_MAX_WORDS
  c_MAX_LETTERS : mg "MAX_LETTERS" = some A.c_MAX_LETTERS
  r_MAX_LETTERS : RelV (.int 8) A.c_MAX_LETTERS
  c_LETTERS : mg "LETTERS" = some A.c_LETTERS
  r_LETTERS : RelV (.str "abcdefghijklmnopqrstuvwxyz") A.c_LETTERS
  c_MAX_NAMES : mg "MAX_NAMES" = some A.c_MAX_NAMES
  r_MAX_NAMES : RelV (.int 12) A.c_MAX_NAMES
  c_MAX_BANS : mg "MAX_BANS" = some A.c_MAX_BANS
  r_MAX_BANS : RelV (.int 8) A.c_MAX_BANS
  c_MOST_POSTS : mg "MOST_POSTS" = some A.c_MOST_POSTS
  r_MOST_POSTS : RelV (.int 3) A.c_MOST_POSTS
  n_IndexError : mg "IndexError" = none
  n_abs : mg "abs" = none
  n_all : mg "all" = none
  n_any : mg "any" = none
  n_bool : mg "bool" = none
  n_classmethod : mg "classmethod" = none
  n_dict : mg "dict" = none
  n_enumerate : mg "enumerate" = none
  n_int : mg "int" = none
  n_isinstance : mg "isinstance" = none
  n_iter : mg "iter" = none
  n_len : mg "len" = none
  n_list : mg "list" = none
  n_max : mg "max" = none
  n_min : mg "min" = none
  n_property : mg "property" = none
  n_range : mg "range" = none
  n_repr : mg "repr" = none
  n_sorted : mg "sorted" = none
  n_str : mg "str" = none
  n_tuple : mg "tuple" = none
  n_zip : mg "zip" = none
  ss_no : PySem.W.subIn K (.ref A.C_Sheet) (.ref A.C_Shape) = some false
  sb_no : PySem.W.subIn K (.ref A.C_Sheet) (.ref A.C_Bans) = some false
  sb_ne : (Value.ref A.C_Sheet == Value.ref A.C_Bans) = false
  sf_Bans : PySem.W.selfFirst K A.C_Bans = true
  gf_getitem : PySem.W.fnIn K A.a_Bans_getitem = true
  xf_InvalidNumber : L2.xfB K A.C_InvalidNumber = true
  o_InvalidNumber : PySem.Kx.oxB K A.C_InvalidNumber PySem.Kx.tIndex "IndexError.__new__" = true
  sa_InvalidNumber : PySem.W.findIn K (.ref A.C_InvalidNumber) "__setattr__" = some (some (.builtin "object.__setattr__"))
  v_IndexError : PySem.W.findCls K (.type "IndexError") (.type "type") "__init__" = some (.val (.builtin "IndexError.__init__"))
  ss_ne : (Value.ref A.C_Sheet == Value.ref A.C_Shape) = false
end K23
namespace K23
open PySem L2 Kd Evl
abbrev LET : List Nat := ("abcdefghijklmnopqrstuvwxyz" : Str).cps.toList
def isName (z : Str) : Bool := (decide (1 ≤ (z.length : Int)) && decide ((z.length : Int) ≤ 8)) && z.cps.toList.all fun c => decide (c ∈ LET)
def isNameD : PyData → Bool
  | .str z => isName z
  | _ => false
def shortD (d : PyData) : Prop := ∀ z, d = .str z → z.length ≤ 1000 ∧ PyData.strOk z = true
def spIsName (K : PySem.W.Frag) : Sp := fun vs H Q _ => ∃ (v : V) (d : PyData), vs = [v] ∧ Dv K H v d ∧ shortD d ∧ ∀ H', Ex H H' → Q (.bl (isNameD d)) H'
theorem dv_str {K : PySem.W.Frag} {H : Hp} {v : V} {d : PyData} (h : Dv K H v d) (e : tyN d = "str") : ∃ z, v = .str z ∧ d = .str z := by
  cases d with
  | str z =>
    rcases h with h | ⟨_, _, _, _, h⟩
    · cases h; exact ⟨z, rfl, rfl⟩
    · cases h
  | none => exact absurd (show "NoneType" = "str" from e) (by decide)
  | bool _ => exact absurd (show "bool" = "str" from e) (by decide)
  | int _ => exact absurd (show "int" = "str" from e) (by decide)
  | list _ => exact absurd (show "list" = "str" from e) (by decide)
  | tuple _ => exact absurd (show "tuple" = "str" from e) (by decide)
  | dict _ => exact absurd (show "dict" = "str" from e) (by decide)
theorem isNameD_no {d : PyData} (e : ¬ tyN d = "str") : isNameD d = false := by
  cases d <;> first | rfl | exact absurd rfl e
theorem len_line {n : Nat} (h : n ≤ 1000) : n ≤ sizeLine := Nat.le_trans h (by decide)
theorem len_lt {n : Nat} (h : n ≤ 1000) : n < sizeLine := Nat.lt_of_le_of_lt h (by decide)
theorem hu64 {k : Nat} {A : Around} (r : Room k A) : A.units + 64 < cLine := by have := r.un; omega
section
variable {P : Program} {w : World} {K : PySem.W.Frag} {mg : Str → Option Value} {base : Heap} {AA : Ads}
def signs (z : Str) : List V := z.cps.toList.map fun c => .str ⟨#[c]⟩
def signIn (L : List Nat) : V → V
  | .str x => .bl (x.cps.toList.any fun c => decide (c ∈ L))
  | _ => .non
theorem signs_mem {z : Str} {x : V} (h : x ∈ signs z) : ∃ c, x = .str ⟨#[c]⟩ := by
  obtain ⟨c, _, e⟩ := List.mem_map.mp h
  exact ⟨c, e.symm⟩
theorem signs_at (z : Str) : ∀ (k : Nat) (H : Hp) (x : V) (H' : Hp), (H' = H ∧ ∃ c, z.cps[k]? = some c ∧ x = .str ⟨#[c]⟩) → H' = H ∧ (signs z)[k]? = some x := fun k H x H' ⟨e, c, h1, h2⟩ => ⟨e, by
  unfold signs
  rw [List.getElem?_map, Array.getElem?_toList, h1, h2]
  rfl⟩
theorem signIn_one (L : List Nat) (c : Nat) : signIn L (.str ⟨#[c]⟩) = .bl (decide (c ∈ L)) := by
  show V.bl ([c].any _) = _
  simp
theorem signs_bl {z : Str} {L : List Nat} : some (HO.lst (((signs z).filter fun _ => true).map (signIn L))) = some (HO.lst ((z.cps.toList.map fun c => decide (c ∈ L)).map V.bl)) := by
  rw [List.filter_eq_self.mpr (fun _ _ => rfl)]
  unfold signs
  rw [List.map_map, List.map_map]
  congr 2
  exact List.map_congr_left fun c _ => signIn_one L c
theorem ev_true {σ : L2.St} {H : Hp} : EvT tYes σ H true := fun H1 _ Q q => q H1 (Ex.refl H1)
theorem ok_is_name (T : Txt K mg AA) : FnOk P w K mg base CX0 1 AA.a_is_name AA.d_is_name ["value"] (spIsName K) := by
  refine T.F_is_name.ok sc_is_name (fun vs H Q E h => ?_) (fun cdv A outer s H vs Q E hr h => ?_)
  · obtain ⟨v, d, rfl, _⟩ := h
    rfl
  · obtain ⟨v, d, rfl, hv, hs, k⟩ := h
    have r1 := T.r_MAX_LETTERS
    have r2 := T.r_LETTERS
    refine ⟨_, (pss_cons (ps_if (pw_or (pt_not (pt_val (pe_callB call_isi (by rfl) T.n_isinstance (by decide +kernel) (pa_cons (pv 0) (pa_cons (pe_bltn (v := .ty "str") (u := .type "str") (by rfl) T.n_str (by decide +kernel) rfl) pa_nil))))) (pw_or1 (pt_not (pt_chain op_le op_le pe_int (pe_callB call_len_str (by rfl) T.n_len (by decide +kernel) (pa_cons (pv 0) pa_nil)) (pe_glob (by rfl) T.c_MAX_LETTERS T.r_MAX_LETTERS))))).pt (pss_one (ps_ret pe_bl)) pss_nil)
    (pss_one (ps_ret (pe_callB (cr_all rfl) (by rfl) T.n_all (by decide +kernel) (pa_cons (pe_lc (own := [("letter", 1)]) (g := gName 1) rfl sc_is_name.nd  (pi_str (pv 0)) (blkOk_by (N := N_is_name) (sc := defScope s_is_name) (by decide +kernel)) (fun _ _ _ _ _ => (pg_name (i := 1) sc_is_name.nd rfl (Or.inl rfl))) (fun _ _ _ _ _ => pts_nil) (fun _ _ _ _ _ => by exact (pe_cmpR op_in_sign (pv 1) (pe_glob (by rfl) T.c_LETTERS T.r_LETTERS) rfl))) pa_nil))))), ?_⟩
    refine ⟨_, rfl, _, _, _, _, _, rfl, .ty "str", tyX_of hv, isi_kit "str" _ (kit_str d), _, rfl, ?_⟩
    by_cases c : tyN d = "str"
    · refine if_f (by rw [decide_eq_true c]; rfl) ?_
      obtain ⟨z, rfl, rfl⟩ := dv_str hv c
      obtain ⟨hz, hok⟩ := hs z rfl
      refine ⟨_, rfl, z, rfl, len_line hz, _, _, rfl, rfl, _, rfl, ?_⟩
      by_cases c1 : (1 : Int) ≤ (z.length : Int)
      · refine if_t (decide_eq_true c1) ⟨_, _, rfl, rfl, _, rfl, ?_⟩
        by_cases c2 : (z.length : Int) ≤ 8
        · refine if_f (by rw [decide_eq_true c2]; rfl) ?_
          refine ⟨_, rfl, z, rfl, fun D hD => lcS walk_str hD (signs z) (by simp [signs]) (len_lt hz) (fun _ => true) (signIn LET) (fun _ _ => True.intro) (signs_at z) (fun v => rfl) (fun x H _ _ => ev_true) ?_ ?_⟩
          · intro x H1 hx _ _
            obtain ⟨c, rfl⟩ := signs_mem hx
            exact ev_op (ev_var rfl) ev_c (rv_val fun H1 _ Q q => ⟨c, _, rfl, rfl, by rw [signIn_one] at q; exact q⟩)
          · intro H1 e h1
            refine ⟨D, (z.cps.toList.map fun c => decide (c ∈ LET)), rfl, SqL.of (by rw [h1, signs_bl]), ?_⟩
            have q := k H1 e
            have e1 : isNameD (.str z) = (z.cps.toList.map fun c => decide (c ∈ LET)).all id := by
              show ((decide _ && decide _) && _) = _
              rw [decide_eq_true c1, decide_eq_true c2, List.all_map]
              rfl
            rw [e1] at q
            exact q
        · refine if_t (by rw [decide_eq_false c2]; rfl) ?_
          have q := k H (Ex.refl H)
          have e1 : isNameD (.str z) = false := by
            show ((decide _ && decide _) && _) = _
            rw [decide_eq_false c2]
            simp
          rw [e1] at q
          exact q
      · refine if_f (decide_eq_false c1) ⟨_, rfl, if_t rfl ?_⟩
        have q := k H (Ex.refl H)
        have e1 : isNameD (.str z) = false := by
          show ((decide _ && decide _) && _) = _
          rw [decide_eq_false c1]
          simp
        rw [e1] at q
        exact q
    · refine if_t (by rw [decide_eq_false c]; rfl) ?_
      have q := k H (Ex.refl H)
      rw [isNameD_no c] at q
      exact if_t rfl q
theorem ok_one {z : Str} {c : Nat} (h : PyData.strOk z = true) (hc : c ∈ z.cps.toList) : PyData.strOk ⟨#[c]⟩ = true := by
  have h1 : ∀ x ∈ z.cps, decide (x < 0x110000) = true := by
    unfold PyData.strOk at h
    rw [Array.all_eq_true'] at h
    exact h
  have h2 := h1 c (by simpa using hc)
  unfold PyData.strOk
  simpa using h2
theorem canLay_strs : ∀ (zs : List Str), (∀ z ∈ zs, PyData.strOk z = true) → PyData.canLayAll0 (zs.map PyData.str) = true
  | [], _ => rfl
  | z :: zs, h => by
    show (PyData.canLay0 (.str z) && PyData.canLayAll0 (zs.map PyData.str)) = true
    rw [canLay_strs zs fun y hy => h y (List.mem_cons_of_mem _ hy)]
    have h1 := h z List.mem_cons_self
    show (PyData.strOk z && true) = true
    rw [h1]
    rfl
theorem depth_strs : ∀ (zs : List Str), PyData.depthAll (zs.map PyData.str) = 0
  | [] => rfl
  | z :: zs => by
    show max 0 (PyData.depthAll (zs.map PyData.str)) = 0
    rw [depth_strs zs]
    rfl
theorem shaped_ls {zs : List Str} (h : ∀ z ∈ zs, PyData.strOk z = true) : SeqAt.shaped (.list (zs.map PyData.str)) = true := by
  show (PyData.canLayAll0 _ && decide (PyData.depthAll _ + 1 ≤ 64)) = true
  rw [canLay_strs zs h, depth_strs]
  rfl
theorem shaped_ts {zs : List Str} (h : ∀ z ∈ zs, PyData.strOk z = true) : SeqAt.shaped (.tuple (zs.map PyData.str)) = true := by
  show (PyData.canLayAll0 _ && decide (PyData.depthAll _ + 1 ≤ 64)) = true
  rw [canLay_strs zs h, depth_strs]
  rfl
theorem eqv_nil (ds : List PyData) : PyData.eqv (.list ds) (.list []) = ds.isEmpty := by
  cases ds <;> simp [PyData.eqv, PyData.eqvAll]
def signOut (L : List Nat) : V → Bool
  | .str x => !(x.cps.toList.any fun c => decide (c ∈ L))
  | _ => true
theorem signOut_one (L : List Nat) (c : Nat) : signOut L (.str ⟨#[c]⟩) = !decide (c ∈ L) := by
  show (!([c].any _)) = _
  simp
theorem outs_eq (L : List Nat) : ∀ (cs : List Nat), ((cs.map fun c => V.str ⟨#[c]⟩).filter (signOut L)).map id = ((cs.filter fun c => !decide (c ∈ L)).map fun c => (⟨#[c]⟩ : Str)).map V.str
  | [] => rfl
  | c :: cs => by
    have ih := outs_eq L cs
    rw [List.map_id] at ih ⊢
    rw [List.map_cons, List.filter_cons, List.filter_cons, signOut_one]
    cases hc : !decide (c ∈ L) with
    | true => rw [if_pos rfl, if_pos rfl, ih]; rfl
    | false => rw [if_neg Bool.false_ne_true, if_neg Bool.false_ne_true, ih]
theorem outs_all (L : List Nat) : ∀ (cs : List Nat), (((cs.filter fun c => !decide (c ∈ L)).map fun c => (⟨#[c]⟩ : Str)).map PyData.str).isEmpty = cs.all fun c => decide (c ∈ L)
  | [] => rfl
  | c :: cs => by
    have ih := outs_all L cs
    rw [List.filter_cons, List.all_cons]
    cases hc : decide (c ∈ L) with
    | true =>
      rw [if_neg (by simp), ih]
      rfl
    | false =>
      rw [if_pos (by simp)]
      rfl
end
end K23
namespace K23
open PySem L2 Kd Evl Ks
/-- the names of a tuple, if it is one of texts alone -/
def strsOf : List PyData → List Str
  | .str z :: r => z :: strsOf r
  | _ :: r => strsOf r
  | [] => []
def areNamesD : PyData → Int → Bool
  | .tuple ds, m => ((decide (1 ≤ (ds.length : Int)) && decide ((ds.length : Int) ≤ m)) && ds.all isNameD) && decide ((uniq ((strsOf ds).map fun z => (Sum.inr z : Key))).length = ds.length)
  | _, _ => false
def fewD (d : PyData) : Prop := ∀ ds, d = .tuple ds → ds.length ≤ 1000 ∧ ∀ e ∈ ds, shortD e
def spAre (K : PySem.W.Frag) : Sp := fun vs H Q _ => ∃ (v : V) (d : PyData) (m : Int), vs = [v, .int m] ∧ Dv K H v d ∧ fewD d ∧ ∀ H', Ex H H' → Q (.bl (areNamesD d m)) H'
theorem dv_tuple {K : PySem.W.Frag} {H : Hp} {v : V} {d : PyData} (h : Dv K H v d) (e : tyN d = "tuple") : ∃ a xs ds, v = .ref a ∧ d = .tuple ds ∧ SqT K H a xs ∧ DpAll K H xs ds := by
  cases d with
  | tuple ds =>
    rcases h with h | ⟨_, _, _, _, h⟩
    · cases h with | tup hs ha => exact ⟨_, _, ds, rfl, rfl, hs, ha⟩
    · cases h
  | none => exact absurd (show "NoneType" = "tuple" from e) (by decide)
  | bool _ => exact absurd (show "bool" = "tuple" from e) (by decide)
  | int _ => exact absurd (show "int" = "tuple" from e) (by decide)
  | list _ => exact absurd (show "list" = "tuple" from e) (by decide)
  | str _ => exact absurd (show "str" = "tuple" from e) (by decide)
  | dict _ => exact absurd (show "dict" = "tuple" from e) (by decide)
theorem areNamesD_no {d : PyData} (e : ¬ tyN d = "tuple") (m : Int) : areNamesD d m = false := by
  cases d <;> first | rfl | exact absurd rfl e
theorem dpAll_len {K : PySem.W.Frag} {H : Hp} : ∀ {xs : List V} {ds : List PyData}, DpAll K H xs ds → xs.length = ds.length
  | [], _, h => by cases h; rfl
  | x :: xs, _, h => by cases h with | cons _ h2 => exact congrArg Nat.succ (dpAll_len h2)
theorem dpAll_get {K : PySem.W.Frag} {H : Hp} : ∀ {xs : List V} {ds : List PyData} {i : Nat} {x : V}, DpAll K H xs ds → xs[i]? = some x → ∃ d, ds[i]? = some d ∧ Dp K H x d
  | [], _, i, x, _, e => by simp at e
  | y :: xs, _, 0, x, h, e => by
    cases h with
    | cons h1 _ =>
      obtain rfl : y = x := Option.some.inj e
      exact ⟨_, rfl, h1⟩
  | y :: xs, _, i + 1, x, h, e => by
    cases h with
    | cons _ h2 => exact dpAll_get (i := i) h2 e
theorem all_strs : ∀ {ds : List PyData}, ds.all isNameD = true → ds = (strsOf ds).map PyData.str
  | [], _ => rfl
  | .str z :: r, h => by
    have h1 := (Bool.and_eq_true_iff.mp (by rw [List.all_cons] at h; exact h)).2
    show _ = PyData.str z :: _
    rw [← all_strs h1]
  | .none :: r, h => by rw [List.all_cons] at h; exact absurd (Bool.and_eq_true_iff.mp h).1 Bool.false_ne_true
  | .bool _ :: r, h => by rw [List.all_cons] at h; exact absurd (Bool.and_eq_true_iff.mp h).1 Bool.false_ne_true
  | .int _ :: r, h => by rw [List.all_cons] at h; exact absurd (Bool.and_eq_true_iff.mp h).1 Bool.false_ne_true
  | .list _ :: r, h => by rw [List.all_cons] at h; exact absurd (Bool.and_eq_true_iff.mp h).1 Bool.false_ne_true
  | .tuple _ :: r, h => by rw [List.all_cons] at h; exact absurd (Bool.and_eq_true_iff.mp h).1 Bool.false_ne_true
  | .dict _ :: r, h => by rw [List.all_cons] at h; exact absurd (Bool.and_eq_true_iff.mp h).1 Bool.false_ne_true
theorem dpAll_vals {K : PySem.W.Frag} {H : Hp} : ∀ {zs : List Str} {xs : List V}, DpAll K H xs (zs.map PyData.str) → xs = zs.map V.str
  | [], _, h => by cases h; rfl
  | z :: zs, _, h => by
    cases h with
    | cons h1 h2 =>
      cases h1
      rw [dpAll_vals h2]
      rfl
section
variable {P : Program} {w : World} {K : PySem.W.Frag} {mg : Str → Option Value} {base : Heap} {AA : Ads}
theorem ok_are_names (T : Txt K mg AA) : FnOk P w K mg base CX0 2 AA.a_are_names AA.d_are_names ["value", "most"] (spAre K) := by
  have G_is_name : FnOk P w K mg base CX0 1 AA.a_is_name AA.d_is_name ["value"] (spIsName K) := ok_is_name T
  refine T.F_are_names.ok sc_are_names (fun vs H Q E h => ?_) (fun cdv A outer s H vs Q E hr h => ?_)
  · obtain ⟨v, d, m, rfl, _⟩ := h
    rfl
  · obtain ⟨v, d, m, rfl, hv, hs, k⟩ := h
    refine ⟨_, (pss_cons (ps_if (pw_or (pt_not (pt_val (pe_callB call_isi (by rfl) T.n_isinstance (by decide +kernel) (pa_cons (pv 0) (pa_cons (pe_bltn (v := .ty "tuple") (u := .type "tuple") (by rfl) T.n_tuple (by decide +kernel) rfl) pa_nil))))) (pw_or (pt_not (pt_chain op_le op_le pe_int (pe_callB call_len_seq (by rfl) T.n_len (by decide +kernel) (pa_cons (pv 0) pa_nil)) (pv 1))) (pw_or1 (pt_not (pt_val (pe_callB (cr_all rfl) (by rfl) T.n_all (by decide +kernel) (pa_cons (pe_lc (own := [("name", 2)]) (g := gName 2) rfl sc_are_names.nd  (pi_tup (pv 0)) (blkOk_by (N := N_are_names) (sc := defScope s_are_names) (by decide +kernel)) (fun _ _ _ _ _ => (pg_name (i := 2) sc_are_names.nd rfl (Or.inl rfl))) (fun _ _ _ _ _ => pts_nil) (fun _ _ _ _ _ => by exact (pe_call G_is_name (hr.mono (by decide)) (by rfl) T.g_is_name T.k_is_name T.b_is_name .nil pass0 (pa_cons (pv 2) pa_nil)))) pa_nil))))))).pt (pss_one (ps_ret pe_bl)) pss_nil)
    (pss_one (ps_ret (pe_cmpR op_eq (pe_callB call_lenD (by rfl) T.n_len (by decide +kernel) (pa_cons (pe_dc (own := [("name", 2)]) (g := gName 2) rfl sc_are_names.nd  (pi_tup (pv 0)) (blkOk_by (N := N_are_names) (sc := defScope s_are_names) (by decide +kernel)) (fun _ _ _ _ _ => (pg_name (i := 2) sc_are_names.nd rfl (Or.inl rfl))) (fun _ _ _ _ _ => pts_nil) (fun _ _ _ _ _ => by exact (pv 2)) (fun _ _ _ _ _ => by exact pe_bl)) pa_nil)) (pe_callB call_len_seq (by rfl) T.n_len (by decide +kernel) (pa_cons (pv 0) pa_nil)) (nomark _))))), ?_⟩
    refine ⟨_, rfl, _, _, _, _, _, rfl, .ty "tuple", tyX_of hv, isi_kit "tuple" _ (kit_tuple d), _, rfl, ?_⟩
    by_cases c : tyN d = "tuple"
    · refine if_f (by rw [decide_eq_true c]; rfl) ?_
      obtain ⟨a, xs, ds, rfl, rfl, hsq, hda⟩ := dv_tuple hv c
      obtain ⟨hlen, hsh⟩ := hs ds rfl
      have lx := dpAll_len hda
      have ln : xs.length ≤ 1000 := by rw [lx]; exact hlen
      refine ⟨_, rfl, a, xs, rfl, .inr hsq, _, _, rfl, rfl, _, rfl, ?_⟩
      rw [lx]
      by_cases c1 : (1 : Int) ≤ (ds.length : Int)
      · refine if_t (decide_eq_true c1) ⟨_, rfl, _, _, rfl, rfl, _, rfl, ?_⟩
        by_cases c2 : (ds.length : Int) ≤ m
        · refine if_f (by rw [decide_eq_true c2]; rfl) ?_
          refine ⟨_, rfl, a, rfl, ⟨_, hsq⟩, fun D hD => lcR walk_tup hD xs (ds.map fun d => (true, .bl (isNameD d))) (by rw [List.length_map, lx]) (len_lt ln) (fun H1 e => ex_t e hsq) (fun _ _ _ _ z => z) (fun v => rfl) ?_ ?_ ?_⟩
          · intro k x b y H1 _ hr _
            rw [List.getElem?_map] at hr
            cases e : ds[k]? with
            | none => rw [e] at hr; cases hr
            | some d => rw [e] at hr; cases hr; exact ev_true
          · intro k x y H1 hx hr e1
            obtain ⟨d, hd, hp⟩ := dpAll_get hda hx
            rw [List.getElem?_map, hd] at hr
            cases hr
            exact ev_call (ea_cons (ev_var rfl) ea_nil) fun H2 e2 Q q E => ⟨x, d, rfl, dv_ex (e1.trans e2) (.inl hp), hsh d (List.mem_of_getElem? hd), fun H3 e3 => q H3 e3⟩
          · intro H1 e1 h1
            rw [lcR_all] at h1
            refine ⟨D, ds.map isNameD, rfl, SqL.of (by rw [h1, List.map_map]; rfl), _, rfl, ?_⟩
            rw [List.all_map]
            by_cases c3 : ds.all isNameD = true
            · refine if_f (by rw [show ds.all (id ∘ isNameD) = true from c3]; rfl) ?_
              have hstr := all_strs c3
              have hxs : xs = (strsOf ds).map V.str := dpAll_vals (by rw [← hstr]; exact hda)
              have hxk : xs = ((strsOf ds).map fun z => (Sum.inr z : Key)).map kV := by rw [hxs, List.map_map]; rfl
              have hsq1 := ex_t e1 hsq
              refine ⟨_, rfl, a, rfl, ⟨_, hsq1⟩, fun D2 hD2 => dcS hD2 ((strsOf ds).map fun z => (Sum.inr z : Key)) (.bl true) ?_ (by rw [← hxk]; exact hsq1) (fun v => rfl) (fun x H2 _ _ => ev_var rfl) (fun x H2 _ _ => ev_c) ?_⟩
              · have e := congrArg List.length hxk
                rw [List.length_map] at e
                rw [← e]
                exact len_lt ln
              · intro H2 e2 h2
                refine ⟨D2, _, rfl, h2, _, rfl, a, xs, rfl, .inr (ex_t e2 hsq1), rfl, ?_⟩
                have q := k H2 (e1.trans e2)
                have e3 : areNamesD (.tuple ds) m = decide (V.int ((((uniq ((strsOf ds).map fun z => (Sum.inr z : Key))).map fun k => (k, V.bl true)).length : Nat) : Int) = V.int ((xs.length : Nat) : Int)) := by
                  show (((decide _ && decide _) && _) && _) = _
                  rw [decide_eq_true c1, decide_eq_true c2, c3, List.length_map, lx]
                  show decide _ = _
                  refine decide_eq_decide.mpr ⟨fun z => by rw [z], fun z => ?_⟩
                  have z1 := V.int.inj z
                  omega
                rw [e3] at q
                exact q
            · have c3' : ds.all isNameD = false := Bool.eq_false_iff.mpr c3
              refine if_t (by rw [show ds.all (id ∘ isNameD) = false from c3']; rfl) ?_
              have q := k H1 e1
              have e3 : areNamesD (.tuple ds) m = false := by
                show (((decide _ && decide _) && _) && _) = _
                rw [c3']
                simp
              rw [e3] at q
              exact q
        · refine if_t (by rw [decide_eq_false c2]; rfl) ?_
          have q := k H (Ex.refl H)
          have e3 : areNamesD (.tuple ds) m = false := by
            show (((decide _ && decide _) && _) && _) = _
            rw [decide_eq_false c2]
            simp
          rw [e3] at q
          exact q
      · refine if_f (decide_eq_false c1) ⟨_, rfl, if_t rfl ?_⟩
        have q := k H (Ex.refl H)
        have e3 : areNamesD (.tuple ds) m = false := by
          show (((decide _ && decide _) && _) && _) = _
          rw [decide_eq_false c1]
          simp
        rw [e3] at q
        exact q
    · refine if_t (by rw [decide_eq_false c]; rfl) ?_
      have q := k H (Ex.refl H)
      rw [areNamesD_no c] at q
      exact if_t rfl q
def ones (n : Nat) : List PyData := List.replicate n (.int 1)
theorem dp_ones {H : Hp} : ∀ n : Nat, DpAll K H (List.replicate n (.int 1)) (ones n)
  | 0 => .nil
  | n + 1 => .cons (.int 1) (dp_ones n)
theorem lay_ones : ∀ n : Nat, PyData.canLayAll0 (ones n) = true ∧ PyData.depthAll (ones n) = 0
  | 0 => ⟨rfl, rfl⟩
  | n + 1 => by
    obtain ⟨h1, h2⟩ := lay_ones n
    refine ⟨?_, ?_⟩
    · show (true && PyData.canLayAll0 (ones n)) = true
      rw [h1]
      rfl
    · show max 0 (PyData.depthAll (ones n)) = 0
      rw [h2]
      rfl
theorem shaped_ones (n : Nat) : SeqAt.shaped (.list (ones n)) = true := by
  obtain ⟨h1, h2⟩ := lay_ones n
  show (PyData.canLayAll0 _ && decide (PyData.depthAll _ + 1 ≤ 64)) = true
  rw [h1, h2]
  rfl
theorem bad_ones (p : PyData → Bool) : ∀ ds : List PyData, ((ds.map fun d => (p d, V.int 1)).filter (·.1)).map (·.2) = List.replicate (ds.countP p) (V.int 1)
  | [] => rfl
  | d :: ds => by
    rw [List.map_cons, List.filter_cons, List.countP_cons]
    cases hp : p d with
    | true =>
      show (_ :: ((ds.map fun d => (p d, V.int 1)).filter (·.1))).map (·.2) = _
      rw [List.map_cons, bad_ones p ds]
      rfl
    | false =>
      show ((ds.map fun d => (p d, V.int 1)).filter (·.1)).map (·.2) = _
      rw [bad_ones p ds]
      rfl
theorem bad_none : ∀ ds : List PyData, (ones (ds.countP fun d => !isNameD d)).isEmpty = ds.all isNameD
  | [] => rfl
  | d :: ds => by
    rw [List.countP_cons, List.all_cons]
    cases hd : isNameD d with
    | true =>
      show (ones (ds.countP _ + 0)).isEmpty = _
      rw [Nat.add_zero, bad_none ds]
      rfl
    | false => rfl
end
end K23
namespace K23
open PySem L2 Kd Evl Ks
def strsD : PyData → List Str
  | .tuple ds => strsOf ds
  | _ => []
/-- a sheet stands at p -/
structure SheetAt (C : Addr) (H : Hp) (p : Addr) (ks ws : List Str) : Prop where
  at_ : ∃ dx fs pk pw, H p = some (.ins C dx fs) ∧ fs.lookup ("own_kinds" : Str) = some (.ref pk) ∧ fs.lookup ("own_words" : Str) = some (.ref pw) ∧ H pk = some (.tup (ks.map V.str)) ∧ H pw = some (.tup (ws.map V.str))
theorem SheetAt.ex {C : Addr} {H H' : Hp} {p : Addr} {ks ws : List Str} (h : SheetAt C H p ks ws) (e : Ex H H') : SheetAt C H' p ks ws := by
  obtain ⟨dx, fs, pk, pw, h1, h2, h3, h4, h5⟩ := h.at_
  exact ⟨dx, fs, pk, pw, e _ _ h1, h2, h3, e _ _ h4, e _ _ h5⟩
def ExBut (p : Addr) (H H' : Hp) : Prop := ∀ b o, H b = some o → b ≠ p → H' b = some o
def spInit (K : PySem.W.Frag) (AA : Ads) : Sp := fun vs H Q E => ∃ (p dx : Addr) (k w : V) (dk dw : PyData), vs = [.ref p, k, w] ∧ H p = some (.ins AA.C_Sheet dx []) ∧ Dv K H k dk ∧ Dv K H w dw ∧ fewD dk ∧ fewD dw ∧
  ((areNamesD dk 3 && areNamesD dw 2) = true → ∀ ks ws H', IsSort (strsD dk) ks → IsSort (strsD dw) ws → ExBut p H H' → SheetAt AA.C_Sheet H' p ks ws → Q .non H') ∧
  ((areNamesD dk 3 && areNamesD dw 2) = false → ∀ H', Ex H H' → E (.ref AA.C_InvalidSheet) none H')
theorem kw_ne : ¬ (("own_kinds" : Str) = "own_words") := by decide +kernel
theorem names_tup {K : PySem.W.Frag} {H : Hp} {v : V} {d : PyData} {m : Int} (hv : Dv K H v d) (h : areNamesD d m = true) : ∃ a, v = .ref a ∧ SqT K H a ((strsD d).map V.str) ∧ d = .tuple ((strsD d).map PyData.str) ∧ ((strsD d).length : Int) ≤ m ∧ 1 ≤ (strsD d).length ∧ (strsD d).Nodup ∧ ∀ z ∈ strsD d, isName z = true := by
  have c : tyN d = "tuple" := by
    cases d <;> first | rfl | (exact absurd h Bool.false_ne_true)
  obtain ⟨a, xs, ds, rfl, rfl, hs, ha⟩ := dv_tuple hv c
  have h' : (((decide (1 ≤ (ds.length : Int)) && decide ((ds.length : Int) ≤ m)) && ds.all isNameD) && decide ((uniq ((strsOf ds).map fun z => (Sum.inr z : Key))).length = ds.length)) = true := h
  obtain ⟨h1, h2⟩ := Bool.and_eq_true_iff.mp h'
  obtain ⟨h3, h4⟩ := Bool.and_eq_true_iff.mp h1
  obtain ⟨h5, h6⟩ := Bool.and_eq_true_iff.mp h3
  have e := all_strs h4
  have el : ds.length = (strsOf ds).length := by rw [congrArg List.length e, List.length_map]
  have h2' := of_decide_eq_true h2
  have h5' := of_decide_eq_true h5
  have h6' := of_decide_eq_true h6
  refine ⟨a, rfl, ?_, congrArg PyData.tuple e, ?_, ?_, ?_, ?_⟩
  · show SqT K H a ((strsOf ds).map V.str)
    rw [← dpAll_vals (by rw [← e]; exact ha)]
    exact hs
  · show ((strsOf ds).length : Int) ≤ m
    omega
  · show 1 ≤ (strsOf ds).length
    omega
  · have hn : ((strsOf ds).map fun z => (Sum.inr z : Key)).Nodup := (len_eq_uniq _).mp (by rw [h2', List.length_map]; exact el)
    show (strsOf ds).Nodup
    exact (List.pairwise_map.mp hn).imp fun q z => q (by rw [z])
  · intro z hz
    have hz' : z ∈ strsOf ds := hz
    have hm : PyData.str z ∈ ds := by rw [e]; exact List.mem_map.mpr ⟨z, hz', rfl⟩
    exact List.all_eq_true.mp h4 _ hm
theorem sqT_but {K : PySem.W.Frag} {H H' : Hp} {p a C dx : Addr} {fs : List (Str × V)} {xs : List V} (h : SqT K H a xs) (hp : H p = some (.ins C dx fs)) (e : ExBut p H H') : SqT K H' a xs := by
  rcases h with (h | ⟨o, h⟩) | h
  · exact .inl (.inl (e _ _ h (ne_of h hp (by intro q; cases q))))
  · exact .inl (.inr ⟨o, e _ _ h (ne_of h hp (by intro q; cases q))⟩)
  · exact .inr h
section
variable {P : Program} {w : World} {K : PySem.W.Frag} {mg : Str → Option Value} {base : Heap} {AA : Ads}
theorem ok_Sheet_init (T : Txt K mg AA) : FnOk P w K mg base (L2.CX P w) 3 AA.a_Sheet_init AA.d_Sheet_init ["self", "kinds", "words"] (spInit K AA) := by
  have G_are_names : FnOk P w K mg base CX0 2 AA.a_are_names AA.d_are_names ["value", "most"] (spAre K) := ok_are_names T
  refine T.F_Sheet_init.okX sc_Sheet_init (fun vs H Q E h => ?_) (fun cdv A outer s H vs Q E hr h => ?_)
  · obtain ⟨p, dx, k, w, dk, dw, rfl, _⟩ := h
    rfl
  · obtain ⟨p, dx, k, w, dk, dw, rfl, hp, hk, hw, fk, fw, good, bad⟩ := h
    refine ⟨_, (pss_cons (ps_if (pw_or (pt_not (pt_val (pe_call G_are_names (hr.mono (by decide)) (by rfl) T.g_are_names T.k_are_names T.b_are_names .nil pass0 (pa_cons (pv 1) (pa_cons (pe_glob (by rfl) T.c_MAX_KINDS T.r_MAX_KINDS) pa_nil))))) (pw_or1 (pt_not (pt_val (pe_call G_are_names (hr.mono (by decide)) (by rfl) T.g_are_names T.k_are_names T.b_are_names .nil pass0 (pa_cons (pv 2) (pa_cons (pe_glob (by rfl) T.c_MAX_WORDS T.r_MAX_WORDS) pa_nil))))))).pt (pss_one (ps_raise rfl (takes_of rfl rfl rfl rfl) (pmk_own PySem.F.excBase_ValueError T.x_InvalidSheet T.g_InvalidSheet T.k_InvalidSheet (raises_own T.s_InvalidSheet T.t_InvalidSheet) (by rfl)))) pss_nil)
    (pss_cons (ps_fld (pv 0) (pe_callTy call_tuple_of (by rfl) T.n_tuple (by decide +kernel) (pa_cons (pe_callB cr_sortU (by rfl) T.n_sorted (by decide +kernel) (pa_cons (pv 1) pa_nil)) pa_nil)) rfl)
    (pss_one (ps_fld (pv 0) (pe_callTy call_tuple_of (by rfl) T.n_tuple (by decide +kernel) (pa_cons (pe_callB cr_sortU (by rfl) T.n_sorted (by decide +kernel) (pa_cons (pv 2) pa_nil)) pa_nil)) rfl)))), ?_⟩
    refine ⟨_, rfl, k, dk, 3, rfl, hk, fk, fun H1 e1 => ⟨_, rfl, ?_⟩⟩
    cases ck : areNamesD dk 3 with
    | false =>
      refine if_t rfl (if_t rfl ?_)
      exact bad (by rw [ck]; rfl) H1 e1
    | true =>
      refine if_f rfl ?_
      refine ⟨_, rfl, w, dw, 2, rfl, dv_ex e1 hw, fw, fun H2 e2 => ⟨_, rfl, ?_⟩⟩
      have e02 := e1.trans e2
      cases cw : areNamesD dw 2 with
      | false =>
        refine if_t rfl ?_
        exact bad (by rw [ck, cw]; rfl) H2 e02
      | true =>
        refine if_f rfl ?_
        obtain ⟨ak, rfl, sk, _, lk, _⟩ := names_tup (dv_ex e02 hk) ck
        obtain ⟨aw, rfl, sw, _, lw, _⟩ := names_tup (dv_ex e02 hw) cw
        have hp2 := e02 _ _ hp
        refine ⟨_, rfl, ak, _, rfl, .inl sk, by omega, fun ks q1 pm1 so1 hq1 => ⟨q1, _, rfl, .inl ⟨SqL.of upd_same, fun t1 ht1 => ?_⟩⟩⟩
        have x1 : Ex H2 (upd (upd H2 q1 (.lst (ks.map V.str))) t1 (.tup (ks.map V.str))) := (Ex.new hq1).trans (Ex.new ht1)
        have hp3 := x1 _ _ hp2
        refine ⟨_, rfl, p, AA.C_Sheet, dx, [], rfl, hp3, T.cl_Sheet, T.n_Sheet_own_kinds, (by show 0 < 1000; decide), ?_⟩
        have npt : t1 ≠ p := (ne_of_none hp2 (fresh_back (Ex.new hq1) ht1)).symm
        have b1 : ExBut p H2 (upd (upd (upd H2 q1 (.lst (ks.map V.str))) t1 (.tup (ks.map V.str))) p (.ins AA.C_Sheet dx (putF "own_kinds" (.ref t1) []))) := fun b o h hb => by rw [upd_ne hb]; exact x1 _ _ h
        refine ⟨_, rfl, aw, _, rfl, .inl (sqT_but sw hp2 b1), by omega, fun ws q2 pm2 so2 hq2 => ⟨q2, _, rfl, .inl ⟨SqL.of upd_same, fun t2 ht2 => ?_⟩⟩⟩
        generalize hH3 : upd (upd (upd H2 q1 (.lst (ks.map V.str))) t1 (.tup (ks.map V.str))) p (.ins AA.C_Sheet dx (putF "own_kinds" (.ref t1) [])) = H3 at *
        have hp4 : H3 p = some (.ins AA.C_Sheet dx (putF "own_kinds" (.ref t1) [])) := by rw [← hH3]; exact upd_same
        have ht1' : H3 t1 = some (.tup (ks.map V.str)) := by rw [← hH3, upd_ne npt]; exact upd_same
        have x2 : Ex H3 (upd (upd H3 q2 (.lst (ws.map V.str))) t2 (.tup (ws.map V.str))) := (Ex.new hq2).trans (Ex.new ht2)
        have npt2 : t2 ≠ p := (ne_of_none hp4 (fresh_back (Ex.new hq2) ht2)).symm
        refine ⟨_, rfl, p, AA.C_Sheet, dx, _, rfl, x2 _ _ hp4, T.cl_Sheet, T.n_Sheet_own_words, (by show 1 < 1000; decide), ?_⟩
        refine good (by rw [ck, cw]; rfl) ks ws _ ⟨pm1, so1⟩ ⟨pm2, so2⟩ (fun b o h hb => by rw [upd_ne hb]; exact x2 _ _ (b1 _ _ (e02 _ _ h) hb)) ⟨dx, _, t1, t2, upd_same, ?_, ?_, ?_, ?_⟩
        · rw [lookup_putF, if_neg kw_ne, lookup_putF, if_pos rfl]
        · rw [lookup_putF, if_pos rfl]
        · rw [upd_ne npt]; exact x2 _ _ ht1'
        · rw [upd_ne npt2]; exact upd_same
end
end K23
namespace K23
open PySem L2 Kd Evl Ks
section
variable {P : Program} {w : World} {K : PySem.W.Frag} {mg : Str → Option Value} {base : Heap} {AA : Ads}
theorem eqv_strs : ∀ (xs ys : List Str), PyData.eqvAll (xs.map PyData.str) (ys.map PyData.str) = decide (xs = ys)
  | [], [] => rfl
  | [], _ :: _ => rfl
  | _ :: _, [] => rfl
  | x :: xs, y :: ys => by
    show (PyData.eqv (.str x) (.str y) && PyData.eqvAll (xs.map PyData.str) (ys.map PyData.str)) = _
    rw [eqv_strs xs ys]
    show ((x == y) && _) = _
    by_cases h1 : x = y
    · subst h1
      rw [beq_self_eq_true, Bool.true_and]
      exact decide_eq_decide.mpr ⟨fun e => by rw [e], fun e => (List.cons.inj e).2⟩
    · rw [beq_eq_false_iff_ne.mpr h1, Bool.false_and]
      exact (decide_eq_false fun e => h1 (List.cons.inj e).1).symm
/-- texts that may be compared -/
def OkS (zs : List Str) : Prop := ∀ z ∈ zs, PyData.strOk z = true
/-- what the second one of == may be -/
def Other (K : PySem.W.Frag) (C : Addr) (H : Hp) (y : V) (r : Option (List Str × List Str)) : Prop :=
  (∃ d, Dv K H y d ∧ r = none) ∨ ∃ b ks ws, y = .ref b ∧ SheetAt C H b ks ws ∧ OkS ks ∧ OkS ws ∧ r = some (ks, ws)
def spEqS (K : PySem.W.Frag) (C : Addr) : Sp := fun vs H Q _ => ∃ (a : Addr) (y : V) (ks ws : List Str) (r : Option (List Str × List Str)), vs = [.ref a, y] ∧ SheetAt C H a ks ws ∧ OkS ks ∧ OkS ws ∧ Other K C H y r ∧ Q (.bl (decide (r = some (ks, ws)))) H
theorem ok_Sheet_eq (T : Txt K mg AA) : FnOk P w K mg base CX0 1 AA.a_Sheet_eq AA.d_Sheet_eq ["self", "other"] (spEqS K AA.C_Sheet) := by
  refine T.F_Sheet_eq.ok sc_Sheet_eq (fun vs H Q E h => ?_) (fun cdv A outer s H vs Q E hr h => ?_)
  · obtain ⟨a, y, ks, ws, r, rfl, _⟩ := h
    rfl
  · obtain ⟨a, y, ks, ws, r, rfl, ha, ok1, ok2, ho, q⟩ := h
    have hu : _ + 64 < cLine := hu64 hr
    refine ⟨_, (pss_cons (ps_if (pt_not (pt_val (pe_callB call_isi (by rfl) T.n_isinstance (by decide +kernel) (pa_cons (pv 1) (pa_cons (pe_glob (v := .ref AA.C_Sheet) (by rfl) T.g_Sheet rfl) pa_nil))))) (pss_one (ps_ret pe_bl)) pss_nil)
    (pss_one (ps_ret (pe_and (pe_cmpR (op_eqD hu) (pe_fld (pv 0) rfl) (pe_fld (pv 1) rfl) (nomark _)) (pe_one (pe_cmpR (op_eqD hu) (pe_fld (pv 0) rfl) (pe_fld (pv 1) rfl) (nomark _))))))), ?_⟩
    rcases ho with ⟨d, hd, rfl⟩ | ⟨b, ks', ws', rfl, hb, ok3, ok4, rfl⟩
    · refine ⟨_, rfl, _, _, _, _, _, rfl, .own _, tyX_of hd, T.I_Sheet.no d, _, rfl, if_t rfl ?_⟩
      rw [decide_eq_false (by intro z; cases z)] at q
      exact q
    · obtain ⟨dx, fs, pk, pw, a1, a2, a3, a4, a5⟩ := ha.at_
      obtain ⟨dy, gs, qk, qw, b1, b2, b3, b4, b5⟩ := hb.at_
      refine ⟨_, rfl, _, _, _, _, _, rfl, .own _, T.I_Sheet.ty b1, kit_self, _, rfl, if_f rfl ?_⟩
      refine ⟨_, rfl, a, _, dx, fs, _, rfl, a1, T.cl_Sheet, T.n_Sheet_own_kinds, a2, _, rfl, b, _, dy, gs, _, rfl, b1, T.cl_Sheet, T.n_Sheet_own_kinds, b2, _, _, .tup (SqT.of a4) (dpAll_strs ks), .tup (SqT.of b4) (dpAll_strs ks'), shaped_ts ok1, shaped_ts ok3, _, rfl, ?_⟩
      have e1 : PyData.eqv (.tuple (ks.map PyData.str)) (.tuple (ks'.map PyData.str)) = decide (ks = ks') := eqv_strs ks ks'
      have e2 : PyData.eqv (.tuple (ws.map PyData.str)) (.tuple (ws'.map PyData.str)) = decide (ws = ws') := eqv_strs ws ws'
      rw [e1]
      by_cases c : ks = ks'
      · refine if_t (decide_eq_true c) ?_
        refine ⟨_, rfl, a, _, dx, fs, _, rfl, a1, T.cl_Sheet, T.n_Sheet_own_words, a3, _, rfl, b, _, dy, gs, _, rfl, b1, T.cl_Sheet, T.n_Sheet_own_words, b3, _, _, .tup (SqT.of a5) (dpAll_strs ws), .tup (SqT.of b5) (dpAll_strs ws'), shaped_ts ok2, shaped_ts ok4, ?_⟩
        rw [e2]
        have e3 : decide (some (ks', ws') = some (ks, ws)) = decide (ws = ws') := decide_eq_decide.mpr ⟨fun z => (Prod.mk.inj (Option.some.inj z)).2.symm, fun z => by rw [c, z]⟩
        rw [e3] at q
        exact q
      · refine if_f (decide_eq_false c) ?_
        rw [decide_eq_false (fun z => c (Prod.mk.inj (Option.some.inj z)).1.symm)] at q
        exact q
/-- how many, as a text -/
def numS (n : Nat) : Str := Str.ofString (toString (n : Int))
theorem numS_len {n : Nat} (h : n ≤ 3) : (numS n).length = 1 := by
  match n, h with
  | 0, _ => decide +kernel
  | 1, _ => decide +kernel
  | 2, _ => decide +kernel
  | 3, _ => decide +kernel
theorem log_small {n : Nat} (h : n ≤ 3) : ((n : Int)).natAbs.log2 < 1920 := by
  match n, h with
  | 0, _ => decide +kernel
  | 1, _ => decide +kernel
  | 2, _ => decide +kernel
  | 3, _ => decide +kernel
def sheetStr (n m : Nat) : Str := ((((Str.empty ++ ("sheet of " : Str)) ++ numS n) ++ (" kinds, " : Str)) ++ numS m) ++ (" words" : Str)
theorem len_app (x y : Str) : (x ++ y).length = x.length + y.length := Str.length_append x y
def spStrS (C : Addr) : Sp := fun vs H Q _ => ∃ (a : Addr) (ks ws : List Str), vs = [.ref a] ∧ SheetAt C H a ks ws ∧ ks.length ≤ 3 ∧ ws.length ≤ 3 ∧ Q (.str (sheetStr ks.length ws.length)) H
end
end K23
namespace K23
open PySem L2 Kd Evl Ks Kt Ky
open PySem.W (Datum DatumOrd T3)
abbrev Tie := T3 Str Str Str
abbrev Posts := List (Str × Option Str)
def ov : Option Str → V
  | none => .non
  | some z => .str z
theorem ov_pl (o : Option Str) : plV (ov o) = true := by cases o <;> rfl
def kvP (ps : Posts) : List (Key × V) := ps.map fun p => (.inr p.1, ov p.2)
theorem kvP_len (ps : Posts) : (kvP ps).length = ps.length := List.length_map ..
theorem kvP_pl (ps : Posts) : ∀ p ∈ kvP ps, plV p.2 = true := fun p hp => by
  obtain ⟨q, _, rfl⟩ := List.mem_map.mp hp
  exact ov_pl q.2
def namesP (ps : Posts) : List Str := ps.map (·.1)
/-- what stands under a name -/
def look (ps : Posts) (n : Str) : Option (Option Str) := (ps.find? fun p => decide (p.1 = n)).map (·.2)
theorem val_kvP (n : Str) : ∀ ps : Posts, valV (kvP ps) (.inr n) = (look ps n).map ov
  | [] => rfl
  | p :: ps => by
    have ih := val_kvP n ps
    unfold kvP at ih ⊢
    rw [List.map_cons]
    by_cases c : p.1 = n
    · rw [valV_pos (by rw [c])]
      unfold look
      rw [List.find?_cons, decide_eq_true c]
      rfl
    · rw [valV_neg (fun z => c (Sum.inr.inj z)), ih]
      unfold look
      rw [List.find?_cons, decide_eq_false c]
theorem look_some (ps : Posts) (n : Str) : (look ps n).isSome = decide (n ∈ namesP ps) := by
  unfold look namesP
  rw [Option.isSome_map, Bool.eq_iff_iff, List.find?_isSome, decide_eq_true_iff, List.mem_map]
  constructor
  · rintro ⟨p, h1, h2⟩
    exact ⟨p, h1, of_decide_eq_true h2⟩
  · rintro ⟨p, h1, h2⟩
    exact ⟨p, h1, decide_eq_true h2⟩
def tieK (t : Tie) : List Key := [.inr t.a, .inr t.b, .inr t.c]
theorem tieK_inj (a b : Tie) (h : tieK a = tieK b) : a = b := by
  obtain ⟨x, y, z⟩ := a
  obtain ⟨u, v, w⟩ := b
  cases h
  rfl
/-- a tie as a tuple of its own -/
def TieV (H : Hp) (v : V) (t : Tie) : Prop := ∃ b, v = .ref b ∧ H b = some (.tup ((tieK t).map kV))
theorem TieV.ex {H H' : Hp} {v : V} {t : Tie} (h : TieV H v t) (e : Ex H H') : TieV H' v t := by
  obtain ⟨b, rfl, hb⟩ := h
  exact ⟨b, rfl, e _ _ hb⟩
theorem TieV.hd {K : PySem.W.Frag} {H : Hp} {v : V} {t : Tie} (h : TieV H v t) : Hd K H v t := by
  obtain ⟨b, rfl, hb⟩ := h
  exact hd_t3 (SqT.of hb) (hd_str _) (hd_str _) (hd_str _)
theorem ties_hd {K : PySem.W.Frag} {H : Hp} {vs : List V} {ts : List Tie} (h : Paired (TieV H) vs ts) : HdL K H vs ts := hdL_of (paired_imp (fun _ _ z => z.hd) h)
theorem ties_ex {H H' : Hp} {vs : List V} {ts : List Tie} (h : Paired (TieV H) vs ts) (e : Ex H H') : Paired (TieV H') vs ts := paired_imp (fun _ _ z => z.ex e) h
def kindOk (ks : List Str) : Option Str → Bool
  | none => true
  | some z => decide (z ∈ ks)
def postsOk (ks : List Str) (ps : Posts) : Bool := !decide ((ps.length : Int) > 12) && (ps.all (fun p => isName p.1) && ps.all fun p => kindOk ks p.2)
def tieOk (ws : List Str) (ps : Posts) (t : Tie) : Bool := decide (t.b ∈ ws) && ((look ps t.a).isSome && (look ps t.c).isSome)
section
variable {P : Program} {w : World} {K : PySem.W.Frag} {mg : Str → Option Value} {base : Heap} {AA : Ads}
theorem SheetAt.lock {C : Addr} {H : Hp} {p d : Addr} {o : Obj} {kvs : List (Key × V)} {ks ws : List Str} (h : SheetAt C H p ks ws) (hd : H d = some (.dK kvs)) : SheetAt C (upd H d (.frz o (.dK kvs))) p ks ws := by
  obtain ⟨dx, fs, pk, pw, a1, a2, a3, a4, a5⟩ := h.at_
  exact ⟨dx, fs, pk, pw, lock_at hd a1 (fun _ z => by cases z), a2, a3, lock_at hd a4 (fun _ z => by cases z), lock_at hd a5 (fun _ z => by cases z)⟩
def spReq (AA : Ads) : Sp := fun vs H Q _ => ∃ sh ks ws, vs = [.ref sh] ∧ SheetAt AA.C_Sheet H sh ks ws ∧ Q .non H
theorem ok_require_sheet (T : Txt K mg AA) : FnOk P w K mg base CX0 1 AA.a_require_sheet AA.d_require_sheet ["sheet"] (spReq AA) := by
  refine T.F_require_sheet.ok sc_require_sheet (fun vs H Q E h => ?_) (fun cdv A outer s H vs Q E hr h => ?_)
  · obtain ⟨sh, ks, ws, rfl, _⟩ := h
    rfl
  · obtain ⟨sh, ks, ws, rfl, hs, q⟩ := h
    obtain ⟨dx, fs, pk, pw, a1, _⟩ := hs.at_
    refine ⟨_, (pss_one (ps_if (pt_not (pt_val (pe_callB call_isi (by rfl) T.n_isinstance (by decide +kernel) (pa_cons (pv 0) (pa_cons (pe_glob (v := .ref AA.C_Sheet) (by rfl) T.g_Sheet rfl) pa_nil))))) (pss_one ps_never) pss_nil)), ?_⟩
    exact ⟨_, rfl, _, _, _, _, _, rfl, .own _, T.I_Sheet.ty a1, kit_self, _, rfl, if_f rfl q⟩
def spKind (AA : Ads) : Sp := fun vs H Q _ => ∃ sh ks ws z, vs = [.ref sh, .str z] ∧ SheetAt AA.C_Sheet H sh ks ws ∧ Q (.bl (decide (z ∈ ks))) H
theorem ok_is_kind (T : Txt K mg AA) : FnOk P w K mg base CX0 1 AA.a_is_kind AA.d_is_kind ["sheet", "value"] (spKind AA) := by
  refine T.F_is_kind.ok sc_is_kind (fun vs H Q E h => ?_) (fun cdv A outer s H vs Q E hr h => ?_)
  · obtain ⟨sh, ks, ws, z, rfl, _⟩ := h
    rfl
  · obtain ⟨sh, ks, ws, z, rfl, hs, q⟩ := h
    have hu : _ + 64 < cLine := hu64 hr
    obtain ⟨dx, fs, pk, pw, a1, a2, a3, a4, a5⟩ := hs.at_
    refine ⟨_, (pss_one (ps_ret (pe_and (pe_callB call_isi (by rfl) T.n_isinstance (by decide +kernel) (pa_cons (pv 1) (pa_cons (pe_bltn (v := .ty "str") (u := .type "str") (by rfl) T.n_str (by decide +kernel) rfl) pa_nil))) (pe_one (pe_cmpR (op_inP (K := K) rfl hu) (pv 1) (pe_fld (pv 0) rfl) rfl))))), ?_⟩
    refine ⟨_, rfl, _, _, _, _, _, rfl, .ty "str", .base (.str z), kit_ty (by decide +kernel : kitB "str" "str" = some true), _, rfl, if_t rfl ?_⟩
    exact ⟨_, rfl, _, rfl, sh, _, dx, fs, _, rfl, a1, T.cl_Sheet, T.n_Sheet_own_kinds, a2, inTP (hd_str z) (SqT.of a4) (hdL_strs ks) q⟩
def spTie (AA : Ads) : Sp := fun vs H Q _ => ∃ sh ks ws v t, vs = [.ref sh, v] ∧ SheetAt AA.C_Sheet H sh ks ws ∧ TieV H v t ∧ Q (.bl (decide (t.b ∈ ws))) H
theorem ok_is_tie (T : Txt K mg AA) : FnOk P w K mg base CX0 1 AA.a_is_tie AA.d_is_tie ["sheet", "value"] (spTie AA) := by
  refine T.F_is_tie.ok sc_is_tie (fun vs H Q E h => ?_) (fun cdv A outer s H vs Q E hr h => ?_)
  · obtain ⟨sh, ks, ws, v, t, rfl, _⟩ := h
    rfl
  · obtain ⟨sh, ks, ws, v, t, rfl, hs, ⟨b, rfl, hb⟩, q⟩ := h
    have hu : _ + 64 < cLine := hu64 hr
    obtain ⟨dx, fs, pk, pw, a1, a2, a3, a4, a5⟩ := hs.at_
    refine ⟨_, (pss_one (ps_ret (pe_and (pe_callB call_isi (by rfl) T.n_isinstance (by decide +kernel) (pa_cons (pv 1) (pa_cons (pe_bltn (v := .ty "tuple") (u := .type "tuple") (by rfl) T.n_tuple (by decide +kernel) rfl) pa_nil))) (pe_and (pe_cmpR (op_eqP (K := K) rfl hu) (pe_callB call_len_seq (by rfl) T.n_len (by decide +kernel) (pa_cons (pv 1) pa_nil)) pe_int (nomark _)) (pe_and (pe_callB call_isi (by rfl) T.n_isinstance (by decide +kernel) (pa_cons (pe_ix ix_tup (pv 1) pe_int (fun _ _ => rfl)) (pa_cons (pe_bltn (v := .ty "str") (u := .type "str") (by rfl) T.n_str (by decide +kernel) rfl) pa_nil))) (pe_one (pe_cmpR (op_inP (K := K) rfl hu) (pe_ix ix_tup (pv 1) pe_int (fun _ _ => rfl)) (pe_fld (pv 0) rfl) rfl))))))), ?_⟩
    refine ⟨_, rfl, _, _, _, _, _, rfl, .ty "tuple", .base (.tup hb), kit_ty (by decide +kernel : kitB "tuple" "tuple" = some true), _, rfl, if_t rfl ?_⟩
    refine ⟨_, rfl, b, _, rfl, .inr (SqT.of hb), eqP (hd_int _) (hd_int _) ?_⟩
    refine ⟨_, rfl, if_t (decide_eq_true rfl) ?_⟩
    refine ⟨_, rfl, b, _, 1, _, rfl, rfl, SqT.of hb, rfl, ?_⟩
    refine ⟨_, _, _, _, _, rfl, .ty "str", .base (.str _), kit_ty (by decide +kernel : kitB "str" "str" = some true), _, rfl, if_t rfl ?_⟩
    exact ⟨_, rfl, b, _, 1, _, rfl, rfl, SqT.of hb, rfl, _, rfl, sh, _, dx, fs, _, rfl, a1, T.cl_Sheet, T.n_Sheet_own_words, a3, inTP (hd_str t.b) (SqT.of a5) (hdL_strs ws) q⟩
theorem kvP_at {ps : Posts} {i : Nat} {k : Key} {v : V} (h : (kvP ps)[i]? = some (k, v)) : ∃ p, ps[i]? = some p ∧ k = .inr p.1 ∧ v = ov p.2 := by
  unfold kvP at h
  rw [List.getElem?_map] at h
  obtain ⟨p, hp, e⟩ := Option.map_eq_some_iff.mp h
  cases e
  exact ⟨p, hp, rfl, rfl⟩
def shortP (ps : Posts) : Prop := ∀ p ∈ ps, p.1.length ≤ 1000 ∧ PyData.strOk p.1 = true
def spPosts (AA : Ads) : Sp := fun vs H Q _ => ∃ sh ks ws d ps, vs = [.ref sh, .ref d] ∧ SheetAt AA.C_Sheet H sh ks ws ∧ H d = some (.dK (kvP ps)) ∧ shortP ps ∧ ps.length ≤ 1000 ∧ ∀ H', Ex H H' → Q (.bl (postsOk ks ps)) H'
theorem ok_are_posts (T : Txt K mg AA) : FnOk P w K mg base CX0 2 AA.a_are_posts AA.d_are_posts ["sheet", "value"] (spPosts AA) := by
  have G_is_name : FnOk P w K mg base CX0 1 AA.a_is_name AA.d_is_name ["value"] (spIsName K) := ok_is_name T
  have G_is_kind : FnOk P w K mg base CX0 1 AA.a_is_kind AA.d_is_kind ["sheet", "value"] (spKind AA) := ok_is_kind T
  refine T.F_are_posts.ok sc_are_posts (fun vs H Q E h => ?_) (fun cdv A outer s H vs Q E hr h => ?_)
  · obtain ⟨sh, ks, ws, d, ps, rfl, _⟩ := h
    rfl
  · obtain ⟨sh, ks, ws, d, ps, rfl, hs, hd, hn, hl, q⟩ := h
    have hu : _ + 64 < cLine := hu64 hr
    have r1 := T.r_MAX_NAMES
    refine ⟨_, (pss_cons (ps_if (pw_or (pt_not (pt_val (pe_callB call_isi (by rfl) T.n_isinstance (by decide +kernel) (pa_cons (pv 1) (pa_cons (pe_bltn (v := .ty "dict") (u := .type "dict") (by rfl) T.n_dict (by decide +kernel) rfl) pa_nil))))) (pw_or (pt_cmpR op_gt (pe_callB call_lenD (by rfl) T.n_len (by decide +kernel) (pa_cons (pv 1) pa_nil)) (pe_glob (by rfl) T.c_MAX_NAMES T.r_MAX_NAMES) (nomark _)) (pw_or1 (pt_not (pt_val (pe_lock (pe_callB (cr_all rfl) (by rfl) T.n_all (by decide +kernel) (pa_cons (pe_lc (own := [("name", 3)]) (g := gName 3) rfl sc_are_posts.nd  (pi_keys (pv 1)) (blkOk_by (N := N_are_posts) (sc := defScope s_are_posts) (by decide +kernel)) (fun _ _ _ _ _ => (pg_name (i := 3) sc_are_posts.nd rfl (Or.inl rfl))) (fun _ _ _ _ _ => pts_nil) (fun _ _ _ _ _ => by exact (pe_call G_is_name (hr.mono (by decide)) (by rfl) T.g_is_name T.k_is_name T.b_is_name .nil pass0 (pa_cons (pv 3) pa_nil)))) pa_nil)))))))).pt (pss_one (ps_ret pe_bl)) pss_nil)
    (pss_one (ps_ret (pe_lock (pe_callB (cr_all rfl) (by rfl) T.n_all (by decide +kernel) (pa_cons (pe_lc (own := [("kind", 2)]) (g := gName 2) rfl sc_are_posts.nd  (pi_values (pv 1)) (blkOk_by (N := N_are_posts) (sc := defScope s_are_posts) (by decide +kernel)) (fun _ _ _ _ _ => (pg_name (i := 2) sc_are_posts.nd rfl (Or.inl rfl))) (fun _ _ _ _ _ => pts_nil) (fun _ _ _ _ _ => by exact (pe_or (pe_cmpR op_isN (pv 2) pe_non (nomark _)) (pe_one (pe_call G_is_kind (hr.mono (by decide)) (by rfl) T.g_is_kind T.k_is_kind T.b_is_kind .nil pass0 (pa_cons (pv 0) (pa_cons (pv 2) pa_nil))))))) pa_nil)))))), ?_⟩
    refine ⟨_, rfl, _, _, _, _, _, rfl, .ty "dict", .base (.dK hd), kit_ty (by decide +kernel : kitB "dict" "dict" = some true), _, rfl, if_f rfl ?_⟩
    refine ⟨_, rfl, d, _, rfl, hd, _, _, rfl, rfl, _, rfl, ?_⟩
    rw [kvP_len]
    by_cases c : (ps.length : Int) > 12
    · refine if_t (decide_eq_true c) (if_t rfl ?_)
      have e : postsOk ks ps = false := by unfold postsOk; rw [decide_eq_true c]; rfl
      rw [← e]
      exact q H (Ex.refl H)
    · refine if_f (decide_eq_false c) ?_
      have hz : (kvP ps).length < sizeLine := by rw [kvP_len]; exact len_lt hl
      refine ⟨d, _, hd, trivial, fun od => ⟨_, rfl, d, od, rfl, .inl ⟨_, upd_same, fun D hD => ?_⟩⟩⟩
      generalize hG : upd H d (.frz od (.dK (kvP ps))) = G at *
      have hGd : G d = some (.frz od (.dK (kvP ps))) := by rw [← hG]; exact upd_same
      refine lcR walk_keys hD ((kvP ps).map fun kv => kV kv.1) (ps.map fun p => (true, V.bl (isName p.1))) (by rw [List.length_map, kvP_len]) hz (fun H2 e2 => e2 _ _ hGd) (fun k H2 x H3 ⟨e1, q1, v1, h1, h2⟩ => ⟨e1, by rw [List.getElem?_map, h1, h2]; rfl⟩) (fun _ => rfl) (fun k x b y H2 hx hr _ => ?_) (fun k x y H2 hx hr e2 => ?_) (fun H2 e2 h2 => ?_)
      · rw [List.getElem?_map] at hr
        obtain ⟨p, _, e⟩ := Option.map_eq_some_iff.mp hr
        cases e
        exact ev_true
      · rw [List.getElem?_map] at hr hx
        obtain ⟨p, hp, e⟩ := Option.map_eq_some_iff.mp hr
        obtain ⟨⟨k1, v1⟩, hp2, e3⟩ := Option.map_eq_some_iff.mp hx
        obtain ⟨p2, hp3, rfl, rfl⟩ := kvP_at hp2
        obtain rfl : p = p2 := Option.some.inj (hp.symm.trans hp3)
        cases e
        subst e3
        obtain ⟨n1, n2⟩ := hn p (List.mem_of_getElem? hp)
        refine ev_call (ea_cons (ev_var rfl) ea_nil) fun H3 e3 Q3 q3 _ => ⟨_, .str p.1, rfl, .inl (.str _), fun z e => by cases e; exact ⟨n1, n2⟩, q3⟩
      · refine ⟨D, ps.map fun p => isName p.1, rfl, SqL.of (by rw [h2, lcR_all, List.map_map]; rfl), e2 _ _ hGd, _, rfl, ?_⟩
        have x2 : Ex H (upd H2 d (.dK (kvP ps))) := ex_unlock hd (by rw [hG]; exact e2)
        generalize hH3 : upd H2 d (.dK (kvP ps)) = H3 at *
        have e1 : (ps.map fun p => isName p.1).all id = ps.all fun p => isName p.1 := by rw [List.all_map]; rfl
        rw [e1]
        cases cn : ps.all fun p => isName p.1 with
        | false =>
          refine if_t rfl ?_
          have e : postsOk ks ps = false := by unfold postsOk; rw [cn]; simp
          have := q H3 x2
          rw [e] at this
          exact this
        | true =>
          refine if_f rfl ?_
          have hd3 := x2 _ _ hd
          have e : postsOk ks ps = ps.all fun p => kindOk ks p.2 := by unfold postsOk; rw [decide_eq_false c, cn]; rfl
          rw [e] at q
          refine ⟨d, _, hd3, trivial, fun oe => ⟨_, rfl, d, oe, _, rfl, upd_same, fun D2 hD2 => ?_⟩⟩
          generalize hG2 : upd H3 d (.frz oe (.dK (kvP ps))) = G2 at *
          have hGd2 : G2 d = some (.frz oe (.dK (kvP ps))) := by rw [← hG2]; exact upd_same
          refine lcR walk_values hD2 ((kvP ps).map fun kv => kv.2) (ps.map fun p => (true, V.bl (kindOk ks p.2))) (by rw [List.length_map, kvP_len]) hz (fun H4 e4 => e4 _ _ hGd2) (fun k H4 x H5 ⟨e1, q1, h1⟩ => ⟨e1, by rw [List.getElem?_map, h1]; rfl⟩) (fun _ => rfl) (fun k x b y H4 hx hr _ => ?_) (fun k x y H4 hx hr e4 => ?_) (fun H4 e4 h4 => ?_)
          · rw [List.getElem?_map] at hr
            obtain ⟨p, _, e⟩ := Option.map_eq_some_iff.mp hr
            cases e
            exact ev_true
          · rw [List.getElem?_map] at hr hx
            obtain ⟨p, hp, e⟩ := Option.map_eq_some_iff.mp hr
            obtain ⟨⟨k1, v1⟩, hp2, e3⟩ := Option.map_eq_some_iff.mp hx
            obtain ⟨p2, hp3, rfl, rfl⟩ := kvP_at hp2
            obtain rfl : p = p2 := Option.some.inj (hp.symm.trans hp3)
            cases e
            subst e3
            intro H5 e5 Q5 q5
            have hs5 : SheetAt AA.C_Sheet H5 sh ks ws := (((hs.ex x2).lock (o := oe) hd3).ex (by rw [hG2]; exact e4)).ex e5
            refine ⟨_, rfl, rfl, ?_⟩
            cases hk : p.2 with
            | none =>
              rw [hk] at q5
              exact ⟨_, rfl, if_t (decide_eq_true rfl) (q5 H5 (Ex.refl _))⟩
            | some z =>
              rw [hk] at q5
              exact ⟨_, rfl, if_f (decide_eq_false (by intro z; cases z)) ⟨_, rfl, _, rfl, sh, ks, ws, z, rfl, hs5, q5 H5 (Ex.refl _)⟩⟩
          · refine ⟨D2, ps.map fun p => kindOk ks p.2, rfl, SqL.of (by rw [h4, lcR_all, List.map_map]; rfl), e4 _ _ hGd2, ?_⟩
            have e1 : (ps.map fun p => kindOk ks p.2).all id = ps.all fun p => kindOk ks p.2 := by rw [List.all_map]; rfl
            rw [e1]
            exact q _ (x2.trans (ex_unlock hd3 (by rw [hG2]; exact e4)))
def spTriple (AA : Ads) : Sp := fun vs H Q _ => ∃ sh ks ws d ps v t, vs = [.ref sh, .ref d, v] ∧ SheetAt AA.C_Sheet H sh ks ws ∧ Rd H d (.dK (kvP ps)) ∧ TieV H v t ∧ Q (.bl (tieOk ws ps t)) H
theorem ok_is_triple_of (T : Txt K mg AA) : FnOk P w K mg base CX0 2 AA.a_is_triple_of AA.d_is_triple_of ["sheet", "names", "value"] (spTriple AA) := by
  have G_is_tie : FnOk P w K mg base CX0 1 AA.a_is_tie AA.d_is_tie ["sheet", "value"] (spTie AA) := ok_is_tie T
  refine T.F_is_triple_of.ok sc_is_triple_of (fun vs H Q E h => ?_) (fun cdv A outer s H vs Q E hr h => ?_)
  · obtain ⟨sh, ks, ws, d, ps, v, t, rfl, _⟩ := h
    rfl
  · obtain ⟨sh, ks, ws, d, ps, v, t, rfl, hs, hd, ⟨b, rfl, hb⟩, q⟩ := h
    have hu1 : _ + 1 < cLine := hu_of hr
    refine ⟨_, (pss_cons (ps_if (pw_or (pt_not (pt_val (pe_call G_is_tie (hr.mono (by decide)) (by rfl) T.g_is_tie T.k_is_tie T.b_is_tie .nil pass0 (pa_cons (pv 0) (pa_cons (pv 2) pa_nil))))) (pw_or (pt_not (pt_val (pe_callB call_isi (by rfl) T.n_isinstance (by decide +kernel) (pa_cons (pe_ix ix_tup (pv 2) pe_int (fun _ _ => rfl)) (pa_cons (pe_bltn (v := .ty "str") (u := .type "str") (by rfl) T.n_str (by decide +kernel) rfl) pa_nil))))) (pw_or1 (pt_not (pt_val (pe_callB call_isi (by rfl) T.n_isinstance (by decide +kernel) (pa_cons (pe_ix ix_tup (pv 2) pe_int (fun _ _ => rfl)) (pa_cons (pe_bltn (v := .ty "str") (u := .type "str") (by rfl) T.n_str (by decide +kernel) rfl) pa_nil)))))))).pt (pss_one (ps_ret pe_bl)) pss_nil)
    (pss_one (ps_ret (pe_and (pe_cmpR (op_inK hu1) (pe_ix ix_tup (pv 2) pe_int (fun _ _ => rfl)) (pv 1) rfl) (pe_one (pe_cmpR (op_inK hu1) (pe_ix ix_tup (pv 2) pe_int (fun _ _ => rfl)) (pv 1) rfl)))))), ?_⟩
    refine ⟨_, rfl, _, rfl, sh, ks, ws, _, t, rfl, hs, ⟨b, rfl, hb⟩, _, rfl, ?_⟩
    unfold tieOk at q
    cases c : decide (t.b ∈ ws) with
    | false =>
      rw [c] at q
      exact if_t rfl (if_t rfl q)
    | true =>
      rw [c] at q
      refine if_f rfl ⟨_, rfl, b, _, 0, _, rfl, rfl, SqT.of hb, rfl, _, _, _, _, _, rfl, .ty "str", .base (.str _), kit_ty (by decide +kernel : kitB "str" "str" = some true), _, rfl, if_f rfl ?_⟩
      refine ⟨_, rfl, b, _, 2, _, rfl, rfl, SqT.of hb, rfl, _, _, _, _, _, rfl, .ty "str", .base (.str _), kit_ty (by decide +kernel : kitB "str" "str" = some true), _, rfl, if_f rfl ?_⟩
      refine ⟨_, rfl, b, _, 0, _, rfl, rfl, SqT.of hb, rfl, _, rfl, d, _, rfl, .inl ⟨_, .inr t.a, hd, rfl, rfl⟩, _, rfl, ?_⟩
      rw [val_kvP, Option.isSome_map]
      cases c2 : (look ps t.a).isSome with
      | false =>
        rw [c2] at q
        exact if_f rfl q
      | true =>
        rw [c2] at q
        refine if_t rfl ⟨_, rfl, b, _, 2, _, rfl, rfl, SqT.of hb, rfl, _, rfl, d, _, rfl, .inl ⟨_, .inr t.c, hd, rfl, rfl⟩, ?_⟩
        rw [val_kvP, Option.isSome_map]
        exact q
def spTriples (K : PySem.W.Frag) (AA : Ads) : Sp := fun vs H Q _ => ∃ sh ks ws d ps l xs ts, vs = [.ref sh, .ref d, .ref l] ∧ SheetAt AA.C_Sheet H sh ks ws ∧ Rd H d (.dK (kvP ps)) ∧ SqT K H l xs ∧ Paired (TieV H) xs ts ∧ ts.length ≤ 1000 ∧ ∀ H', Ex H H' → Q (.bl (ts.all (tieOk ws ps))) H'
theorem ok_are_triples (T : Txt K mg AA) : FnOk P w K mg base CX0 3 AA.a_are_triples AA.d_are_triples ["sheet", "names", "value"] (spTriples K AA) := by
  have G_is_triple_of : FnOk P w K mg base CX0 2 AA.a_is_triple_of AA.d_is_triple_of ["sheet", "names", "value"] (spTriple AA) := ok_is_triple_of T
  refine T.F_are_triples.ok sc_are_triples (fun vs H Q E h => ?_) (fun cdv A outer s H vs Q E hr h => ?_)
  · obtain ⟨sh, ks, ws, d, ps, l, xs, ts, rfl, _⟩ := h
    rfl
  · obtain ⟨sh, ks, ws, d, ps, l, xs, ts, rfl, hs, hd, hl, ht, hz, q⟩ := h
    have len : xs.length = ts.length := paired_len ht
    have tyl : TyX K H (.ref l) (.type "tuple") := tyX_of (d := .tuple (ts.map Datum.toD)) (.inl (.tup hl (ties_hd ht)))
    refine ⟨_, (pss_one (ps_ret (pe_and (pe_callB call_isi (by rfl) T.n_isinstance (by decide +kernel) (pa_cons (pv 2) (pa_cons (pe_bltn (v := .ty "tuple") (u := .type "tuple") (by rfl) T.n_tuple (by decide +kernel) rfl) pa_nil))) (pe_one (pe_callB (cr_all rfl) (by rfl) T.n_all (by decide +kernel) (pa_cons (pe_lc (own := [("triple", 3)]) (g := gName 3) rfl sc_are_triples.nd  (pi_tup (pv 2)) (blkOk_by (N := N_are_triples) (sc := defScope s_are_triples) (by decide +kernel)) (fun _ _ _ _ _ => (pg_name (i := 3) sc_are_triples.nd rfl (Or.inl rfl))) (fun _ _ _ _ _ => pts_nil) (fun _ _ _ _ _ => by exact (pe_call G_is_triple_of (hr.mono (by decide)) (by rfl) T.g_is_triple_of T.k_is_triple_of T.b_is_triple_of .nil pass0 (pa_cons (pv 0) (pa_cons (pv 1) (pa_cons (pv 3) pa_nil)))))) pa_nil)))))), ?_⟩
    refine ⟨_, rfl, _, _, _, _, _, rfl, .ty "tuple", tyl, kit_ty (by decide +kernel : kitB "tuple" "tuple" = some true), _, rfl, if_t rfl ?_⟩
    refine ⟨_, rfl, l, rfl, ⟨xs, hl⟩, fun D hD => ?_⟩
    refine lcR (walk_tup (xs := xs)) hD xs (ts.map fun t => (true, V.bl (tieOk ws ps t))) (by rw [List.length_map, len]) (by rw [len]; exact len_lt hz) (fun H2 e2 => ex_t e2 hl) (fun k H2 x H3 h => h) (fun _ => rfl) (fun k x b y H2 hx hr _ => ?_) (fun k x y H2 hx hr e2 => ?_) (fun H2 e2 h2 => ?_)
    · rw [List.getElem?_map] at hr
      obtain ⟨p, _, e⟩ := Option.map_eq_some_iff.mp hr
      cases e
      exact ev_true
    · rw [List.getElem?_map] at hr
      obtain ⟨t, hp, e⟩ := Option.map_eq_some_iff.mp hr
      cases e
      obtain ⟨t2, ht2, hv⟩ := paired_get2 ht hx
      obtain rfl : t = t2 := Option.some.inj (hp.symm.trans ht2)
      exact ev_call (ea_cons (ev_var rfl) (ea_cons (ev_var rfl) (ea_cons (ev_var rfl) ea_nil))) fun H3 e3 Q3 q3 _ => ⟨sh, ks, ws, d, ps, _, t, rfl, (hs.ex e2).ex e3, ex_rd (e2.trans e3) hd, (hv.ex e2).ex e3, q3 H3 (Ex.refl _)⟩
    · refine ⟨D, ts.map (tieOk ws ps), rfl, SqL.of (by rw [h2, lcR_all, List.map_map]; rfl), ?_⟩
      have e1 : (ts.map (tieOk ws ps)).all id = ts.all (tieOk ws ps) := by rw [List.all_map]; rfl
      rw [e1]
      exact q H2 e2
end
end K23
namespace K23
open PySem L2 Kd Evl Ks Kt Ky
open PySem.W (Datum DatumOrd T3)
/-- the fields of a shape -/
def sf (sh po th la : Addr) : List (Str × V) := [("own_sheet", .ref sh), ("own_posts", .ref po), ("own_there", .ref th), ("own_lacking", .ref la)]
theorem f1 : ¬ (("own_sheet" : Str) = "own_posts") := by decide +kernel
theorem f2 : ¬ (("own_sheet" : Str) = "own_there") := by decide +kernel
theorem f3 : ¬ (("own_sheet" : Str) = "own_lacking") := by decide +kernel
theorem f4 : ¬ (("own_posts" : Str) = "own_there") := by decide +kernel
theorem f5 : ¬ (("own_posts" : Str) = "own_lacking") := by decide +kernel
theorem f6 : ¬ (("own_there" : Str) = "own_lacking") := by decide +kernel
theorem put1 {x v : V} : putF "own_posts" v ([("own_sheet", x)] : List (Str × V)) = ([("own_sheet", x), ("own_posts", v)] : List (Str × V)) := by
  rw [putF, if_neg f1]
  rfl
theorem put2 {x y v : V} : putF "own_there" v ([("own_sheet", x), ("own_posts", y)] : List (Str × V)) = ([("own_sheet", x), ("own_posts", y), ("own_there", v)] : List (Str × V)) := by
  rw [putF, if_neg f2, putF, if_neg f4]
  rfl
theorem put3 {x y z v : V} : putF "own_lacking" v ([("own_sheet", x), ("own_posts", y), ("own_there", z)] : List (Str × V)) = ([("own_sheet", x), ("own_posts", y), ("own_there", z), ("own_lacking", v)] : List (Str × V)) := by
  rw [putF, if_neg f3, putF, if_neg f5, putF, if_neg f6]
  rfl
theorem put_all {sh po th la : Addr} : putF "own_lacking" (.ref la) (putF "own_there" (.ref th) (putF "own_posts" (.ref po) (putF "own_sheet" (.ref sh) []))) = sf sh po th la := by
  rw [show putF "own_sheet" (V.ref sh) [] = ([("own_sheet", .ref sh)] : List (Str × V)) from rfl, put1, put2, put3]
  rfl
theorem sf_sheet {sh po th la : Addr} : (sf sh po th la).lookup ("own_sheet" : Str) = some (.ref sh) := by
  unfold sf
  rw [List.lookup_cons, beq_self_eq_true]
theorem sf_posts {sh po th la : Addr} : (sf sh po th la).lookup ("own_posts" : Str) = some (.ref po) := by
  unfold sf
  rw [List.lookup_cons, beq_eq_false_iff_ne.mpr (Ne.symm f1), List.lookup_cons, beq_self_eq_true]
theorem sf_there {sh po th la : Addr} : (sf sh po th la).lookup ("own_there" : Str) = some (.ref th) := by
  unfold sf
  rw [List.lookup_cons, beq_eq_false_iff_ne.mpr (Ne.symm f2), List.lookup_cons, beq_eq_false_iff_ne.mpr (Ne.symm f4), List.lookup_cons, beq_self_eq_true]
theorem sf_lacking {sh po th la : Addr} : (sf sh po th la).lookup ("own_lacking" : Str) = some (.ref la) := by
  unfold sf
  rw [List.lookup_cons, beq_eq_false_iff_ne.mpr (Ne.symm f3), List.lookup_cons, beq_eq_false_iff_ne.mpr (Ne.symm f5), List.lookup_cons, beq_eq_false_iff_ne.mpr (Ne.symm f6), List.lookup_cons, beq_self_eq_true]
theorem set_posts {sh po th la q : Addr} : putF "own_posts" (.ref q) (sf sh po th la) = sf sh q th la := by
  unfold sf
  rw [putF, if_neg f1, putF, if_pos rfl]
theorem set_there {sh po th la q : Addr} : putF "own_there" (.ref q) (sf sh po th la) = sf sh po q la := by
  unfold sf
  rw [putF, if_neg f2, putF, if_neg f4, putF, if_pos rfl]
theorem set_lacking {sh po th la q : Addr} : putF "own_lacking" (.ref q) (sf sh po th la) = sf sh po th q := by
  unfold sf
  rw [putF, if_neg f3, putF, if_neg f5, putF, if_neg f6, putF, if_pos rfl]
/-- a shape stands at p -/
structure ShapeAt (C : Addr) (H : Hp) (p sh : Addr) (ps : Posts) (ts ls : List Tie) : Prop where
  raw : ∃ dx po th la, H p = some (.ins C dx (sf sh po th la)) ∧ H po = some (.dK (kvP ps)) ∧ H th = some (tru (ts.map tieK)) ∧ H la = some (tru (ls.map tieK))
theorem ShapeAt.at_ {C : Addr} {H : Hp} {p sh : Addr} {ps : Posts} {ts ls : List Tie} (h : ShapeAt C H p sh ps ts ls) : ∃ dx fs po th la, H p = some (.ins C dx fs) ∧ fs.lookup ("own_sheet" : Str) = some (.ref sh) ∧ fs.lookup ("own_posts" : Str) = some (.ref po) ∧ fs.lookup ("own_there" : Str) = some (.ref th) ∧ fs.lookup ("own_lacking" : Str) = some (.ref la) ∧
    H po = some (.dK (kvP ps)) ∧ H th = some (tru (ts.map tieK)) ∧ H la = some (tru (ls.map tieK)) := by
  obtain ⟨dx, po, th, la, h1, h2, h3, h4⟩ := h.raw
  exact ⟨dx, _, po, th, la, h1, sf_sheet, sf_posts, sf_there, sf_lacking, h2, h3, h4⟩
theorem ShapeAt.ex {C : Addr} {H H' : Hp} {p sh : Addr} {ps : Posts} {ts ls : List Tie} (h : ShapeAt C H p sh ps ts ls) (e : Ex H H') : ShapeAt C H' p sh ps ts ls := by
  obtain ⟨dx, po, th, la, h1, h2, h3, h4⟩ := h.raw
  exact ⟨dx, po, th, la, e _ _ h1, e _ _ h2, e _ _ h3, e _ _ h4⟩
def sortP (ps : Posts) : Posts := (srt (namesP ps)).map fun n => (n, (look ps n).getD none)
def shapeOk (ks ws : List Str) (ps : Posts) (ts ls : List Tie) : Bool := postsOk ks ps && (ts.all (tieOk ws ps) && (ls.all (tieOk ws ps) && !(ls.any fun t => decide (t ∈ ts))))
/-- the posts of the shape at p stand at a new place -/
def NewP (H H' : Hp) (p : Addr) : Prop := ∃ C dx fs po, H' p = some (.ins C dx fs) ∧ fs.lookup ("own_posts" : Str) = some (.ref po) ∧ H po = none
def spShape (K : PySem.W.Frag) (AA : Ads) : Sp := fun vs H Q E => ∃ (p dx sh d l1 l2 : Addr) (ks ws : List Str) (ps : Posts) (xs ys : List V) (ts ls : List Tie), vs = [.ref p, .ref sh, .ref d, .ref l1, .ref l2] ∧ H p = some (.ins AA.C_Shape dx []) ∧ SheetAt AA.C_Sheet H sh ks ws ∧
  H d = some (.dK (kvP ps)) ∧ shortP ps ∧ ps.length ≤ 1000 ∧ (namesP ps).Nodup ∧ SqT K H l1 xs ∧ Paired (TieV H) xs ts ∧ ts.length ≤ 1000 ∧ SqT K H l2 ys ∧ Paired (TieV H) ys ls ∧ ls.length ≤ 1000 ∧
  (shapeOk ks ws ps ts ls = true → ∀ H', ExBut p H H' → ShapeAt AA.C_Shape H' p sh (sortP ps) (once (srt ts)) (once (srt ls)) → NewP H H' p → Q .non H') ∧
  (shapeOk ks ws ps ts ls = false → ∀ H', Ex H H' → E (.ref AA.C_InvalidShape) none H')
theorem keys_P (ps : Posts) : ((kvP ps).map fun kv => kV kv.1) = (namesP ps).map V.str := by
  unfold kvP namesP
  rw [List.map_map, List.map_map]
  rfl
theorem val_names (f : Str → V) (n : Str) : ∀ l : List Str, n ∉ l → valV (l.map fun q => ((.inr q : Key), f q)) (.inr n) = none
  | [], _ => rfl
  | x :: l, h => by
    rw [List.map_cons, valV_neg (fun z => h (by rw [← Sum.inr.inj z]; exact List.mem_cons_self))]
    exact val_names f n l fun z => h (List.mem_cons_of_mem _ z)
theorem put_names (f : Str → V) {n : Str} {l : List Str} (h : n ∉ l) : putK (l.map fun q => ((.inr q : Key), f q)) (.inr n) (f n) = (l ++ [n]).map fun q => ((.inr q : Key), f q) := by
  rw [putK_new _ (val_names f n l h), List.map_append]
  rfl
theorem not_taken {l : List Str} (h : l.Nodup) {k : Nat} {n : Str} (e : l[k]? = some n) : n ∉ l.take k := fun z => by
  obtain ⟨i, hi⟩ := List.getElem?_of_mem z
  obtain ⟨hk, ek⟩ := List.getElem?_eq_some_iff.mp e
  rw [List.getElem?_take] at hi
  split at hi
  · rename_i hik
    obtain ⟨hi', ei⟩ := List.getElem?_eq_some_iff.mp hi
    have := (List.getElem_inj h).mp (ei.trans ek.symm)
    omega
  · cases hi
theorem TieV.but {H H' : Hp} {p C dx : Addr} {fs : List (Str × V)} {v : V} {t : Tie} (h : TieV H v t) (hp : H p = some (.ins C dx fs)) (e : ExBut p H H') : TieV H' v t := by
  obtain ⟨b, rfl, hb⟩ := h
  exact ⟨b, rfl, e _ _ hb (ne_of hb hp (by intro q; cases q))⟩
theorem ExBut.trans {p : Addr} {H H1 H2 : Hp} (a : ExBut p H H1) (b : ExBut p H1 H2) : ExBut p H H2 := fun c o h hc => b c o (a c o h hc) hc
theorem ExBut.of {p : Addr} {H H' : Hp} (e : Ex H H') : ExBut p H H' := fun c o h _ => e c o h
theorem ExBut.put {p : Addr} {H : Hp} {o : HO} : ExBut p H (upd H p o) := fun c u h hc => by rw [upd_ne hc]; exact h
/-- the ties of a row, each once, as a dict: the reading of {triple: True for triple in sorted(list(l))} -/
theorem ties_dc {K : PySem.W.Frag} {i : Nat} {σ : L2.St} {H1 : Hp} {D : Addr} {Qd : Hp → Prop} {a : Addr} {us : List V} {ss : List Tie} (hD : H1 D = none) (ha : SqL K H1 a us) (hu : Paired (TieV H1) us ss) (hl : ss.length ≤ 1000) (hw : ∀ v, wipe ((wipe σ [i]).set i v) [i] = wipe σ [i])
    (hi : ∀ v : V, ((wipe σ [i]).set i (some v))[i]? = some (some v)) (hq : ∀ H, Ex H1 H → H D = some (tru ((once ss).map tieK)) → Qd H) :
    ∃ W : Nat → Nat → Hp → Prop, (∃ m, W 0 m (upd H1 D (.dT []))) ∧ ∀ k m H, W k m H →
      ((Itl K a).stop k H ∧ Qd H) ∨ ((Itl K a).go k H ∧ ∃ Nx : Hp → Prop, (∀ H', Nx H' → ∃ m', m' < m ∧ W (k + 1) m' H') ∧ ∀ x H', (Itl K a).yld k H x H' → gName i x (wipe σ [i]) H' fun σ2 H2 => wipe σ2 [i] = wipe σ [i] ∧ tYes σ2 H2 fun b H3 =>
        if b = true then tVar i σ2 H3 fun y H4 => tC (.bl true) σ2 H4 fun z H5 => ∃ H6, DPut H5 D y z H6 ∧ Nx H6 else Nx H3) := by
  refine dcR (walk_list (xs := us)) (tk := tVar i) (tv := tC (.bl true)) hD us (fun k => tru (once ((ss.take k).map tieK))) rfl (fun H e => ex_l e ha) (fun k H x H' h => h) hw (fun k x H hx e hd => ?_) (fun H e h => hq H e ?_)
  · obtain ⟨t, ht, b, rfl, hb⟩ := paired_get2 hu hx
    refine ⟨_, hi _, _, DPut.t hd (e _ _ hb) ?_, Ex.mut e hD, ?_⟩
    · rw [List.length_map]
      have h1 := once_len ((ss.take k).map tieK)
      rw [List.length_map, List.length_take] at h1
      exact len_lt (by omega)
    · rw [upd_same, put_tru, ← once_snoc]
      show some (tru (once ((ss.take k).map tieK ++ [tieK t]))) = _
      rw [List.take_add_one, ht, List.map_append]
      rfl
  · rw [h, List.take_of_length_le (Nat.le_of_eq (paired_len hu).symm), once_map tieK tieK_inj]
section
variable {P : Program} {w : World} {K : PySem.W.Frag} {mg : Str → Option Value} {base : Heap} {AA : Ads}
theorem ok_Shape_init (T : Txt K mg AA) : FnOk P w K mg base (L2.CX P w) 4 AA.a_Shape_init AA.d_Shape_init ["self", "sheet", "posts", "there", "lacking"] (spShape K AA) := by
  have G_require_sheet : FnOk P w K mg base CX0 1 AA.a_require_sheet AA.d_require_sheet ["sheet"] (spReq AA) := ok_require_sheet T
  have G_are_posts : FnOk P w K mg base CX0 2 AA.a_are_posts AA.d_are_posts ["sheet", "value"] (spPosts AA) := ok_are_posts T
  have G_are_triples : FnOk P w K mg base CX0 3 AA.a_are_triples AA.d_are_triples ["sheet", "names", "value"] (spTriples K AA) := ok_are_triples T
  refine T.F_Shape_init.ok (CX := L2.CX P w) sc_Shape_init (fun vs H Q E h => ?_) (fun cdv A outer s H vs Q E hr h => ?_)
  · obtain ⟨p, dx, sh, d, l1, l2, ks, ws, ps, xs, ys, ts, ls, rfl, _⟩ := h
    rfl
  · obtain ⟨p, dx, sh, d, l1, l2, ks, ws, ps, xs, ys, ts, ls, rfl, hp, hs, hd, hn, hl, nd, hl1, ht1, z1, hl2, ht2, z2, good, bad⟩ := h
    have hu : _ + 64 < cLine := hu64 hr
    have hu1 : _ + 1 < cLine := hu_of hr
    have hu0 : _ < cLine := Nat.lt_of_succ_lt hu1
    have lx : xs.length = ts.length := paired_len ht1
    have ly : ys.length = ls.length := paired_len ht2
    have ltc : ∀ {n : Nat}, n ≤ 1000 → n < sizeLine := fun h => len_lt h
    refine ⟨_, (pss_cons (ps_expr (pe_call G_require_sheet (hr.mono (by decide)) (by rfl) T.g_require_sheet T.k_require_sheet T.b_require_sheet .nil pass0 (pa_cons (pv 1) pa_nil)))
    (pss_cons (ps_if (pt_not (pt_val (pe_call G_are_posts (hr.mono (by decide)) (by rfl) T.g_are_posts T.k_are_posts T.b_are_posts .nil pass0 (pa_cons (pv 1) (pa_cons (pv 2) pa_nil))))) (pss_one (ps_raise rfl (takes_of rfl rfl rfl rfl) (pmk_own PySem.F.excBase_ValueError T.x_InvalidShape T.g_InvalidShape T.k_InvalidShape (raises_own T.s_InvalidShape T.t_InvalidShape) (by rfl)))) pss_nil)
    (pss_cons (ps_if (pw_or (pt_not (pt_val (pe_call G_are_triples (hr.mono (by decide)) (by rfl) T.g_are_triples T.k_are_triples T.b_are_triples .nil pass0 (pa_cons (pv 1) (pa_cons (pv 2) (pa_cons (pv 3) pa_nil)))))) (pw_or1 (pt_not (pt_val (pe_call G_are_triples (hr.mono (by decide)) (by rfl) T.g_are_triples T.k_are_triples T.b_are_triples .nil pass0 (pa_cons (pv 1) (pa_cons (pv 2) (pa_cons (pv 4) pa_nil)))))))).pt (pss_one (ps_raise rfl (takes_of rfl rfl rfl rfl) (pmk_own PySem.F.excBase_ValueError T.x_InvalidShape T.g_InvalidShape T.k_InvalidShape (raises_own T.s_InvalidShape T.t_InvalidShape) (by rfl)))) pss_nil)
    (pss_cons (ps_if (pt_val (pe_callB (cr_any rfl) (by rfl) T.n_any (by decide +kernel) (pa_cons (pe_lc (own := [("triple", 6)]) (g := gName 6) rfl sc_Shape_init.nd  (pi_tup (pv 4)) (blkOk_by (N := N_Shape_init) (sc := defScope s_Shape_init) (by decide +kernel)) (fun _ _ _ _ _ => (pg_name (i := 6) sc_Shape_init.nd rfl (Or.inl rfl))) (fun _ _ _ _ _ => pts_nil) (fun _ _ _ _ _ => by exact (pe_cmpR (op_inP (K := K) rfl hu) (pv 6) (pv 3) rfl))) pa_nil))) (pss_one (ps_raise rfl (takes_of rfl rfl rfl rfl) (pmk_own PySem.F.excBase_ValueError T.x_InvalidShape T.g_InvalidShape T.k_InvalidShape (raises_own T.s_InvalidShape T.t_InvalidShape) (by rfl)))) pss_nil)
    (pss_cons (ps_fld (pv 0) (pv 1) rfl)
    (pss_cons (ps_fld (pv 0) (pe_dcP (o0 := .dK []) (.inl rfl) hu0 (own := [("name", 5)]) (g := gName 5) rfl sc_Shape_init.nd  (pi_list (pe_callB (cr_sortD (K := K) rfl hu) (by rfl) T.n_sorted (by decide +kernel) (pa_cons (pe_callTy (call_listD rfl) (by rfl) T.n_list (by decide +kernel) (pa_cons (pv 2) pa_nil)) pa_nil))) (blkOk_by (N := N_Shape_init) (sc := defScope s_Shape_init) (by decide +kernel)) (fun _ _ _ _ _ => (pg_name (i := 5) sc_Shape_init.nd rfl (Or.inl rfl))) (fun _ _ _ _ _ => pts_nil) (fun _ _ _ _ _ => by exact (pv 5)) (fun _ _ _ _ _ => by exact ((pe_dget hu1) (pv 2) (pv 5) (fun _ _ => rfl)))) rfl)
    (pss_cons (ps_fld (pv 0) (pe_dcP (o0 := .dT []) (.inr rfl) hu0 (own := [("triple", 6)]) (g := gName 6) rfl sc_Shape_init.nd  (pi_list (pe_callB (cr_sortD (K := K) rfl hu) (by rfl) T.n_sorted (by decide +kernel) (pa_cons (pe_callTy call_list_of (by rfl) T.n_list (by decide +kernel) (pa_cons (pv 3) pa_nil)) pa_nil))) (blkOk_by (N := N_Shape_init) (sc := defScope s_Shape_init) (by decide +kernel)) (fun _ _ _ _ _ => (pg_name (i := 6) sc_Shape_init.nd rfl (Or.inl rfl))) (fun _ _ _ _ _ => pts_nil) (fun _ _ _ _ _ => by exact (pv 6)) (fun _ _ _ _ _ => by exact pe_bl)) rfl)
    (pss_one (ps_fld (pv 0) (pe_dcP (o0 := .dT []) (.inr rfl) hu0 (own := [("triple", 6)]) (g := gName 6) rfl sc_Shape_init.nd  (pi_list (pe_callB (cr_sortD (K := K) rfl hu) (by rfl) T.n_sorted (by decide +kernel) (pa_cons (pe_callTy call_list_of (by rfl) T.n_list (by decide +kernel) (pa_cons (pv 4) pa_nil)) pa_nil))) (blkOk_by (N := N_Shape_init) (sc := defScope s_Shape_init) (by decide +kernel)) (fun _ _ _ _ _ => (pg_name (i := 6) sc_Shape_init.nd rfl (Or.inl rfl))) (fun _ _ _ _ _ => pts_nil) (fun _ _ _ _ _ => by exact (pv 6)) (fun _ _ _ _ _ => by exact pe_bl)) rfl))))))))), ?_⟩
    refine ⟨_, rfl, sh, ks, ws, rfl, hs, ?_⟩
    refine ⟨_, rfl, _, rfl, sh, ks, ws, d, ps, rfl, hs, hd, hn, hl, fun H1 e1 => ⟨_, rfl, ?_⟩⟩
    cases c1 : postsOk ks ps with
    | false =>
      refine if_t rfl ?_
      exact bad (by unfold shapeOk; rw [c1]; rfl) H1 e1
    | true =>
      refine if_f rfl ?_
      refine ⟨_, rfl, _, rfl, _, rfl, sh, ks, ws, d, ps, l1, xs, ts, rfl, hs.ex e1, .inl (e1 _ _ hd), ex_t e1 hl1, ties_ex ht1 e1, z1, fun H2 e2 => ⟨_, rfl, ?_⟩⟩
      have e02 := e1.trans e2
      cases c2 : ts.all (tieOk ws ps) with
      | false =>
        refine if_t rfl (if_t rfl ?_)
        exact bad (by unfold shapeOk; rw [c1, c2]; rfl) H2 e02
      | true =>
        refine if_f rfl ?_
        refine ⟨_, rfl, _, rfl, _, rfl, sh, ks, ws, d, ps, l2, ys, ls, rfl, hs.ex e02, .inl (e02 _ _ hd), ex_t e02 hl2, ties_ex ht2 e02, z2, fun H3 e3 => ⟨_, rfl, ?_⟩⟩
        have e03 := e02.trans e3
        cases c3 : ls.all (tieOk ws ps) with
        | false =>
          refine if_t rfl ?_
          exact bad (by unfold shapeOk; rw [c1, c2, c3]; rfl) H3 e03
        | true =>
          refine if_f rfl ?_
          refine ⟨_, rfl, l2, rfl, ⟨ys, ex_t e03 hl2⟩, fun D hD => ?_⟩
          refine lcR (walk_tup (xs := ys)) hD ys (ls.map fun t => (true, V.bl (decide (t ∈ ts)))) (by rw [List.length_map, ly]) (by rw [ly]; exact ltc z2) (fun H4 e4 => ex_t (e03.trans e4) hl2) (fun k H4 x H5 h => h) (fun _ => rfl) (fun k x b y H4 hx hr _ => ?_) (fun k x y H4 hx hr e4 => ?_) (fun H4 e4 h4 => ?_)
          · rw [List.getElem?_map] at hr
            obtain ⟨t, _, e⟩ := Option.map_eq_some_iff.mp hr
            cases e
            exact ev_true
          · rw [List.getElem?_map] at hr
            obtain ⟨t, hp1, e⟩ := Option.map_eq_some_iff.mp hr
            cases e
            obtain ⟨t2, hp2, hv⟩ := paired_get2 ht2 hx
            obtain rfl : t = t2 := Option.some.inj (hp1.symm.trans hp2)
            intro H5 e5 Q5 q5
            have e05 := (e03.trans e4).trans e5
            refine ⟨_, rfl, _, rfl, inTP (hv.ex e05).hd (ex_t e05 hl1) (ties_hd (ties_ex ht1 e05)) ?_⟩
            exact q5 H5 (Ex.refl _)
          · refine ⟨D, ls.map fun t => decide (t ∈ ts), rfl, SqL.of (by rw [h4, lcR_all, List.map_map]; rfl), _, rfl, ?_⟩
            have e1' : (ls.map fun t => decide (t ∈ ts)).any id = ls.any fun t => decide (t ∈ ts) := by rw [List.any_map]; rfl
            rw [e1']
            have e04 := e03.trans e4
            cases c4 : ls.any fun t => decide (t ∈ ts) with
            | true =>
              refine if_t rfl ?_
              exact bad (by unfold shapeOk; rw [c1, c2, c3, c4]; rfl) H4 e04
            | false =>
              refine if_f rfl ?_
              have ok : shapeOk ks ws ps ts ls = true := by unfold shapeOk; rw [c1, c2, c3, c4]; rfl
              have hp4 := e04 _ _ hp
              refine ⟨_, rfl, _, rfl, p, AA.C_Shape, dx, [], rfl, hp4, T.cl_Shape, T.n_Shape_own_sheet, (by show 0 < 1000; decide), ?_⟩
              have b5 : ExBut p H4 (upd H4 p (.ins AA.C_Shape dx (putF "own_sheet" (.ref sh) []))) := ExBut.put
              have hp5 : upd H4 p (.ins AA.C_Shape dx (putF "own_sheet" (.ref sh) [])) p = some (.ins AA.C_Shape dx (putF "own_sheet" (.ref sh) [])) := upd_same
              generalize upd H4 p (.ins AA.C_Shape dx (putF "own_sheet" (.ref sh) [])) = H5 at b5 hp5 ⊢
              have b05 : ExBut p H H5 := (ExBut.of e04).trans b5
              have hd5 := b05 _ _ hd (ne_of hd hp (by intro q; cases q))
              refine ⟨_, rfl, d, _, rfl, .inl hd5, fun q1 hq1 => sortedP (α := Str) (xs := namesP ps) (SqL.of upd_same) (by rw [keys_P]; exact hdL_strs _) fun us1 s1 hu1' pm1 hs1 => ?_⟩
              rw [hu1'.strs]
              have x1 : Ex H5 (upd H5 q1 (.lst ((kvP ps).map fun kv => kV kv.1))) := Ex.new hq1
              generalize upd H5 q1 (.lst ((kvP ps).map fun kv => kV kv.1)) = H6 at x1 hs1 ⊢
              have x2 : Ex H5 (upd H6 s1 (.lst ((srt (namesP ps)).map V.str))) := x1.trans (Ex.new hs1)
              have hs1' : upd H6 s1 (.lst ((srt (namesP ps)).map V.str)) s1 = some (.lst ((srt (namesP ps)).map V.str)) := upd_same
              generalize upd H6 s1 (.lst ((srt (namesP ps)).map V.str)) = H7 at x2 hs1' ⊢
              refine ⟨s1, rfl, ⟨_, SqL.of hs1'⟩, fun D1 hD1 => ?_⟩
              have nds : (srt (namesP ps)).Nodup := (srt_perm _).nodup_iff.mpr nd
              have lsr : (srt (namesP ps)).length = ps.length := by rw [(srt_perm _).length_eq]; exact List.length_map ..
              refine dcR (walk_list (xs := (srt (namesP ps)).map V.str)) hD1 ((srt (namesP ps)).map V.str) (fun k => .dK (((srt (namesP ps)).take k).map fun q => ((.inr q : Key), ov ((look ps q).getD none)))) rfl (fun H8 e8 => SqL.of (e8 _ _ hs1')) (fun k H8 x H9 h => h) (fun _ => rfl) (fun k x H8 hx e8 h8 => ?_) (fun H8 e8 h8 => ?_)
              · rw [List.getElem?_map] at hx
                obtain ⟨n, hn1, rfl⟩ := Option.map_eq_some_iff.mp hx
                have hm : n ∈ namesP ps := (srt_perm _).mem_iff.mp (List.mem_of_getElem? hn1)
                have hlk : (look ps n).isSome = true := by rw [look_some]; exact decide_eq_true hm
                obtain ⟨o, ho⟩ := Option.isSome_iff_exists.mp hlk
                refine ⟨_, rfl, _, rfl, _, rfl, d, ov o, rfl, .inl ⟨_, .inr n, .inl (e8 _ _ (x2 _ _ hd5)), rfl, by rw [val_kvP, ho]; rfl⟩, _, DPut.k (k := .inr n) h8 ?_, Ex.mut e8 hD1, ?_⟩
                · rw [List.length_map, List.length_take]
                  exact ltc (by omega)
                · rw [upd_same]
                  have ef : ov o = (fun q => ov ((look ps q).getD none)) n := by show ov o = ov ((look ps n).getD none); rw [ho]; rfl
                  rw [ef, put_names (fun q => ov ((look ps q).getD none)) (not_taken nds hn1), List.take_add_one, hn1]
                  rfl
              · have hf8 : H8 D1 = some (.dK (kvP (sortP ps))) := by
                  rw [h8, List.take_of_length_le (by rw [List.length_map]; exact Nat.le_refl _)]
                  unfold kvP sortP
                  rw [List.map_map]
                  rfl
                have x8 : Ex H5 H8 := x2.trans e8
                have hp8 := x8 _ _ hp5
                refine ⟨_, rfl, p, AA.C_Shape, dx, _, rfl, hp8, T.cl_Shape, T.n_Shape_own_posts, (by show 1 < 1000; decide), ?_⟩
                have np1 : D1 ≠ p := fun z => by rw [z, x2 _ _ hp5] at hD1; cases hD1
                have b9 : ExBut p H8 (upd H8 p (.ins AA.C_Shape dx (putF "own_posts" (.ref D1) (putF "own_sheet" (.ref sh) [])))) := ExBut.put
                have hp9 : upd H8 p (.ins AA.C_Shape dx (putF "own_posts" (.ref D1) (putF "own_sheet" (.ref sh) []))) p = some (.ins AA.C_Shape dx (putF "own_posts" (.ref D1) (putF "own_sheet" (.ref sh) []))) := upd_same
                generalize upd H8 p (.ins AA.C_Shape dx (putF "own_posts" (.ref D1) (putF "own_sheet" (.ref sh) []))) = H9 at b9 hp9 ⊢
                have b09 : ExBut p H H9 := (b05.trans (ExBut.of x8)).trans b9
                have hf9 := b9 _ _ hf8 np1
                have hl19 := sqT_but hl1 hp b09
                have ht19 : Paired (TieV H9) xs ts := paired_imp (fun _ _ z => z.but hp b09) ht1
                refine ⟨_, rfl, l1, _, rfl, .inr hl19, fun q2 hq2 => sortedR (α := Tie) (xs := ts) (R := TieV H9) (SqL.of upd_same) (ties_hd (ties_ex ht19 (Ex.new hq2))) ht19 fun us2 s2 hu2 pm2 hs2 => ?_⟩
                have x3 : Ex H9 (upd H9 q2 (.lst xs)) := Ex.new hq2
                generalize upd H9 q2 (.lst xs) = H10 at x3 hs2 ⊢
                have x4 : Ex H9 (upd H10 s2 (.lst us2)) := x3.trans (Ex.new hs2)
                have hs2' : upd H10 s2 (.lst us2) s2 = some (.lst us2) := upd_same
                generalize upd H10 s2 (.lst us2) = H11 at x4 hs2' ⊢
                refine ⟨s2, rfl, ⟨_, SqL.of hs2'⟩, fun D2 hD2 => ?_⟩
                refine ties_dc hD2 (SqL.of hs2') (ties_ex hu2 x4) (by rw [(srt_perm ts).length_eq]; exact z1) (fun _ => rfl) (fun _ => rfl) fun H12 e12 h12 => ?_
                have x12 : Ex H9 H12 := x4.trans e12
                have hp12 := x12 _ _ hp9
                refine ⟨_, rfl, p, AA.C_Shape, dx, _, rfl, hp12, T.cl_Shape, T.n_Shape_own_there, (by show 2 < 1000; decide), ?_⟩
                have np2 : D2 ≠ p := fun z => by rw [z, x4 _ _ hp9] at hD2; cases hD2
                have b13 : ExBut p H12 (upd H12 p (.ins AA.C_Shape dx (putF "own_there" (.ref D2) (putF "own_posts" (.ref D1) (putF "own_sheet" (.ref sh) []))))) := ExBut.put
                have hp13 : upd H12 p (.ins AA.C_Shape dx (putF "own_there" (.ref D2) (putF "own_posts" (.ref D1) (putF "own_sheet" (.ref sh) [])))) p = some (.ins AA.C_Shape dx (putF "own_there" (.ref D2) (putF "own_posts" (.ref D1) (putF "own_sheet" (.ref sh) [])))) := upd_same
                generalize upd H12 p (.ins AA.C_Shape dx (putF "own_there" (.ref D2) (putF "own_posts" (.ref D1) (putF "own_sheet" (.ref sh) [])))) = H13 at b13 hp13 ⊢
                have b013 : ExBut p H H13 := (b09.trans (ExBut.of x12)).trans b13
                have hf13 := b13 _ _ (x12 _ _ hf9) np1
                have hg13 := b13 _ _ h12 np2
                have hl213 := sqT_but hl2 hp b013
                have ht213 : Paired (TieV H13) ys ls := paired_imp (fun _ _ z => z.but hp b013) ht2
                refine ⟨_, rfl, l2, _, rfl, .inr hl213, fun q3 hq3 => sortedR (α := Tie) (xs := ls) (R := TieV H13) (SqL.of upd_same) (ties_hd (ties_ex ht213 (Ex.new hq3))) ht213 fun us3 s3 hu3 pm3 hs3 => ?_⟩
                have x5 : Ex H13 (upd H13 q3 (.lst ys)) := Ex.new hq3
                generalize upd H13 q3 (.lst ys) = H14 at x5 hs3 ⊢
                have x6 : Ex H13 (upd H14 s3 (.lst us3)) := x5.trans (Ex.new hs3)
                have hs3' : upd H14 s3 (.lst us3) s3 = some (.lst us3) := upd_same
                generalize upd H14 s3 (.lst us3) = H15 at x6 hs3' ⊢
                refine ⟨s3, rfl, ⟨_, SqL.of hs3'⟩, fun D3 hD3 => ?_⟩
                refine ties_dc hD3 (SqL.of hs3') (ties_ex hu3 x6) (by rw [(srt_perm ls).length_eq]; exact z2) (fun _ => rfl) (fun _ => rfl) fun H16 e16 h16 => ?_
                have x16 : Ex H13 H16 := x6.trans e16
                refine ⟨_, rfl, p, AA.C_Shape, dx, _, rfl, x16 _ _ hp13, T.cl_Shape, T.n_Shape_own_lacking, (by show 3 < 1000; decide), ?_⟩
                have np3 : D3 ≠ p := fun z => by rw [z, x6 _ _ hp13] at hD3; cases hD3
                have nD1 : H D1 = none := by
                  cases c : H D1 with
                  | none => rfl
                  | some o => rw [x2 _ _ (b05 _ _ c np1)] at hD1; cases hD1
                refine good ok _ ((b013.trans (ExBut.of x16)).trans ExBut.put) ⟨dx, D1, D2, D3, by rw [upd_same, put_all], ?_, ?_, ?_⟩ ⟨_, dx, _, D1, upd_same, (by rw [lookup_putF, if_neg f5, lookup_putF, if_neg f4, lookup_putF, if_pos rfl]), nD1⟩
                · rw [upd_ne np1]; exact x16 _ _ hf13
                · rw [upd_ne np2]; exact x16 _ _ hg13
                · rw [upd_ne np3]; exact h16
end
end K23
namespace K23
open PySem L2 Kd Evl Ks Kt Ky
open PySem.W (Datum DatumOrd T3)
section
variable {P : Program} {w : World} {K : PySem.W.Frag} {mg : Str → Option Value} {base : Heap} {AA : Ads}
theorem ok_Shape_sheet (T : Txt K mg AA) : FnOk P w K mg base CX0 1 AA.a_Shape_sheet AA.d_Shape_sheet ["self"] (getSp AA.C_Shape "own_sheet") := by
  refine T.F_Shape_sheet.ok sc_Shape_sheet (fun vs H Q E h => ?_) (fun cdv A outer s H vs Q E hr h => ?_)
  · obtain ⟨a, dx, fs, v, rfl, _⟩ := h
    rfl
  · obtain ⟨a, dx, fs, v, rfl, ha, hf, q⟩ := h
    exact ⟨_, (pss_one (ps_ret (pe_fld (pv 0) rfl))), _, rfl, a, _, dx, fs, v, rfl, ha, T.cl_Shape, T.n_Shape_own_sheet, hf, q⟩
def spPostsOf (AA : Ads) : Sp := fun vs H Q _ => ∃ p sh ps ts ls, vs = [.ref p] ∧ ShapeAt AA.C_Shape H p sh ps ts ls ∧ ∀ q, H q = none → Q (.ref q) (upd H q (.dK (kvP ps)))
theorem ok_Shape_posts (T : Txt K mg AA) : FnOk P w K mg base CX0 1 AA.a_Shape_posts AA.d_Shape_posts ["self"] (spPostsOf AA) := by
  refine T.F_Shape_posts.ok sc_Shape_posts (fun vs H Q E h => ?_) (fun cdv A outer s H vs Q E hr h => ?_)
  · obtain ⟨p, sh, ps, ts, ls, rfl, _⟩ := h
    rfl
  · obtain ⟨p, sh, ps, ts, ls, rfl, hs, q⟩ := h
    obtain ⟨dx, fs, po, th, la, h1, h2, h3, h4, h5, h6, h7, h8⟩ := hs.at_
    exact ⟨_, (pss_one (ps_ret (pe_callTy call_dictD (by rfl) T.n_dict (by decide +kernel) (pa_cons (pe_fld (pv 0) rfl) pa_nil)))), _, rfl, p, _, dx, fs, _, rfl, h1, T.cl_Shape, T.n_Shape_own_posts, h3, po, _, rfl, .inl h6, q⟩
def spTiesOf (g : List Tie → List Tie → List Tie) (AA : Ads) : Sp := fun vs H Q _ => ∃ p sh ps ts ls, vs = [.ref p] ∧ ShapeAt AA.C_Shape H p sh ps ts ls ∧ ∀ q xs H', Ex H H' → H' q = some (.tup xs) → Paired (TieV H') xs (g ts ls) → Q (.ref q) H'
theorem keys_ties {H : Hp} : ∀ {ts : List Tie} {bs : List Addr}, IsKeys H ((ts.map tieK).map fun k => (k, V.bl true)) bs → Paired (TieV H) (bs.map V.ref) ts
  | [], _, h => by cases h; exact .nil
  | t :: ts, _, h => by cases h with | cons h1 h2 => exact .cons ⟨_, rfl, h1⟩ (keys_ties h2)
theorem ok_Shape_there (T : Txt K mg AA) : FnOk P w K mg base CX0 1 AA.a_Shape_there AA.d_Shape_there ["self"] (spTiesOf (fun ts _ => ts) AA) := by
  refine T.F_Shape_there.ok sc_Shape_there (fun vs H Q E h => ?_) (fun cdv A outer s H vs Q E hr h => ?_)
  · obtain ⟨p, sh, ps, ts, ls, rfl, _⟩ := h
    rfl
  · obtain ⟨p, sh, ps, ts, ls, rfl, hs, q⟩ := h
    obtain ⟨dx, fs, po, th, la, h1, h2, h3, h4, h5, h6, h7, h8⟩ := hs.at_
    refine ⟨_, (pss_one (ps_ret (pe_callTy call_tuple_of (by rfl) T.n_tuple (by decide +kernel) (pa_cons (pe_callTy (call_list_dT rfl) (by rfl) T.n_list (by decide +kernel) (pa_cons (pe_fld (pv 0) rfl) pa_nil)) pa_nil)))), _, rfl, p, _, dx, fs, _, rfl, h1, T.cl_Shape, T.n_Shape_own_there, h4, th, _, rfl, .inl h7, fun l bs hl kb => ⟨l, _, rfl, .inl ⟨SqL.of upd_same, fun l2 hl2 => ?_⟩⟩⟩
    have e := (Ex.new (o := .lst (bs.map V.ref)) hl).trans (Ex.new (o := .tup (bs.map V.ref)) hl2)
    exact q l2 _ _ e upd_same (ties_ex (keys_ties kb) e)
theorem ok_Shape_lacking (T : Txt K mg AA) : FnOk P w K mg base CX0 1 AA.a_Shape_lacking AA.d_Shape_lacking ["self"] (spTiesOf (fun _ ls => ls) AA) := by
  refine T.F_Shape_lacking.ok sc_Shape_lacking (fun vs H Q E h => ?_) (fun cdv A outer s H vs Q E hr h => ?_)
  · obtain ⟨p, sh, ps, ts, ls, rfl, _⟩ := h
    rfl
  · obtain ⟨p, sh, ps, ts, ls, rfl, hs, q⟩ := h
    obtain ⟨dx, fs, po, th, la, h1, h2, h3, h4, h5, h6, h7, h8⟩ := hs.at_
    refine ⟨_, (pss_one (ps_ret (pe_callTy call_tuple_of (by rfl) T.n_tuple (by decide +kernel) (pa_cons (pe_callTy (call_list_dT rfl) (by rfl) T.n_list (by decide +kernel) (pa_cons (pe_fld (pv 0) rfl) pa_nil)) pa_nil)))), _, rfl, p, _, dx, fs, _, rfl, h1, T.cl_Shape, T.n_Shape_own_lacking, h5, la, _, rfl, .inl h8, fun l bs hl kb => ⟨l, _, rfl, .inl ⟨SqL.of upd_same, fun l2 hl2 => ?_⟩⟩⟩
    have e := (Ex.new (o := .lst (bs.map V.ref)) hl).trans (Ex.new (o := .tup (bs.map V.ref)) hl2)
    exact q l2 _ _ e upd_same (ties_ex (keys_ties kb) e)
def spNamesOf (AA : Ads) : Sp := fun vs H Q _ => ∃ p sh ps ts ls, vs = [.ref p] ∧ ShapeAt AA.C_Shape H p sh ps ts ls ∧ ∀ q H', Ex H H' → H' q = some (.tup ((namesP ps).map V.str)) → Q (.ref q) H'
theorem ok_Shape_names (T : Txt K mg AA) : FnOk P w K mg base CX0 1 AA.a_Shape_names AA.d_Shape_names ["self"] (spNamesOf AA) := by
  refine T.F_Shape_names.ok sc_Shape_names (fun vs H Q E h => ?_) (fun cdv A outer s H vs Q E hr h => ?_)
  · obtain ⟨p, sh, ps, ts, ls, rfl, _⟩ := h
    rfl
  · obtain ⟨p, sh, ps, ts, ls, rfl, hs, q⟩ := h
    obtain ⟨dx, fs, po, th, la, h1, h2, h3, h4, h5, h6, h7, h8⟩ := hs.at_
    refine ⟨_, (pss_one (ps_ret (pe_callTy call_tuple_of (by rfl) T.n_tuple (by decide +kernel) (pa_cons (pe_callTy (call_listD rfl) (by rfl) T.n_list (by decide +kernel) (pa_cons (pe_fld (pv 0) rfl) pa_nil)) pa_nil)))), _, rfl, p, _, dx, fs, _, rfl, h1, T.cl_Shape, T.n_Shape_own_posts, h3, po, _, rfl, .inl h6, fun l hl => ⟨l, _, rfl, .inl ⟨SqL.of upd_same, fun l2 hl2 => ?_⟩⟩⟩
    rw [keys_P]
    rw [keys_P] at hl2
    exact q l2 _ ((Ex.new hl).trans (Ex.new hl2)) upd_same
def sureP (ps : Posts) : Bool := ps.all fun p => p.2.isSome
def spLenP (AA : Ads) : Sp := fun vs H Q _ => ∃ p sh ps ts ls, vs = [.ref p] ∧ ShapeAt AA.C_Shape H p sh ps ts ls ∧ Q (.int (ps.length : Nat)) H
theorem ok_Shape_len (T : Txt K mg AA) : FnOk P w K mg base CX0 1 AA.a_Shape_len AA.d_Shape_len ["self"] (spLenP AA) := by
  refine T.F_Shape_len.ok sc_Shape_len (fun vs H Q E h => ?_) (fun cdv A outer s H vs Q E hr h => ?_)
  · obtain ⟨p, sh, ps, ts, ls, rfl, _⟩ := h
    rfl
  · obtain ⟨p, sh, ps, ts, ls, rfl, hs, q⟩ := h
    obtain ⟨dx, fs, po, th, la, h1, h2, h3, h4, h5, h6, h7, h8⟩ := hs.at_
    exact ⟨_, (pss_one (ps_ret (pe_callB call_lenD (by rfl) T.n_len (by decide +kernel) (pa_cons (pe_fld (pv 0) rfl) pa_nil)))), _, rfl, p, _, dx, fs, _, rfl, h1, T.cl_Shape, T.n_Shape_own_posts, h3, po, _, rfl, h6, by rw [kvP_len]; exact q⟩
/-- the texts of the numbers up to 40 are short -/
theorem numS_ok : ∀ n : Nat, n < 41 → (numS n).length ≤ 2 ∧ ((n : Int)).natAbs.log2 < 1920 := by decide +kernel
def shapeStr (n m l : Nat) : Str := ((((((Str.empty ++ ("shape of " : Str)) ++ numS n) ++ (" posts, " : Str)) ++ numS m) ++ (" there, " : Str)) ++ numS l) ++ (" lacking" : Str)
def spStrP (AA : Ads) : Sp := fun vs H Q _ => ∃ p sh ps ts ls, vs = [.ref p] ∧ ShapeAt AA.C_Shape H p sh ps ts ls ∧ ps.length ≤ 40 ∧ ts.length ≤ 40 ∧ ls.length ≤ 40 ∧ Q (.str (shapeStr ps.length ts.length ls.length)) H
theorem ok_Shape_str (T : Txt K mg AA) : FnOk P w K mg base CX0 1 AA.a_Shape_str AA.d_Shape_str ["self"] (spStrP AA) := by
  refine T.F_Shape_str.ok sc_Shape_str (fun vs H Q E h => ?_) (fun cdv A outer s H vs Q E hr h => ?_)
  · obtain ⟨p, sh, ps, ts, ls, rfl, _⟩ := h
    rfl
  · obtain ⟨p, sh, ps, ts, ls, rfl, hs, lp, lt, ll, q⟩ := h
    obtain ⟨dx, fs, po, th, la, h1, h2, h3, h4, h5, h6, h7, h8⟩ := hs.at_
    obtain ⟨n1, g1⟩ := numS_ok ps.length (by omega)
    obtain ⟨n2, g2⟩ := numS_ok ts.length (by omega)
    obtain ⟨n3, g3⟩ := numS_ok ls.length (by omega)
    refine ⟨_, (pss_one (ps_ret (pe_joined (.cons pe_str (.cons (pe_fmt (pe_callB call_lenD (by rfl) T.n_len (by decide +kernel) (pa_cons (pe_fld (pv 0) rfl) pa_nil))) (.cons pe_str (.cons (pe_fmt (pe_callB call_len_dT (by rfl) T.n_len (by decide +kernel) (pa_cons (pe_fld (pv 0) rfl) pa_nil))) (.cons pe_str (.cons (pe_fmt (pe_callB call_len_dT (by rfl) T.n_len (by decide +kernel) (pa_cons (pe_fld (pv 0) rfl) pa_nil))) (.cons pe_str .nil)))))))))), ?_⟩
    have z1 : (Str.empty ++ ("shape of " : Str)).length = 9 := by decide +kernel
    have z2 : ((" posts, " : Str)).length = 8 := by decide +kernel
    have z3 : ((" there, " : Str)).length = 8 := by decide +kernel
    have z4 : ((" lacking" : Str)).length = 8 := by decide +kernel
    have line : (100 : Nat) ≤ sizeLine := by decide
    have t1 : ((ts.map tieK).map fun k => (k, V.bl true)).length = ts.length := by rw [List.length_map, List.length_map]
    have t2 : ((ls.map tieK).map fun k => (k, V.bl true)).length = ls.length := by rw [List.length_map, List.length_map]
    refine ⟨_, rfl, by rw [z1]; omega, _, rfl, p, _, dx, fs, _, rfl, h1, T.cl_Shape, T.n_Shape_own_posts, h3, po, _, rfl, h6, .inr ⟨_, rfl, by rw [kvP_len]; exact g1, numS ps.length, by rw [kvP_len]; rfl, by rw [len_app]; omega, ?_⟩⟩
    refine ⟨_, rfl, by rw [len_app, len_app]; omega, _, rfl, p, _, dx, fs, _, rfl, h1, T.cl_Shape, T.n_Shape_own_there, h4, th, _, rfl, h7, .inr ⟨_, rfl, by rw [t1]; exact g2, numS ts.length, by rw [t1]; rfl, by rw [len_app, len_app, len_app]; omega, ?_⟩⟩
    refine ⟨_, rfl, by rw [len_app, len_app, len_app, len_app]; omega, _, rfl, p, _, dx, fs, _, rfl, h1, T.cl_Shape, T.n_Shape_own_lacking, h5, la, _, rfl, h8, .inr ⟨_, rfl, by rw [t2]; exact g3, numS ls.length, by rw [t2]; rfl, by rw [len_app, len_app, len_app, len_app, len_app]; omega, ?_⟩⟩
    exact ⟨_, rfl, by rw [len_app, len_app, len_app, len_app, len_app, len_app]; omega, q⟩
/-- what a shape tells in == -/
structure Shp where
  ks : List Str
  ws : List Str
  ps : Posts
  ts : List Tie
  ls : List Tie
def eqShp (a b : Shp) : Bool := decide (some (b.ks, b.ws) = some (a.ks, a.ws)) && (sameD (kvP a.ps) (kvP b.ps) && (sameK (a.ts.map tieK) (b.ts.map tieK) && sameK (a.ls.map tieK) (b.ls.map tieK)))
/-- a shape with its sheet -/
def ShpAt (AA : Ads) (H : Hp) (p : Addr) (x : Shp) : Prop := ∃ sh, ShapeAt AA.C_Shape H p sh x.ps x.ts x.ls ∧ SheetAt AA.C_Sheet H sh x.ks x.ws ∧ OkS x.ks ∧ OkS x.ws
theorem ShpAt.ex {AA : Ads} {H H' : Hp} {p : Addr} {x : Shp} (h : ShpAt AA H p x) (e : Ex H H') : ShpAt AA H' p x := by
  obtain ⟨sh, h1, h2, h3, h4⟩ := h
  exact ⟨sh, h1.ex e, h2.ex e, h3, h4⟩
/-- what the second one of == may be -/
def OtherP (K : PySem.W.Frag) (AA : Ads) (H : Hp) (y : V) (r : Option Shp) : Prop :=
  (∃ d, Dv K H y d ∧ r = none) ∨ (∃ b dx fs, y = .ref b ∧ H b = some (.ins AA.C_Sheet dx fs) ∧ r = none) ∨ ∃ b x, y = .ref b ∧ ShpAt AA H b x ∧ r = some x
def eqO (a : Shp) : Option Shp → Bool
  | none => false
  | some b => eqShp a b
def spEqP (K : PySem.W.Frag) (AA : Ads) : Sp := fun vs H Q _ => ∃ (a : Addr) (y : V) (x : Shp) (r : Option Shp), vs = [.ref a, y] ∧ ShpAt AA H a x ∧ OtherP K AA H y r ∧ Q (.bl (eqO x r)) H
theorem other_ty {K : PySem.W.Frag} {mg : Str → Option Value} {AA : Ads} (T : Txt K mg AA) {H : Hp} {y : V} {r : Option Shp} (h : OtherP K AA H y r) : ∃ t, TyX K H y t ∧ PySem.W.kitOne K t (.ref AA.C_Shape) = some r.isSome ∧ PySem.W.notFirst K AA.C_Shape t = true := by
  rcases h with ⟨d, hd, rfl⟩ | ⟨b, dx, fs, rfl, hb, rfl⟩ | ⟨b, x, rfl, ⟨sh, hx, _⟩, rfl⟩
  · exact ⟨_, tyX_of hd, T.I_Shape.no d, not_first d⟩
  · refine ⟨_, T.I_Sheet.ty hb, ?_, ?_⟩
    · have h1 : PySem.W.kitOne K (.ref AA.C_Sheet) (.ref AA.C_Shape) = PySem.W.kitCls K (.ref AA.C_Sheet) (.ref AA.C_Shape) := by
        show (if (Value.ref AA.C_Sheet == Value.ref AA.C_Shape) = true then some true else _) = _
        rw [if_neg (by rw [T.ss_ne]; exact Bool.false_ne_true)]
      rw [h1, kitCls_own T.I_Shape.ic T.I_Shape.it]
      exact T.ss_no
    · unfold PySem.W.notFirst
      rw [T.ss_no]
      simp
  · obtain ⟨dx, fs, po, th, la, h1, _⟩ := hx.at_
    exact ⟨_, T.I_Shape.ty h1, kit_self, not_first_self⟩
theorem ok_Shape_eq (T : Txt K mg AA) : FnOk P w K mg base CX0 3 AA.a_Shape_eq AA.d_Shape_eq ["self", "other"] (spEqP K AA) := by
  have G_Sheet_eq : FnOk P w K mg base CX0 1 AA.a_Sheet_eq AA.d_Sheet_eq ["self", "other"] (spEqS K AA.C_Sheet) := ok_Sheet_eq T
  refine T.F_Shape_eq.ok sc_Shape_eq (fun vs H Q E h => ?_) (fun cdv A outer s H vs Q E hr h => ?_)
  · obtain ⟨a, y, x, r, rfl, _⟩ := h
    rfl
  · obtain ⟨a, y, x, r, rfl, ha, ho, q⟩ := h
    have hu : _ + 64 < cLine := hu64 hr
    have hu1 : _ + 1 < cLine := hu_of hr
    obtain ⟨t, t1, t2, _⟩ := other_ty T ho
    refine ⟨_, (pss_cons (ps_if (pw_or (pt_not (pt_val (pe_callB call_isi (by rfl) T.n_isinstance (by decide +kernel) (pa_cons (pv 1) (pa_cons (pe_glob (v := .ref AA.C_Shape) (by rfl) T.g_Shape rfl) pa_nil))))) (pw_or (pt_cmpR (op_ownNe G_Sheet_eq (T.I_Sheet.own T.m_Sheet_eq) T.b_Sheet_eq (hr.mono (by decide))) (pe_fld (pv 0) rfl) (pe_fld (pv 1) rfl) (nomark _)) (pw_or1 (pt_cmpR (op_neK hu1) (pe_fld (pv 0) rfl) (pe_fld (pv 1) rfl) (nomark _))))).pt (pss_one (ps_ret pe_bl)) pss_nil)
    (pss_one (ps_ret (pe_and (pe_cmpR (op_eqT hu1) (pe_fld (pv 0) rfl) (pe_fld (pv 1) rfl) (nomark _)) (pe_one (pe_cmpR (op_eqT hu1) (pe_fld (pv 0) rfl) (pe_fld (pv 1) rfl) (nomark _))))))), ?_⟩
    refine ⟨_, rfl, _, _, _, _, _, rfl, .own _, t1, t2, _, rfl, ?_⟩
    rcases ho with ⟨d, hd, rfl⟩ | ⟨b, dx, fs, rfl, hb, rfl⟩ | ⟨b, z, rfl, hz, rfl⟩
    · exact if_t rfl (if_t rfl q)
    · exact if_t rfl (if_t rfl q)
    · refine if_f rfl ?_
      obtain ⟨sh, hx, hs, ok1, ok2⟩ := ha
      obtain ⟨si, hy, hi, ok3, ok4⟩ := hz
      obtain ⟨dx, fs, po, th, la, a1, a2, a3, a4, a5, a6, a7, a8⟩ := hx.at_
      obtain ⟨dy, gs, qo, qh, qa, b1, b2, b3, b4, b5, b6, b7, b8⟩ := hy.at_
      obtain ⟨d1, f1, k1, w1, s1, _⟩ := hs.at_
      obtain ⟨d2, f2, k2, w2, s2, _⟩ := hi.at_
      refine ⟨_, rfl, a, _, dx, fs, _, rfl, a1, T.cl_Shape, T.n_Shape_own_sheet, a2, _, rfl, b, _, dy, gs, _, rfl, b1, T.cl_Shape, T.n_Shape_own_sheet, b2, ?_⟩
      refine ⟨sh, d1, f1, _, rfl, s1, T.I_Sheet.ty s2, not_first_self, sh, _, x.ks, x.ws, some (z.ks, z.ws), rfl, hs, ok1, ok2, .inr ⟨si, _, _, rfl, hi, ok3, ok4, rfl⟩, _, rfl, _, rfl, ?_⟩
      unfold eqO eqShp at q
      dsimp only at q
      cases c1 : decide (some (z.ks, z.ws) = some (x.ks, x.ws)) with
      | false =>
        rw [c1] at q
        exact if_t rfl (if_t rfl q)
      | true =>
        rw [c1] at q
        refine if_f rfl ⟨_, rfl, a, _, dx, fs, _, rfl, a1, T.cl_Shape, T.n_Shape_own_posts, a3, _, rfl, b, _, dy, gs, _, rfl, b1, T.cl_Shape, T.n_Shape_own_posts, b3, po, qo, _, _, rfl, rfl, .inl a6, .inl b6, kvP_pl _, kvP_pl _, _, rfl, ?_⟩
        cases c2 : sameD (kvP x.ps) (kvP z.ps) with
        | false =>
          rw [c2] at q
          exact if_t rfl q
        | true =>
          rw [c2] at q
          refine if_f rfl ⟨_, rfl, a, _, dx, fs, _, rfl, a1, T.cl_Shape, T.n_Shape_own_there, a4, _, rfl, b, _, dy, gs, _, rfl, b1, T.cl_Shape, T.n_Shape_own_there, b4, th, qh, _, _, rfl, rfl, a7, b7, _, rfl, ?_⟩
          cases c3 : sameK (x.ts.map tieK) (z.ts.map tieK) with
          | false =>
            rw [c3] at q
            exact if_f rfl q
          | true =>
            rw [c3] at q
            exact if_t rfl ⟨_, rfl, a, _, dx, fs, _, rfl, a1, T.cl_Shape, T.n_Shape_own_lacking, a5, _, rfl, b, _, dy, gs, _, rfl, b1, T.cl_Shape, T.n_Shape_own_lacking, b5, la, qa, _, _, rfl, rfl, a8, b8, q⟩
end
end K23
namespace K23
open PySem L2 Kd Evl Ks Kt Ky
open PySem.W (Datum DatumOrd T3)
/-- a plain shape of the law -/
structure Plain (ks ws : List Str) (ps : Posts) (ts ls : List Tie) : Prop where
  nd : (namesP ps).Nodup
  nm : ∀ p ∈ ps, isName p.1 = true
  kd : ∀ p ∈ ps, kindOk ks p.2 = true
  few : ps.length ≤ 12
  tnd : (ts ++ ls).Nodup
  tok : ∀ t ∈ ts ++ ls, t.b ∈ ws ∧ t.a ∈ namesP ps ∧ t.c ∈ namesP ps
  tl : (ts ++ ls).length ≤ 8
theorem names_sortP (ps : Posts) : namesP (sortP ps) = srt (namesP ps) := by
  unfold sortP namesP
  rw [List.map_map]
  exact List.map_id' _
theorem sortP_len (ps : Posts) : (sortP ps).length = ps.length := by
  unfold sortP
  rw [List.length_map, (srt_perm _).length_eq]
  exact List.length_map ..
theorem look_at {ps : Posts} (nd : (namesP ps).Nodup) {p : Str × Option Str} (h : p ∈ ps) : look ps p.1 = some p.2 := by
  induction ps with
  | nil => cases h
  | cons q ps ih =>
    have nd' : q.1 ∉ namesP ps ∧ (namesP ps).Nodup := List.nodup_cons.mp nd
    unfold look
    rw [List.find?_cons]
    rcases List.mem_cons.mp h with rfl | h
    · rw [decide_eq_true rfl]
      rfl
    · have ne : ¬ q.1 = p.1 := fun z => nd'.1 (by rw [z]; exact List.mem_map.mpr ⟨p, h, rfl⟩)
      rw [decide_eq_false ne]
      exact ih nd'.2 h
theorem sortP_perm {ps : Posts} (nd : (namesP ps).Nodup) : (sortP ps).Perm ps := by
  have h1 : (sortP ps).Perm ((namesP ps).map fun n => (n, (look ps n).getD none)) := (srt_perm (namesP ps)).map _
  have h2 : (namesP ps).map (fun n => (n, (look ps n).getD none)) = ps := by
    unfold namesP
    rw [List.map_map]
    conv => rhs; rw [← List.map_id ps]
    refine List.map_congr_left fun p hp => ?_
    show (p.1, (look ps p.1).getD none) = p
    rw [look_at nd hp]
    rfl
  rw [h2] at h1
  exact h1
theorem look_none {ps : Posts} {n : Str} (h : n ∉ namesP ps) : look ps n = none := by
  have e := look_some ps n
  rw [decide_eq_false h] at e
  exact Option.isNone_iff_eq_none.mp (by cases c : look ps n with | none => rfl | some _ => rw [c] at e; cases e)
theorem let_ok : ∀ c ∈ LET, c < 0x110000 := by decide +kernel
theorem name_ok {z : Str} (h : isName z = true) : PyData.strOk z = true := by
  have h1 := (Bool.and_eq_true_iff.mp h).2
  unfold PyData.strOk
  rw [Array.all_eq_true']
  intro c hc
  have h2 := List.all_eq_true.mp h1 c (by simpa using hc)
  exact decide_eq_true (let_ok c (of_decide_eq_true h2))
theorem made_ex {H : Hp} {x dx C : Addr} (nx : H x = none) (nd : H dx = none) : Ex H (upd (upd H dx (.own x)) x (.ins C dx [])) := fun b o e => by
  rw [upd_ne (ne_of_none e nx), upd_ne (ne_of_none e nd)]
  exact e
theorem made_but {H H2 : Hp} {x dx C : Addr} (nx : H x = none) (nd : H dx = none) (b : ExBut x (upd (upd H dx (.own x)) x (.ins C dx [])) H2) : Ex H H2 := fun c o e => b c o (made_ex nx nd c o e) (ne_of_none e nx)
def namesD (zs : List Str) : PyData := .tuple (zs.map .str)
theorem strs_names : ∀ zs : List Str, strsOf (zs.map PyData.str) = zs
  | [] => rfl
  | z :: zs => congrArg (z :: ·) (strs_names zs)
theorem all_names : ∀ zs : List Str, (zs.map PyData.str).all isNameD = zs.all isName
  | [] => rfl
  | z :: zs => by
    rw [List.map_cons, List.all_cons, List.all_cons, all_names zs]
    rfl
/-- names that a sheet takes -/
structure Nm (zs : List Str) (m : Nat) : Prop where
  lo : 1 ≤ zs.length
  hi : zs.length ≤ m
  nm : ∀ z ∈ zs, isName z = true
  nd : zs.Nodup
theorem Nm.are {zs : List Str} {m : Nat} (h : Nm zs m) : areNamesD (namesD zs) m = true := by
  have e1 : ((zs.map PyData.str).length : Int) = (zs.length : Int) := by rw [List.length_map]
  have e2 : (uniq (zs.map fun z => (Sum.inr z : Key))).length = zs.length := by
    have hn : (zs.map fun z => (Sum.inr z : Key)).Nodup := List.pairwise_map.mpr (h.nd.imp fun q z => q (Sum.inr.inj z))
    rw [(len_eq_uniq _).mpr hn, List.length_map]
  show (((decide (1 ≤ ((zs.map PyData.str).length : Int)) && decide (((zs.map PyData.str).length : Int) ≤ (m : Int))) && (zs.map PyData.str).all isNameD) && decide ((uniq ((strsOf (zs.map PyData.str)).map fun z => (Sum.inr z : Key))).length = (zs.map PyData.str).length)) = true
  rw [strs_names, e2, all_names, List.all_eq_true.mpr h.nm, List.length_map]
  have a1 := h.lo
  have a2 := h.hi
  rw [decide_eq_true (by omega), decide_eq_true (by omega), decide_eq_true rfl]
  rfl
theorem Nm.few {zs : List Str} {m : Nat} (h : Nm zs m) (hm : m ≤ 3) : fewD (namesD zs) := fun ds e => by
  cases e
  rw [List.length_map]
  have a2 := h.hi
  refine ⟨by omega, fun x hx => ?_⟩
  obtain ⟨z, hz, rfl⟩ := List.mem_map.mp hx
  intro y e
  cases e
  have b := h.nm z hz
  refine ⟨?_, name_ok b⟩
  have b1 := of_decide_eq_true (Bool.and_eq_true_iff.mp (Bool.and_eq_true_iff.mp b).1).2
  omega
theorem Nm.ok {zs : List Str} {m : Nat} (h : Nm zs m) : OkS zs := fun z hz => name_ok (h.nm z hz)
theorem Nm.perm {zs ys : List Str} {m : Nat} (h : Nm zs m) (p : ys.Perm zs) : Nm ys m := ⟨by rw [p.length_eq]; exact h.lo, by rw [p.length_eq]; exact h.hi, fun z hz => h.nm z (p.mem_iff.mp hz), p.nodup_iff.mpr h.nd⟩
theorem Nm.le {zs : List Str} {m n : Nat} (h : Nm zs m) (hm : m ≤ n) : Nm zs n := ⟨h.lo, Nat.le_trans h.hi hm, h.nm, h.nd⟩
theorem Nm.take {zs : List Str} {m : Nat} (h : Nm zs m) {k : Nat} (hk : 1 ≤ k) : Nm (zs.take k) k := by
  have a := h.lo
  refine ⟨by rw [List.length_take]; omega, by rw [List.length_take]; omega, fun z hz => h.nm z (List.mem_of_mem_take hz), h.nd.sublist (List.take_sublist _ _)⟩
theorem dv_names {K : PySem.W.Frag} {H : Hp} {a : Addr} {zs : List Str} (h : SqT K H a (zs.map V.str)) : Dv K H (.ref a) (namesD zs) := .inl (.tup h (dpAll_strs zs))
theorem strsD_names (zs : List Str) : strsD (namesD zs) = zs := strs_names zs
theorem mk_ok {K : PySem.W.Frag} {AA : Ads} {H1 : Hp} {k w : V} {kz wz : List Str} {Qx : Addr → Hp → Prop} {E : XK} (hk : Dv K H1 k (namesD kz)) (hw : Dv K H1 w (namesD wz)) (nk : Nm kz 3) (nw : Nm wz 2)
    (q : ∀ x H2 ks ws, Ex H1 H2 → IsSort kz ks → IsSort wz ws → SheetAt AA.C_Sheet H2 x ks ws → Qx x H2) :
    ∀ x dx, H1 x = none → H1 dx = none → dx ≠ x → spInit K AA (.ref x :: ([k, w] ++ [])) (upd (upd H1 dx (.own x)) x (.ins AA.C_Sheet dx [])) (fun v H2 => v = .non ∧ Qx x H2) E := by
  intro x dx nx nd ne
  have e := made_ex (C := AA.C_Sheet) nx nd
  have hg : (areNamesD (namesD kz) ((3 : Nat) : Int) && areNamesD (namesD wz) ((2 : Nat) : Int)) = true := by
    rw [nk.are, nw.are]
    rfl
  refine ⟨x, dx, k, w, namesD kz, namesD wz, rfl, upd_same, dv_ex e hk, dv_ex e hw, nk.few (by decide), nw.few (by decide), fun _ ks ws H2 s1 s2 eb hs => ⟨rfl, ?_⟩, fun hb => ?_⟩
  · rw [strsD_names] at s1 s2
    exact q x H2 ks ws (made_but nx nd eb) s1 s2 hs
  · have hb' : (areNamesD (namesD kz) ((3 : Nat) : Int) && areNamesD (namesD wz) ((2 : Nat) : Int)) = false := hb
    rw [hg] at hb'
    cases hb'
theorem nodup_leA {α : Type} [DecidableEq α] : ∀ {xs zs : List α}, xs.Nodup → (∀ x ∈ xs, x ∈ zs) → xs.length ≤ zs.length
  | [], _, _, _ => Nat.zero_le _
  | x :: xs, zs, nd, sub => by
    obtain ⟨n1, n2⟩ := List.nodup_cons.mp nd
    have hx : x ∈ zs := sub x List.mem_cons_self
    have ih := nodup_leA (xs := xs) (zs := zs.erase x) n2 fun y hy => (List.mem_erase_of_ne (show y ≠ x from fun z => n1 (by rw [← z]; exact hy))).mpr (sub y (List.mem_cons_of_mem _ hy))
    rw [List.length_erase_of_mem hx] at ih
    have := List.length_pos_of_mem hx
    rw [List.length_cons]
    omega
theorem sub_back {α : Type} [DecidableEq α] {xs zs : List α} (nd : xs.Nodup) (sub : ∀ x ∈ xs, x ∈ zs) (len : zs.length ≤ xs.length) {z : α} (hz : z ∈ zs) : z ∈ xs := by
  refine Decidable.byContradiction fun c => ?_
  have := nodup_leA (xs := z :: xs) (zs := zs) (List.nodup_cons.mpr ⟨c, nd⟩) fun y hy => by
    rcases List.mem_cons.mp hy with rfl | hy
    · exact hz
    · exact sub y hy
  rw [List.length_cons] at this
  omega
theorem once_srt {L ts : List Tie} (nd : ts.Nodup) (h : ∀ t, t ∈ L ↔ t ∈ ts) : once (srt L) = srt ts := by
  refine up_one ((srt_up L).sublist (once_sub _)) (srt_up ts) ?_
  refine (List.perm_ext_iff_of_nodup (nodup_once _) ((srt_perm ts).nodup_iff.mpr nd)).mpr fun t => ?_
  rw [mem_once, (srt_perm L).mem_iff, (srt_perm ts).mem_iff]
  exact h t
theorem once_self {ts : List Tie} (nd : ts.Nodup) : once (srt ts) = srt ts := once_srt nd fun _ => Iff.rfl
theorem look_perm {ps qs : Posts} (h : qs.Perm ps) (nd : (namesP ps).Nodup) (n : Str) : look qs n = look ps n := by
  have nq : (namesP qs).Nodup := (h.map _).nodup_iff.mpr nd
  by_cases c : n ∈ namesP ps
  · obtain ⟨p, hp, rfl⟩ := List.mem_map.mp c
    rw [look_at nd hp, look_at nq (h.mem_iff.mpr hp)]
  · rw [look_none c, look_none (fun z => c ((h.map _).mem_iff.mp z))]
theorem sortP_one {ps qs : Posts} (h : qs.Perm ps) (nd : (namesP ps).Nodup) : sortP qs = sortP ps := by
  unfold sortP
  rw [srt_one (show (namesP qs).Perm (namesP ps) from h.map fun p : Str × Option Str => p.1)]
  exact List.map_congr_left fun n _ => by rw [look_perm h nd]
theorem nd_sortP {ps : Posts} (nd : (namesP ps).Nodup) : (namesP (sortP ps)).Nodup := by
  rw [names_sortP]
  exact (srt_perm _).nodup_iff.mpr nd
theorem look_sortP {ps : Posts} (nd : (namesP ps).Nodup) (n : Str) : look (sortP ps) n = look ps n := look_perm (sortP_perm nd) nd n
theorem ov_inj {a b : Option Str} (h : ov a = ov b) : a = b := by cases a <;> cases b <;> cases h <;> rfl
theorem hit_iff (qs : Posts) : ∀ ps : Posts, hitB (kvP qs) (kvP ps) = true ↔ ∀ p ∈ ps, look qs p.1 = some p.2
  | [] => ⟨fun _ _ z => (nomatch z), fun _ => rfl⟩
  | p :: ps => by
    have ih := hit_iff qs ps
    have e : hitB (kvP qs) (kvP (p :: ps)) = (match valV (kvP qs) (.inr p.1) with | none => false | some y => Kt.eqV (ov p.2) y && hitB (kvP qs) (kvP ps)) := rfl
    rw [e, val_kvP, List.forall_mem_cons]
    cases c : look qs p.1 with
    | none => simp
    | some o =>
      show (Kt.eqV (ov p.2) (ov o) && _) = true ↔ _
      rw [Bool.and_eq_true_iff, eqV_iff (ov_pl _) (ov_pl _), ih]
      constructor
      · rintro ⟨h1, h2⟩
        exact ⟨by rw [ov_inj h1], h2⟩
      · rintro ⟨h1, h2⟩
        exact ⟨by rw [Option.some.inj h1], h2⟩
theorem sameD_iff {ps qs : Posts} (np : (namesP ps).Nodup) (nq : (namesP qs).Nodup) : sameD (kvP ps) (kvP qs) = true ↔ ∀ n, look ps n = look qs n := by
  have lp : (namesP ps).length = ps.length := List.length_map ..
  have lq : (namesP qs).length = qs.length := List.length_map ..
  unfold sameD
  rw [Bool.and_eq_true_iff, beq_iff_eq, kvP_len, kvP_len, hit_iff]
  have mem : ∀ {rs : Posts} {n : Str}, n ∈ namesP rs ↔ (look rs n).isSome = true := fun {rs n} => by rw [look_some, decide_eq_true_iff]
  constructor
  · rintro ⟨h1, h2⟩ n
    by_cases c : n ∈ namesP ps
    · obtain ⟨p, hp, rfl⟩ := List.mem_map.mp c
      rw [h2 p hp, look_at np hp]
    · have sub : ∀ x ∈ namesP ps, x ∈ namesP qs := fun x hx => by
        obtain ⟨p, hp, rfl⟩ := List.mem_map.mp hx
        rw [mem, h2 p hp]
        rfl
      have c2 : n ∉ namesP qs := fun z => c (sub_back np sub (by omega) z)
      rw [look_none c, look_none c2]
  · intro h
    refine ⟨?_, fun p hp => by rw [← h p.1, look_at np hp]⟩
    have s1 := nodup_leA np (zs := namesP qs) fun x hx => by rw [mem, ← h x, ← mem]; exact hx
    have s2 := nodup_leA nq (zs := namesP ps) fun x hx => by rw [mem, h x, ← mem]; exact hx
    omega
theorem sameK_gen {κ : Type} [DecidableEq κ] (ks ls : List κ) : sameK ks ls = true ↔ ks.length = ls.length ∧ ∀ k ∈ ks, k ∈ ls := by
  unfold sameK
  rw [Bool.and_eq_true_iff, beq_iff_eq, List.all_eq_true]
  simp only [decide_eq_true_eq]
theorem sameK_iff {ts us : List Tie} (nt : ts.Nodup) (nu : us.Nodup) : sameK ((srt ts).map tieK) ((srt us).map tieK) = true ↔ ∀ t, t ∈ ts ↔ t ∈ us := by
  have inm : ∀ (t : Tie) (l : List Tie), tieK t ∈ l.map tieK ↔ t ∈ l := fun t l => by
    rw [List.mem_map]
    exact ⟨fun ⟨u, hu, e⟩ => tieK_inj _ _ e ▸ hu, fun h => ⟨t, h, rfl⟩⟩
  rw [sameK_gen, List.length_map, List.length_map, (srt_perm ts).length_eq, (srt_perm us).length_eq]
  constructor
  · rintro ⟨h1, h2⟩ t
    have sub : ∀ x ∈ ts, x ∈ us := fun x hx => by
      have := h2 (tieK x) (List.mem_map.mpr ⟨x, (srt_perm ts).mem_iff.mpr hx, rfl⟩)
      exact (srt_perm us).mem_iff.mp ((inm _ _).mp this)
    exact ⟨sub t, fun h => sub_back nt sub (by omega) h⟩
  · intro h
    refine ⟨Nat.le_antisymm (nodup_leA nt fun x hx => (h x).mp hx) (nodup_leA nu fun x hx => (h x).mpr hx), fun k hk => ?_⟩
    obtain ⟨t, ht, rfl⟩ := List.mem_map.mp hk
    exact (inm _ _).mpr ((srt_perm us).mem_iff.mpr ((h t).mp ((srt_perm ts).mem_iff.mp ht)))
section
variable {kr wr kr' wr' ks ws : List Str} {ps qs : Posts} {ts ls us ms : List Tie}
theorem Plain.t1 (h : Plain kr wr ps ts ls) : ts.Nodup := (List.nodup_append.mp h.tnd).1
theorem Plain.t2 (h : Plain kr wr ps ts ls) : ls.Nodup := (List.nodup_append.mp h.tnd).2.1
/-- a plain shape -/
structure Pb where
  ps : Posts
  ts : List Tie
  ls : List Tie
deriving DecidableEq
/-- its own order -/
def cn (b : Pb) : Pb := ⟨sortP b.ps, srt b.ts, srt b.ls⟩
def toS (ks ws : List Str) (b : Pb) : Shp := ⟨ks, ws, b.ps, b.ts, b.ls⟩
/-- plain, with some names -/
def Pl (b : Pb) : Prop := ∃ kr wr, Plain kr wr b.ps b.ts b.ls
/-- in its own order -/
def Cn (c : Pb) : Prop := ∃ b, Pl b ∧ c = cn b
theorem looks_sort (nd : (namesP ps).Nodup) (nq : (namesP qs).Nodup) : sortP ps = sortP qs ↔ ∀ n, look ps n = look qs n := by
  constructor
  · intro e n
    rw [← look_sortP nd, e, look_sortP nq]
  · intro h
    have hm : ∀ n, n ∈ namesP ps ↔ n ∈ namesP qs := fun n => by
      have z := look_some ps n
      rw [h n, look_some] at z
      exact ⟨fun y => of_decide_eq_true (z.trans (decide_eq_true y)), fun y => of_decide_eq_true (z.symm.trans (decide_eq_true y))⟩
    unfold sortP
    rw [srt_one ((List.perm_ext_iff_of_nodup nd nq).mpr hm)]
    exact List.map_congr_left fun n _ => by rw [h n]
theorem ties_sort (nt : ts.Nodup) (nu : us.Nodup) : srt ts = srt us ↔ ∀ t, t ∈ ts ↔ t ∈ us := by
  constructor
  · intro e t
    rw [← (srt_perm ts).mem_iff, e, (srt_perm us).mem_iff]
  · intro h
    exact srt_one ((List.perm_ext_iff_of_nodup nt nu).mpr h)
theorem cn_iff {b c : Pb} (hb : Pl b) (hc : Pl c) : cn b = cn c ↔ ((∀ n, look b.ps n = look c.ps n) ∧ (∀ t, t ∈ b.ts ↔ t ∈ c.ts) ∧ ∀ t, t ∈ b.ls ↔ t ∈ c.ls) := by
  obtain ⟨kr, wr, h1⟩ := hb
  obtain ⟨kr', wr', h2⟩ := hc
  rw [← looks_sort h1.nd h2.nd, ← ties_sort h1.t1 h2.t1, ← ties_sort h1.t2 h2.t2]
  unfold cn
  rw [Pb.mk.injEq]
theorem eqShp_cn {c d : Pb} (hc : Cn c) (hd : Cn d) : eqShp (toS ks ws c) (toS ks ws d) = decide (c = d) := by
  obtain ⟨b, hb, rfl⟩ := hc
  obtain ⟨b', hb', rfl⟩ := hd
  rw [Bool.eq_iff_iff, decide_eq_true_iff, cn_iff hb hb']
  obtain ⟨kr, wr, h1⟩ := hb
  obtain ⟨kr', wr', h2⟩ := hb'
  unfold eqShp toS cn
  dsimp only
  rw [decide_eq_true rfl, Bool.true_and, Bool.and_eq_true_iff, Bool.and_eq_true_iff, sameD_iff (nd_sortP h1.nd) (nd_sortP h2.nd), sameK_iff h1.t1 h2.t1, sameK_iff h1.t2 h2.t2]
  simp only [look_sortP h1.nd, look_sortP h2.nd]
/-- the law's own == of two plain shapes -/
def sameB (b c : Pb) : Bool := sameD (kvP b.ps) (kvP c.ps) && (decide (srt b.ts = srt c.ts) && decide (srt b.ls = srt c.ls))
theorem sameB_cn {b c : Pb} (hb : Pl b) (hc : Pl c) : sameB b c = decide (cn b = cn c) := by
  rw [Bool.eq_iff_iff, decide_eq_true_iff, cn_iff hb hc]
  obtain ⟨kr, wr, h1⟩ := hb
  obtain ⟨kr', wr', h2⟩ := hc
  unfold sameB
  rw [Bool.and_eq_true_iff, Bool.and_eq_true_iff, sameD_iff h1.nd h2.nd, decide_eq_true_iff, decide_eq_true_iff, ties_sort h1.t1 h2.t1, ties_sort h1.t2 h2.t2]
/-- a ban -/
structure BanOk (c : Pb) : Prop where
  cn : Cn c
  lo : 1 ≤ c.ps.length
  hi : c.ps.length ≤ 3
  la : c.ls.length ≤ 1
/-- rows that are each once, and others behind them -/
theorem uniq_nodup {α : Type} [DecidableEq α] {l : List α} (h : l.Nodup) : uniq l = l := by
  have go : ∀ (r acc : List α), (acc ++ r).Nodup → r.foldl add1 acc = acc ++ r := by
    intro r
    induction r with
    | nil => intro acc _; rw [List.foldl_nil, List.append_nil]
    | cons x r ih =>
      intro acc h
      have e : add1 acc x = acc ++ [x] := by
        refine if_neg fun z => ?_
        rw [has_iff] at z
        exact (List.nodup_append.mp h).2.2 x z x List.mem_cons_self rfl
      rw [List.foldl_cons, e, ih _ (by rw [List.append_assoc]; exact h), List.append_assoc]
      rfl
  exact go l [] h
theorem uniq_app {α : Type} [DecidableEq α] {l : List α} (h : l.Nodup) : ∀ {r : List α}, r.Nodup → uniq (l ++ r) = l ++ r.filter fun x => decide (x ∉ l) := by
  intro r hr
  have go : ∀ (r m : List α), (m ++ r).Nodup → r.foldl add1 (l ++ m.filter fun x => decide (x ∉ l)) = l ++ (m ++ r).filter fun x => decide (x ∉ l) := by
    intro r
    induction r with
    | nil => intro m _; rw [List.foldl_nil, List.append_nil]
    | cons x r ih =>
      intro m hm
      have nx : x ∉ m := fun z => (List.nodup_append.mp hm).2.2 x z x List.mem_cons_self rfl
      have e : add1 (l ++ m.filter fun x => decide (x ∉ l)) x = l ++ (m ++ [x]).filter fun x => decide (x ∉ l) := by
        rw [List.filter_append]
        by_cases c : x ∈ l
        · have z : [x].filter (fun x => decide (x ∉ l)) = [] := by simp [c]
          rw [z, List.append_nil]
          exact if_pos (has_iff.mpr (List.mem_append.mpr (.inl c)))
        · have z : [x].filter (fun x => decide (x ∉ l)) = [x] := by simp [c]
          rw [z, ← List.append_assoc]
          refine if_neg fun y => ?_
          rw [has_iff] at y
          rcases List.mem_append.mp y with y | y
          · exact c y
          · exact nx (List.mem_filter.mp y).1
      rw [List.foldl_cons, e, ih (m ++ [x]) (by rw [List.append_assoc]; exact hm), List.append_assoc]
      rfl
  unfold uniq
  rw [List.foldl_append]
  have z := uniq_nodup h
  unfold uniq at z
  rw [z]
  have y := go r [] hr
  rw [List.filter_nil, List.append_nil] at y
  exact y
theorem uniq_sub {α : Type} [DecidableEq α] {l r : List α} (h : l.Nodup) (hr : ∀ x ∈ r, x ∈ l) : uniq (l ++ r) = l := by
  have go : ∀ (r : List α), (∀ x ∈ r, x ∈ l) → r.foldl add1 l = l := by
    intro r
    induction r with
    | nil => intro _; rfl
    | cons x r ih =>
      intro hr
      rw [List.foldl_cons, show add1 l x = l from if_pos (has_iff.mpr (hr x List.mem_cons_self))]
      exact ih fun y hy => hr y (List.mem_cons_of_mem _ hy)
  unfold uniq
  rw [List.foldl_append]
  have z := uniq_nodup h
  unfold uniq at z
  rw [z]
  exact go r hr
end
end K23
namespace K23
open PySem L2 Kd Evl Ks Kt Ky
open PySem.W (Datum DatumOrd T3)
def spDice (K : PySem.W.Frag) : Sp := fun vs H Q _ => ∃ (a : Addr) (ns : List Int) (k : Int), vs = [.ref a, .int k] ∧ SqL K H a (ns.map V.int) ∧ 0 ≤ k ∧ ∀ p, H p = none → Q (.ref p) (upd H p (diceO p))
def spRoll : Sp := fun vs H Q _ => ∃ (a : Addr) (n : Int), vs = [.ref a, .int n] ∧ H a = some (diceO a) ∧ 0 < n ∧ n < 2 ^ 30 ∧ ∀ i : Int, 0 ≤ i → i < n → Q (.int i) H
theorem small_mul {i j : Int} (h0 : 0 ≤ i) (h1 : i < 2 ^ 64) : (-(2 ^ 64) < i ∧ i < 2 ^ 64) ∨ (-(2 ^ 64) < j ∧ j < 2 ^ 64) := .inl ⟨by omega, h1⟩
theorem divW {i n : Int} (h0 : 0 < n) (h1 : n < 2 ^ 30) : CDivW i n := wide_div (b := 30) h0 (by omega) (by decide) (by decide)
section
variable {P : Program} {w : World} {K : PySem.W.Frag} {mg : Str → Option Value} {base : Heap} {AA : Ads}
theorem ok_law_roll (T : Txt K mg AA) : FnOk P w K mg base CX0 1 AA.a_law_roll AA.d_law_roll ["_law_dice_here", "_law_many"] spRoll := by
  refine T.F_law_roll.ok sc_law_roll (fun vs H Q E h => ?_) (fun cdv A outer s H vs Q E hr h => ?_)
  · obtain ⟨a, n, rfl, _⟩ := h
    rfl
  · obtain ⟨a, n, rfl, ha, h0, h1, k⟩ := h
    refine ⟨_, (pss_cons (ps_if (pt_cmpR op_gt (pe_ix ix_dice (pv 0) pe_int (fun _ _ => rfl)) pe_int (nomark _)) (pss_cons (ps_set (i := 4) sc_law_roll.nd rfl (Or.inl rfl) (pe_op op_mod (pe_callTy call_int1 (by rfl) T.n_int (by decide +kernel) (pa_cons (pe_ix ix_dice (pv 0) pe_int (fun _ _ => rfl)) pa_nil)) (pv 1)))
    (pss_cons (ps_asg (pe_op op_fdivW (pe_ix ix_dice (pv 0) pe_int (fun _ _ => rfl)) (pv 1)) (pg_sub (pv 0) pe_int set_dice))
    (pss_one (ps_ret (pv 4))))) pss_nil)
    (pss_cons (ps_asg (pe_op op_add (pe_ix ix_dice (pv 0) pe_int (fun _ _ => rfl)) pe_int) (pg_sub (pv 0) pe_int set_dice))
    (pss_cons (ps_set (i := 2) sc_law_roll.nd rfl (Or.inl rfl) (pe_op op_mod (pe_callTy call_int1 (by rfl) T.n_int (by decide +kernel) (pa_cons (pe_op op_add (pe_ix ix_dice (pv 0) pe_int (fun _ _ => rfl)) (pe_op op_mul pe_int (pe_ix ix_dice (pv 0) pe_int (fun _ _ => rfl)))) pa_nil)) pe_int))
    (pss_cons (ps_set (i := 3) sc_law_roll.nd rfl (Or.inl rfl) (pe_op op_mod (pe_callTy call_int1 (by rfl) T.n_int (by decide +kernel) (pa_cons (pe_op op_add (pe_op op_mul (pv 2) (pv 2)) (pe_op op_mul pe_int (pe_ix ix_dice (pv 0) pe_int (fun _ _ => rfl)))) pa_nil)) pe_int))
    (pss_one (ps_ret (pe_op op_mod (pe_callTy call_int1 (by rfl) T.n_int (by decide +kernel) (pa_cons (pe_op op_fdivW (pe_op op_mod (pe_callTy call_int1 (by rfl) T.n_int (by decide +kernel) (pa_cons (pe_op op_mul (pv 3) (pv 2)) pa_nil)) pe_int) pe_int) pa_nil)) (pv 1)))))))), ?_⟩
    refine ⟨_, rfl, a, 0, rfl, rfl, ha, .inl rfl, fun x0 => ⟨_, _, rfl, rfl, _, rfl, ?_⟩⟩
    by_cases c : 0 < x0
    · refine if_t (decide_eq_true c) ?_
      refine ⟨_, rfl, a, 0, rfl, rfl, ha, .inl rfl, fun x1 => .inl ⟨_, rfl, _, rfl, _, _, rfl, rfl, h0, ?_⟩⟩
      refine ⟨_, rfl, a, 0, rfl, rfl, ha, .inl rfl, fun x2 => ⟨_, rfl, _, _, rfl, rfl, divW h0 h1, _, rfl, a, 0, _, rfl, rfl, rfl, ha, .inl rfl, ?_⟩⟩
      exact ⟨_, rfl, k _ (Int.emod_nonneg _ (by omega)) (Int.emod_lt_of_pos _ h0)⟩
    · refine if_f (decide_eq_false c) ?_
      refine ⟨_, rfl, a, 2, rfl, rfl, ha, .inr (.inr rfl), fun x1 => ⟨_, _, rfl, rfl, _, rfl, a, 2, _, rfl, rfl, rfl, ha, .inr (.inr rfl), ?_⟩⟩
      refine ⟨_, rfl, a, 1, rfl, rfl, ha, .inr (.inl rfl), fun x2 => ⟨_, rfl, a, 2, rfl, rfl, ha, .inr (.inr rfl), fun x3 => ⟨_, _, rfl, rfl, .inl (by decide), _, _, rfl, rfl, .inl ⟨_, rfl, _, _, rfl, rfl, (by dsimp only; omega), ?_⟩⟩⟩⟩
      have y0 : 0 ≤ (x2 + 961748941 * x3) % 9007199254740847 := Int.emod_nonneg _ (by decide)
      have y1 : (x2 + 961748941 * x3) % 9007199254740847 < 9007199254740847 := Int.emod_lt_of_pos _ (by decide)
      refine ⟨_, rfl, _, rfl, _, _, rfl, rfl, small_mul y0 (by omega), _, rfl, a, 2, rfl, rfl, ha, .inr (.inr rfl), fun x4 => ⟨_, _, rfl, rfl, .inl (by decide), _, _, rfl, rfl, .inl ⟨_, rfl, _, _, rfl, rfl, (by dsimp only; omega), ?_⟩⟩⟩
      have z0 : 0 ≤ ((x2 + 961748941 * x3) % 9007199254740847 * ((x2 + 961748941 * x3) % 9007199254740847) + 32452867 * x4) % 4611686018427387847 := Int.emod_nonneg _ (by decide)
      have z1 : ((x2 + 961748941 * x3) % 9007199254740847 * ((x2 + 961748941 * x3) % 9007199254740847) + 32452867 * x4) % 4611686018427387847 < 4611686018427387847 := Int.emod_lt_of_pos _ (by decide)
      refine ⟨_, rfl, _, rfl, _, _, rfl, rfl, small_mul z0 (by omega), .inl ⟨_, rfl, _, _, rfl, rfl, (by dsimp only; omega), _, _, rfl, rfl, divW (by decide) (by decide), .inl ⟨_, rfl, _, rfl, _, _, rfl, rfl, h0, k _ (Int.emod_nonneg _ (by omega)) (Int.emod_lt_of_pos _ h0)⟩⟩⟩
theorem ok_law_dice (T : Txt K mg AA) : FnOk P w K mg base CX0 1 AA.a_law_dice AA.d_law_dice ["_law_script", "_law_spot"] (spDice K) := by
  refine T.F_law_dice.ok sc_law_dice (fun vs H Q E h => ?_) (fun cdv A outer s H vs Q E hr h => ?_)
  · obtain ⟨a, ns, k, rfl, _⟩ := h
    rfl
  · obtain ⟨a, ns, k, rfl, ha, h0, q⟩ := h
    refine ⟨_, (pss_cons (ps_set (i := 2) sc_law_dice.nd rfl (Or.inl rfl) (pe_ifExp (pt_cmpR op_lt (pv 1) (pe_callB call_len_seq (by rfl) T.n_len (by decide +kernel) (pa_cons (pv 0) pa_nil)) (nomark _)) (pe_ix ix_list (pv 0) (pv 1) (fun _ _ => rfl)) (pe_op op_add (pe_op op_mul pe_int (pv 1)) pe_int)))
    (pss_cons (ps_set (i := 3) sc_law_dice.nd rfl (Or.inl rfl) (pe_op op_mod (pe_callTy call_int1 (by rfl) T.n_int (by decide +kernel) (pa_cons (pe_callB call_abs (by rfl) T.n_abs (by decide +kernel) (pa_cons (pv 2) pa_nil)) pa_nil)) (pe_op op_powW (pe_op op_pow pe_int pe_int) pe_int)))
    (pss_cons (ps_set (i := 4) sc_law_dice.nd rfl (Or.inl rfl) (pe_op op_mul (pe_op op_mod (pe_callTy call_int1 (by rfl) T.n_int (by decide +kernel) (pa_cons (pv 3) pa_nil)) pe_int) pe_int))
    (pss_cons (ps_set (i := 4) sc_law_dice.nd rfl (Or.inl rfl) (pe_op op_mod (pe_callTy call_int1 (by rfl) T.n_int (by decide +kernel) (pa_cons (pe_op op_add (pe_op op_add (pe_op op_add (pv 4) (pe_op op_mul pe_int (pv 1))) (pe_op op_mul pe_int (pe_callTy call_int1 (by rfl) T.n_int (by decide +kernel) (pa_cons (pe_cmpR op_lt (pv 2) pe_int (nomark _)) pa_nil)))) pe_int) pa_nil)) pe_int))
    (pss_one (ps_ret (pe_shut (pe_lst (pa_cons (pe_callB (call_max2 rfl) (by rfl) T.n_max (by decide +kernel) (pa_cons pe_int (pa_cons (pe_op op_sub (pv 3) (pe_op op_pow pe_int pe_int)) pa_nil))) (pa_cons (pv 4) (pa_cons pe_int pa_nil))))))))))), ?_⟩
    refine ⟨_, rfl, _, rfl, a, _, rfl, .inl ha, _, _, rfl, rfl, _, rfl, ?_⟩
    have hpow : CPowW ((10 : Int) ^ (59 : Int).toNat) 10 := ⟨by decide, by decide +kernel⟩
    have hpos : (0 : Int) < ((10 : Int) ^ (59 : Int).toNat) ^ (10 : Int).toNat := by decide +kernel
    by_cases c : k < ((ns.map V.int).length : Int)
    · refine if_t (decide_eq_true c) ?_
      rw [List.length_map] at c
      obtain ⟨j, ej⟩ : ∃ j : Nat, k = (j : Int) := ⟨k.toNat, by omega⟩
      obtain ⟨x, hx⟩ : ∃ x, ns[j]? = some x := ⟨ns[j]'(by omega), List.getElem?_eq_getElem _⟩
      refine ⟨_, rfl, _, rfl, a, _, _, _, rfl, rfl, ha, at_of (j := j) (v := V.int x) ej (by rw [List.getElem?_map, hx]; rfl), ?_⟩
      refine ⟨_, rfl, _, rfl, .inl ⟨_, rfl, _, _, rfl, rfl, ⟨by decide, by decide, by decide⟩, _, _, rfl, rfl, hpow, _, _, rfl, rfl, hpos, ?_⟩⟩
      refine ⟨_, rfl, .inl ⟨_, rfl, _, _, rfl, rfl, (by dsimp only; omega), _, _, rfl, rfl, .inr (by decide), ?_⟩⟩
      refine ⟨_, rfl, _, rfl, _, _, rfl, rfl, .inl (by decide), _, _, rfl, rfl, _, rfl, _, _, rfl, rfl, .inr ⟨_, rfl, _, _, rfl, rfl, .inl (by decide), _, _, rfl, rfl, _, _, rfl, rfl, .inl ⟨_, rfl, _, _, rfl, rfl, (by dsimp only; omega), ?_⟩⟩⟩
      refine ⟨_, rfl, _, _, rfl, rfl, ⟨by decide, by decide, by decide⟩, _, _, rfl, rfl, _, _, rfl, _, rfl, (by show 3 ≤ sizeLine; decide), fun p hp => ⟨p, _, _, _, rfl, upd_same, ?_⟩⟩
      rw [upd_upd]
      exact q p hp
    · refine if_f (decide_eq_false c) ?_
      refine ⟨_, rfl, _, _, rfl, rfl, .inl (by decide), _, _, rfl, rfl, ?_⟩
      refine ⟨_, rfl, _, rfl, .inl ⟨_, rfl, _, _, rfl, rfl, ⟨by decide, by decide, by decide⟩, _, _, rfl, rfl, hpow, _, _, rfl, rfl, hpos, ?_⟩⟩
      refine ⟨_, rfl, .inl ⟨_, rfl, _, _, rfl, rfl, (by dsimp only; omega), _, _, rfl, rfl, .inr (by decide), ?_⟩⟩
      refine ⟨_, rfl, _, rfl, _, _, rfl, rfl, .inl (by decide), _, _, rfl, rfl, _, rfl, _, _, rfl, rfl, .inr ⟨_, rfl, _, _, rfl, rfl, .inl (by decide), _, _, rfl, rfl, _, _, rfl, rfl, .inl ⟨_, rfl, _, _, rfl, rfl, (by dsimp only; omega), ?_⟩⟩⟩
      refine ⟨_, rfl, _, _, rfl, rfl, ⟨by decide, by decide, by decide⟩, _, _, rfl, rfl, _, _, rfl, _, rfl, (by show 3 ≤ sizeLine; decide), fun p hp => ⟨p, _, _, _, rfl, upd_same, ?_⟩⟩
      rw [upd_upd]
      exact q p hp
end
end K23
namespace K23
open PySem L2 Kd Evl Ks Kt Ky
open PySem.W (Datum DatumOrd T3)
def spPick (K : PySem.W.Frag) : Sp := fun vs H Q _ => ∃ (a l : Addr) (xs : List V), vs = [.ref a, .ref l] ∧ H a = some (diceO a) ∧ SqL K H l xs ∧ 0 < xs.length ∧ xs.length ≤ 1000 ∧ ∀ x ∈ xs, Q x H
theorem ixAt {k : Nat} {n : Nat} (h : k < n) (hn : n ≤ 1000) : seqIndex? (k : Int) n = some k := seqIndex_of (by omega) (by omega)
theorem erase_perm {α : Type} : ∀ (l : List α) (i : Nat) (h : i < l.length), (l[i] :: l.eraseIdx i).Perm l
  | x :: l, 0, _ => List.Perm.refl _
  | x :: l, i + 1, h => by
    have h' : i < l.length := Nat.lt_of_succ_lt_succ h
    show (l[i] :: x :: l.eraseIdx i).Perm (x :: l)
    exact (List.Perm.swap _ _ _).trans ((erase_perm l i h').cons x)
def nameP (z : Str) (k : Nat) : Prop := z.length = k ∧ ∀ c ∈ z.cps.toList, c ∈ LET
theorem nameP.snoc {z : Str} {k c : Nat} (h : nameP z k) (hc : c ∈ LET) : nameP (z ++ ⟨#[c]⟩) (k + 1) := by
  obtain ⟨h1, h2⟩ := h
  refine ⟨by rw [len_app, h1]; rfl, fun x hx => ?_⟩
  rw [Str.cps_append, Array.toList_append] at hx
  rcases List.mem_append.mp hx with hx | hx
  · exact h2 x hx
  · rw [show x = c by simpa using hx]
    exact hc
theorem nameP.ok {z : Str} {k : Nat} (h : nameP z k) (h1 : 1 ≤ k) (h8 : k ≤ 8) : isName z = true := by
  obtain ⟨e, h2⟩ := h
  unfold isName
  rw [e, decide_eq_true (by omega), decide_eq_true (by omega), Bool.and_self, Bool.true_and, List.all_eq_true]
  intro c hc
  exact decide_eq_true (h2 c hc)
theorem let26 : LET.length = 26 := by decide +kernel
def spMixed (K : PySem.W.Frag) : Sp := fun vs H Q _ => ∃ (a l : Addr) (xs : List V), vs = [.ref a, .ref l] ∧ H a = some (diceO a) ∧ SqL K H l xs ∧ xs.length ≤ 1000 ∧ (∀ z ∈ xs, ∃ c, z = .ref c) ∧ ∀ ys p H', ys.Perm xs → Ex H H' → H p = none → H' p = some (.lst ys) → Q (.ref p) H'
theorem join_name : ∀ {zs : List Str}, (∀ z ∈ zs, ∃ c ∈ LET, z = ⟨#[c]⟩) → nameP (Str.join "" zs) zs.length
  | [], _ => ⟨rfl, fun c hc => by cases hc⟩
  | [z], h => by
    obtain ⟨c, hc, rfl⟩ := h z List.mem_cons_self
    exact ⟨rfl, fun x hx => by rw [show x = c by simpa using (show x ∈ (#[c] : Array Nat).toList from hx)]; exact hc⟩
  | z :: y :: r, h => by
    obtain ⟨c, hc, rfl⟩ := h z List.mem_cons_self
    obtain ⟨i1, i2⟩ := join_name (zs := y :: r) fun x hx => h x (List.mem_cons_of_mem _ hx)
    have e : Str.join "" ((⟨#[c]⟩ : Str) :: y :: r) = ((⟨#[c]⟩ : Str) ++ "") ++ Str.join "" (y :: r) := rfl
    have z0 : ("" : Str).length = 0 := rfl
    have z1 : (⟨#[c]⟩ : Str).length = 1 := rfl
    refine ⟨?_, fun x hx => ?_⟩
    · rw [e, len_app, len_app, i1, z0, z1]
      simp only [List.length_cons]
      omega
    · rw [e, Str.cps_append, Array.toList_append, Str.cps_append, Array.toList_append] at hx
      rcases List.mem_append.mp hx with hx | hx
      · rcases List.mem_append.mp hx with hx | hx
        · rw [show x = c by simpa using hx]; exact hc
        · cases hx
      · exact i2 x hx
theorem sum_ones : ∀ {zs : List Str}, (∀ z ∈ zs, ∃ c ∈ LET, z = ⟨#[c]⟩) → (zs.map (·.length)).sum = zs.length
  | [], _ => rfl
  | z :: zs, h => by
    obtain ⟨c, hc, rfl⟩ := h z List.mem_cons_self
    rw [List.map_cons, List.sum_cons, sum_ones fun x hx => h x (List.mem_cons_of_mem _ hx), List.length_cons]
    show 1 + zs.length = _
    omega
/-- the letters, as texts -/
def lets : List Str := LET.map fun c => ⟨#[c]⟩
theorem lets_nd : lets.Nodup := by decide +kernel
theorem lets_ok : ∀ z ∈ lets, isName z = true := by decide +kernel
theorem lets_signs : signsOf "abcdefghijklmnopqrstuvwxyz" = lets := by decide +kernel
theorem lets_len : lets.length = 26 := by decide +kernel
/-- one of the letters is not there -/
theorem free_letter {ts : List Str} (h : ts.length ≤ 25) : ∃ z ∈ lets, z ∉ ts := by
  refine Decidable.byContradiction fun c => ?_
  have := nodup_leA lets_nd (zs := ts) fun z hz => Decidable.byContradiction fun y => c ⟨z, hz, y⟩
  rw [lets_len] at this
  omega
section
variable {P : Program} {w : World} {K : PySem.W.Frag} {mg : Str → Option Value} {base : Heap} {AA : Ads}
theorem ok_law_pick (T : Txt K mg AA) : FnOk P w K mg base CX0 2 AA.a_law_pick AA.d_law_pick ["_law_dice_here", "_law_items"] (spPick K) := by
  have G_law_roll : FnOk P w K mg base CX0 1 AA.a_law_roll AA.d_law_roll ["_law_dice_here", "_law_many"] spRoll := ok_law_roll T
  refine T.F_law_pick.ok sc_law_pick (fun vs H Q E h => ?_) (fun cdv A outer s H vs Q E hr h => ?_)
  · obtain ⟨a, l, xs, rfl, _⟩ := h
    rfl
  · obtain ⟨a, l, xs, rfl, ha, hl, h0, h1, q⟩ := h
    refine ⟨_, (pss_one (ps_ret (pe_ix ix_list (pv 1) (pe_call G_law_roll (hr.mono (by decide)) (by rfl) T.g_law_roll T.k_law_roll T.b_law_roll .nil pass0 (pa_cons (pv 0) (pa_cons (pe_callB call_len_seq (by rfl) T.n_len (by decide +kernel) (pa_cons (pv 1) pa_nil)) pa_nil))) (fun _ _ => rfl)))), ?_⟩
    refine ⟨_, rfl, _, rfl, _, rfl, l, xs, rfl, .inl hl, a, _, rfl, ha, by omega, by omega, fun i i0 i1 => ?_⟩
    obtain ⟨j, ej⟩ : ∃ j : Nat, i = (j : Int) := ⟨i.toNat, by omega⟩
    have hj : j < xs.length := by omega
    exact ⟨l, xs, i, xs[j], rfl, rfl, hl, at_of ej (List.getElem?_eq_getElem hj), q _ (List.getElem_mem hj)⟩
theorem ok_law_mixed (T : Txt K mg AA) : FnOk P w K mg base CX0 2 AA.a_law_mixed AA.d_law_mixed ["_law_dice_here", "_law_items"] (spMixed K) := by
  have G_law_roll : FnOk P w K mg base CX0 1 AA.a_law_roll AA.d_law_roll ["_law_dice_here", "_law_many"] spRoll := ok_law_roll T
  refine T.F_law_mixed.ok sc_law_mixed (fun vs H Q E h => ?_) (fun cdv A outer s H vs Q E hr h => ?_)
  · obtain ⟨a, l, xs, rfl, _⟩ := h
    rfl
  · obtain ⟨a, l, xs, rfl, ha, hl, h1, rf, q⟩ := h
    refine ⟨_, (pss_cons (ps_par (i := 2) (j := 3) rfl sc_law_mixed.nd rfl rfl (by decide) rfl rfl (by exact (pa_cons (pe_callTy call_list_of (by rfl) T.n_list (by decide +kernel) (pa_cons (pv 1) pa_nil)) (pa_cons (pe_lst pa_nil) pa_nil))) rfl)
    (pss_cons (ps_while PassesOwn.never (pt_cmpR (Kq.op_neL (n := 0) (K := K) rfl Kq.askD_none (hr.mono (by decide))) (pv 2) (pe_lst pa_nil) (nomark _)) (pss_one (ps_expr (pe_bm PySem.F.plainAttrs_list PySem.F.slot_list_append PySem.F.type_list_append mt_append (pv 3) (pa_cons (pe_bm PySem.F.plainAttrs_list PySem.F.slot_list_pop PySem.F.type_list_pop mt_popAt (pv 2) (pa_cons (pe_call G_law_roll (hr.mono (by decide)) (by rfl) T.g_law_roll T.k_law_roll T.b_law_roll .nil pass0 (pa_cons (pv 0) (pa_cons (pe_callB call_len_seq (by rfl) T.n_len (by decide +kernel) (pa_cons (pv 2) pa_nil)) pa_nil))) pa_nil)) pa_nil)))))
    (pss_one (ps_ret (pv 3))))), ?_⟩
    refine ⟨_, rfl, l, xs, rfl, .inl hl, fun p hp => ⟨(by show 0 ≤ sizeLine; decide), fun D hD => ⟨_, _, rfl, ?_⟩⟩⟩
    have x1 : Ex H (upd H p (.lst xs)) := Ex.new hp
    have nDp : D ≠ p := (ne_of_none upd_same hD).symm
    have nD : H D = none := fresh_back x1 hD
    refine ⟨fun m σ J => ∃ acc left, σ = [some (.ref a), some (.ref l), some (.ref p), some (.ref D)] ∧ J D = some (.lst acc) ∧ J p = some (.lst left) ∧ (acc ++ left).Perm xs ∧ Ex H J ∧ m = left.length, ⟨_, [], xs, rfl, upd_same, by rw [upd_ne nDp.symm]; exact upd_same, List.Perm.refl _, Ex.mut x1 nD, rfl⟩, ?_⟩
    rintro m σ J ⟨acc, left, rfl, hDa, hpl, perm, ex, rfl⟩
    have hln := perm.length_eq
    rw [List.length_append] at hln
    refine ⟨_, rfl, (by show 0 ≤ sizeLine; decide), fun q0 hq0 => ?_⟩
    have e0 : Ex J (upd J q0 (.lst [])) := Ex.new hq0
    refine Kq.rowNe (fun z hz => rf z (perm.mem_iff.mp (List.mem_append.mpr (.inr hz)))) (SqL.of (e0 _ _ hpl)) (SqL.of upd_same) ⟨_, rfl, ?_⟩
    have hDa' := e0 _ _ hDa
    have hpl' := e0 _ _ hpl
    have ex' := ex.trans e0
    generalize upd J q0 (.lst []) = J1 at hDa' hpl' ex' ⊢
    cases left with
    | nil =>
      rw [List.append_nil] at perm
      exact if_f rfl ⟨_, rfl, q acc D J1 perm ex' nD hDa'⟩
    | cons y left =>
      rw [List.length_cons] at hln
      refine if_t rfl ⟨fun σ J' => ∃ acc' left', σ = [some (.ref a), some (.ref l), some (.ref p), some (.ref D)] ∧ J' D = some (.lst acc') ∧ J' p = some (.lst left') ∧ (acc' ++ left').Perm xs ∧ Ex H J' ∧ left'.length = left.length, ?_, ?_⟩
      · rintro σ' J' ⟨acc', left', e1, e2, e3, e4, e5, e6⟩
        exact ⟨_, by rw [e6]; exact Nat.lt_succ_self _, acc', left', e1, e2, e3, e4, e5, rfl⟩
      refine ⟨_, rfl, .inl ⟨rfl, _, SqL.of hDa'⟩, _, rfl, .inl ⟨rfl, _, SqL.of hpl'⟩, _, rfl, _, rfl, p, _, rfl, .inl (SqL.of hpl'), a, _, rfl, ex' _ _ ha, by rw [List.length_cons]; omega, by rw [List.length_cons]; omega, fun r r0 r1 => ?_⟩
      obtain ⟨j, ej⟩ : ∃ j : Nat, r = (j : Int) := ⟨r.toNat, by omega⟩
      have lc : (y :: left).length = left.length + 1 := rfl
      have hj : j < (y :: left).length := by omega
      subst ej
      refine ⟨p, _, _, j, (y :: left)[j], rfl, rfl, hpl', by omega, by omega, ixAt hj (by rw [List.length_cons]; omega), List.getElem?_eq_getElem hj, ?_⟩
      refine ⟨D, _, _, rfl, rfl, by rw [upd_ne nDp]; exact hDa', len_lt (by omega), acc ++ [(y :: left)[j]], (y :: left).eraseIdx j, rfl, upd_same, by rw [upd_ne nDp.symm, upd_same], ?_, ?_, ?_⟩
      · rw [List.append_assoc]
        exact ((List.Perm.append_left acc (erase_perm (y :: left) j hj)).trans perm)
      · exact Ex.mut (Ex.mut ex' hp) nD
      · rw [List.length_eraseIdx, if_pos hj]
        rfl
end
end K23
namespace K23
open PySem L2 Kd Evl Ks Kt Ky
open PySem.W (Datum DatumOrd T3)
/-- the sheet that the law draws stands at p -/
def SheetD (H : Hp) (p : Addr) (ks ws : List Str) : Prop := ∃ l1 l2, H p = some (.dK [(.inr "kinds", .ref l1), (.inr "words", .ref l2)]) ∧ H l1 = some (.lst (ks.map V.str)) ∧ H l2 = some (.lst (ws.map V.str))
theorem SheetD.ex {H H' : Hp} {p : Addr} {ks ws : List Str} (h : SheetD H p ks ws) (e : Ex H H') : SheetD H' p ks ws := by
  obtain ⟨l1, l2, h1, h2, h3⟩ := h
  exact ⟨l1, l2, e _ _ h1, e _ _ h2, e _ _ h3⟩
theorem kw0 : ¬ (("kinds" : Str) = "words") := by decide +kernel
theorem val_kinds {x y : V} : valV [((.inr "kinds" : Key), x), (.inr "words", y)] (.inr "kinds") = some x := valV_pos rfl
theorem val_words {x y : V} : valV [((.inr "kinds" : Key), x), (.inr "words", y)] (.inr "words") = some y := by
  rw [valV_neg fun z => kw0 (Sum.inr.inj z), valV_pos rfl]
section
variable {P : Program} {w : World} {K : PySem.W.Frag} {mg : Str → Option Value} {base : Heap} {AA : Ads}
def spFresh (K : PySem.W.Frag) : Sp := fun vs H Q _ => ∃ (a l : Addr) (ts : List Str), vs = [.ref a, .ref l] ∧ H a = some (diceO a) ∧ SqL K H l (ts.map V.str) ∧ ts.length ≤ 25 ∧ ∀ H' z, Ex H H' → isName z = true → z ∉ ts → Q (.str z) H'
theorem ok_law_fresh (T : Txt K mg AA) : FnOk P w K mg base CX0 3 AA.a_law_fresh AA.d_law_fresh ["_law_dice_here", "_law_taken"] (spFresh K) := by
  have G_law_roll : FnOk P w K mg base CX0 1 AA.a_law_roll AA.d_law_roll ["_law_dice_here", "_law_many"] spRoll := ok_law_roll T
  have G_law_pick : FnOk P w K mg base CX0 2 AA.a_law_pick AA.d_law_pick ["_law_dice_here", "_law_items"] (spPick K) := ok_law_pick T
  refine T.F_law_fresh.ok sc_law_fresh (fun vs H Q E h => ?_) (fun cdv A outer s H vs Q E hr h => ?_)
  · obtain ⟨a, l, ts, rfl, _⟩ := h
    rfl
  · obtain ⟨a, l, ts, rfl, ha, hl, few, q⟩ := h
    have hu : _ + 64 < cLine := hu64 hr
    refine ⟨_, (pss_cons (ps_set (i := 2) sc_law_fresh.nd rfl (Or.inr rfl) pe_str)
    (pss_cons (ps_set (i := 3) sc_law_fresh.nd rfl (Or.inl rfl) (pe_bm PySem.F.plainAttrs_str PySem.F.slot_str_join PySem.F.type_str_join mt_join pe_str (pa_cons (pe_lc (own := [("_law_turn", 4)]) (g := gName 4) rfl sc_law_fresh.nd  (pi_range1 rfl T.n_range (pa_cons (pe_call G_law_pick (hr.mono (by decide)) (by rfl) T.g_law_pick T.k_law_pick T.b_law_pick .nil pass0 (pa_cons (pv 0) (pa_cons (pe_lst (pa_cons pe_int (pa_cons pe_int (pa_cons pe_int (pa_cons pe_int (pa_cons pe_int pa_nil)))))) pa_nil))) pa_nil)) (blkOk_by (N := N_law_fresh) (sc := defScope s_law_fresh) (by decide +kernel)) (fun _ _ _ _ _ => (pg_name (i := 4) sc_law_fresh.nd rfl (Or.inl rfl))) (fun _ _ _ _ _ => pts_nil) (fun _ _ _ _ _ => by exact (pe_ix ix_str (pv 2) (pe_call G_law_roll (hr.mono (by decide)) (by rfl) T.g_law_roll T.k_law_roll T.b_law_roll .nil pass0 (pa_cons (pv 0) (pa_cons pe_int pa_nil))) (fun _ _ => rfl)))) pa_nil)))
    (pss_one (ps_ret (pe_ix ix_list (pe_lc (own := [("_law_name", 5)]) (g := gName 5) rfl sc_law_fresh.nd  (pi_list (pe_op op_cat (pe_lst (pa_cons (pv 3) pa_nil)) (pe_callTy (call_listS rfl) (by rfl) T.n_list (by decide +kernel) (pa_cons (pv 2) pa_nil)))) (blkOk_by (N := N_law_fresh) (sc := defScope s_law_fresh) (by decide +kernel)) (fun _ _ _ _ _ => (pg_name (i := 5) sc_law_fresh.nd rfl (Or.inl rfl))) (fun _ _ _ _ _ => (by exact pts_one (pt_cmpR (op_notInP (K := K) rfl hu) (pv 5) (pv 1) rfl))) (fun _ _ _ _ _ => by exact (pv 5))) pe_int (fun _ _ => rfl)))))), ?_⟩
    refine ⟨rfl, _, rfl, (by show 5 ≤ sizeLine; decide), fun L hL => ?_⟩
    have e1 : Ex H (upd H L (.lst [.int 1, .int 1, .int 1, .int 2, .int 8])) := Ex.new hL
    have gL : upd H L (.lst [.int 1, .int 1, .int 1, .int 2, .int 8]) L = some (.lst [.int 1, .int 1, .int 1, .int 2, .int 8]) := upd_same
    generalize upd H L (.lst [.int 1, .int 1, .int 1, .int 2, .int 8]) = H1 at e1 gL ⊢
    have da := e1 _ _ ha
    refine ⟨a, L, _, rfl, da, SqL.of gL, (by decide), (by decide), fun x hx => ?_⟩
    obtain ⟨m, rfl, m1, m8⟩ : ∃ m : Nat, x = .int (m : Int) ∧ 1 ≤ m ∧ m ≤ 8 := by
      simp only [List.mem_cons, List.not_mem_nil, or_false] at hx
      rcases hx with rfl | rfl | rfl | rfl | rfl
      · exact ⟨1, rfl, by decide, by decide⟩
      · exact ⟨1, rfl, by decide, by decide⟩
      · exact ⟨1, rfl, by decide, by decide⟩
      · exact ⟨2, rfl, by decide, by decide⟩
      · exact ⟨8, rfl, by decide, by decide⟩
    refine ⟨_, rfl, by omega, by omega, fun D hD => ?_⟩
    refine lc_range (fun i J => Ex H1 J ∧ ∃ zs : List Str, J D = some (.lst (zs.map V.str)) ∧ (∀ z ∈ zs, ∃ c ∈ LET, z = ⟨#[c]⟩) ∧ zs.length = i) ⟨Ex.mut (Ex.refl _) hD, [], upd_same, (fun z h => nomatch h), rfl⟩ ?_ ?_
    · rintro i J hi ⟨e2, zs, hz, hc, lz⟩
      refine ⟨rfl, ?_⟩
      refine ⟨_, rfl, _, rfl, a, 26, rfl, e2 _ _ da, by decide, by decide, fun r r0 r1 => ?_⟩
      obtain ⟨j, ej⟩ : ∃ j : Nat, r = (j : Int) := ⟨r.toNat, by omega⟩
      have hj : j < LET.length := by rw [let26]; omega
      refine ⟨_, r, LET[j], rfl, rfl, (by decide +kernel), (by rw [ej]; exact atI_nat (List.getElem?_eq_getElem hj)), _, hz, len_lt (by rw [List.length_map]; omega), Ex.mut e2 hD, zs ++ [⟨#[LET[j]]⟩], by rw [upd_same, List.map_append]; rfl, fun z h => ?_, by rw [List.length_append, lz]; rfl⟩
      rcases List.mem_append.mp h with h | h
      · exact hc z h
      · exact ⟨_, List.getElem_mem hj, List.mem_singleton.mp h⟩
    rintro J ⟨e2, zs, hz, hc, lz⟩
    have lz' : zs.length = m := by omega
    obtain ⟨n1, n2⟩ := join_name hc
    have okw : isName (Str.join "" zs) = true := nameP.ok ⟨rfl, n2⟩ (by omega) (by omega)
    refine ⟨"", D, zs, rfl, rfl, .inl (SqL.of hz), ?_, ?_⟩
    · rw [sum_ones hc]
      have z0 : ("" : Str).length = 0 := rfl
      rw [z0]
      omega
    rw [show Txt.join "" zs = Str.join "" zs from TL.join_eq _ _]
    refine ⟨_, rfl, (by show 1 ≤ sizeLine; decide), fun p1 hp1 => ⟨_, rfl, _, rfl, (by decide +kernel), fun l2 hl2 => ?_⟩⟩
    have e3 : Ex J (upd J p1 (.lst [.str (Str.join "" zs)])) := Ex.new hp1
    have g3 : upd J p1 (.lst [.str (Str.join "" zs)]) p1 = some (.lst [.str (Str.join "" zs)]) := upd_same
    generalize upd J p1 (.lst [.str (Str.join "" zs)]) = J1 at e3 g3 hl2 ⊢
    rw [lets_signs]
    have e4 : Ex J1 (upd J1 l2 (.lst (lets.map V.str))) := Ex.new hl2
    have g4 : upd J1 l2 (.lst (lets.map V.str)) l2 = some (.lst (lets.map V.str)) := upd_same
    generalize upd J1 l2 (.lst (lets.map V.str)) = J2 at e4 g4 ⊢
    refine ⟨_, _, _, _, rfl, rfl, e4 _ _ g3, g4, (by rw [List.length_map, lets_len]; exact (by decide : 27 ≤ sizeLine)), fun p hp => ?_⟩
    have e5 : Ex J2 (upd J2 p (.lst ([.str (Str.join "" zs)] ++ lets.map V.str))) := Ex.new hp
    have g5 : upd J2 p (.lst ([.str (Str.join "" zs)] ++ lets.map V.str)) p = some (.lst ((Str.join "" zs :: lets).map V.str)) := upd_same
    generalize upd J2 p (.lst ([.str (Str.join "" zs)] ++ lets.map V.str)) = J3 at e5 g5 ⊢
    have e03 : Ex H J3 := (((e1.trans e2).trans e3).trans e4).trans e5
    refine ⟨p, rfl, ⟨_, SqL.of g5⟩, fun D2 hD2 => ?_⟩
    refine lc_list (K := K) (a := p) (xs := (Str.join "" zs :: lets).map V.str) (fun i G => Ex J3 G ∧ G D2 = some (.lst ((((Str.join "" zs :: lets).take i).filter fun z => decide (z ∉ ts)).map V.str))) ⟨Ex.mut (Ex.refl _) hD2, upd_same⟩ (fun i G _ h => SqL.of (h.1 _ _ g5)) ?_ ?_
    · rintro i x G hx ⟨e6, g6⟩
      rw [List.getElem?_map] at hx
      obtain ⟨z, hz1, rfl⟩ := Option.map_eq_some_iff.mp hx
      have tk : (Str.join "" zs :: lets).take (i + 1) = (Str.join "" zs :: lets).take i ++ [z] := by rw [List.take_add_one, hz1]; rfl
      refine ⟨rfl, _, rfl, _, rfl, notInLP (hd_str z) (ex_l (e03.trans e6) hl) (hdL_strs ts) ⟨_, rfl, ?_⟩⟩
      have hlen : (((Str.join "" zs :: lets).take i).filter fun z => decide (z ∉ ts)).length ≤ 27 := by
        have h1 := List.length_filter_le (fun z => decide (z ∉ ts)) ((Str.join "" zs :: lets).take i)
        have h2 := List.length_take_le' i (Str.join "" zs :: lets)
        rw [List.length_cons, lets_len] at h2
        omega
      by_cases c : z ∈ ts
      · refine if_f (by rw [decide_eq_true c]; rfl) ⟨e6, ?_⟩
        rw [tk, List.filter_append, show [z].filter (fun z => decide (z ∉ ts)) = [] by simp [c], List.append_nil]
        exact g6
      · refine if_t (by rw [decide_eq_false c]; rfl) ⟨_, rfl, _, g6, len_lt (by rw [List.length_map]; omega), Ex.mut e6 hD2, ?_⟩
        rw [upd_same, tk, List.filter_append, show [z].filter (fun z => decide (z ∉ ts)) = [z] by simp [c], List.map_append]
        rfl
    rintro G ⟨e6, g6⟩
    rw [List.length_map, List.take_of_length_le (Nat.le_refl _)] at g6
    have mem : ∀ z ∈ (Str.join "" zs :: lets).filter (fun z => decide (z ∉ ts)), isName z = true ∧ z ∉ ts := fun z hz => by
      obtain ⟨h1, h2⟩ := List.mem_filter.mp hz
      refine ⟨?_, of_decide_eq_true h2⟩
      rcases List.mem_cons.mp h1 with rfl | h1
      · exact okw
      · exact lets_ok z h1
    obtain ⟨z0, hz0, nz0⟩ := free_letter few
    have mz0 : z0 ∈ (Str.join "" zs :: lets).filter (fun z => decide (z ∉ ts)) := List.mem_filter.mpr ⟨List.mem_cons_of_mem _ hz0, decide_eq_true nz0⟩
    generalize (Str.join "" zs :: lets).filter (fun z => decide (z ∉ ts)) = fs at g6 mem mz0
    cases fs with
    | nil => cases mz0
    | cons f fs =>
      obtain ⟨m1, m2⟩ := mem f List.mem_cons_self
      exact ⟨D2, _, _, .str f, rfl, rfl, SqL.of g6, atI_nat (j := 0) rfl, q G f (e03.trans e6) m1 m2⟩
def spNames (K : PySem.W.Frag) : Sp := fun vs H Q _ => ∃ (a l : Addr) (m : Int) (ts : List Str), vs = [.ref a, .int m, .ref l] ∧ H a = some (diceO a) ∧ SqL K H l (ts.map V.str) ∧ 0 ≤ m ∧ m ≤ 10 ∧ ts.length ≤ 10 ∧
  ∀ (H' : Hp) (p : Addr) (zs : List Str), Ex H H' → H p = none → H' p = some (.lst (zs.map V.str)) → zs.Nodup → (∀ z ∈ zs, isName z = true) → (zs.length : Int) = m → Q (.ref p) H'
theorem ok_law_names (T : Txt K mg AA) : FnOk P w K mg base CX0 4 AA.a_law_names AA.d_law_names ["_law_dice_here", "_law_many", "_law_taken"] (spNames K) := by
  have G_law_fresh : FnOk P w K mg base CX0 3 AA.a_law_fresh AA.d_law_fresh ["_law_dice_here", "_law_taken"] (spFresh K) := ok_law_fresh T
  refine T.F_law_names.ok sc_law_names (fun vs H Q E h => ?_) (fun cdv A outer s H vs Q E hr h => ?_)
  · obtain ⟨a, l, m, ts, rfl, _⟩ := h
    rfl
  · obtain ⟨a, l, m, ts, rfl, ha, hl, m0, m1, few, q⟩ := h
    refine ⟨_, (pss_cons (ps_set (i := 3) sc_law_names.nd rfl (Or.inl rfl) (pe_lst pa_nil))
    (pss_cons (ps_for PassesOwn.never rfl (pi_range1 rfl T.n_range (pa_cons (pv 1) pa_nil)) (pg_name (i := 4) sc_law_names.nd rfl (Or.inl rfl))
      (pss_one (ps_expr (pe_bm PySem.F.plainAttrs_list PySem.F.slot_list_append PySem.F.type_list_append mt_append (pv 3) (pa_cons (pe_call G_law_fresh (hr.mono (by decide)) (by rfl) T.g_law_fresh T.k_law_fresh T.b_law_fresh .nil pass0 (pa_cons (pv 0) (pa_cons (pe_op op_cat (pv 3) (pe_callTy call_list_of (by rfl) T.n_list (by decide +kernel) (pa_cons (pv 2) pa_nil))) pa_nil))) pa_nil)))))
    (pss_one (ps_ret (pv 3))))), ?_⟩
    refine ⟨(by show 0 ≤ sizeLine; decide), fun p hp => ?_⟩
    refine ⟨_, rfl, m, rfl, by omega, by omega, ?_⟩
    refine for_range (fun i σ J => ∃ (v4 : Option V) (zs : List Str), σ = [some (.ref a), some (.int m), some (.ref l), some (.ref p), v4] ∧ Ex H J ∧ J p = some (.lst (zs.map V.str)) ∧ zs.Nodup ∧ (∀ z ∈ zs, isName z = true) ∧ zs.length = i) ⟨none, [], rfl, Ex.new hp, upd_same, List.nodup_nil, (fun z h => nomatch h), rfl⟩ ?_ ?_
    · rintro i σ J hi ⟨v4, zs, rfl, e1, g1, nd, nm, lz⟩
      refine ⟨_, rfl, .inl ⟨rfl, _, SqL.of g1⟩, _, rfl, _, rfl, _, rfl, l, _, rfl, .inl (ex_l e1 hl), fun l2 hl2 => ?_⟩
      have e2 : Ex J (upd J l2 (.lst (ts.map V.str))) := Ex.new hl2
      have g2 : upd J l2 (.lst (ts.map V.str)) l2 = some (.lst (ts.map V.str)) := upd_same
      generalize upd J l2 (.lst (ts.map V.str)) = J1 at e2 g2 ⊢
      refine ⟨_, _, _, _, rfl, rfl, e2 _ _ g1, g2, Nat.le_of_lt (len_lt (by rw [List.length_map, List.length_map]; omega)), fun l3 hl3 => ?_⟩
      have e3 : Ex J1 (upd J1 l3 (.lst (zs.map V.str ++ ts.map V.str))) := Ex.new hl3
      have g3 : upd J1 l3 (.lst (zs.map V.str ++ ts.map V.str)) l3 = some (.lst ((zs ++ ts).map V.str)) := by rw [upd_same, List.map_append]
      generalize upd J1 l3 (.lst (zs.map V.str ++ ts.map V.str)) = J2 at e3 g3 ⊢
      have e13 := (e1.trans e2).trans e3
      refine ⟨a, l3, zs ++ ts, rfl, e13 _ _ ha, SqL.of g3, by rw [List.length_append]; omega, fun J3 z e4 nz hz => ?_⟩
      have g4 := ((e2.trans e3).trans e4) _ _ g1
      refine ⟨p, _, _, rfl, rfl, g4, len_lt (by rw [List.length_map]; omega), _, zs ++ [z], rfl, Ex.mut (e13.trans e4) hp, by rw [upd_same, List.map_append]; rfl, ?_, fun y hy => ?_, by rw [List.length_append, lz]; rfl⟩
      · rw [List.nodup_append]
        refine ⟨nd, by simp, fun x hx y hy => ?_⟩
        rw [List.mem_singleton] at hy
        subst hy
        exact fun z1 => hz (List.mem_append.mpr (.inl (z1 ▸ hx)))
      · rcases List.mem_append.mp hy with hy | hy
        · exact nm y hy
        · rw [List.mem_singleton.mp hy]
          exact nz
    · rintro σ J ⟨v4, zs, rfl, e1, g1, nd, nm, lz⟩
      exact ⟨_, rfl, q J p zs e1 hp g1 nd nm (by omega)⟩
def spNewSheet : Sp := fun vs H Q _ => ∃ (a : Addr), vs = [.ref a] ∧ H a = some (diceO a) ∧ ∀ H' p ks ws, Ex H H' → SheetD H' p ks ws → Nm ks 3 → Nm ws 2 → Q (.ref p) H'
theorem ok_law_new_sheet (T : Txt K mg AA) : FnOk P w K mg base CX0 5 AA.a_law_new_sheet AA.d_law_new_sheet ["_law_dice_here"] spNewSheet := by
  have G_law_roll : FnOk P w K mg base CX0 1 AA.a_law_roll AA.d_law_roll ["_law_dice_here", "_law_many"] spRoll := ok_law_roll T
  have G_law_names : FnOk P w K mg base CX0 4 AA.a_law_names AA.d_law_names ["_law_dice_here", "_law_many", "_law_taken"] (spNames K) := ok_law_names T
  refine T.F_law_new_sheet.ok sc_law_new_sheet (fun vs H Q E h => ?_) (fun cdv A outer s H vs Q E hr h => ?_)
  · obtain ⟨a, rfl, _⟩ := h
    rfl
  · obtain ⟨a, rfl, ha, q⟩ := h
    refine ⟨_, (pss_cons (ps_set (i := 1) sc_law_new_sheet.nd rfl (Or.inl rfl) (pe_call G_law_names (hr.mono (by decide)) (by rfl) T.g_law_names T.k_law_names T.b_law_names .nil pass0 (pa_cons (pv 0) (pa_cons (pe_op op_add pe_int (pe_call G_law_roll (hr.mono (by decide)) (by rfl) T.g_law_roll T.k_law_roll T.b_law_roll .nil pass0 (pa_cons (pv 0) (pa_cons pe_int pa_nil)))) (pa_cons (pe_lst pa_nil) pa_nil)))))
    (pss_one (ps_ret (pe_disp (pps_cons pe_str (pv 1) (pps_cons pe_str (pe_call G_law_names (hr.mono (by decide)) (by rfl) T.g_law_names T.k_law_names T.b_law_names .nil pass0 (pa_cons (pv 0) (pa_cons (pe_op op_add pe_int (pe_call G_law_roll (hr.mono (by decide)) (by rfl) T.g_law_roll T.k_law_roll T.b_law_roll .nil pass0 (pa_cons (pv 0) (pa_cons pe_int pa_nil)))) (pa_cons (pe_lst pa_nil) pa_nil)))) pps_nil)) rfl rfl (by intro q; cases q) (by decide))))), ?_⟩
    refine ⟨_, rfl, _, rfl, a, 3, rfl, ha, by decide, by decide, fun r r0 r1 => ⟨_, _, rfl, rfl, (by show 0 ≤ sizeLine; decide), fun p0 hp0 => ?_⟩⟩
    have e0 : Ex H (upd H p0 (.lst [])) := Ex.new hp0
    have g0 : upd H p0 (.lst []) p0 = some (.lst (([] : List Str).map V.str)) := upd_same
    generalize upd H p0 (.lst []) = H0 at e0 g0 ⊢
    refine ⟨a, p0, _, [], rfl, e0 _ _ ha, SqL.of g0, by omega, by omega, by decide, fun H1 l1 ks e1 n1 g1 nd nm lz => ?_⟩
    have e01 := e0.trans e1
    intro d hd
    have e2 : Ex H1 (upd H1 d (.dK [])) := Ex.new hd
    have g2 : upd H1 d (.dK []) d = some (.dK []) := upd_same
    generalize upd H1 d (.dK []) = H2 at e2 g2 ⊢
    have e02 := e01.trans e2
    refine ⟨_, rfl, _, rfl, _, rfl, a, 2, rfl, e02 _ _ ha, by decide, by decide, fun r' r0' r1' => ⟨_, _, rfl, rfl, (by show 0 ≤ sizeLine; decide), fun p3 hp3 => ?_⟩⟩
    have e3 : Ex H2 (upd H2 p3 (.lst [])) := Ex.new hp3
    have g3 : upd H2 p3 (.lst []) p3 = some (.lst (([] : List Str).map V.str)) := upd_same
    generalize upd H2 p3 (.lst []) = H3 at e3 g3 ⊢
    have e03 := e02.trans e3
    refine ⟨a, p3, _, [], rfl, e03 _ _ ha, SqL.of g3, by omega, by omega, by decide, fun H4 l2 ws e4 n2 g4 nd' nm' lz' => ?_⟩
    have g24 := (e3.trans e4) _ _ g2
    refine ⟨g24, [(.inr "kinds", .ref l1), (.inr "words", .ref l2)], rfl, (by show 2 ≤ 15; decide), ?_⟩
    have em : mergeK [] [((.inr "kinds" : Key), V.ref l1), (.inr "words", .ref l2)] = [(.inr "kinds", .ref l1), (.inr "words", .ref l2)] := by rfl
    have nd2 : H d = none := by
      cases c : H d with
      | none => rfl
      | some o => rw [e01 _ _ c] at hd; cases hd
    have nl1 : l1 ≠ d := fun z => by rw [z, hd] at g1; cases g1
    have nl2 : l2 ≠ d := fun z => by rw [z, g24] at g4; cases g4
    refine q _ d ks ws (Ex.mut (e03.trans e4) nd2) ⟨l1, l2, by rw [upd_same, em], ?_, by rw [upd_ne nl2]; exact g4⟩ ⟨by omega, by omega, nm, nd⟩ ⟨by omega, by omega, nm', nd'⟩
    rw [upd_ne nl1]
    exact ((e2.trans e3).trans e4) _ _ g1
def spSheetMade (AA : Ads) : Sp := fun vs H Q _ => ∃ (p : Addr) (ks ws : List Str), vs = [.ref p] ∧ SheetD H p ks ws ∧ Nm ks 3 ∧ Nm ws 2 ∧ ∀ H' x, Ex H H' → SheetAt AA.C_Sheet H' x (srt ks) (srt ws) → Q (.ref x) H'
theorem lt_cps : ∀ a b : List Nat, PySem.Spec.ltCps a b = decide (a < b)
  | [], [] => by simp [PySem.Spec.ltCps]
  | [], _ :: _ => by simp [PySem.Spec.ltCps]
  | _ :: _, [] => by simp [PySem.Spec.ltCps]
  | a :: r, b :: t => by
    have ih := lt_cps r t
    rw [Bool.eq_iff_iff, decide_eq_true_iff, List.cons_lt_cons_iff]
    unfold PySem.Spec.ltCps
    rw [ih]
    simp
theorem leS_le {a b : Str} (h : leS a b) : le a b = true := by
  unfold leS at h
  rw [lt_cps] at h
  unfold le
  rw [show DatumOrd.lt b a = decide (b.cps.toList < a.cps.toList) from rfl, h]
  rfl
theorem srt_strs {xs ys : List Str} (p : ys.Perm xs) (h : PyProof.Rows.sortedS ys = true) : srt xs = ys := srt_of p ((sorted_pair h).imp leS_le)
theorem ok_law_sheet_made (T : Txt K mg AA) : FnOk P w K mg base CX0 5 AA.a_law_sheet_made AA.d_law_sheet_made ["_law_sheet"] (spSheetMade AA) := by
  have G_Sheet_init : FnOk P w K mg base (L2.CX P w) 3 AA.a_Sheet_init AA.d_Sheet_init ["self", "kinds", "words"] (spInit K AA) := ok_Sheet_init T
  refine T.F_law_sheet_made.ok sc_law_sheet_made (fun vs H Q E h => ?_) (fun cdv A outer s H vs Q E hr h => ?_)
  · obtain ⟨p, ks, ws, rfl, _⟩ := h
    rfl
  · obtain ⟨p, ks, ws, rfl, ⟨l1, l2, h1, h2, h3⟩, nk, nw, q⟩ := h
    have hu1 : _ + 1 < cLine := hu_of hr
    refine ⟨_, (pss_one (ps_ret (pe_make T.M_Sheet G_Sheet_init (hr.mono (by decide)) (by rfl) T.g_Sheet T.b_Sheet_init .nil (passes_call takes0 (fun _ _ _ _ h => h)) (pa_cons (pe_callTy call_tuple_of (by rfl) T.n_tuple (by decide +kernel) (pa_cons ((pe_dget hu1) (pv 0) pe_str (fun _ _ => rfl)) pa_nil)) (pa_cons (pe_callTy call_tuple_of (by rfl) T.n_tuple (by decide +kernel) (pa_cons ((pe_dget hu1) (pv 0) pe_str (fun _ _ => rfl)) pa_nil)) pa_nil))))), ?_⟩
    refine ⟨_, rfl, p, .ref l1, rfl, .inl ⟨_, .inr "kinds", .inl h1, rfl, val_kinds (y := .ref l2)⟩, l1, _, rfl, .inl ⟨SqL.of h2, fun t1 ht1 => ?_⟩⟩
    have e1 : Ex H (upd H t1 (.tup (ks.map V.str))) := Ex.new ht1
    have g1 : upd H t1 (.tup (ks.map V.str)) t1 = some (.tup (ks.map V.str)) := upd_same
    generalize upd H t1 (.tup (ks.map V.str)) = H1 at e1 g1 ⊢
    refine ⟨_, rfl, p, .ref l2, rfl, .inl ⟨_, .inr "words", .inl (e1 _ _ h1), rfl, val_words (x := .ref l1)⟩, l2, _, rfl, .inl ⟨SqL.of (e1 _ _ h3), fun t2 ht2 => ?_⟩⟩
    have e2 : Ex H1 (upd H1 t2 (.tup (ws.map V.str))) := Ex.new ht2
    have g2 : upd H1 t2 (.tup (ws.map V.str)) t2 = some (.tup (ws.map V.str)) := upd_same
    generalize upd H1 t2 (.tup (ws.map V.str)) = H2 at e2 g2 ⊢
    refine mk_ok (dv_names (SqT.of (e2 _ _ g1))) (dv_names (SqT.of g2)) nk nw fun x H3 ks' ws' e3 i1 i2 hs => ?_
    rw [← srt_strs i1.1 i1.2, ← srt_strs i2.1 i2.2] at hs
    exact q H3 x ((e1.trans e2).trans e3) hs
theorem ok_law_twin (T : Txt K mg AA) : FnOk P w K mg base CX0 5 AA.a_law_twin AA.d_law_twin ["_law_sheet"] (spSheetMade AA) := by
  have G_Sheet_init : FnOk P w K mg base (L2.CX P w) 3 AA.a_Sheet_init AA.d_Sheet_init ["self", "kinds", "words"] (spInit K AA) := ok_Sheet_init T
  refine T.F_law_twin.ok sc_law_twin (fun vs H Q E h => ?_) (fun cdv A outer s H vs Q E hr h => ?_)
  · obtain ⟨p, ks, ws, rfl, _⟩ := h
    rfl
  · obtain ⟨p, ks, ws, rfl, ⟨l1, l2, h1, h2, h3⟩, nk, nw, q⟩ := h
    have hu1 : _ + 1 < cLine := hu_of hr
    refine ⟨_, (pss_one (ps_ret (pe_make T.M_Sheet G_Sheet_init (hr.mono (by decide)) (by rfl) T.g_Sheet T.b_Sheet_init .nil (passes_call takes0 (fun _ _ _ _ h => h)) (pa_cons (pe_callTy call_tuple_of (by rfl) T.n_tuple (by decide +kernel) (pa_cons (pe_revL ((pe_dget hu1) (pv 0) pe_str (fun _ _ => rfl))) pa_nil)) (pa_cons (pe_callTy call_tuple_of (by rfl) T.n_tuple (by decide +kernel) (pa_cons (pe_revL ((pe_dget hu1) (pv 0) pe_str (fun _ _ => rfl))) pa_nil)) pa_nil))))), ?_⟩
    refine ⟨_, rfl, p, .ref l1, rfl, .inl ⟨_, .inr "kinds", .inl h1, rfl, val_kinds (y := .ref l2)⟩, l1, _, rfl, SqL.of h2, fun r1 hr1 => ⟨r1, _, rfl, .inl ⟨SqL.of upd_same, fun t1 ht1 => ?_⟩⟩⟩
    have e1 : Ex H (upd (upd H r1 (.lst (ks.map V.str).reverse)) t1 (.tup (ks.map V.str).reverse)) := (Ex.new hr1).trans (Ex.new ht1)
    have g1 : upd (upd H r1 (.lst (ks.map V.str).reverse)) t1 (.tup (ks.map V.str).reverse) t1 = some (.tup (ks.reverse.map V.str)) := by rw [upd_same, List.map_reverse]
    generalize upd (upd H r1 (.lst (ks.map V.str).reverse)) t1 (.tup (ks.map V.str).reverse) = H1 at e1 g1 ⊢
    refine ⟨_, rfl, p, .ref l2, rfl, .inl ⟨_, .inr "words", .inl (e1 _ _ h1), rfl, val_words (x := .ref l1)⟩, l2, _, rfl, SqL.of (e1 _ _ h3), fun r2 hr2 => ⟨r2, _, rfl, .inl ⟨SqL.of upd_same, fun t2 ht2 => ?_⟩⟩⟩
    have e2 : Ex H1 (upd (upd H1 r2 (.lst (ws.map V.str).reverse)) t2 (.tup (ws.map V.str).reverse)) := (Ex.new hr2).trans (Ex.new ht2)
    have g2 : upd (upd H1 r2 (.lst (ws.map V.str).reverse)) t2 (.tup (ws.map V.str).reverse) t2 = some (.tup (ws.reverse.map V.str)) := by rw [upd_same, List.map_reverse]
    generalize upd (upd H1 r2 (.lst (ws.map V.str).reverse)) t2 (.tup (ws.map V.str).reverse) = H2 at e2 g2 ⊢
    refine mk_ok (dv_names (SqT.of (e2 _ _ g1))) (dv_names (SqT.of g2)) (nk.perm (List.reverse_perm _)) (nw.perm (List.reverse_perm _)) fun x H3 ks' ws' e3 i1 i2 hs => ?_
    rw [← srt_strs (i1.1.trans (List.reverse_perm _)) i1.2, ← srt_strs (i2.1.trans (List.reverse_perm _)) i2.2] at hs
    exact q H3 x ((e1.trans e2).trans e3) hs
end
end K23
namespace K23
open PySem L2 Kd Evl Ks Kt Ky
open PySem.W (Datum DatumOrd T3)
/-- ties of some posts and words, each once -/
structure TiesIn (ns zs : List Str) (ts : List Tie) : Prop where
  nd : ts.Nodup
  mem : ∀ t ∈ ts, t.a ∈ ns ∧ t.b ∈ zs ∧ t.c ∈ ns
section
variable {kr wr ks ws : List Str} {ps : Posts} {ts ls : List Tie}
theorem shape_ok {ps' : Posts} {ts' ls' : List Tie} (h : Plain kr wr ps ts ls) (hk : ∀ z ∈ kr, z ∈ ks) (hw : ∀ z ∈ wr, z ∈ ws) (pp : ps'.Perm ps) (ht : ∀ t ∈ ts', t ∈ ts) (hl : ∀ t ∈ ls', t ∈ ls) : shapeOk ks ws ps' ts' ls' = true := by
  have sm : ∀ n ∈ namesP ps, (look ps' n).isSome = true := fun n hn => by
    rw [look_some]
    exact decide_eq_true ((pp.map _).mem_iff.mpr hn)
  have tk : ∀ t ∈ ts ++ ls, tieOk ws ps' t = true := fun t ht => by
    obtain ⟨a, b, c⟩ := h.tok t ht
    unfold tieOk
    rw [decide_eq_true (hw _ a), sm _ b, sm _ c]
    rfl
  have p1 : postsOk ks ps' = true := by
    have few := h.few
    unfold postsOk
    rw [decide_eq_false (by rw [pp.length_eq]; omega), List.all_eq_true.mpr fun p hp => h.nm p (pp.mem_iff.mp hp), List.all_eq_true.mpr fun p hp => ?_]
    · rfl
    · have := h.kd p (pp.mem_iff.mp hp)
      cases c : p.2 with
      | none => rfl
      | some z =>
        rw [c] at this
        exact decide_eq_true (hk z (of_decide_eq_true this))
  have p2 : ts'.all (tieOk ws ps') = true := List.all_eq_true.mpr fun t h1 => tk t (List.mem_append.mpr (.inl (ht t h1)))
  have p3 : ls'.all (tieOk ws ps') = true := List.all_eq_true.mpr fun t h1 => tk t (List.mem_append.mpr (.inr (hl t h1)))
  have p4 : (ls'.any fun t => decide (t ∈ ts')) = false := List.any_eq_false.mpr fun t h1 => by
    have := (List.nodup_append.mp h.tnd).2.2
    simp only [decide_eq_true_eq]
    exact fun z => this t (ht t z) t (hl t h1) rfl
  unfold shapeOk
  rw [p1, p2, p3, p4]
  rfl
theorem Plain.short (h : Plain kr wr ps ts ls) : shortP ps := fun p hp => by
  have b := h.nm p hp
  refine ⟨?_, name_ok b⟩
  have b1 := of_decide_eq_true (Bool.and_eq_true_iff.mp (Bool.and_eq_true_iff.mp b).1).2
  omega
/-- the posts of the shape at p do not stand at b -/
def ShapeNo (H : Hp) (p b : Addr) : Prop := ∃ C dx fs po, H p = some (.ins C dx fs) ∧ fs.lookup ("own_posts" : Str) = some (.ref po) ∧ po ≠ b
theorem ShapeNo.ex {H H' : Hp} {p b : Addr} (h : ShapeNo H p b) (e : Ex H H') : ShapeNo H' p b := by
  obtain ⟨C, dx, fs, po, h1, h2⟩ := h
  exact ⟨C, dx, fs, po, e _ _ h1, h2⟩
/-- Shape(sheet, posts, there, lacking) of right things -/
theorem mk_shape {K : PySem.W.Frag} {AA : Ads} {H1 : Hp} {sh d l1 l2 : Addr} {ks ws : List Str} {ps : Posts} {xs ys : List V} {ts ls : List Tie} {Qx : Addr → Hp → Prop} {E : XK} (hs : SheetAt AA.C_Sheet H1 sh ks ws) (hd : H1 d = some (.dK (kvP ps))) (sp : shortP ps) (nd : (namesP ps).Nodup)
    (h1 : SqT K H1 l1 xs) (p1 : Paired (TieV H1) xs ts) (z1 : ts.length ≤ 1000) (h2 : SqT K H1 l2 ys) (p2 : Paired (TieV H1) ys ls) (z2 : ls.length ≤ 1000) (zp : ps.length ≤ 1000) (ok : shapeOk ks ws ps ts ls = true)
    (q : ∀ x H2, Ex H1 H2 → ShapeAt AA.C_Shape H2 x sh (sortP ps) (once (srt ts)) (once (srt ls)) → (∀ b o, H1 b = some o → ShapeNo H2 x b) → Qx x H2) :
    ∀ x dx, H1 x = none → H1 dx = none → dx ≠ x → spShape K AA [.ref x, .ref sh, .ref d, .ref l1, .ref l2] (upd (upd H1 dx (.own x)) x (.ins AA.C_Shape dx [])) (fun v H2 => v = .non ∧ Qx x H2) E := by
  intro x dx nx nd' ne
  have e := made_ex (C := AA.C_Shape) nx nd'
  refine ⟨x, dx, sh, d, l1, l2, ks, ws, ps, xs, ys, ts, ls, rfl, upd_same, hs.ex e, e _ _ hd, sp, zp, nd, ex_t e h1, ties_ex p1 e, z1, ex_t e h2, ties_ex p2 e, z2, fun _ H2 eb hsh hn => ⟨rfl, ?_⟩, fun hb => ?_⟩
  · refine q x H2 (made_but nx nd' eb) hsh fun b o hb => ?_
    obtain ⟨C, dx', fs, po, k1, k2, k3⟩ := hn
    refine ⟨C, dx', fs, po, k1, k2, fun z => ?_⟩
    rw [z, e _ _ hb] at k3
    cases k3
  · rw [ok] at hb
    cases hb
/-- a post more, or a kind otherwise -/
def putP (ps : Posts) (n : Str) (o : Option Str) : Posts := if n ∈ namesP ps then ps.map (fun p => if p.1 = n then (p.1, o) else p) else ps ++ [(n, o)]
theorem any_kvP (ps : Posts) (n : Str) : ((kvP ps).any fun kv => decide (kv.1 = .inr n)) = decide (n ∈ namesP ps) := by
  rw [Bool.eq_iff_iff, List.any_eq_true, decide_eq_true_iff]
  unfold kvP namesP
  rw [List.mem_map]
  constructor
  · rintro ⟨x, hx, e⟩
    obtain ⟨p, hp, rfl⟩ := List.mem_map.mp hx
    exact ⟨p, hp, Sum.inr.inj (of_decide_eq_true e)⟩
  · rintro ⟨p, hp, e⟩
    exact ⟨_, List.mem_map.mpr ⟨p, hp, rfl⟩, decide_eq_true (by rw [e])⟩
theorem put_kvP (ps : Posts) (n : Str) (o : Option Str) : putK (kvP ps) (.inr n) (ov o) = kvP (putP ps n o) := by
  unfold putK putP
  rw [any_kvP]
  by_cases c : n ∈ namesP ps
  · rw [if_pos (decide_eq_true c), if_pos c]
    unfold kvP
    rw [List.map_map, List.map_map]
    refine List.map_congr_left fun p _ => ?_
    dsimp only [Function.comp]
    by_cases e : p.1 = n
    · rw [if_pos (by rw [e]), if_pos e]
    · rw [if_neg (fun z => e (Sum.inr.inj z)), if_neg e]
  · rw [if_neg (by rw [decide_eq_false c]; exact Bool.false_ne_true), if_neg c]
    unfold kvP
    rw [List.map_append]
    rfl
theorem merge_kvP : ∀ (qs ps : Posts), mergeK (kvP ps) (kvP qs) = kvP (qs.foldl (fun acc q => putP acc q.1 q.2) ps)
  | [], ps => rfl
  | q :: qs, ps => by
    show mergeK (putK (kvP ps) (.inr q.1) (ov q.2)) (kvP qs) = _
    rw [put_kvP]
    exact merge_kvP qs (putP ps q.1 q.2)
theorem foldP_new : ∀ (qs ps : Posts), (namesP (ps ++ qs)).Nodup → qs.foldl (fun acc q => putP acc q.1 q.2) ps = ps ++ qs
  | [], ps, _ => (List.append_nil ps).symm
  | q :: qs, ps, h => by
    have hq : q.1 ∉ namesP ps := by
      intro z
      unfold namesP at h z
      rw [List.map_append, List.map_cons] at h
      exact (List.nodup_append.mp h).2.2 _ z _ List.mem_cons_self rfl
    have e : putP ps q.1 q.2 = ps ++ [q] := if_neg hq
    show qs.foldl _ (putP ps q.1 q.2) = _
    rw [e, foldP_new qs (ps ++ [q]) (by rw [List.append_assoc]; exact h), List.append_assoc]
    rfl
theorem merge_new {ps : Posts} (h : (namesP ps).Nodup) : mergeK [] (kvP ps) = kvP ps := by
  have e := merge_kvP ps []
  rw [foldP_new ps [] h] at e
  exact e
theorem pair_put {H : Hp} {D : Addr} {ys : List V} {o : HO} (hD : H D = some (.lst ys)) : ∀ {bs : List Addr} {kvs : List (Key × V)}, Paired (fun (b : Addr) (kv : Key × V) => H b = some (.tup [kV kv.1, kv.2])) bs kvs → Paired (fun (b : Addr) (kv : Key × V) => upd H D o b = some (.tup [kV kv.1, kv.2])) bs kvs
  | _, _, .nil => .nil
  | _, _, .cons h t => .cons (by rw [upd_ne (ne_of h hD (by intro z; cases z))]; exact h) (pair_put hD t)
theorem pair_ex {H H' : Hp} (e : Ex H H') : ∀ {bs : List Addr} {kvs : List (Key × V)}, Paired (fun (b : Addr) (kv : Key × V) => H b = some (.tup [kV kv.1, kv.2])) bs kvs → Paired (fun (b : Addr) (kv : Key × V) => H' b = some (.tup [kV kv.1, kv.2])) bs kvs
  | _, _, .nil => .nil
  | _, _, .cons h t => .cons (e _ _ h) (pair_ex e t)
theorem pair_sq {K : PySem.W.Frag} {H : Hp} : ∀ {bs : List Addr} {kvs : List (Key × V)}, Paired (fun (b : Addr) (kv : Key × V) => H b = some (.tup [kV kv.1, kv.2])) bs kvs → Paired (fun (b : Addr) (kv : Key × V) => SqT K H b [kV kv.1, kv.2]) bs kvs
  | _, _, .nil => .nil
  | _, _, .cons h t => .cons (SqT.of h) (pair_sq t)
theorem pair_snoc {F : Addr → Key × V → Prop} : ∀ {bs : List Addr} {kvs : List (Key × V)} {b : Addr} {kv : Key × V}, Paired F bs kvs → F b kv → Paired F (bs ++ [b]) (kvs ++ [kv])
  | _, _, _, _, .nil, h => .cons h .nil
  | _, _, _, _, .cons h t, q => .cons h (pair_snoc t q)
theorem kvP_snoc (ps : Posts) (n : Str) (o : Option Str) : kvP (ps ++ [(n, o)]) = kvP ps ++ [(.inr n, ov o)] := by
  unfold kvP
  rw [List.map_append]
  rfl
theorem namesP_snoc (ps : Posts) (n : Str) (o : Option Str) : namesP (ps ++ [(n, o)]) = namesP ps ++ [n] := by
  unfold namesP
  rw [List.map_append]
  rfl
/-- a kind or None, as it is picked -/
theorem kind_of {ks : List Str} {x : V} (h : x ∈ V.non :: ks.map V.str) : ∃ o, x = ov o ∧ kindOk ks o = true := by
  rcases List.mem_cons.mp h with rfl | h
  · exact ⟨none, rfl, rfl⟩
  · obtain ⟨z, hz, rfl⟩ := List.mem_map.mp h
    exact ⟨some z, rfl, decide_eq_true hz⟩
end
theorem srt_in {zs : List Str} {z : Str} (h : z ∈ zs) : z ∈ srt zs := (srt_perm zs).mem_iff.mpr h
/-- a ban of the law: names of its own order -/
structure BR (kr wr : List Str) (b : Pb) : Prop where
  pl : Plain kr wr b.ps b.ts b.ls
  lo : 1 ≤ b.ps.length
  hi : b.ps.length ≤ 3
  la : b.ls.length ≤ 1
theorem BR.ok {kr wr : List Str} {b : Pb} (h : BR kr wr b) : BanOk (cn b) := ⟨⟨b, ⟨kr, wr, h.pl⟩, rfl⟩, by show 1 ≤ (sortP b.ps).length; rw [sortP_len]; exact h.lo, by show (sortP b.ps).length ≤ 3; rw [sortP_len]; exact h.hi, by show (srt b.ls).length ≤ 1; rw [(srt_perm _).length_eq]; exact h.la⟩
/-- the ban stands at p, its lists are not l -/
def BanD (l : Addr) (H : Hp) (p : Addr) (b : Pb) : Prop := ∃ d l1 l2 xs ys, H p = some (.dK [(.inr "posts", .ref d), (.inr "there", .ref l1), (.inr "lacking", .ref l2)]) ∧ H d = some (.dK (kvP b.ps)) ∧ H l1 = some (.lst xs) ∧ Paired (TieV H) xs b.ts ∧ H l2 = some (.lst ys) ∧ Paired (TieV H) ys b.ls ∧ l1 ≠ l ∧ l2 ≠ l
theorem BanD.ex {l : Addr} {H H' : Hp} {p : Addr} {b : Pb} (h : BanD l H p b) (e : Ex H H') : BanD l H' p b := by
  obtain ⟨d, l1, l2, xs, ys, h1, h2, h3, h4, h5, h6, h7⟩ := h
  exact ⟨d, l1, l2, xs, ys, e _ _ h1, e _ _ h2, e _ _ h3, ties_ex h4 e, e _ _ h5, ties_ex h6 e, h7⟩
theorem TieV.put {H : Hp} {D : Addr} {xs : List V} {v : V} {t : Tie} {o : HO} (h : TieV H v t) (hD : H D = some (.lst xs)) : TieV (upd H D o) v t := by
  obtain ⟨b, rfl, hb⟩ := h
  exact ⟨b, rfl, by rw [upd_ne (ne_of hb hD (by intro z; cases z))]; exact hb⟩
theorem BanD.put {l : Addr} {H : Hp} {p : Addr} {b : Pb} {zs : List V} {o : HO} (h : BanD l H p b) (hl : H l = some (.lst zs)) : BanD l (upd H l o) p b := by
  obtain ⟨d, l1, l2, xs, ys, h1, h2, h3, h4, h5, h6, h7, h8⟩ := h
  exact ⟨d, l1, l2, xs, ys, by rw [upd_ne (ne_of h1 hl (by intro z; cases z))]; exact h1, by rw [upd_ne (ne_of h2 hl (by intro z; cases z))]; exact h2, by rw [upd_ne h7]; exact h3, paired_imp (fun _ _ y => TieV.put y hl) h4, by rw [upd_ne h8]; exact h5, paired_imp (fun _ _ y => TieV.put y hl) h6, h7, h8⟩
theorem kn1 : ¬ (("posts" : Str) = "there") := by decide +kernel
theorem kn2 : ¬ (("posts" : Str) = "lacking") := by decide +kernel
theorem kn3 : ¬ (("there" : Str) = "lacking") := by decide +kernel
theorem v_posts {x y z : V} : valV [((.inr "posts" : Key), x), (.inr "there", y), (.inr "lacking", z)] (.inr "posts") = some x := valV_pos rfl
theorem v_there {x y z : V} : valV [((.inr "posts" : Key), x), (.inr "there", y), (.inr "lacking", z)] (.inr "there") = some y := by
  rw [valV_neg fun z => kn1 (Sum.inr.inj z), valV_pos rfl]
theorem v_lacking {x y z : V} : valV [((.inr "posts" : Key), x), (.inr "there", y), (.inr "lacking", z)] (.inr "lacking") = some z := by
  rw [valV_neg fun z => kn2 (Sum.inr.inj z), valV_neg fun z => kn3 (Sum.inr.inj z), valV_pos rfl]
section
variable {P : Program} {w : World} {K : PySem.W.Frag} {mg : Str → Option Value} {base : Heap} {AA : Ads}
def spTiesL : Sp := fun vs H Q _ => ∃ (a l m : Addr) (ns zs : List Str) (k : Int), vs = [.ref a, .ref l, .ref m, .int k] ∧ H a = some (diceO a) ∧ H l = some (.lst (ns.map V.str)) ∧ H m = some (.lst (zs.map V.str)) ∧ 0 < ns.length ∧ ns.length ≤ 100 ∧ 0 < zs.length ∧ zs.length ≤ 100 ∧ 0 ≤ k ∧ k ≤ 100 ∧
  ∀ H' p xs ts, Ex H H' → H p = none → H' p = some (.lst xs) → Paired (TieV H') xs ts → TiesIn ns zs ts → (ts.length : Int) ≤ k → Q (.ref p) H'
theorem ok_law_ties (T : Txt K mg AA) : FnOk P w K mg base CX0 3 AA.a_law_ties AA.d_law_ties ["_law_dice_here", "_law_items", "_law_words", "_law_many"] spTiesL := by
  have G_law_pick : FnOk P w K mg base CX0 2 AA.a_law_pick AA.d_law_pick ["_law_dice_here", "_law_items"] (spPick K) := ok_law_pick T
  have G_law_roll : FnOk P w K mg base CX0 1 AA.a_law_roll AA.d_law_roll ["_law_dice_here", "_law_many"] spRoll := ok_law_roll T
  refine T.F_law_ties.ok sc_law_ties (fun vs H Q E h => ?_) (fun cdv A outer s H vs Q E hr h => ?_)
  · obtain ⟨a, l, m, ns, zs, k, rfl, _⟩ := h
    rfl
  · obtain ⟨a, l, m, ns, zs, k, rfl, ha, hl, hm, n0, n1, z0, z1, k0, k1, q⟩ := h
    have hu : _ + 64 < cLine := hu64 hr
    refine ⟨_, (pss_cons (ps_set (i := 4) sc_law_ties.nd rfl (Or.inl rfl) (pe_lst pa_nil))
    (pss_cons (ps_for PassesOwn.never rfl (pi_range1 rfl T.n_range (pa_cons (pe_ifExp (pt_cmpR op_gt (pe_callB call_len_seq (by rfl) T.n_len (by decide +kernel) (pa_cons (pv 1) pa_nil)) pe_int (nomark _)) (pv 3) pe_int) pa_nil)) (pg_name (i := 5) sc_law_ties.nd rfl (Or.inl rfl))
      (pss_cons (ps_set (i := 6) sc_law_ties.nd rfl (Or.inl rfl) (pe_tup (pa_cons (pe_call G_law_pick (hr.mono (by decide)) (by rfl) T.g_law_pick T.k_law_pick T.b_law_pick .nil pass0 (pa_cons (pv 0) (pa_cons (pv 1) pa_nil))) (pa_cons (pe_call G_law_pick (hr.mono (by decide)) (by rfl) T.g_law_pick T.k_law_pick T.b_law_pick .nil pass0 (pa_cons (pv 0) (pa_cons (pv 2) pa_nil))) (pa_cons (pe_call G_law_pick (hr.mono (by decide)) (by rfl) T.g_law_pick T.k_law_pick T.b_law_pick .nil pass0 (pa_cons (pv 0) (pa_cons (pv 1) pa_nil))) pa_nil)))))
    (pss_one (ps_if (pt_cmpR (op_notInP (K := K) rfl hu) (pv 6) (pv 4) rfl) (pss_one (ps_expr (pe_bm PySem.F.plainAttrs_list PySem.F.slot_list_append PySem.F.type_list_append mt_append (pv 4) (pa_cons (pv 6) pa_nil)))) pss_nil))))
    (pss_one (ps_ret (pv 4))))), ?_⟩
    refine ⟨(by show 0 ≤ sizeLine; decide), fun p hp => ?_⟩
    have x0 : Ex H (upd H p (.lst [])) := Ex.new hp
    have g0 : upd H p (.lst []) p = some (.lst []) := upd_same
    generalize upd H p (.lst []) = H0 at x0 g0 ⊢
    refine ⟨_, rfl, l, _, rfl, .inl (SqL.of (x0 _ _ hl)), _, _, rfl, rfl, _, rfl, ?_⟩
    rw [List.length_map]
    refine if_t (decide_eq_true (by omega)) ⟨_, rfl, k, rfl, by omega, by omega, ?_⟩
    refine for_range (fun i σ J => ∃ (v5 v6 : Option V) (xs : List V) (ts : List Tie), σ = [some (.ref a), some (.ref l), some (.ref m), some (.int k), some (.ref p), v5, v6] ∧ Ex H J ∧ J p = some (.lst xs) ∧ Paired (TieV J) xs ts ∧ TiesIn ns zs ts ∧ ts.length ≤ i) ⟨none, none, [], [], rfl, x0, g0, .nil, ⟨List.nodup_nil, fun _ h => nomatch h⟩, Nat.le_refl _⟩ ?_ ?_
    · rintro i σ J hi ⟨v5, v6, xs, ts, rfl, b1, b2, b3, b4, b5⟩
      have da := b1 _ _ ha
      have hl1 := SqL.of (K := K) (b1 _ _ hl)
      have hm1 := SqL.of (K := K) (b1 _ _ hm)
      refine ⟨_, rfl, _, rfl, a, l, _, rfl, da, hl1, by rw [List.length_map]; omega, by rw [List.length_map]; omega, fun x1 hx1 => ⟨_, rfl, _, rfl, a, m, _, rfl, da, hm1, by rw [List.length_map]; omega, by rw [List.length_map]; omega, fun x2 hx2 => ⟨_, rfl, _, rfl, a, l, _, rfl, da, hl1, by rw [List.length_map]; omega, by rw [List.length_map]; omega, fun x3 hx3 => ?_⟩⟩⟩
      obtain ⟨s1, hs1, rfl⟩ := List.mem_map.mp hx1
      obtain ⟨s2, hs2, rfl⟩ := List.mem_map.mp hx2
      obtain ⟨s3, hs3, rfl⟩ := List.mem_map.mp hx3
      refine ⟨(by show 3 ≤ sizeLine; decide), fun t nt => ?_⟩
      have z1 : Ex J (upd J t (.tup [.str s1, .str s2, .str s3])) := Ex.new nt
      have gt : TieV (upd J t (.tup [.str s1, .str s2, .str s3])) (.ref t) ⟨s1, s2, s3⟩ := ⟨t, rfl, upd_same⟩
      generalize upd J t (.tup [.str s1, .str s2, .str s3]) = J6 at z1 gt ⊢
      have c3 := z1 _ _ b2
      have lx := paired_len b3
      refine ⟨_, rfl, _, rfl, notInLP gt.hd (SqL.of c3) (ties_hd (ties_ex b3 z1)) ⟨_, rfl, ?_⟩⟩
      by_cases ci : (⟨s1, s2, s3⟩ : Tie) ∈ ts
      · exact if_f (by rw [decide_eq_true ci]; rfl) ⟨_, _, xs, ts, rfl, b1.trans z1, c3, ties_ex b3 z1, b4, by omega⟩
      · refine if_t (by rw [decide_eq_false ci]; rfl) ⟨_, rfl, .inl ⟨rfl, _, SqL.of c3⟩, _, rfl, p, _, _, rfl, rfl, c3, len_lt (by omega), ?_⟩
        refine ⟨_, _, xs ++ [.ref t], ts ++ [⟨s1, s2, s3⟩], rfl, Ex.mut (b1.trans z1) hp, upd_same, paired_app (paired_imp (fun _ _ y => (TieV.ex y z1).put c3) b3) (.cons (gt.put c3) .nil), ⟨?_, ?_⟩, by rw [List.length_append]; show ts.length + 1 ≤ i + 1; omega⟩
        · rw [List.nodup_append]
          exact ⟨b4.nd, List.nodup_cons.mpr ⟨(fun z => nomatch z), List.nodup_nil⟩, fun x hx y hy e => ci (by rw [List.mem_singleton] at hy; rw [← hy, ← e]; exact hx)⟩
        · intro t1 ht1
          rcases List.mem_append.mp ht1 with h | h
          · exact b4.mem t1 h
          · rw [List.mem_singleton] at h
            subst h
            exact ⟨hs1, hs2, hs3⟩
    · rintro σ J ⟨v5, v6, xs, ts, rfl, b1, b2, b3, b4, b5⟩
      exact ⟨_, rfl, q J p xs ts b1 hp b2 b3 b4 (by omega)⟩
def spShapeMade (AA : Ads) : Sp := fun vs H Q _ => ∃ (sh p l : Addr) (kr wr : List Str) (b : Pb), vs = [.ref sh, .ref p] ∧ SheetAt AA.C_Sheet H sh (srt kr) (srt wr) ∧ OkS (srt kr) ∧ OkS (srt wr) ∧ BanD l H p b ∧ Plain kr wr b.ps b.ts b.ls ∧
  ∀ H' x, Ex H H' → ShpAt AA H' x (toS (srt kr) (srt wr) (cn b)) → Q (.ref x) H'
theorem ok_law_shape_made (T : Txt K mg AA) : FnOk P w K mg base CX0 6 AA.a_law_shape_made AA.d_law_shape_made ["_law_thing", "_law_shape"] (spShapeMade AA) := by
  have G_Shape_init : FnOk P w K mg base (L2.CX P w) 4 AA.a_Shape_init AA.d_Shape_init ["self", "sheet", "posts", "there", "lacking"] (spShape K AA) := ok_Shape_init T
  refine T.F_law_shape_made.ok sc_law_shape_made (fun vs H Q E h => ?_) (fun cdv A outer s H vs Q E hr h => ?_)
  · obtain ⟨sh, p, l, kr, wr, b, rfl, _⟩ := h
    rfl
  · obtain ⟨sh, p, l, kr, wr, b, rfl, hs, o1, o2, ⟨d, l1, l2, xs, ys, h1, h2, h3, h4, h5, h6, _⟩, pl, q⟩ := h
    have hu1 : _ + 1 < cLine := hu_of hr
    refine ⟨_, (pss_one (ps_ret (pe_make T.M_Shape G_Shape_init (hr.mono (by decide)) (by rfl) T.g_Shape T.b_Shape_init .nil (passes_call takes0 (fun _ _ _ _ h => h)) (pa_cons (pv 0) (pa_cons ((pe_dget hu1) (pv 1) pe_str (fun _ _ => rfl)) (pa_cons (pe_callTy call_tuple_of (by rfl) T.n_tuple (by decide +kernel) (pa_cons ((pe_dget hu1) (pv 1) pe_str (fun _ _ => rfl)) pa_nil)) (pa_cons (pe_callTy call_tuple_of (by rfl) T.n_tuple (by decide +kernel) (pa_cons ((pe_dget hu1) (pv 1) pe_str (fun _ _ => rfl)) pa_nil)) pa_nil))))))), ?_⟩
    refine ⟨_, rfl, _, rfl, p, .ref d, rfl, .inl ⟨_, .inr "posts", .inl h1, rfl, v_posts (y := .ref l1) (z := .ref l2)⟩, ?_⟩
    refine ⟨_, rfl, p, .ref l1, rfl, .inl ⟨_, .inr "there", .inl h1, rfl, v_there (x := .ref d) (z := .ref l2)⟩, l1, _, rfl, .inl ⟨SqL.of h3, fun t1 ht1 => ?_⟩⟩
    have e1 : Ex H (upd H t1 (.tup xs)) := Ex.new ht1
    have g1 : upd H t1 (.tup xs) t1 = some (.tup xs) := upd_same
    generalize upd H t1 (.tup xs) = H1 at e1 g1 ⊢
    refine ⟨_, rfl, p, .ref l2, rfl, .inl ⟨_, .inr "lacking", .inl (e1 _ _ h1), rfl, v_lacking (x := .ref d) (y := .ref l1)⟩, l2, _, rfl, .inl ⟨SqL.of (e1 _ _ h5), fun t2 ht2 => ?_⟩⟩
    have e2 : Ex H1 (upd H1 t2 (.tup ys)) := Ex.new ht2
    have g2 : upd H1 t2 (.tup ys) t2 = some (.tup ys) := upd_same
    generalize upd H1 t2 (.tup ys) = H2 at e2 g2 ⊢
    have e02 := e1.trans e2
    have few := pl.few
    have tl := pl.tl
    rw [List.length_append] at tl
    refine mk_shape (hs.ex e02) (e02 _ _ h2) pl.short pl.nd (SqT.of (e2 _ _ g1)) (ties_ex h4 e02) (by omega) (SqT.of g2) (ties_ex h6 e02) (by omega) (by omega) (shape_ok pl (fun z hz => srt_in hz) (fun z hz => srt_in hz) (List.Perm.refl _) (fun t ht => ht) (fun t ht => ht)) fun x H3 e3 hx _ => ?_
    rw [once_self pl.t1, once_self pl.t2] at hx
    exact q H3 x (e02.trans e3) ⟨sh, hx, hs.ex (e02.trans e3), o1, o2⟩
end
end K23
namespace K23
open PySem L2 Kd Evl Ks Kt Ky
open PySem.W (Datum DatumOrd T3)
theorem cut_from (xs : List V) (k : Nat) : cutV xs (some (k : Int)) none = xs.drop k := by
  unfold cutV
  rw [HT.sIx_nat, HT.sIx_none]
  by_cases c : k ≤ xs.length
  · rw [Nat.min_eq_left c, List.take_of_length_le (by rw [List.length_drop]; exact Nat.le_refl _)]
  · rw [Nat.min_eq_right (by omega), List.drop_of_length_le (Nat.le_refl _), List.take_nil, List.drop_of_length_le (by omega)]
theorem cut_upto (xs : List V) (k : Nat) : cutV xs none (some (k : Int)) = xs.take k := by
  unfold cutV
  rw [HT.sIx_nat, HT.sIx_none, List.drop_zero, Nat.sub_zero]
  by_cases c : k ≤ xs.length
  · rw [Nat.min_eq_left c]
  · rw [Nat.min_eq_right (by omega), List.take_of_length_le (Nat.le_refl _), List.take_of_length_le (by omega)]
section
variable {P : Program} {w : World} {K : PySem.W.Frag} {mg : Str → Option Value} {base : Heap} {AA : Ads}
def spNewBan : Sp := fun vs H Q _ => ∃ (a p : Addr) (kr wr : List Str), vs = [.ref a, .ref p] ∧ H a = some (diceO a) ∧ SheetD H p kr wr ∧ Nm kr 3 ∧ Nm wr 2 ∧
  ∀ H' q b, Ex H H' → BR kr wr b → (∀ l, H l ≠ none → BanD l H' q b) → Q (.ref q) H'
theorem ok_law_new_ban (T : Txt K mg AA) : FnOk P w K mg base CX0 5 AA.a_law_new_ban AA.d_law_new_ban ["_law_dice_here", "_law_sheet"] spNewBan := by
  have G_law_roll : FnOk P w K mg base CX0 1 AA.a_law_roll AA.d_law_roll ["_law_dice_here", "_law_many"] spRoll := ok_law_roll T
  have G_law_pick : FnOk P w K mg base CX0 2 AA.a_law_pick AA.d_law_pick ["_law_dice_here", "_law_items"] (spPick K) := ok_law_pick T
  have G_law_names : FnOk P w K mg base CX0 4 AA.a_law_names AA.d_law_names ["_law_dice_here", "_law_many", "_law_taken"] (spNames K) := ok_law_names T
  have G_law_ties : FnOk P w K mg base CX0 3 AA.a_law_ties AA.d_law_ties ["_law_dice_here", "_law_items", "_law_words", "_law_many"] spTiesL := ok_law_ties T
  refine T.F_law_new_ban.ok sc_law_new_ban (fun vs H Q E h => ?_) (fun cdv A outer s H vs Q E hr h => ?_)
  · obtain ⟨a, p, kr, wr, rfl, _⟩ := h
    rfl
  obtain ⟨a, p, kr, wr, rfl, ha, ⟨lk, lw, hp, hk, hw⟩, nk, nw, q⟩ := h
  have hu : _ + 64 < cLine := hu64 hr
  have hu1 : _ + 1 < cLine := hu_of hr
  refine ⟨_, (pss_cons (ps_set (i := 2) sc_law_new_ban.nd rfl (Or.inl rfl) (pe_call G_law_names (hr.mono (by decide)) (by rfl) T.g_law_names T.k_law_names T.b_law_names .nil pass0 (pa_cons (pv 0) (pa_cons (pe_call G_law_pick (hr.mono (by decide)) (by rfl) T.g_law_pick T.k_law_pick T.b_law_pick .nil pass0 (pa_cons (pv 0) (pa_cons (pe_lst (pa_cons pe_int (pa_cons pe_int (pa_cons pe_int (pa_cons pe_int pa_nil))))) pa_nil))) (pa_cons (pe_lst pa_nil) pa_nil)))))
    (pss_cons (ps_set (i := 3) sc_law_new_ban.nd rfl (Or.inl rfl) (pe_callTy (call_dictP rfl) (by rfl) T.n_dict (by decide +kernel) (pa_cons (pe_lc (own := [("_law_name", 6)]) (g := gName 6) rfl sc_law_new_ban.nd  (pi_list (pv 2)) (blkOk_by (N := N_law_new_ban) (sc := defScope s_law_new_ban) (by decide +kernel)) (fun _ _ _ _ _ => (pg_name (i := 6) sc_law_new_ban.nd rfl (Or.inl rfl))) (fun _ _ _ _ _ => pts_nil) (fun _ _ _ _ _ => by exact (pe_tup (pa_cons (pv 6) (pa_cons (pe_call G_law_pick (hr.mono (by decide)) (by rfl) T.g_law_pick T.k_law_pick T.b_law_pick .nil pass0 (pa_cons (pv 0) (pa_cons (pe_op op_cat (pe_lst (pa_cons pe_non (pa_cons pe_non pa_nil))) ((pe_dget hu1) (pv 1) pe_str (fun _ _ => rfl))) pa_nil))) pa_nil))))) pa_nil)))
    (pss_cons (ps_set (i := 4) sc_law_new_ban.nd rfl (Or.inl rfl) (pe_call G_law_ties (hr.mono (by decide)) (by rfl) T.g_law_ties T.k_law_ties T.b_law_ties .nil pass0 (pa_cons (pv 0) (pa_cons (pv 2) (pa_cons ((pe_dget hu1) (pv 1) pe_str (fun _ _ => rfl)) (pa_cons (pe_call G_law_pick (hr.mono (by decide)) (by rfl) T.g_law_pick T.k_law_pick T.b_law_pick .nil pass0 (pa_cons (pv 0) (pa_cons (pe_lst (pa_cons pe_int (pa_cons pe_int (pa_cons pe_int (pa_cons pe_int (pa_cons pe_int pa_nil)))))) pa_nil))) pa_nil))))))
    (pss_cons (ps_set (i := 5) sc_law_new_ban.nd rfl (Or.inl rfl) (pe_callB (call_min2 rfl) (by rfl) T.n_min (by decide +kernel) (pa_cons (pe_callB call_len_seq (by rfl) T.n_len (by decide +kernel) (pa_cons (pv 4) pa_nil)) (pa_cons (pe_call G_law_roll (hr.mono (by decide)) (by rfl) T.g_law_roll T.k_law_roll T.b_law_roll .nil pass0 (pa_cons (pv 0) (pa_cons pe_int pa_nil))) pa_nil))))
    (pss_one (ps_ret (pe_disp (pps_cons pe_str (pv 3) (pps_cons pe_str (pe_slice sl_list (pv 4) (po_some (pv 5)) po_none) (pps_cons pe_str (pe_slice sl_list (pv 4) po_none (po_some (pv 5))) pps_nil))) rfl rfl (by intro q; cases q) (by decide)))))))), ?_⟩
  refine ⟨_, rfl, _, rfl, (by show 4 ≤ sizeLine; decide), fun L hL => ?_⟩
  have e1 : Ex H (upd H L (.lst [.int 1, .int 2, .int 2, .int 3])) := Ex.new hL
  have gL : upd H L (.lst [.int 1, .int 2, .int 2, .int 3]) L = some (.lst [.int 1, .int 2, .int 2, .int 3]) := upd_same
  generalize upd H L (.lst [.int 1, .int 2, .int 2, .int 3]) = H1 at e1 gL ⊢
  refine ⟨a, L, _, rfl, e1 _ _ ha, SqL.of gL, (by decide), (by decide), fun x hx => ?_⟩
  obtain ⟨m, rfl, m1, m3⟩ : ∃ m : Int, x = .int m ∧ 1 ≤ m ∧ m ≤ 3 := by
    simp only [List.mem_cons, List.not_mem_nil, or_false] at hx
    rcases hx with rfl | rfl | rfl | rfl
    · exact ⟨1, rfl, by decide, by decide⟩
    · exact ⟨2, rfl, by decide, by decide⟩
    · exact ⟨2, rfl, by decide, by decide⟩
    · exact ⟨3, rfl, by decide, by decide⟩
  refine ⟨(by show 0 ≤ sizeLine; decide), fun p0 hp0 => ?_⟩
  have e2 : Ex H1 (upd H1 p0 (.lst [])) := Ex.new hp0
  have g2 : upd H1 p0 (.lst []) p0 = some (.lst (([] : List Str).map V.str)) := upd_same
  generalize upd H1 p0 (.lst []) = H2 at e2 g2 ⊢
  have e02 := e1.trans e2
  refine ⟨a, p0, m, [], rfl, e02 _ _ ha, SqL.of g2, by omega, by omega, by decide, fun H3 l0 zs e3 n0 g0 nz znm lz => ?_⟩
  have x3 := e02.trans e3
  -- the posts
  refine ⟨_, rfl, l0, rfl, ⟨_, SqL.of g0⟩, fun D hD => lc_list (K := K) (a := l0) (xs := zs.map V.str) (fun i J => ∃ (bs : List Addr) (ps : Posts), J D = some (.lst (bs.map V.ref)) ∧ Paired (fun (b : Addr) (kv : Key × V) => J b = some (.tup [kV kv.1, kv.2])) bs (kvP ps) ∧ namesP ps = zs.take i ∧ (∀ p ∈ ps, kindOk kr p.2 = true) ∧ Ex H3 J)
    ⟨[], [], upd_same, .nil, rfl, (fun _ z => nomatch z), Ex.mut (Ex.refl _) hD⟩ ?_ ?_ ?_⟩
  · rintro i J _ ⟨bs, ps, h1, h2, h3, h4, e⟩
    exact SqL.of (e _ _ g0)
  · rintro i x J hx ⟨bs, ps, h1, h2, h3, h4, e⟩
    rw [List.getElem?_map] at hx
    obtain ⟨z, hz, rfl⟩ := Option.map_eq_some_iff.mp hx
    have lbs : bs.length = i ∧ i < zs.length := by
      have := Paired.length h2
      rw [kvP_len] at this
      have l3 : (namesP ps).length = ps.length := List.length_map ..
      rw [h3, List.length_take] at l3
      obtain ⟨hi, _⟩ := List.getElem?_eq_some_iff.mp hz
      omega
    have lkr := nk.hi
    have xJ := x3.trans e
    refine ⟨rfl, ?_⟩
    unfold tYes
    dsimp only
    rw [if_pos rfl]
    refine ⟨_, rfl, _, rfl, (by show 2 ≤ sizeLine; decide), fun m hm => ?_⟩
    have y1 : Ex J (upd J m (.lst [V.non, V.non])) := Ex.new hm
    have g1 : upd J m (.lst [V.non, V.non]) m = some (.lst [V.non, V.non]) := upd_same
    generalize upd J m (.lst [V.non, V.non]) = J1 at y1 g1 ⊢
    have xJ1 := xJ.trans y1
    refine ⟨_, rfl, p, .ref lk, rfl, .inl ⟨_, .inr "kinds", .inl (xJ1 _ _ hp), rfl, val_kinds (y := .ref lw)⟩, _, _, _, _, rfl, rfl, g1, xJ1 _ _ hk, ?_, fun c hc => ?_⟩
    · show 2 + (kr.map V.str).length ≤ sizeLine
      rw [List.length_map]
      exact len_line (by omega)
    have y2 : Ex J1 (upd J1 c (.lst ([V.non, V.non] ++ kr.map V.str))) := Ex.new hc
    have gc : upd J1 c (.lst ([V.non, V.non] ++ kr.map V.str)) c = some (.lst ([V.non, V.non] ++ kr.map V.str)) := upd_same
    generalize upd J1 c (.lst ([V.non, V.non] ++ kr.map V.str)) = J2 at y2 gc ⊢
    have y02 := y1.trans y2
    refine ⟨a, c, _, rfl, (xJ1.trans y2) _ _ ha, SqL.of gc, ?_, ?_, fun x hx => ?_⟩
    · show 0 < ([V.non, V.non] ++ kr.map V.str).length
      simp
    · show ([V.non, V.non] ++ kr.map V.str).length ≤ 1000
      rw [List.length_append, List.length_map]
      show 2 + kr.length ≤ 1000
      omega
    have hx' : x ∈ V.non :: kr.map V.str := by
      rcases List.mem_append.mp hx with hx | hx
      · simp only [List.mem_cons, List.not_mem_nil, or_false, or_self] at hx
        rw [hx]
        exact List.mem_cons_self
      · exact List.mem_cons_of_mem _ hx
    obtain ⟨o, rfl, ok⟩ := kind_of hx'
    refine ⟨(by show 2 ≤ sizeLine; decide), fun t ht => ?_⟩
    have y3 : Ex J (upd J2 t (.tup [.str z, ov o])) := y02.trans (Ex.new ht)
    have g3 : upd J2 t (.tup [.str z, ov o]) t = some (.tup [.str z, ov o]) := upd_same
    generalize upd J2 t (.tup [.str z, ov o]) = J3 at y3 g3 ⊢
    refine ⟨_, y3 _ _ h1, len_lt (by rw [List.length_map]; omega), bs ++ [t], ps ++ [(z, o)], by rw [upd_same, List.map_append]; rfl, ?_, ?_, fun p hp => ?_, Ex.mut (e.trans y3) hD⟩
    · rw [kvP_snoc]
      exact pair_put (y3 _ _ h1) (pair_snoc (pair_ex y3 h2) g3)
    · rw [namesP_snoc, h3, List.take_add_one, hz]
      rfl
    · rcases List.mem_append.mp hp with hp | hp
      · exact h4 p hp
      · rw [List.mem_singleton.mp hp]
        exact ok
  rintro J ⟨bs, ps, h1, h2, h3, h4, e⟩
  rw [List.length_map, List.take_length] at h3
  refine ⟨D, bs, kvP ps, rfl, SqL.of h1, pair_sq h2, fun d nd => ?_⟩
  rw [merge_new (by rw [h3]; exact nz)]
  have y1 : Ex J (upd J d (.dK (kvP ps))) := Ex.new nd
  have gd : upd J d (.dK (kvP ps)) d = some (.dK (kvP ps)) := upd_same
  generalize upd J d (.dK (kvP ps)) = J4 at y1 gd ⊢
  have x4 : Ex H3 J4 := e.trans y1
  have xH : Ex H J4 := x3.trans x4
  have psnm : ∀ p ∈ ps, isName p.1 = true := fun p hp => znm _ (by rw [← h3]; exact List.mem_map.mpr ⟨p, hp, rfl⟩)
  have l3 : (namesP ps).length = ps.length := List.length_map ..
  have psl : (ps.length : Int) = m := by
    rw [h3] at l3
    omega
  have g04 := x4 _ _ g0
  -- the ties
  refine ⟨_, rfl, _, rfl, _, rfl, p, .ref lw, rfl, .inl ⟨_, .inr "words", .inl (xH _ _ hp), rfl, val_words (x := .ref lk)⟩, _, rfl, (by show 5 ≤ sizeLine; decide), fun L2 hL2 => ?_⟩
  have e5 : Ex J4 (upd J4 L2 (.lst [.int 0, .int 1, .int 2, .int 2, .int 3])) := Ex.new hL2
  have g5 : upd J4 L2 (.lst [.int 0, .int 1, .int 2, .int 2, .int 3]) L2 = some (.lst [.int 0, .int 1, .int 2, .int 2, .int 3]) := upd_same
  generalize upd J4 L2 (.lst [.int 0, .int 1, .int 2, .int 2, .int 3]) = J5 at e5 g5 ⊢
  have x5 := xH.trans e5
  refine ⟨a, L2, _, rfl, x5 _ _ ha, SqL.of g5, (by decide), (by decide), fun x hx => ?_⟩
  obtain ⟨k, rfl, k0, k3⟩ : ∃ k : Int, x = .int k ∧ 0 ≤ k ∧ k ≤ 3 := by
    simp only [List.mem_cons, List.not_mem_nil, or_false] at hx
    rcases hx with rfl | rfl | rfl | rfl | rfl
    · exact ⟨0, rfl, by decide, by decide⟩
    · exact ⟨1, rfl, by decide, by decide⟩
    · exact ⟨2, rfl, by decide, by decide⟩
    · exact ⟨2, rfl, by decide, by decide⟩
    · exact ⟨3, rfl, by decide, by decide⟩
  have wlo := nw.lo
  have whi := nw.hi
  refine ⟨a, l0, lw, zs, wr, k, rfl, x5 _ _ ha, e5 _ _ g04, x5 _ _ hw, by omega, by omega, by omega, by omega, by omega, by omega, fun J6 r1 xs ts e6 nr1 g6 tv6 ti6 lt6 => ?_⟩
  have x6 := x5.trans e6
  have lx := paired_len tv6
  refine ⟨_, rfl, r1, _, rfl, .inl (SqL.of g6), _, rfl, a, 2, rfl, x6 _ _ ha, by decide, by decide, fun r r0 r2 => ?_⟩
  obtain ⟨c, hc, c1, c2⟩ : ∃ c : Nat, (if r < ((xs.length : Nat) : Int) then r else ((xs.length : Nat) : Int)) = (c : Int) ∧ c ≤ 1 ∧ c ≤ xs.length := by
    by_cases z : r < ((xs.length : Nat) : Int)
    · exact ⟨r.toNat, by rw [if_pos z]; omega, by omega, by omega⟩
    · exact ⟨xs.length, by rw [if_neg z], by omega, Nat.le_refl _⟩
  refine ⟨_, _, rfl, ?_⟩
  rw [hc]
  -- the dict
  intro d2 hd2
  have e7 : Ex J6 (upd J6 d2 (.dK [])) := Ex.new hd2
  have g7 : upd J6 d2 (.dK []) d2 = some (.dK []) := upd_same
  generalize upd J6 d2 (.dK []) = J7 at e7 g7 ⊢
  have nH : ∀ {b : Addr} {G : Hp}, Ex H G → G b = none → H b = none := fun {b G} e h => by
    cases z : H b with
    | none => rfl
    | some o => rw [e _ _ z] at h; cases h
  refine ⟨_, rfl, _, rfl, _, rfl, _, rfl, _, _, rfl, SqL.of (e7 _ _ g6), fun s1 hs1 => ?_⟩
  rw [cut_from]
  have e8 : Ex J7 (upd J7 s1 (.lst (xs.drop c))) := Ex.new hs1
  have g8 : upd J7 s1 (.lst (xs.drop c)) s1 = some (.lst (xs.drop c)) := upd_same
  generalize upd J7 s1 (.lst (xs.drop c)) = J8 at e8 g8 ⊢
  refine ⟨_, rfl, _, rfl, _, rfl, _, _, rfl, SqL.of ((e7.trans e8) _ _ g6), fun s2 hs2 => ?_⟩
  rw [cut_upto]
  have e9 : Ex J8 (upd J8 s2 (.lst (xs.take c))) := Ex.new hs2
  have g9 : upd J8 s2 (.lst (xs.take c)) s2 = some (.lst (xs.take c)) := upd_same
  generalize upd J8 s2 (.lst (xs.take c)) = J9 at e9 g9 ⊢
  have g79 := (e8.trans e9) _ _ g7
  have x9 : Ex H J9 := ((x6.trans e7).trans e8).trans e9
  have n7 : H d2 = none := nH x6 hd2
  have n8 : H s1 = none := nH (x6.trans e7) hs1
  have n9 : H s2 = none := nH ((x6.trans e7).trans e8) hs2
  refine ⟨g79, [(.inr "posts", .ref d), (.inr "there", .ref s1), (.inr "lacking", .ref s2)], rfl, (by show 3 ≤ 15; decide), ?_⟩
  have em : mergeK [] [((.inr "posts" : Key), V.ref d), (.inr "there", .ref s1), (.inr "lacking", .ref s2)] = [(.inr "posts", .ref d), (.inr "there", .ref s1), (.inr "lacking", .ref s2)] := by rfl
  have nd2 : d ≠ d2 := fun z => by
    have := ((e5.trans e6) _ _ gd)
    rw [z, hd2] at this
    cases this
  have ns1 : s1 ≠ d2 := fun z => by rw [z, g7] at hs1; cases hs1
  have ns2 : s2 ≠ d2 := fun z => by rw [z, e8 _ _ g7] at hs2; cases hs2
  have gdl := ((((e5.trans e6).trans e7).trans e8).trans e9) _ _ gd
  have tvl : ∀ {us : List V} {ss : List Tie}, Paired (TieV J6) us ss → Paired (TieV (upd J9 d2 (.dK [(.inr "posts", .ref d), (.inr "there", .ref s1), (.inr "lacking", .ref s2)]))) us ss := fun h => paired_imp (fun v t y => by
    obtain ⟨b, rfl, hb⟩ := TieV.ex y ((e7.trans e8).trans e9)
    exact ⟨b, rfl, by rw [upd_ne (ne_of hb g79 (by intro z; cases z))]; exact hb⟩) h
  have pl : Plain kr wr ps (ts.drop c) (ts.take c) := by
    have perm : (ts.drop c ++ ts.take c).Perm ts := by
      have := List.perm_append_comm (l₁ := ts.drop c) (l₂ := ts.take c)
      rw [List.take_append_drop] at this
      exact this
    refine ⟨by rw [h3]; exact nz, psnm, h4, by omega, perm.nodup_iff.mpr ti6.nd, fun t ht => ?_, by rw [perm.length_eq]; omega⟩
    obtain ⟨t1, t2, t3⟩ := ti6.mem t (perm.mem_iff.mp ht)
    rw [h3]
    exact ⟨t2, t1, t3⟩
  refine q _ d2 ⟨ps, ts.drop c, ts.take c⟩ (Ex.mut x9 n7) ⟨pl, by show 1 ≤ ps.length; omega, by show ps.length ≤ 3; omega, by show (ts.take c).length ≤ 1; rw [List.length_take]; omega⟩ fun l hl => ?_
  refine ⟨d, s1, s2, _, _, by rw [upd_same, em], by rw [upd_ne nd2]; exact gdl, by rw [upd_ne ns1]; exact e9 _ _ g8, tvl (paired_drop c tv6), by rw [upd_ne ns2]; exact g9, tvl (paired_take c tv6), fun z => ?_, fun z => ?_⟩
  · rw [← z] at hl
    exact hl n8
  · rw [← z] at hl
    exact hl n9
end
end K23
namespace K23
open PySem L2 Kd Evl Ks Kt Ky
open PySem.W (Datum DatumOrd T3)
theorem kvP_inj {ps qs : Posts} (h : kvP ps = kvP qs) : ps = qs := by
  unfold kvP at h
  refine (List.map_inj_right fun a b e => ?_).mp h
  obtain ⟨h1, h2⟩ := Prod.mk.inj e
  exact Prod.ext (Sum.inr.inj h1) (ov_inj h2)
theorem tru_inj {ts us : List Tie} (h : tru (ts.map tieK) = tru (us.map tieK)) : ts = us := by
  have z : (ts.map tieK).map (fun k => (k, V.bl true)) = (us.map tieK).map (fun k => (k, V.bl true)) := by injection h
  have y := (List.map_inj_right (fun a b e => (Prod.mk.inj e).1)).mp z
  exact (List.map_inj_right (fun a b e => tieK_inj a b e)).mp y
theorem shp_one {AA : Ads} {H : Hp} {a : Addr} {ks ws : List Str} {c d : Pb} (h : ShpAt AA H a (toS ks ws c)) (h' : ShpAt AA H a (toS ks ws d)) : c = d := by
  obtain ⟨sh, ⟨dx, po, th, la, h1, h2, h3, h4⟩, _⟩ := h
  obtain ⟨si, ⟨dy, qo, uh, ma, g1, g2, g3, g4⟩, _⟩ := h'
  rw [h1] at g1
  have e := Option.some.inj g1
  injection e with _ _ e
  unfold sf at e
  injection e with e1 e
  injection e with e2 e
  injection e with e3 e
  injection e with e4 e
  obtain rfl : po = qo := V.ref.inj (Prod.mk.inj e2).2
  obtain rfl : th = uh := V.ref.inj (Prod.mk.inj e3).2
  obtain rfl : la = ma := V.ref.inj (Prod.mk.inj e4).2
  have p1 : c.ps = d.ps := kvP_inj (HO.dK.inj (Option.some.inj (h2.symm.trans g2)))
  have p2 : c.ts = d.ts := tru_inj (Option.some.inj (h3.symm.trans g3))
  have p3 : c.ls = d.ls := tru_inj (Option.some.inj (h4.symm.trans g4))
  obtain ⟨c1, c2, c3⟩ := c
  obtain ⟨d1, d2, d3⟩ := d
  cases p1
  cases p2
  cases p3
  rfl
theorem d_shp {K : PySem.W.Frag} {AA : Ads} {H : Hp} {a b : Addr} {ks ws : List Str} {c d : Pb} (h : ShpAt AA H a (toS ks ws c)) (h' : ShpAt AA H b (toS ks ws d)) (hc : Cn c) (hd : Cn d) : Kq.DOwn AA.C_Shape (spEqP K AA) (.ref a) (.ref b) (decide (c = d)) H := by
  have h0 := h
  have h0' := h'
  obtain ⟨sh, ⟨dx, po, th, la, h1, _⟩, _⟩ := h
  obtain ⟨si, ⟨dy, qo, uh, ma, g1, _⟩, _⟩ := h'
  refine ⟨a, b, dx, dy, _, _, rfl, rfl, h1, g1, fun e => ?_, a, .ref b, _, some (toS ks ws d), rfl, h0, .inr (.inr ⟨b, _, rfl, h0', rfl⟩), ?_, rfl⟩
  · subst e
    exact decide_eq_true (shp_one h0 h0')
  · show V.bl (eqShp (toS ks ws c) (toS ks ws d)) = _
    rw [eqShp_cn hc hd]
/-- v is a shape that can be a ban -/
def SB (AA : Ads) (ks ws : List Str) (H : Hp) (v : V) (c : Pb) : Prop := ∃ a, v = .ref a ∧ ShpAt AA H a (toS ks ws c) ∧ BanOk c
abbrev Rw (AA : Ads) (ks ws : List Str) (H : Hp) (vs : List V) (cs : List Pb) : Prop := Paired (SB AA ks ws H) vs cs
theorem SB.ex {AA : Ads} {ks ws : List Str} {H H' : Hp} {v : V} {c : Pb} (h : SB AA ks ws H v c) (e : Ex H H') : SB AA ks ws H' v c := by
  obtain ⟨a, e1, h1, h2⟩ := h
  exact ⟨a, e1, h1.ex e, h2⟩
theorem rw_ex {AA : Ads} {ks ws : List Str} {H H' : Hp} {vs : List V} {cs : List Pb} (h : Rw AA ks ws H vs cs) (e : Ex H H') : Rw AA ks ws H' vs cs := paired_imp (fun _ _ z => z.ex e) h
theorem rw_refs {AA : Ads} {ks ws : List Str} {H : Hp} {vs : List V} {cs : List Pb} (h : Rw AA ks ws H vs cs) : ∃ ds : List Addr, vs = ds.map V.ref := Kq.refs_of fun z hz => by
  obtain ⟨c, _, a, e, _⟩ := paired_mem h hz
  exact ⟨a, e⟩
theorem any_at {l : List Pb} {c : Pb} : (List.range l.length).any (fun i => decide (l[i]? = some c)) = decide (c ∈ l) := by
  rw [Bool.eq_iff_iff, List.any_eq_true, decide_eq_true_iff]
  constructor
  · rintro ⟨i, _, h⟩
    exact List.mem_of_getElem? (of_decide_eq_true h)
  · intro h
    obtain ⟨i, hi⟩ := List.getElem?_of_mem h
    obtain ⟨hl, _⟩ := List.getElem?_eq_some_iff.mp hi
    exact ⟨i, List.mem_range.mpr hl, decide_eq_true hi⟩
/-- c in a row of shapes -/
theorem inRow {K : PySem.W.Frag} {AA : Ads} {ks ws : List Str} {H H' : Hp} {vs : List V} {cs : List Pb} {v : V} {c : Pb} {p : Addr} {g : Bool → Bool} {Q : VK} (r : Rw AA ks ws H vs cs) (e : Ex H H') (hv : ∃ a, v = .ref a ∧ ShpAt AA H' a (toS ks ws c) ∧ Cn c) (hs : SqL K H' p vs ∨ SqT K H' p vs) (q : Q (.bl (g (decide (c ∈ cs)))) H') : Kq.rInD K (Kq.DOwn AA.C_Shape (spEqP K AA)) g v (.ref p) H' Q := by
  obtain ⟨a, rfl, ha, hc⟩ := hv
  obtain ⟨ds, rfl⟩ := rw_refs r
  have hl := paired_len r
  rw [List.length_map] at hl
  refine ⟨p, a, ds, fun i => decide (cs[i]? = some c), rfl, rfl, hs, fun i b hb => ?_, ?_⟩
  · obtain ⟨d, hd, b', eb, h1, h2⟩ := paired_get2 r (show (ds.map V.ref)[i]? = some (.ref b) by rw [List.getElem?_map, hb]; rfl)
    cases eb
    have z : decide (cs[i]? = some c) = decide (d = c) := by rw [hd]; exact decide_eq_decide.mpr ⟨fun z => Option.some.inj z, fun z => by rw [z]⟩
    show Kq.DOwn _ _ _ _ (decide (cs[i]? = some c)) _
    rw [z]
    exact d_shp (h1.ex e) ha h2.cn hc
  · rw [hl, any_at]
    exact q
section
variable {P : Program} {w : World} {K : PySem.W.Frag} {mg : Str → Option Value} {base : Heap} {AA : Ads}
def spCan (AA : Ads) : Sp := fun vs H Q _ => ∃ (sh : Addr) (v : V) (ks ws : List Str) (c : Pb), vs = [.ref sh, v] ∧ SheetAt AA.C_Sheet H sh ks ws ∧ OkS ks ∧ OkS ws ∧ SB AA ks ws H v c ∧ Q (.bl true) H
theorem ok_can_be_ban (T : Txt K mg AA) : FnOk P w K mg base CX0 3 AA.a_can_be_ban AA.d_can_be_ban ["sheet", "value"] (spCan AA) := by
  have G_Sheet_eq : FnOk P w K mg base CX0 1 AA.a_Sheet_eq AA.d_Sheet_eq ["self", "other"] (spEqS K AA.C_Sheet) := ok_Sheet_eq T
  refine T.F_can_be_ban.ok sc_can_be_ban (fun vs H Q E h => ?_) (fun cdv A outer s H vs Q E hr h => ?_)
  · obtain ⟨sh, v, ks, ws, c, rfl, _⟩ := h
    rfl
  · obtain ⟨sh, v, ks, ws, c, rfl, hs, o1, o2, ⟨a, rfl, ⟨si, hx, hi, o3, o4⟩, ok⟩, q⟩ := h
    have r1 := T.r_MOST_POSTS
    obtain ⟨dx, fs, po, th, la, a1, a2, a3, a4, a5, a6, a7, a8⟩ := hx.at_
    obtain ⟨d1, f1, k1, w1, s1, _⟩ := hs.at_
    obtain ⟨d2, f2, k2, w2, s2, _⟩ := hi.at_
    refine ⟨_, (pss_cons (ps_if (pw_or (pt_not (pt_val (pe_callB call_isi (by rfl) T.n_isinstance (by decide +kernel) (pa_cons (pv 1) (pa_cons (pe_glob (v := .ref AA.C_Shape) (by rfl) T.g_Shape rfl) pa_nil))))) (pw_or1 (pt_cmpR (op_ownNe G_Sheet_eq (T.I_Sheet.own T.m_Sheet_eq) T.b_Sheet_eq (hr.mono (by decide))) (pe_fld (pv 1) rfl) (pv 0) (nomark _)))).pt (pss_one (ps_ret pe_bl)) pss_nil)
    (pss_one (ps_ret (pe_and (pe_chain op_le op_le pe_int (pe_callB call_lenD (by rfl) T.n_len (by decide +kernel) (pa_cons (pe_fld (pv 1) rfl) pa_nil)) (pe_glob (by rfl) T.c_MOST_POSTS T.r_MOST_POSTS)) (pe_one (pe_cmpR op_le (pe_callB call_len_dT (by rfl) T.n_len (by decide +kernel) (pa_cons (pe_fld (pv 1) rfl) pa_nil)) pe_int (nomark _))))))), ?_⟩
    refine ⟨_, rfl, _, _, _, _, _, rfl, .own _, T.I_Shape.ty a1, kit_self, _, rfl, if_f rfl ?_⟩
    refine ⟨_, rfl, a, _, dx, fs, _, rfl, a1, T.cl_Shape, T.n_Shape_own_sheet, a2, _, rfl, si, d2, f2, _, rfl, s2, T.I_Sheet.ty s1, not_first_self, si, _, ks, ws, some (ks, ws), rfl, hi, o1, o2, .inr ⟨sh, _, _, rfl, hs, o1, o2, rfl⟩, _, rfl, _, rfl, ?_⟩
    rw [decide_eq_true rfl]
    refine if_f rfl ?_
    have l1 : ((kvP c.ps).length : Int) = (c.ps.length : Int) := by rw [kvP_len]
    have b1 := ok.lo
    have b2 := ok.hi
    have b3 := ok.la
    refine ⟨_, rfl, a, _, dx, fs, _, rfl, a1, T.cl_Shape, T.n_Shape_own_posts, a3, po, _, rfl, a6, _, _, rfl, rfl, _, rfl, ?_⟩
    refine if_t (decide_eq_true (by show (1 : Int) ≤ ((kvP c.ps).length : Int); omega)) ⟨_, _, rfl, rfl, _, rfl, ?_⟩
    refine if_t (decide_eq_true (by show ((kvP c.ps).length : Int) ≤ 3; omega)) ⟨_, rfl, a, _, dx, fs, _, rfl, a1, T.cl_Shape, T.n_Shape_own_lacking, a5, la, _, rfl, a8, _, _, rfl, rfl, ?_⟩
    have l2 : (((c.ls.map tieK).map fun k => (k, V.bl true)).length : Int) = (c.ls.length : Int) := by rw [List.length_map, List.length_map]
    have z : decide ((((c.ls.map tieK).map fun k => (k, V.bl true)).length : Int) ≤ 1) = true := decide_eq_true (by omega)
    show Q (.bl (decide ((((c.ls.map tieK).map fun k => (k, V.bl true)).length : Int) ≤ 1))) H
    rw [z]
    exact q
def spDiff (K : PySem.W.Frag) (AA : Ads) (f : Addr → List V → Hp → Prop) : Sp := fun vs H Q _ => ∃ (t : Addr) (ks ws : List Str) (us : List V) (cs : List Pb) (G : Hp), vs = [.ref t] ∧ f t us H ∧ Ex G H ∧ Rw AA ks ws G us cs ∧ cs.length ≤ 100 ∧
  ∀ H' p ys, Ex H H' → H p = none → H' p = some (.lst ys) → Rw AA ks ws G ys (uniq cs) → Q (.ref p) H'
theorem ok_different_T (T : Txt K mg AA) : FnOk P w K mg base CX0 5 AA.a_different AA.d_different ["shapes"] (spDiff K AA fun t us H => SqT K H t us) := by
  have G_Shape_eq : FnOk P w K mg base CX0 3 AA.a_Shape_eq AA.d_Shape_eq ["self", "other"] (spEqP K AA) := ok_Shape_eq T
  refine T.F_different.ok sc_different (fun vs H Q E h => ?_) (fun cdv A outer s H vs Q E hr h => ?_)
  · obtain ⟨t, ks, ws, us, cs, G, rfl, _⟩ := h
    rfl
  · obtain ⟨t, ks, ws, us, cs, G, rfl, ht, eG, hr1, few, q⟩ := h
    have lus := paired_len hr1
    refine ⟨_, (pss_cons (ps_set (i := 1) sc_different.nd rfl (Or.inl rfl) (pe_lst pa_nil))
    (pss_cons (ps_for PassesOwn.never rfl (pi_tup (pv 0)) (pg_name (i := 2) sc_different.nd rfl (Or.inl rfl))
      (pss_one (ps_if (pt_cmpR (Kq.op_notInD (K := K) rfl (Kq.askD_own G_Shape_eq (T.I_Shape.own T.m_Shape_eq) T.b_Shape_eq) (hr.mono (by decide))) (pv 2) (pv 1) rfl) (pss_one (ps_expr (pe_bm PySem.F.plainAttrs_list PySem.F.slot_list_append PySem.F.type_list_append mt_append (pv 1) (pa_cons (pv 2) pa_nil)))) pss_nil)))
    (pss_one (ps_ret (pv 1))))), ?_⟩
    refine ⟨(by show 0 ≤ sizeLine; decide), fun p hp => ?_⟩
    refine ⟨_, rfl, t, rfl, ⟨_, ex_t (Ex.new hp) ht⟩, ?_⟩
    refine for_tup (xs := us) (fun i σ J => ∃ (v3 : Option V) (ys : List V), σ = [some (.ref t), some (.ref p), v3] ∧ Ex H J ∧ J p = some (.lst ys) ∧ Rw AA ks ws G ys (uniq (cs.take i))) ⟨none, [], rfl, Ex.new hp, upd_same, .nil⟩ (fun i σ J _ ⟨_, _, _, e, _⟩ => ex_t e ht) ?_ ?_
    · rintro i x σ J hx ⟨v3, ys, rfl, e1, hy, ry⟩
      obtain ⟨c, hc, hv⟩ := paired_get2 hr1 hx
      have tk : cs.take (i + 1) = cs.take i ++ [c] := by rw [List.take_add_one, hc]; rfl
      have hv0 := hv
      obtain ⟨a, rfl, ha, ok⟩ := hv
      refine ⟨_, rfl, _, rfl, inRow (g := not) ry (eG.trans e1) ⟨a, rfl, ha.ex (eG.trans e1), ok.cn⟩ (.inl (SqL.of hy)) ⟨_, rfl, ?_⟩⟩
      by_cases z : c ∈ uniq (cs.take i)
      · refine if_f (by rw [decide_eq_true z]; rfl) ⟨_, ys, rfl, e1, hy, ?_⟩
        rw [tk, uniq_snoc, show add1 (uniq (cs.take i)) c = uniq (cs.take i) from if_pos (has_iff.mpr z)]
        exact ry
      · have l1 := paired_len ry
        have l2 := len_uniq (cs.take i)
        rw [List.length_take] at l2
        refine if_t (by rw [decide_eq_false z]; rfl) ⟨_, rfl, .inl ⟨rfl, _, SqL.of hy⟩, _, rfl, p, _, _, rfl, rfl, hy, len_lt (by omega), ?_⟩
        refine ⟨_, ys ++ [.ref a], rfl, Ex.mut e1 hp, upd_same, ?_⟩
        rw [tk, uniq_snoc, show add1 (uniq (cs.take i)) c = uniq (cs.take i) ++ [c] from if_neg (fun y => z (has_iff.mp y))]
        exact paired_app ry (.cons hv0 .nil)
    · rintro σ J ⟨v3, ys, rfl, e1, hy, ry⟩
      rw [lus, List.take_of_length_le (Nat.le_refl _)] at ry
      exact ⟨_, rfl, q J p ys e1 hp hy ry⟩
end
end K23
namespace K23
open PySem L2 Kd Evl Ks Kt Ky
open PySem.W (Datum DatumOrd T3)
section
variable {P : Program} {w : World} {K : PySem.W.Frag} {mg : Str → Option Value} {base : Heap} {AA : Ads}
theorem ok_different_L (T : Txt K mg AA) : FnOk P w K mg base CX0 5 AA.a_different AA.d_different ["shapes"] (spDiff K AA fun t us H => SqL K H t us) := by
  have G_Shape_eq : FnOk P w K mg base CX0 3 AA.a_Shape_eq AA.d_Shape_eq ["self", "other"] (spEqP K AA) := ok_Shape_eq T
  refine T.F_different.ok sc_different (fun vs H Q E h => ?_) (fun cdv A outer s H vs Q E hr h => ?_)
  · obtain ⟨t, ks, ws, us, cs, G, rfl, _⟩ := h
    rfl
  · obtain ⟨t, ks, ws, us, cs, G, rfl, ht, eG, hr1, few, q⟩ := h
    have lus := paired_len hr1
    refine ⟨_, (pss_cons (ps_set (i := 1) sc_different.nd rfl (Or.inl rfl) (pe_lst pa_nil))
    (pss_cons (ps_for PassesOwn.never rfl (pi_list (pv 0)) (pg_name (i := 2) sc_different.nd rfl (Or.inl rfl))
      (pss_one (ps_if (pt_cmpR (Kq.op_notInD (K := K) rfl (Kq.askD_own G_Shape_eq (T.I_Shape.own T.m_Shape_eq) T.b_Shape_eq) (hr.mono (by decide))) (pv 2) (pv 1) rfl) (pss_one (ps_expr (pe_bm PySem.F.plainAttrs_list PySem.F.slot_list_append PySem.F.type_list_append mt_append (pv 1) (pa_cons (pv 2) pa_nil)))) pss_nil)))
    (pss_one (ps_ret (pv 1))))), ?_⟩
    refine ⟨(by show 0 ≤ sizeLine; decide), fun p hp => ?_⟩
    refine ⟨_, rfl, t, rfl, ⟨_, ex_l (Ex.new hp) ht⟩, ?_⟩
    refine for_list (xs := us) (fun i σ J => ∃ (v3 : Option V) (ys : List V), σ = [some (.ref t), some (.ref p), v3] ∧ Ex H J ∧ J p = some (.lst ys) ∧ Rw AA ks ws G ys (uniq (cs.take i))) ⟨none, [], rfl, Ex.new hp, upd_same, .nil⟩ (fun i σ J _ ⟨_, _, _, e, _⟩ => ex_l e ht) ?_ ?_
    · rintro i x σ J hx ⟨v3, ys, rfl, e1, hy, ry⟩
      obtain ⟨c, hc, hv⟩ := paired_get2 hr1 hx
      have tk : cs.take (i + 1) = cs.take i ++ [c] := by rw [List.take_add_one, hc]; rfl
      have hv0 := hv
      obtain ⟨a, rfl, ha, ok⟩ := hv
      refine ⟨_, rfl, _, rfl, inRow (g := not) ry (eG.trans e1) ⟨a, rfl, ha.ex (eG.trans e1), ok.cn⟩ (.inl (SqL.of hy)) ⟨_, rfl, ?_⟩⟩
      by_cases z : c ∈ uniq (cs.take i)
      · refine if_f (by rw [decide_eq_true z]; rfl) ⟨_, ys, rfl, e1, hy, ?_⟩
        rw [tk, uniq_snoc, show add1 (uniq (cs.take i)) c = uniq (cs.take i) from if_pos (has_iff.mpr z)]
        exact ry
      · have l1 := paired_len ry
        have l2 := len_uniq (cs.take i)
        rw [List.length_take] at l2
        refine if_t (by rw [decide_eq_false z]; rfl) ⟨_, rfl, .inl ⟨rfl, _, SqL.of hy⟩, _, rfl, p, _, _, rfl, rfl, hy, len_lt (by omega), ?_⟩
        refine ⟨_, ys ++ [.ref a], rfl, Ex.mut e1 hp, upd_same, ?_⟩
        rw [tk, uniq_snoc, show add1 (uniq (cs.take i)) c = uniq (cs.take i) ++ [c] from if_neg (fun y => z (has_iff.mp y))]
        exact paired_app ry (.cons hv0 .nil)
    · rintro σ J ⟨v3, ys, rfl, e1, hy, ry⟩
      rw [lus, List.take_of_length_le (Nat.le_refl _)] at ry
      exact ⟨_, rfl, q J p ys e1 hp hy ry⟩
end
end K23
namespace K23
open PySem L2 Kd Evl Ks Kt Ky
open PySem.W (Datum DatumOrd T3)
/-- the fields of bans -/
def bf (sh t : Addr) : List (Str × V) := [("own_sheet", .ref sh), ("own_shapes", .ref t)]
theorem bf_ne : ¬ (("own_sheet" : Str) = "own_shapes") := by decide +kernel
theorem bf_put {sh t : Addr} : putF "own_shapes" (.ref t) (putF "own_sheet" (.ref sh) ([] : List (Str × V))) = bf sh t := by
  rw [show putF "own_sheet" (V.ref sh) [] = ([("own_sheet", .ref sh)] : List (Str × V)) from rfl, putF, if_neg bf_ne]
  rfl
theorem bf_sheet {sh t : Addr} : (bf sh t).lookup ("own_sheet" : Str) = some (.ref sh) := by
  unfold bf
  rw [List.lookup_cons, beq_self_eq_true]
theorem bf_shapes {sh t : Addr} : (bf sh t).lookup ("own_shapes" : Str) = some (.ref t) := by
  unfold bf
  rw [List.lookup_cons, beq_eq_false_iff_ne.mpr (Ne.symm bf_ne), List.lookup_cons, beq_self_eq_true]
/-- bans stand at p -/
def BansAt (AA : Ads) (H : Hp) (p : Addr) (ks ws : List Str) (cs : List Pb) : Prop := ∃ dx sh t us, H p = some (.ins AA.C_Bans dx (bf sh t)) ∧ SheetAt AA.C_Sheet H sh ks ws ∧ OkS ks ∧ OkS ws ∧ H t = some (.tup us) ∧ Rw AA ks ws H us cs
theorem BansAt.ex {AA : Ads} {H H' : Hp} {p : Addr} {ks ws : List Str} {cs : List Pb} (h : BansAt AA H p ks ws cs) (e : Ex H H') : BansAt AA H' p ks ws cs := by
  obtain ⟨dx, sh, t, us, h1, h2, h3, h4, h5, h6⟩ := h
  exact ⟨dx, sh, t, us, e _ _ h1, h2.ex e, h3, h4, e _ _ h5, rw_ex h6 e⟩
theorem nodup_foldl {α : Type} [DecidableEq α] : ∀ (l acc : List α), acc.Nodup → (l.foldl add1 acc).Nodup
  | [], _, h => h
  | x :: l, acc, h => by
    refine nodup_foldl l _ ?_
    unfold add1
    split
    · exact h
    · rename_i c
      refine List.nodup_append.mpr ⟨h, List.nodup_cons.mpr ⟨(fun z => nomatch z), List.nodup_nil⟩, fun a ha b hb e => c ?_⟩
      rw [List.mem_singleton] at hb
      rw [has_iff, ← hb, ← e]
      exact ha
theorem nodup_uniq {α : Type} [DecidableEq α] (l : List α) : (uniq l).Nodup := nodup_foldl l [] List.nodup_nil
theorem fnA_plain {P : Program} {w : World} {K : PySem.W.Frag} {mg : Str → Option Value} {base : Heap} {CX : CXT} {k : Nat} {f : Addr} {fd : FuncData} {ps : List Str} {sp : Sp} (F : FnOk P w K mg base CX k f fd ps sp) (hb : Binds K fd ps []) : Kw.FnA P w K mg base CX k f [] (fun vs _ H Q E => sp vs H Q E) := by
  intro A outer s H us ws vs zs Q E hr e0 r rz hl q
  have hlen := F.len _ _ _ _ q
  have hlu : us.length = ps.length := by rw [← r.length]; exact hlen
  exact F.run A outer s H ⟨us, []⟩ us vs Q E hr e0 (by simpa using hb s us (e0.mod.kin.keeps fun b o e => (e0.bs b o e).1) (by simpa using hlu)) r q
theorem all_at {l m : List Pb} : (decide (l.length = m.length) && (List.range (min l.length m.length)).all fun i => decide (l[i]? = m[i]?)) = decide (l = m) := by
  rw [Bool.eq_iff_iff, Bool.and_eq_true_iff, decide_eq_true_iff, decide_eq_true_iff, List.all_eq_true]
  constructor
  · rintro ⟨h1, h2⟩
    refine List.ext_getElem? fun i => ?_
    by_cases c : i < l.length
    · exact of_decide_eq_true (h2 i (List.mem_range.mpr (by omega)))
    · rw [List.getElem?_eq_none (by omega), List.getElem?_eq_none (by omega)]
  · rintro rfl
    exact ⟨rfl, fun i _ => decide_eq_true rfl⟩
/-- two rows of shapes, item by item -/
theorem rows_d {K : PySem.W.Frag} {AA : Ads} {ks ws : List Str} {H : Hp} {as bs : List Addr} {cs ds : List Pb} (r : Rw AA ks ws H (as.map V.ref) cs) (r' : Rw AA ks ws H (bs.map V.ref) ds) : ∀ (i : Nat) (a b : Addr), as[i]? = some a → bs[i]? = some b → Kq.DOwn AA.C_Shape (spEqP K AA) (.ref a) (.ref b) ((fun i => decide (cs[i]? = ds[i]?)) i) H := by
  intro i a b ha hb
  obtain ⟨c, hc, a', e1, h1, h2⟩ := paired_get2 r (show (as.map V.ref)[i]? = some (.ref a) by rw [List.getElem?_map, ha]; rfl)
  obtain ⟨d, hd, b', e2, g1, g2⟩ := paired_get2 r' (show (bs.map V.ref)[i]? = some (.ref b) by rw [List.getElem?_map, hb]; rfl)
  cases e1
  cases e2
  show Kq.DOwn _ _ _ _ (decide (cs[i]? = ds[i]?)) _
  have z : decide (cs[i]? = ds[i]?) = decide (c = d) := by rw [hc, hd]; exact decide_eq_decide.mpr ⟨fun z => Option.some.inj z, fun z => by rw [z]⟩
  rw [z]
  exact d_shp h1 g1 h2.cn g2.cn
section
variable {P : Program} {w : World} {K : PySem.W.Frag} {mg : Str → Option Value} {base : Heap} {AA : Ads}
/-- what is put into new bans stands elsewhere, in G -/
def spInitB (K : PySem.W.Frag) (AA : Ads) : Sp := fun vs H Q _ => ∃ (p dx sh t : Addr) (ks ws : List Str) (us : List V) (cs : List Pb) (G : Hp), vs = [.ref p, .ref sh, .ref t] ∧ H p = some (.ins AA.C_Bans dx []) ∧ G p = none ∧ Ex G H ∧ SheetAt AA.C_Sheet G sh ks ws ∧ OkS ks ∧ OkS ws ∧ SqT K H t us ∧ Rw AA ks ws G us cs ∧ cs.length ≤ 100 ∧ (uniq cs).length ≤ 8 ∧
  ∀ H', ExBut p H H' → BansAt AA H' p ks ws (uniq cs) → Q .non H'
theorem body_Bans_init (T : Txt K mg AA) : Kw.FnA P w K mg base CX0 7 AA.a_Bans_init [] (fun vs zs H Q E => ∃ ws rest, vs = ws ++ rest ∧ ws.length = 2 ∧ rest.length ≤ sizeLine ∧ ∀ p, H p = Option.none → spInitB K AA (ws ++ ((zs ++ []) ++ [V.ref p])) (upd H p (.tup rest)) Q E) := by
  have G_require_sheet : FnOk P w K mg base CX0 1 AA.a_require_sheet AA.d_require_sheet ["sheet"] (spReq AA) := ok_require_sheet T
  have G_can_be_ban : FnOk P w K mg base CX0 3 AA.a_can_be_ban AA.d_can_be_ban ["sheet", "value"] (spCan AA) := ok_can_be_ban T
  have G_different : FnOk P w K mg base CX0 5 AA.a_different AA.d_different ["shapes"] (spDiff K AA fun t us H => SqT K H t us) := ok_different_T T
  refine Kw.star_ok (sp := spInitB K AA) T.F_Bans_init sc_Bans_init .nil rfl T.sb_Bans_init_0 (fun cdv A outer s H vs Q E hr h => ?_)
  obtain ⟨p, dx, sh, t, ks, ws, us, cs, G, rfl, hp, np, eG, hs, o1, o2, ht, hr1, few, u8, q⟩ := h
  have hu : _ + 64 < cLine := hu64 hr
  have lus := paired_len hr1
  have r1 := T.r_MAX_BANS
  refine ⟨_, (pss_cons (ps_expr (pe_call G_require_sheet (hr.mono (by decide)) (by rfl) T.g_require_sheet T.k_require_sheet T.b_require_sheet .nil pass0 (pa_cons (pv 1) pa_nil)))
    (pss_cons (ps_for PassesOwn.never rfl (pi_tup (pv 2)) (pg_name (i := 3) sc_Bans_init.nd rfl (Or.inl rfl))
      (pss_one (ps_if (pt_not (pt_val (pe_call G_can_be_ban (hr.mono (by decide)) (by rfl) T.g_can_be_ban T.k_can_be_ban T.b_can_be_ban .nil pass0 (pa_cons (pv 1) (pa_cons (pv 3) pa_nil))))) (pss_one ps_never) pss_nil)))
    (pss_cons (ps_set (i := 4) sc_Bans_init.nd rfl (Or.inl rfl) (pe_call G_different (hr.mono (by decide)) (by rfl) T.g_different T.k_different T.b_different .nil pass0 (pa_cons (pv 2) pa_nil)))
    (pss_cons (ps_if (pt_cmpR op_gt (pe_callB call_len_seq (by rfl) T.n_len (by decide +kernel) (pa_cons (pv 4) pa_nil)) (pe_glob (by rfl) T.c_MAX_BANS T.r_MAX_BANS) (nomark _)) (pss_one ps_never) pss_nil)
    (pss_cons (ps_fld (pv 0) (pv 1) rfl)
    (pss_one (ps_fld (pv 0) (pe_callTy call_tuple_of (by rfl) T.n_tuple (by decide +kernel) (pa_cons (pv 4) pa_nil)) rfl))))))), ?_⟩
  refine ⟨_, rfl, sh, ks, ws, rfl, hs.ex eG, ?_⟩
  refine ⟨_, rfl, t, rfl, ⟨_, ht⟩, ?_⟩
  refine for_tup (xs := us) (fun i σ J => J = H ∧ ∃ v4, σ = [some (.ref p), some (.ref sh), some (.ref t), v4, none]) ⟨rfl, none, rfl⟩ (fun i σ J _ h => by rw [h.1]; exact ht) ?_ ?_
  · rintro i x σ J hx ⟨rfl, v4, rfl⟩
    obtain ⟨c, hc, hv⟩ := paired_get2 hr1 hx
    exact ⟨_, rfl, _, rfl, sh, x, ks, ws, c, rfl, hs.ex eG, o1, o2, hv.ex eG, _, rfl, if_f rfl ⟨rfl, _, rfl⟩⟩
  rintro σ J ⟨rfl, v4, rfl⟩
  refine ⟨_, rfl, t, ks, ws, us, cs, G, rfl, ht, eG, hr1, few, fun H1 f ys e1 nf hy ry => ?_⟩
  have ly := paired_len ry
  refine ⟨_, rfl, f, _, rfl, .inl (SqL.of hy), _, _, rfl, rfl, _, rfl, ?_⟩
  refine if_f (decide_eq_false (by omega)) ?_
  have hp1 := e1 _ _ hp
  refine ⟨_, rfl, _, rfl, p, AA.C_Bans, dx, [], rfl, hp1, T.cl_Bans, T.n_Bans_own_sheet, (by show 0 < 1000; decide), ?_⟩
  have b5 : ExBut p H1 (upd H1 p (.ins AA.C_Bans dx (putF "own_sheet" (.ref sh) []))) := ExBut.put
  have hp5 : upd H1 p (.ins AA.C_Bans dx (putF "own_sheet" (.ref sh) [])) p = some (.ins AA.C_Bans dx (putF "own_sheet" (.ref sh) [])) := upd_same
  have hy5 : upd H1 p (.ins AA.C_Bans dx (putF "own_sheet" (.ref sh) [])) f = some (.lst ys) := b5 _ _ hy (ne_of hy hp1 (by intro q; cases q))
  have b05 : ExBut p J (upd H1 p (.ins AA.C_Bans dx (putF "own_sheet" (.ref sh) []))) := (ExBut.of e1).trans b5
  generalize upd H1 p (.ins AA.C_Bans dx (putF "own_sheet" (.ref sh) [])) = H5 at b5 hp5 hy5 b05 ⊢
  refine ⟨_, rfl, f, ys, rfl, .inl ⟨SqL.of hy5, fun l hl => ?_⟩⟩
  have e6 : Ex H5 (upd H5 l (.tup ys)) := Ex.new hl
  have hl6 : upd H5 l (.tup ys) l = some (.tup ys) := upd_same
  generalize upd H5 l (.tup ys) = H6 at e6 hl6 ⊢
  refine ⟨_, rfl, p, AA.C_Bans, dx, _, rfl, e6 _ _ hp5, T.cl_Bans, T.n_Bans_own_shapes, (by show 1 < 1000; decide), ?_⟩
  rw [bf_put]
  have b7 : ExBut p J (upd H6 p (.ins AA.C_Bans dx (bf sh l))) := (b05.trans (ExBut.of e6)).trans ExBut.put
  have eG7 : Ex G (upd H6 p (.ins AA.C_Bans dx (bf sh l))) := fun b o h => b7 _ _ (eG _ _ h) fun z => by rw [z, np] at h; cases h
  have nl : l ≠ p := fun z => by rw [z, hp5] at hl; cases hl
  exact q _ b7 ⟨dx, sh, l, ys, upd_same, hs.ex eG7, o1, o2, by rw [upd_ne nl]; exact hl6, rw_ex ry eG7⟩
abbrev spIniB (K : PySem.W.Frag) (AA : Ads) : Kw.Sp2 := fun vs zs H Q E => ∃ ws rest, vs = ws ++ rest ∧ ws.length = 2 ∧ rest.length ≤ sizeLine ∧ ∀ p, H p = Option.none → spInitB K AA (ws ++ ((zs ++ []) ++ [V.ref p])) (upd H p (.tup rest)) Q E
theorem ok_Bans_init_A (T : Txt K mg AA) : Kw.FnA P w K mg base CX0 7 AA.a_Bans_init [] (spIniB K AA) := body_Bans_init T
/-- new bans -/
theorem made_bans {H1 : Hp} {x dx sh : Addr} {ks ws : List Str} {us : List V} {cs : List Pb} {Qx : Hp → Prop} {E : XK} (hx : H1 x = none) (hdx : H1 dx = none) (hne : dx ≠ x) (hs : SheetAt AA.C_Sheet H1 sh ks ws) (o1 : OkS ks) (o2 : OkS ws) (r : Rw AA ks ws H1 us cs) (few : cs.length ≤ 100) (u8 : (uniq cs).length ≤ 8)
    (q : ∀ H2, Ex H1 H2 → BansAt AA H2 x ks ws (uniq cs) → Qx H2) : spIniB K AA ([.ref x, .ref sh] ++ us) [] (upd (upd H1 dx (.own x)) x (.ins AA.C_Bans dx [])) (fun v H2 => v = .non ∧ Qx H2) E := by
  have lus := paired_len r
  refine ⟨[.ref x, .ref sh], us, rfl, rfl, Nat.le_of_lt (len_lt (by omega)), fun p hp => ?_⟩
  have e1 : Ex H1 (upd (upd H1 dx (.own x)) x (.ins AA.C_Bans dx [])) := made_ex hx hdx
  have e2 : Ex H1 (upd (upd (upd H1 dx (.own x)) x (.ins AA.C_Bans dx [])) p (.tup us)) := e1.trans (Ex.new hp)
  have nx : x ≠ p := fun z => by rw [← z, upd_same] at hp; cases hp
  refine ⟨x, dx, sh, p, ks, ws, us, cs, H1, rfl, by rw [upd_ne nx]; exact upd_same, hx, e2, hs, o1, o2, SqT.of upd_same, r, few, u8, fun H' b wa => ⟨rfl, q H' (fun c o h => b c o (e2 c o h) (ne_of_none h hx)) wa⟩⟩
def spOfB (K : PySem.W.Frag) (AA : Ads) : Sp := fun vs H Q _ => ∃ (sh t : Addr) (ks ws : List Str) (us : List V) (cs : List Pb), vs = [.ref AA.C_Bans, .ref sh, .ref t] ∧ SheetAt AA.C_Sheet H sh ks ws ∧ OkS ks ∧ OkS ws ∧ H t = some (.tup us) ∧ Rw AA ks ws H us cs ∧ cs.length ≤ 100 ∧ (uniq cs).length ≤ 8 ∧
  ∀ H' p, Ex H H' → BansAt AA H' p ks ws (uniq cs) → Q (.ref p) H'
theorem ok_Bans_of0 (T : Txt K mg AA) : FnOk P w K mg base CX0 9 AA.a_Bans_of AA.d_Bans_of ["cls", "sheet", "shapes"] (spOfB K AA) := by
  have G_Bans_init_K : Kw.FnA P w K mg base CX0 7 AA.a_Bans_init [] (spIniB K AA) := ok_Bans_init_A T
  have G_require_sheet : FnOk P w K mg base CX0 1 AA.a_require_sheet AA.d_require_sheet ["sheet"] (spReq AA) := ok_require_sheet T
  refine T.F_Bans_of.ok sc_Bans_of (fun vs H Q E h => ?_) (fun cdv A outer s H vs Q E hr h => ?_)
  · obtain ⟨sh, t, ks, ws, us, cs, rfl, _⟩ := h
    rfl
  obtain ⟨sh, t, ks, ws, us, cs, rfl, hs, o1, o2, ht, r, few, u8, q⟩ := h
  refine ⟨_, (pss_cons (ps_expr (pe_call G_require_sheet (hr.mono (by decide)) (by rfl) T.g_require_sheet T.k_require_sheet T.b_require_sheet .nil pass0 (pa_cons (pv 1) pa_nil)))
    (pss_cons (ps_if (pt_not (pt_val (pe_callB call_isi (by rfl) T.n_isinstance (by decide +kernel) (pa_cons (pv 2) (pa_cons (pe_bltn (v := .ty "tuple") (u := .type "tuple") (by rfl) T.n_tuple (by decide +kernel) rfl) pa_nil))))) (pss_one ps_never) pss_nil)
    (pss_one (ps_ret (Kw.pe_makeSK T.M_Bans G_Bans_init_K (hr.mono (by decide)) pass0 (pv 0) (pa_cons (pv 1) (StX.pa_star (pv 2) pa_nil)) pk_nil))))), ?_⟩
  refine ⟨_, rfl, sh, ks, ws, rfl, hs, ?_⟩
  refine ⟨_, rfl, _, _, _, _, _, rfl, .ty "tuple", .base (.tup ht), kit_ty (by decide +kernel : kitB "tuple" "tuple" = some true), _, rfl, if_f rfl ?_⟩
  refine ⟨_, rfl, rfl, _, rfl, _, rfl, t, us, rfl, .inl (SqT.of ht), rfl, fun x dx hx hdx hne => ?_⟩
  rw [List.append_nil]
  exact made_bans (K := K) hx hdx hne hs o1 o2 r few u8 fun H' e' wa => q H' x e' wa
theorem ok_Bans_ofA (T : Txt K mg AA) : Kw.FnA P w K mg base CX0 9 AA.a_Bans_of [] (fun vs _ H Q E => spOfB K AA vs H Q E) := fnA_plain (ok_Bans_of0 T) T.b_Bans_of
def getS (C : Addr) (f : Str) : Sp := fun vs H Q _ => ∃ (a dx : Addr) (fs : List (Str × V)) (v : V), vs = [.ref a] ∧ H a = some (.ins C dx fs) ∧ fs.lookup f = some v ∧ Q v H
theorem ok_Bans_sheet (T : Txt K mg AA) : FnOk P w K mg base CX0 1 AA.a_Bans_sheet AA.d_Bans_sheet ["self"] (getS AA.C_Bans "own_sheet") := by
  refine T.F_Bans_sheet.ok sc_Bans_sheet (fun vs H Q E h => ?_) (fun cdv A outer s H vs Q E hr h => ?_)
  · obtain ⟨a, dx, fs, v, rfl, _⟩ := h
    rfl
  · obtain ⟨a, dx, fs, v, rfl, ha, hf, q⟩ := h
    exact ⟨_, (pss_one (ps_ret (pe_fld (pv 0) rfl))), _, rfl, a, _, dx, fs, v, rfl, ha, T.cl_Bans, T.n_Bans_own_sheet, hf, q⟩
theorem ok_Bans_shapes (T : Txt K mg AA) : FnOk P w K mg base CX0 1 AA.a_Bans_shapes AA.d_Bans_shapes ["self"] (getS AA.C_Bans "own_shapes") := by
  refine T.F_Bans_shapes.ok sc_Bans_shapes (fun vs H Q E h => ?_) (fun cdv A outer s H vs Q E hr h => ?_)
  · obtain ⟨a, dx, fs, v, rfl, _⟩ := h
    rfl
  · obtain ⟨a, dx, fs, v, rfl, ha, hf, q⟩ := h
    exact ⟨_, (pss_one (ps_ret (pe_fld (pv 0) rfl))), _, rfl, a, _, dx, fs, v, rfl, ha, T.cl_Bans, T.n_Bans_own_shapes, hf, q⟩
def spLenB (AA : Ads) : Sp := fun vs H Q _ => ∃ (p : Addr) (ks ws : List Str) (cs : List Pb), vs = [.ref p] ∧ BansAt AA H p ks ws cs ∧ Q (.int (cs.length : Nat)) H
theorem ok_Bans_len (T : Txt K mg AA) : FnOk P w K mg base CX0 1 AA.a_Bans_len AA.d_Bans_len ["self"] (spLenB AA) := by
  refine T.F_Bans_len.ok sc_Bans_len (fun vs H Q E h => ?_) (fun cdv A outer s H vs Q E hr h => ?_)
  · obtain ⟨p, ks, ws, cs, rfl, _⟩ := h
    rfl
  · obtain ⟨p, ks, ws, cs, rfl, ⟨dx, sh, t, us, h1, h2, h3, h4, h5, h6⟩, q⟩ := h
    have l := paired_len h6
    exact ⟨_, (pss_one (ps_ret (pe_callB call_len_seq (by rfl) T.n_len (by decide +kernel) (pa_cons (pe_fld (pv 0) rfl) pa_nil)))), _, rfl, p, _, dx, _, _, rfl, h1, T.cl_Bans, T.n_Bans_own_shapes, bf_shapes, t, _, rfl, .inr (SqT.of h5), by rw [l]; exact q⟩
def bansStr (n : Nat) : Str := (Str.empty ++ numS n) ++ (" bans" : Str)
def spStrB (AA : Ads) : Sp := fun vs H Q _ => ∃ (p : Addr) (ks ws : List Str) (cs : List Pb), vs = [.ref p] ∧ BansAt AA H p ks ws cs ∧ cs.length ≤ 40 ∧ Q (.str (bansStr cs.length)) H
theorem ok_Bans_str (T : Txt K mg AA) : FnOk P w K mg base CX0 1 AA.a_Bans_str AA.d_Bans_str ["self"] (spStrB AA) := by
  refine T.F_Bans_str.ok sc_Bans_str (fun vs H Q E h => ?_) (fun cdv A outer s H vs Q E hr h => ?_)
  · obtain ⟨p, ks, ws, cs, rfl, _⟩ := h
    rfl
  · obtain ⟨p, ks, ws, cs, rfl, ⟨dx, sh, t, us, h1, h2, h3, h4, h5, h6⟩, hn, q⟩ := h
    have l := paired_len h6
    obtain ⟨f1, g1⟩ := numS_ok cs.length (by omega)
    have c2 : (" bans" : Str).length = 5 := by decide +kernel
    have z1 : Str.empty.length = 0 := rfl
    have line : (100 : Nat) ≤ sizeLine := by decide
    refine ⟨_, (pss_one (ps_ret (pe_joined (.cons (pe_fmt (pe_callB call_len_seq (by rfl) T.n_len (by decide +kernel) (pa_cons (pe_fld (pv 0) rfl) pa_nil))) (.cons pe_str .nil))))), ?_⟩
    refine ⟨_, rfl, p, _, dx, _, _, rfl, h1, T.cl_Bans, T.n_Bans_own_shapes, bf_shapes, t, _, rfl, .inr (SqT.of h5), .inr ⟨_, rfl, by rw [l]; exact g1, numS cs.length, by rw [l]; rfl, by rw [len_app]; omega, ?_⟩⟩
    exact ⟨_, rfl, by rw [len_app, len_app]; omega, q⟩
/-- no instance of C -/
def NotI (K : PySem.W.Frag) (C : Addr) (H : Hp) (y : V) : Prop := ∃ t, TyX K H y t ∧ PySem.W.kitOne K t (.ref C) = some false ∧ PySem.W.notFirst K C t = true
def spInB (K : PySem.W.Frag) (AA : Ads) : Sp := fun vs H Q _ => ∃ (p : Addr) (y : V) (ks ws : List Str) (cs : List Pb), vs = [.ref p, y] ∧ BansAt AA H p ks ws cs ∧
  ((NotI K AA.C_Shape H y ∧ Q (.bl false) H) ∨ ∃ a c, y = .ref a ∧ ShpAt AA H a (toS ks ws c) ∧ Cn c ∧ Q (.bl (decide (c ∈ cs))) H)
theorem ok_Bans_contains (T : Txt K mg AA) : FnOk P w K mg base CX0 5 AA.a_Bans_contains AA.d_Bans_contains ["self", "value"] (spInB K AA) := by
  have G_Shape_eq : FnOk P w K mg base CX0 3 AA.a_Shape_eq AA.d_Shape_eq ["self", "other"] (spEqP K AA) := ok_Shape_eq T
  refine T.F_Bans_contains.ok sc_Bans_contains (fun vs H Q E h => ?_) (fun cdv A outer s H vs Q E hr h => ?_)
  · obtain ⟨p, y, ks, ws, cs, rfl, _⟩ := h
    rfl
  · obtain ⟨p, y, ks, ws, cs, rfl, ⟨dx, sh, t, us, h1, h2, h3, h4, h5, h6⟩, hy⟩ := h
    refine ⟨_, (pss_one (ps_ret (pe_and (pe_callB call_isi (by rfl) T.n_isinstance (by decide +kernel) (pa_cons (pv 1) (pa_cons (pe_glob (v := .ref AA.C_Shape) (by rfl) T.g_Shape rfl) pa_nil))) (pe_one (pe_cmpR (Kq.op_inD (K := K) rfl (Kq.askD_own G_Shape_eq (T.I_Shape.own T.m_Shape_eq) T.b_Shape_eq) (hr.mono (by decide))) (pv 1) (pe_fld (pv 0) rfl) rfl))))), ?_⟩
    rcases hy with ⟨⟨ty, t1, t2, _⟩, q⟩ | ⟨a, c, rfl, ha, hc, q⟩
    · exact ⟨_, rfl, _, _, _, _, _, rfl, .own _, t1, t2, _, rfl, if_f rfl q⟩
    · have ha0 := ha
      obtain ⟨si, ⟨dy, qo, uh, ma, g1, _⟩, _⟩ := ha
      refine ⟨_, rfl, _, _, _, _, _, rfl, .own _, T.I_Shape.ty g1, kit_self, _, rfl, if_t rfl ?_⟩
      exact ⟨_, rfl, _, rfl, p, _, dx, _, _, rfl, h1, T.cl_Bans, T.n_Bans_own_shapes, bf_shapes, inRow (g := id) h6 (Ex.refl H) ⟨a, rfl, ha0, hc⟩ (.inr (SqT.of h5)) q⟩
def spEqB (K : PySem.W.Frag) (AA : Ads) : Sp := fun vs H Q _ => ∃ (p : Addr) (y : V) (ks ws : List Str) (cs : List Pb), vs = [.ref p, y] ∧ BansAt AA H p ks ws cs ∧
  ((NotI K AA.C_Bans H y ∧ Q (.bl false) H) ∨ ∃ a ds, y = .ref a ∧ BansAt AA H a ks ws ds ∧ Q (.bl (decide (cs = ds))) H)
theorem ok_Bans_eq (T : Txt K mg AA) : FnOk P w K mg base CX0 5 AA.a_Bans_eq AA.d_Bans_eq ["self", "other"] (spEqB K AA) := by
  have G_Shape_eq : FnOk P w K mg base CX0 3 AA.a_Shape_eq AA.d_Shape_eq ["self", "other"] (spEqP K AA) := ok_Shape_eq T
  have G_Sheet_eq : FnOk P w K mg base CX0 1 AA.a_Sheet_eq AA.d_Sheet_eq ["self", "other"] (spEqS K AA.C_Sheet) := ok_Sheet_eq T
  refine T.F_Bans_eq.ok sc_Bans_eq (fun vs H Q E h => ?_) (fun cdv A outer s H vs Q E hr h => ?_)
  · obtain ⟨p, y, ks, ws, cs, rfl, _⟩ := h
    rfl
  · obtain ⟨p, y, ks, ws, cs, rfl, ⟨dx, sh, t, us, h1, h2, h3, h4, h5, h6⟩, hy⟩ := h
    refine ⟨_, (pss_one (ps_ret (pe_and (pe_callB call_isi (by rfl) T.n_isinstance (by decide +kernel) (pa_cons (pv 1) (pa_cons (pe_glob (v := .ref AA.C_Bans) (by rfl) T.g_Bans rfl) pa_nil))) (pe_and (pe_cmpR (op_ownEq G_Sheet_eq (T.I_Sheet.own T.m_Sheet_eq) T.b_Sheet_eq (hr.mono (by decide))) (pe_fld (pv 0) rfl) (pe_fld (pv 1) rfl) (nomark _)) (pe_one (pe_cmpR (Kq.op_eqS (K := K) rfl (Kq.askD_own G_Shape_eq (T.I_Shape.own T.m_Shape_eq) T.b_Shape_eq) (hr.mono (by decide))) (pe_fld (pv 0) rfl) (pe_fld (pv 1) rfl) (nomark _))))))), ?_⟩
    rcases hy with ⟨⟨ty, t1, t2, _⟩, q⟩ | ⟨a, ds, rfl, ⟨dy, si, u, vs', g1, g2, g3, g4, g5, g6⟩, q⟩
    · exact ⟨_, rfl, _, _, _, _, _, rfl, .own _, t1, t2, _, rfl, if_f rfl q⟩
    · obtain ⟨d1, f1, k1, w1, s1, _⟩ := id h2.at_
      obtain ⟨d2, f2, k2, w2, s2, _⟩ := id g2.at_
      refine ⟨_, rfl, _, _, _, _, _, rfl, .own _, T.I_Bans.ty g1, kit_self, _, rfl, if_t rfl ?_⟩
      refine ⟨_, rfl, p, _, dx, _, _, rfl, h1, T.cl_Bans, T.n_Bans_own_sheet, bf_sheet, _, rfl, a, _, dy, _, _, rfl, g1, T.cl_Bans, T.n_Bans_own_sheet, bf_sheet, ?_⟩
      refine ⟨sh, d1, f1, _, rfl, s1, T.I_Sheet.ty s2, not_first_self, sh, _, ks, ws, some (ks, ws), rfl, h2, h3, h4, .inr ⟨si, _, _, rfl, g2, h3, h4, rfl⟩, _, rfl, _, rfl, ?_⟩
      refine if_t (by show decide (some (ks, ws) = some (ks, ws)) = true; exact decide_eq_true rfl) ?_
      obtain ⟨as, rfl⟩ := rw_refs h6
      obtain ⟨bs, rfl⟩ := rw_refs g6
      have l1 := paired_len h6
      have l2 := paired_len g6
      rw [List.length_map] at l1 l2
      refine ⟨_, rfl, p, _, dx, _, _, rfl, h1, T.cl_Bans, T.n_Bans_own_shapes, bf_shapes, _, rfl, a, _, dy, _, _, rfl, g1, T.cl_Bans, T.n_Bans_own_shapes, bf_shapes, t, u, as, bs, _, rfl, rfl, .inr ⟨SqT.of h5, SqT.of g5⟩, rows_d h6 g6, ?_⟩
      rw [l1, l2, all_at]
      exact q
end
end K23
namespace K23
open PySem L2 Kd Evl Ks Kt Ky
open PySem.W (Datum DatumOrd T3)
def isIntD : PyData → Bool
  | .int _ => true
  | _ => false
theorem kit_intD (d : PyData) : ∃ b, PySem.W.kitOne K (.type (tyN d)) (.type "int") = some b ∧ (b = false → isIntD d = false) ∧ (b = true → ∃ c, PySem.W.kitOne K (.type (tyN d)) (.type "bool") = some c ∧ isIntD d = !c) := by
  cases d with
  | none => exact ⟨_, kit_ty (by decide +kernel : kitB "NoneType" "int" = some false), fun _ => rfl, fun z => by cases z⟩
  | bool _ => exact ⟨_, kit_ty (by decide +kernel : kitB "bool" "int" = some true), (fun z => by cases z), fun _ => ⟨_, kit_ty (by decide +kernel : kitB "bool" "bool" = some true), rfl⟩⟩
  | int _ => exact ⟨_, kit_ty (by decide +kernel : kitB "int" "int" = some true), (fun z => by cases z), fun _ => ⟨_, kit_ty (by decide +kernel : kitB "int" "bool" = some false), rfl⟩⟩
  | str _ => exact ⟨_, kit_ty (by decide +kernel : kitB "str" "int" = some false), fun _ => rfl, fun z => by cases z⟩
  | list _ => exact ⟨_, kit_ty (by decide +kernel : kitB "list" "int" = some false), fun _ => rfl, fun z => by cases z⟩
  | tuple _ => exact ⟨_, kit_ty (by decide +kernel : kitB "tuple" "int" = some false), fun _ => rfl, fun z => by cases z⟩
  | dict _ => exact ⟨_, kit_ty (by decide +kernel : kitB "dict" "int" = some false), fun _ => rfl, fun z => by cases z⟩
section
variable {P : Program} {w : World} {K : PySem.W.Frag} {mg : Str → Option Value} {base : Heap} {AA : Ads}
def spIntD (K : PySem.W.Frag) : Sp := fun vs H Q _ => ∃ v d, vs = [v] ∧ Dv K H v d ∧ Q (.bl (isIntD d)) H
theorem ok_is_integerD (T : Txt K mg AA) : FnOk P w K mg base CX0 1 AA.a_is_integer AA.d_is_integer ["value"] (spIntD K) := by
  refine T.F_is_integer.ok sc_is_integer (fun vs H Q E h => ?_) (fun cdv A outer s H vs Q E hr h => ?_)
  · obtain ⟨v, d, rfl, _⟩ := h
    rfl
  · obtain ⟨v, d, rfl, hv, q⟩ := h
    refine ⟨_, (pss_one (ps_ret (pe_and (pe_callB call_isi (by rfl) T.n_isinstance (by decide +kernel) (pa_cons (pv 0) (pa_cons (pe_bltn (v := .ty "int") (u := .type "int") (by rfl) T.n_int (by decide +kernel) rfl) pa_nil))) (pe_one (pe_not (pe_callB call_isi (by rfl) T.n_isinstance (by decide +kernel) (pa_cons (pv 0) (pa_cons (pe_bltn (v := .ty "bool") (u := .type "bool") (by rfl) T.n_bool (by decide +kernel) rfl) pa_nil)))))))), ?_⟩
    obtain ⟨b, k1, n1, y1⟩ := kit_intD (K := K) d
    refine ⟨_, rfl, _, _, _, _, _, rfl, .ty "int", tyX_of hv, k1, _, rfl, ?_⟩
    cases b with
    | false =>
      rw [n1 rfl] at q
      exact if_f rfl q
    | true =>
      obtain ⟨c, k2, e⟩ := y1 rfl
      rw [e] at q
      exact if_t rfl ⟨_, rfl, _, _, _, _, _, rfl, .ty "bool", tyX_of hv, k2, _, rfl, q⟩
def spOrB (AA : Ads) : Sp := fun vs H Q _ => ∃ (a b : Addr) (ks ws : List Str) (cs ds : List Pb), vs = [.ref a, .ref b] ∧ BansAt AA H a ks ws cs ∧ BansAt AA H b ks ws ds ∧ cs.length + ds.length ≤ 100 ∧ (uniq (cs ++ ds)).length ≤ 8 ∧
  ∀ H' p, Ex H H' → BansAt AA H' p ks ws (uniq (cs ++ ds)) → Q (.ref p) H'
theorem ok_Bans_or (T : Txt K mg AA) : FnOk P w K mg base CX0 9 AA.a_Bans_or AA.d_Bans_or ["self", "other"] (spOrB AA) := by
  have G_different : FnOk P w K mg base CX0 5 AA.a_different AA.d_different ["shapes"] (spDiff K AA fun t us H => SqL K H t us) := ok_different_L T
  have G_Sheet_eq : FnOk P w K mg base CX0 1 AA.a_Sheet_eq AA.d_Sheet_eq ["self", "other"] (spEqS K AA.C_Sheet) := ok_Sheet_eq T
  have G_Bans_init_K : Kw.FnA P w K mg base CX0 7 AA.a_Bans_init [] (spIniB K AA) := ok_Bans_init_A T
  refine T.F_Bans_or.ok sc_Bans_or (fun vs H Q E h => ?_) (fun cdv A outer s H vs Q E hr h => ?_)
  · obtain ⟨a, b, ks, ws, cs, ds, rfl, _⟩ := h
    rfl
  · obtain ⟨a, b, ks, ws, cs, ds, rfl, ⟨dx, sh, t, us, h1, h2, h3, h4, h5, h6⟩, ⟨dy, si, u, zs, g1, g2, g3, g4, g5, g6⟩, few, u8, q⟩ := h
    have r1 := T.r_MAX_BANS
    obtain ⟨d1, f1, k1, w1, s1, _⟩ := id h2.at_
    obtain ⟨d2, f2, k2, w2, s2, _⟩ := id g2.at_
    have l1 := paired_len h6
    have l2 := paired_len g6
    refine ⟨_, (pss_cons (ps_if (pw_or (pt_not (pt_val (pe_callB call_isi (by rfl) T.n_isinstance (by decide +kernel) (pa_cons (pv 1) (pa_cons (pe_glob (v := .ref AA.C_Bans) (by rfl) T.g_Bans rfl) pa_nil))))) (pw_or1 (pt_cmpR (op_ownNe G_Sheet_eq (T.I_Sheet.own T.m_Sheet_eq) T.b_Sheet_eq (hr.mono (by decide))) (pe_fld (pv 1) rfl) (pe_fld (pv 0) rfl) (nomark _)))).pt (pss_one ps_never) pss_nil)
    (pss_cons (ps_set (i := 2) sc_Bans_or.nd rfl (Or.inl rfl) (pe_call G_different (hr.mono (by decide)) (by rfl) T.g_different T.k_different T.b_different .nil pass0 (pa_cons (pe_lst (StX.pa_star (pe_fld (pv 0) rfl) (StX.pa_star (pe_fld (pv 1) rfl) pa_nil))) pa_nil)))
    (pss_cons (ps_if (pt_cmpR op_gt (pe_callB call_len_seq (by rfl) T.n_len (by decide +kernel) (pa_cons (pv 2) pa_nil)) (pe_glob (by rfl) T.c_MAX_BANS T.r_MAX_BANS) (nomark _)) (pss_one ps_never) pss_nil)
    (pss_one (ps_ret (Kw.pe_makeSK T.M_Bans G_Bans_init_K (hr.mono (by decide)) pass0 (pe_glob (v := .ref AA.C_Bans) (by rfl) T.g_Bans rfl) (pa_cons (pe_fld (pv 0) rfl) (StX.pa_star (pv 2) pa_nil)) pk_nil)))))), ?_⟩
    refine ⟨_, rfl, _, _, _, _, _, rfl, .own _, T.I_Bans.ty g1, kit_self, _, rfl, if_f rfl ?_⟩
    refine ⟨_, rfl, b, _, dy, _, _, rfl, g1, T.cl_Bans, T.n_Bans_own_sheet, bf_sheet, _, rfl, a, _, dx, _, _, rfl, h1, T.cl_Bans, T.n_Bans_own_sheet, bf_sheet, si, d2, f2, _, rfl, s2, T.I_Sheet.ty s1, not_first_self, si, _, ks, ws, some (ks, ws), rfl, g2, h3, h4, .inr ⟨sh, _, _, rfl, h2, h3, h4, rfl⟩, _, rfl, _, rfl, ?_⟩
    rw [decide_eq_true rfl]
    refine if_f rfl ?_
    refine ⟨_, rfl, a, _, dx, _, _, rfl, h1, T.cl_Bans, T.n_Bans_own_shapes, bf_shapes, t, us, rfl, .inl (SqT.of h5), _, rfl, b, _, dy, _, _, rfl, g1, T.cl_Bans, T.n_Bans_own_shapes, bf_shapes, u, zs, rfl, .inl (SqT.of g5), ?_⟩
    refine ⟨Nat.le_of_lt (len_lt (by rw [List.append_nil, List.length_append]; omega)), fun l hl => ?_⟩
    refine ⟨l, ks, ws, us ++ (zs ++ []), cs ++ ds, H, rfl, SqL.of upd_same, Ex.new hl, by rw [List.append_nil]; exact paired_app h6 g6, by rw [List.length_append]; omega, fun H1 f ys e1 nf hy ry => ?_⟩
    have e01 : Ex H H1 := (Ex.new hl).trans e1
    have ly := paired_len ry
    refine ⟨_, rfl, f, _, rfl, .inl (SqL.of hy), _, _, rfl, rfl, _, rfl, ?_⟩
    refine if_f (decide_eq_false (by omega)) ?_
    refine ⟨rfl, _, rfl, a, _, dx, _, _, rfl, e01 _ _ h1, T.cl_Bans, T.n_Bans_own_sheet, bf_sheet, _, rfl, f, ys, rfl, .inr (SqL.of hy), rfl, fun x dz hx hdz hne => ?_⟩
    rw [List.append_nil]
    have uu : uniq (uniq (cs ++ ds)) = uniq (cs ++ ds) := uniq_nodup (nodup_uniq _)
    refine made_bans (K := K) hx hdz hne (h2.ex e01) h3 h4 (rw_ex ry e01) (by omega) (by rw [uu]; exact u8) fun H' e' wa => ?_
    rw [uu] at wa
    exact q H' x (e01.trans e') wa
/-! numbers that are none -/
theorem ox_InvalidNumber (T : Txt K mg AA) : OxC K AA.C_InvalidNumber "IndexError" "IndexError.__new__" "IndexError.__init__" PySem.Kx.tIndex := ⟨PySem.Kx.bs_Index, T.o_InvalidNumber, T.sa_InvalidNumber, T.k_InvalidNumber⟩
def spXIni (f : Str) (C : Addr) : Sp := fun vs H Q _ => ∃ (a : Addr) (v : V), vs = [.ref a, v] ∧ H a = some (exo a C none) ∧ ∀ d, H d = none → d ≠ a → Q .non (upd (upd H d (exd d [(f, v)])) a (exo a C (some d)))
theorem ok_InvalidNumber_init (T : Txt K mg AA) : FnOk P w K mg base CX0 1 AA.a_InvalidNumber_init AA.d_InvalidNumber_init ["self", "value"] (spXIni "value" AA.C_InvalidNumber) := by
  refine T.F_InvalidNumber_init.ok sc_InvalidNumber_init (fun vs H Q E h => ?_) (fun cdv A outer s H vs Q E hr h => ?_)
  · obtain ⟨a, v, rfl, _⟩ := h
    rfl
  · obtain ⟨a, v, rfl, ha, q⟩ := h
    refine ⟨_, (pss_cons (ps_expr (pe_xinit (B := "IndexError") (newId := "IndexError.__new__") (initId := "IndexError.__init__") (tl := PySem.Kx.tIndex) (by rfl) T.n_IndexError PyProof.Rows.Boot.«IndexError» (by kernel_rfl) (by decide +kernel) (by decide +kernel) T.v_IndexError (pa_cons (pv 0) (pa_cons pe_str pa_nil))))
    (pss_one (ps_xset (pv 0) (pv 1)))), ?_⟩
    refine ⟨_, rfl, a, AA.C_InvalidNumber, _, rfl, (by show 1 ≤ 1000; decide), ox_InvalidNumber T, ha, ?_⟩
    exact ⟨_, rfl, _, rfl, a, AA.C_InvalidNumber, rfl, ⟨_, _, _, _, ox_InvalidNumber T⟩, T.n_InvalidNumber_value, .inl ⟨ha, fun d hd ne => q d hd ne⟩⟩
/-- the error of a wrong number -/
def Unk (AA : Ads) (E : XK) (H : Hp) (v : V) : Prop := ∀ H' d, Ex H H' → H' d = some (.xd [("value", v)]) → E (.ref AA.C_InvalidNumber) (some d) H'
/-- a number of n items -/
def numD (n : Nat) : PyData → Bool
  | .int i => decide (0 ≤ i) && decide (i < (n : Int))
  | _ => false
theorem numD_at {n : Nat} {d : PyData} (h : numD n d = true) : ∃ k, k < n ∧ d = .int (k : Nat) := by
  cases d with
  | int i =>
    obtain ⟨h1, h2⟩ := Bool.and_eq_true_iff.mp (show (decide (0 ≤ i) && decide (i < (n : Int))) = true from h)
    have h1 := of_decide_eq_true h1
    have h2 := of_decide_eq_true h2
    exact ⟨i.toNat, by omega, by rw [Int.toNat_of_nonneg h1]⟩
  | _ => cases h
theorem int_of {d : PyData} (h : isIntD d = true) : ∃ i, d = .int i := by
  cases d with
  | int i => exact ⟨i, rfl⟩
  | _ => cases h
theorem dv_int {H : Hp} {v : V} {i : Int} (h : Dv K H v (.int i)) : v = .int i := by
  rcases h with h | ⟨a, kvs, e, h, z⟩
  · cases h; rfl
  · cases z
def spGetB (K : PySem.W.Frag) (AA : Ads) : Sp := fun vs H Q E => ∃ (p : Addr) (v : V) (d : PyData) (ks ws : List Str) (cs : List Pb), vs = [.ref p, v] ∧ BansAt AA H p ks ws cs ∧ Dv K H v d ∧ cs.length ≤ 100 ∧ (∀ (k : Nat) c u, d = .int (k : Nat) → cs[k]? = some c → SB AA ks ws H u c → Q u H) ∧ (numD cs.length d = false → Unk AA E H v)
theorem ok_Bans_getitem (T : Txt K mg AA) : FnOk P w K mg base (L2.CX P w) 4 AA.a_Bans_getitem AA.d_Bans_getitem ["self", "at"] (spGetB K AA) := by
  have G_is_integer : FnOk P w K mg base CX0 1 AA.a_is_integer AA.d_is_integer ["value"] (spIntD K) := ok_is_integerD T
  have G_InvalidNumber_init : FnOk P w K mg base CX0 1 AA.a_InvalidNumber_init AA.d_InvalidNumber_init ["self", "value"] (spXIni "value" AA.C_InvalidNumber) := ok_InvalidNumber_init T
  refine T.F_Bans_getitem.okX sc_Bans_getitem (fun vs H Q E h => ?_) (fun cdv A outer s H vs Q E hr h => ?_)
  · obtain ⟨p, v, d, ks, ws, cs, rfl, _⟩ := h
    rfl
  · obtain ⟨p, v, d, ks, ws, cs, rfl, ⟨dx, sh, t, us, h1, h2, h3, h4, h5, h6⟩, hv, few, yes, no⟩ := h
    have l1 := paired_len h6
    refine ⟨_, (pss_cons (ps_if (pw_or (pt_not (pt_val (pe_call G_is_integer (hr.mono (by decide)) (by rfl) T.g_is_integer T.k_is_integer T.b_is_integer .nil pass0 (pa_cons (pv 1) pa_nil)))) (pw_or1 (pt_not (pt_chain op_le op_lt pe_int (pv 1) (pe_callB call_len_seq (by rfl) T.n_len (by decide +kernel) (pa_cons (pe_fld (pv 0) rfl) pa_nil)))))).pt (pss_one (ps_raise rfl (takes_of rfl rfl rfl rfl) (pmk_ox (ox_InvalidNumber T) T.s_InvalidNumber T.t_InvalidNumber T.m_InvalidNumber_init.at_ (beq_iff_eq.mp T.m_InvalidNumber_init.fn) G_InvalidNumber_init (hr.mono (by decide)) T.b_InvalidNumber_init pass0 (by rfl) T.g_InvalidNumber (pa_cons (pv 1) pa_nil)))) pss_nil)
    (pss_one (ps_ret (pe_ix ix_tup (pe_fld (pv 0) rfl) (pv 1) (fun _ _ => rfl))))), ?_⟩
    refine ⟨_, rfl, v, d, rfl, hv, _, rfl, ?_⟩
    cases ci : isIntD d with
    | false =>
      have c : numD cs.length d = false := by
        cases z : numD cs.length d with
        | false => rfl
        | true => obtain ⟨k, _, rfl⟩ := numD_at z; cases ci
      refine if_t rfl ?_
      refine ⟨_, rfl, (by show 1 ≤ 1000; decide), fun a ha => ⟨a, _, rfl, upd_same, fun e he ne => ⟨rfl, e, _, upd_same, by rw [upd_ne ne]; exact upd_same, ?_, ?_⟩⟩⟩
      · rw [upd_ne ne] at he
        exact he
      · refine no c _ e (fun b o h => ?_) upd_same
        have nb : b ≠ a := fun z => by rw [z, ha] at h; cases h
        have ne2 : b ≠ e := fun z => by rw [upd_ne ne, ← z, h] at he; cases he
        rw [upd_ne ne2]
        show (if b = a then none else _) = some o
        rw [if_neg nb, upd_ne nb, upd_ne ne2, upd_ne nb]
        exact h
    | true =>
      obtain ⟨i, rfl⟩ := int_of ci
      cases dv_int hv
      refine if_f rfl ?_
      refine ⟨_, rfl, _, _, rfl, rfl, _, rfl, ?_⟩
      by_cases i0 : (0 : Int) ≤ i
      · refine if_t (decide_eq_true i0) ⟨_, rfl, p, _, dx, _, _, rfl, h1, T.cl_Bans, T.n_Bans_own_shapes, bf_shapes, t, _, rfl, .inr (SqT.of h5), _, _, rfl, rfl, _, rfl, ?_⟩
        by_cases i1 : i < (cs.length : Int)
        · refine if_f (by rw [decide_eq_true (by rw [l1]; exact i1)]; rfl) ?_
          obtain ⟨k, rfl⟩ := Int.eq_ofNat_of_zero_le i0
          have hk : k < cs.length := by omega
          obtain ⟨u, hu, hv'⟩ := paired_at2 h6 (List.getElem?_eq_getElem hk)
          have hku : k < us.length := by omega
          exact ⟨_, rfl, p, _, dx, _, _, rfl, h1, T.cl_Bans, T.n_Bans_own_shapes, bf_shapes, _, rfl, t, us, _, u, rfl, rfl, SqT.of h5, atI_nat hu, yes k _ u rfl (List.getElem?_eq_getElem hk) hv'⟩
        · have c : numD cs.length (.int i) = false := by
            show (decide (0 ≤ i) && decide (i < (cs.length : Int))) = false
            rw [decide_eq_false i1, Bool.and_false]
          refine if_t (by rw [decide_eq_false (by rw [l1]; exact i1)]; rfl) ?_
          refine ⟨_, rfl, (by show 1 ≤ 1000; decide), fun a ha => ⟨a, _, rfl, upd_same, fun e he ne => ⟨rfl, e, _, upd_same, by rw [upd_ne ne]; exact upd_same, ?_, ?_⟩⟩⟩
          · rw [upd_ne ne] at he
            exact he
          · refine no c _ e (fun b o h => ?_) upd_same
            have nb : b ≠ a := fun z => by rw [z, ha] at h; cases h
            have ne2 : b ≠ e := fun z => by rw [upd_ne ne, ← z, h] at he; cases he
            rw [upd_ne ne2]
            show (if b = a then none else _) = some o
            rw [if_neg nb, upd_ne nb, upd_ne ne2, upd_ne nb]
            exact h
      · have c : numD cs.length (.int i) = false := by
          show (decide (0 ≤ i) && decide (i < (cs.length : Int))) = false
          rw [decide_eq_false i0]
          rfl
        refine if_f (decide_eq_false i0) ⟨_, rfl, if_t rfl ?_⟩
        refine ⟨_, rfl, (by show 1 ≤ 1000; decide), fun a ha => ⟨a, _, rfl, upd_same, fun e he ne => ⟨rfl, e, _, upd_same, by rw [upd_ne ne]; exact upd_same, ?_, ?_⟩⟩⟩
        · rw [upd_ne ne] at he
          exact he
        · refine no c _ e (fun b o h => ?_) upd_same
          have nb : b ≠ a := fun z => by rw [z, ha] at h; cases h
          have ne2 : b ≠ e := fun z => by rw [upd_ne ne, ← z, h] at he; cases he
          rw [upd_ne ne2]
          show (if b = a then none else _) = some o
          rw [if_neg nb, upd_ne nb, upd_ne ne2, upd_ne nb]
          exact h
end
end K23
namespace K23
open PySem L2 Kd Evl Ks Kt Ky
open PySem.W (Datum DatumOrd T3)
/-- a ban of the law -/
def BX (l : Addr) (kr wr : List Str) (H : Hp) (v : V) (b : Pb) : Prop := ∃ p, v = .ref p ∧ BanD l H p b ∧ BR kr wr b
theorem BX.ex {l : Addr} {kr wr : List Str} {H H' : Hp} {v : V} {b : Pb} (h : BX l kr wr H v b) (e : Ex H H') : BX l kr wr H' v b := by
  obtain ⟨p, e1, h1, h2⟩ := h
  exact ⟨p, e1, h1.ex e, h2⟩
theorem bx_ex {l : Addr} {kr wr : List Str} {H H' : Hp} {vs : List V} {bs : List Pb} (h : Paired (BX l kr wr H) vs bs) (e : Ex H H') : Paired (BX l kr wr H') vs bs := paired_imp (fun _ _ z => z.ex e) h
def BY (kr wr : List Str) (H : Hp) (v : V) (b : Pb) : Prop := ∃ l, BX l kr wr H v b
theorem by_ex {kr wr : List Str} {H H' : Hp} {vs : List V} {bs : List Pb} (h : Paired (BY kr wr H) vs bs) (e : Ex H H') : Paired (BY kr wr H') vs bs := paired_imp (fun _ _ ⟨l, z⟩ => ⟨l, z.ex e⟩) h
theorem by_of {l : Addr} {kr wr : List Str} {H : Hp} {vs : List V} {bs : List Pb} (h : Paired (BX l kr wr H) vs bs) : Paired (BY kr wr H) vs bs := paired_imp (fun _ _ z => ⟨l, z⟩) h
theorem by_refs {kr wr : List Str} {H : Hp} {vs : List V} {bs : List Pb} (h : Paired (BY kr wr H) vs bs) : ∀ z ∈ vs, ∃ a, z = .ref a := fun z hz => by
  obtain ⟨c, _, _, a, e, _⟩ := paired_mem h hz
  exact ⟨a, e⟩
theorem bx_put {l : Addr} {kr wr : List Str} {H : Hp} {vs zs : List V} {o : HO} {bs : List Pb} (h : Paired (BX l kr wr H) vs bs) (hl : H l = some (.lst zs)) : Paired (BX l kr wr (upd H l o)) vs bs := paired_imp (fun _ _ ⟨p, e1, h1, h2⟩ => ⟨p, e1, h1.put hl, h2⟩) h
theorem bx_refs {l : Addr} {kr wr : List Str} {H : Hp} {vs : List V} {bs : List Pb} (h : Paired (BX l kr wr H) vs bs) : ∀ z ∈ vs, ∃ a, z = .ref a := fun z hz => by
  obtain ⟨c, _, a, e, _⟩ := paired_mem h hz
  exact ⟨a, e⟩
theorem SB.put {AA : Ads} {ks ws : List Str} {H : Hp} {D : Addr} {xs : List V} {o : HO} {v : V} {c : Pb} (h : SB AA ks ws H v c) (hD : H D = some (.lst xs)) : SB AA ks ws (upd H D o) v c := by
  obtain ⟨a, rfl, ⟨sh, ⟨dy, po, th, la, h1, h2, h3, h4⟩, hs, o1, o2⟩, ok⟩ := h
  obtain ⟨d2, f2, k2, w2, s2, s3, s4, s5, s6⟩ := hs.at_
  have k : ∀ {b : Addr} {u : HO}, H b = some u → (∀ l, u ≠ .lst l) → upd H D o b = some u := fun hb hu => by rw [upd_ne (fun z => by rw [z, hD] at hb; exact hu _ (Option.some.inj hb).symm)]; exact hb
  exact ⟨a, rfl, ⟨sh, ⟨dy, po, th, la, k h1 (fun _ z => by cases z), k h2 (fun _ z => by cases z), k h3 (fun _ z => by cases z), k h4 (fun _ z => by cases z)⟩, ⟨d2, f2, k2, w2, k s2 (fun _ z => by cases z), s3, s4, k s5 (fun _ z => by cases z), k s6 (fun _ z => by cases z)⟩, o1, o2⟩, ok⟩
section
variable {P : Program} {w : World} {K : PySem.W.Frag} {mg : Str → Option Value} {base : Heap} {AA : Ads}
def spSame : Sp := fun vs H Q _ => ∃ (p q l m : Addr) (b c : Pb), vs = [.ref p, .ref q] ∧ BanD l H p b ∧ BanD m H q c ∧ Pl b ∧ Pl c ∧ ∀ H', Ex H H' → Q (.bl (decide (cn b = cn c))) H'
theorem ok_law_same_shape (T : Txt K mg AA) : FnOk P w K mg base CX0 1 AA.a_law_same_shape AA.d_law_same_shape ["_law_one", "_law_other"] spSame := by
  refine T.F_law_same_shape.ok sc_law_same_shape (fun vs H Q E h => ?_) (fun cdv A outer s H vs Q E hr h => ?_)
  · obtain ⟨p, q, l, m, b, c, rfl, _⟩ := h
    rfl
  · obtain ⟨p, q, l, m, b, c, rfl, ⟨d, l1, l2, xs, ys, h1, h2, h3, h4, h5, h6, _⟩, ⟨d', m1, m2, us, zs, g1, g2, g3, g4, g5, g6, _⟩, pb, pc, k⟩ := h
    have hu : _ + 64 < cLine := hu64 hr
    have hu1 : _ + 1 < cLine := hu_of hr
    simp only [← sameB_cn pb pc, sameB] at k
    refine ⟨_, (pss_cons (ps_if (pw_or (pt_cmpR (op_neK hu1) ((pe_dget hu1) (pv 0) pe_str (fun _ _ => rfl)) ((pe_dget hu1) (pv 1) pe_str (fun _ _ => rfl)) (nomark _)) (pw_or1 (pt_cmpR (op_neP (K := K) rfl hu) (pe_callB (cr_sortD (K := K) rfl hu) (by rfl) T.n_sorted (by decide +kernel) (pa_cons ((pe_dget hu1) (pv 0) pe_str (fun _ _ => rfl)) pa_nil)) (pe_callB (cr_sortD (K := K) rfl hu) (by rfl) T.n_sorted (by decide +kernel) (pa_cons ((pe_dget hu1) (pv 1) pe_str (fun _ _ => rfl)) pa_nil)) (nomark _)))).pt (pss_one (ps_ret pe_bl)) pss_nil)
    (pss_one (ps_ret (pe_cmpR (op_eqP (K := K) rfl hu) (pe_callB (cr_sortD (K := K) rfl hu) (by rfl) T.n_sorted (by decide +kernel) (pa_cons ((pe_dget hu1) (pv 0) pe_str (fun _ _ => rfl)) pa_nil)) (pe_callB (cr_sortD (K := K) rfl hu) (by rfl) T.n_sorted (by decide +kernel) (pa_cons ((pe_dget hu1) (pv 1) pe_str (fun _ _ => rfl)) pa_nil)) (nomark _))))), ?_⟩
    refine ⟨_, rfl, p, .ref d, rfl, .inl ⟨_, .inr "posts", .inl h1, rfl, v_posts (y := .ref l1) (z := .ref l2)⟩, _, rfl, q, .ref d', rfl, .inl ⟨_, .inr "posts", .inl g1, rfl, v_posts (y := .ref m1) (z := .ref m2)⟩, d, d', _, _, rfl, rfl, .inl h2, .inl g2, kvP_pl _, kvP_pl _, _, rfl, ?_⟩
    cases c1 : sameD (kvP b.ps) (kvP c.ps) with
    | false =>
      refine if_t rfl (if_t rfl ?_)
      have z := k H (Ex.refl H)
      rw [c1] at z
      exact z
    | true =>
      simp only [c1, Bool.true_and] at k
      refine if_f rfl ?_
      refine ⟨_, rfl, p, .ref l1, rfl, .inl ⟨_, .inr "there", .inl h1, rfl, v_there (x := .ref d) (z := .ref l2)⟩, sortedP (α := Tie) (xs := b.ts) (SqL.of h3) (ties_hd h4) fun us1 s1 hu1' pm1 hs1 => ?_⟩
      have e1 : Ex H (upd H s1 (.lst us1)) := Ex.new hs1
      have t1 : upd H s1 (.lst us1) s1 = some (.lst us1) := upd_same
      replace hu1' := HdL.ex hu1' e1
      generalize upd H s1 (.lst us1) = H1 at e1 t1 hu1' ⊢
      refine ⟨_, rfl, q, .ref m1, rfl, .inl ⟨_, .inr "there", .inl (e1 _ _ g1), rfl, v_there (x := .ref d') (z := .ref m2)⟩, sortedP (α := Tie) (xs := c.ts) (SqL.of (e1 _ _ g3)) (ties_hd (ties_ex g4 e1)) fun us2 s2 hu2' pm2 hs2 => ?_⟩
      have e2 : Ex H1 (upd H1 s2 (.lst us2)) := Ex.new hs2
      have t2 : upd H1 s2 (.lst us2) s2 = some (.lst us2) := upd_same
      replace hu2' := HdL.ex hu2' e2
      replace hu1' := HdL.ex hu1' e2
      generalize upd H1 s2 (.lst us2) = H2 at e2 t2 hu1' hu2' ⊢
      have e02 := e1.trans e2
      refine neP (hd_list (SqL.of (e2 _ _ t1)) hu1') (hd_list (SqL.of t2) hu2') ⟨_, rfl, ?_⟩
      by_cases c2 : srt b.ts = srt c.ts
      · simp only [decide_eq_true c2, Bool.true_and] at k
        refine if_f (by rw [decide_eq_true c2]; rfl) ?_
        refine ⟨_, rfl, p, .ref l2, rfl, .inl ⟨_, .inr "lacking", .inl (e02 _ _ h1), rfl, v_lacking (x := .ref d) (y := .ref l1)⟩, sortedP (α := Tie) (xs := b.ls) (SqL.of (e02 _ _ h5)) (ties_hd (ties_ex h6 e02)) fun us3 s3 hu3' pm3 hs3 => ?_⟩
        have e3 : Ex H2 (upd H2 s3 (.lst us3)) := Ex.new hs3
        have t3 : upd H2 s3 (.lst us3) s3 = some (.lst us3) := upd_same
        replace hu3' := HdL.ex hu3' e3
        generalize upd H2 s3 (.lst us3) = H3 at e3 t3 hu3' ⊢
        have e03 := e02.trans e3
        refine ⟨_, rfl, q, .ref m2, rfl, .inl ⟨_, .inr "lacking", .inl (e03 _ _ g1), rfl, v_lacking (x := .ref d') (y := .ref m1)⟩, sortedP (α := Tie) (xs := c.ls) (SqL.of (e03 _ _ g5)) (ties_hd (ties_ex g6 e03)) fun us4 s4 hu4' pm4 hs4 => ?_⟩
        have e4 : Ex H3 (upd H3 s4 (.lst us4)) := Ex.new hs4
        have t4 : upd H3 s4 (.lst us4) s4 = some (.lst us4) := upd_same
        replace hu3' := HdL.ex hu3' e4
        replace hu4' := HdL.ex hu4' e4
        generalize upd H3 s4 (.lst us4) = H4 at e4 t4 hu3' hu4' ⊢
        exact eqP (hd_list (SqL.of (e4 _ _ t3)) hu3') (hd_list (SqL.of t4) hu4') (k _ (e03.trans e4))
      · refine if_t (by rw [decide_eq_false c2]; rfl) ?_
        have z := k H2 e02
        rw [decide_eq_false c2] at z
        exact z
def spNewBans : Sp := fun vs H Q _ => ∃ (kr wr : List Str) (a p : Addr) (m : Int), vs = [.ref a, .ref p, .int m] ∧ H a = some (diceO a) ∧ SheetD H p kr wr ∧ Nm kr 3 ∧ Nm wr 2 ∧ 0 ≤ m ∧ m ≤ 8 ∧
  ∀ (H' : Hp) (l : Addr) (us : List V) (bs : List Pb), Ex H H' → H l = none → H' l = some (.lst us) → Paired (BX l kr wr H') us bs → (bs.map cn).Nodup → (bs.length : Int) ≤ m → Q (.ref l) H'
theorem ok_law_new_bans (T : Txt K mg AA) : FnOk P w K mg base CX0 6 AA.a_law_new_bans AA.d_law_new_bans ["_law_dice_here", "_law_sheet", "_law_most"] spNewBans := by
  have G_law_roll : FnOk P w K mg base CX0 1 AA.a_law_roll AA.d_law_roll ["_law_dice_here", "_law_many"] spRoll := ok_law_roll T
  have G_law_new_ban : FnOk P w K mg base CX0 5 AA.a_law_new_ban AA.d_law_new_ban ["_law_dice_here", "_law_sheet"] spNewBan := ok_law_new_ban T
  have G_law_same_shape : FnOk P w K mg base CX0 1 AA.a_law_same_shape AA.d_law_same_shape ["_law_one", "_law_other"] spSame := ok_law_same_shape T
  refine T.F_law_new_bans.ok sc_law_new_bans (fun vs H Q E h => ?_) (fun cdv A outer s H vs Q E hr h => ?_)
  · obtain ⟨kr, wr, a, p, m, rfl, _⟩ := h
    rfl
  obtain ⟨kr, wr, a, p, m, rfl, ha, hp, nk, nw, m0, m8, q⟩ := h
  have hu : _ + 64 < cLine := hu64 hr
  refine ⟨_, (pss_cons (ps_set (i := 3) sc_law_new_bans.nd rfl (Or.inl rfl) (pe_lst pa_nil))
    (pss_cons (ps_for PassesOwn.never rfl (pi_range1 rfl T.n_range (pa_cons (pe_call G_law_roll (hr.mono (by decide)) (by rfl) T.g_law_roll T.k_law_roll T.b_law_roll .nil pass0 (pa_cons (pv 0) (pa_cons (pe_op op_add (pv 2) pe_int) pa_nil))) pa_nil)) (pg_name (i := 4) sc_law_new_bans.nd rfl (Or.inl rfl))
      (pss_cons (ps_set (i := 5) sc_law_new_bans.nd rfl (Or.inr rfl) (pe_call G_law_new_ban (hr.mono (by decide)) (by rfl) T.g_law_new_ban T.k_law_new_ban T.b_law_new_ban .nil pass0 (pa_cons (pv 0) (pa_cons (pv 1) pa_nil))))
    (pss_one (ps_if (pt_cmpR (Kq.op_eqS (n := 0) (K := K) rfl Kq.askD_none (hr.mono (by decide))) (pe_lc (own := [("_law_one", 6)]) (g := gName 6) rfl sc_law_new_bans.nd  (pi_list (pv 3)) (blkOk_by (N := N_law_new_bans) (sc := defScope s_law_new_bans) (by decide +kernel)) (fun _ _ _ _ _ => (pg_name (i := 6) sc_law_new_bans.nd rfl (Or.inl rfl))) (fun _ _ _ _ _ => (by exact pts_one (pt_val (pe_call G_law_same_shape (hr.mono (by decide)) (by rfl) T.g_law_same_shape T.k_law_same_shape T.b_law_same_shape .nil pass0 (pa_cons (pv 6) (pa_cons (pv 5) pa_nil)))))) (fun _ _ _ _ _ => by exact (pv 6))) (pe_lst pa_nil) (nomark _)) (pss_one (ps_expr (pe_bm PySem.F.plainAttrs_list PySem.F.slot_list_append PySem.F.type_list_append mt_append (pv 3) (pa_cons (pv 5) pa_nil)))) pss_nil))))
    (pss_one (ps_ret (pv 3))))), ?_⟩
  refine ⟨(by show 0 ≤ sizeLine; decide), fun l hl => ?_⟩
  have e0 : Ex H (upd H l (.lst [])) := Ex.new hl
  refine ⟨_, rfl, _, rfl, _, _, rfl, rfl, a, _, rfl, e0 _ _ ha, by omega, by omega, fun r r0 r1 => ⟨r, rfl, by omega, by omega, ?_⟩⟩
  refine for_range (fun i σ J => ∃ (v4 v5 v6 : Option V) (us : List V) (bs : List Pb), σ = [some (.ref a), some (.ref p), some (.int m), some (.ref l), v4, v5, v6] ∧ Ex H J ∧ J l = some (.lst us) ∧ Paired (BX l kr wr J) us bs ∧ (bs.map cn).Nodup ∧ bs.length ≤ i) ⟨none, none, none, [], [], rfl, e0, upd_same, .nil, List.nodup_nil, Nat.le_refl _⟩ ?_ ?_
  · rintro i σ J hi ⟨v4, v5, v6, us, bs, rfl, e1, g1, row, nd, lb⟩
    refine ⟨_, rfl, _, rfl, a, p, kr, wr, rfl, e1 _ _ ha, hp.ex e1, nk, nw, fun J1 q1 b e2 ok fresh => ?_⟩
    have hb : BanD l J1 q1 b := fresh l (by rw [g1]; simp)
    have e12 := e1.trans e2
    have row1 := bx_ex row e2
    have g2 := e2 _ _ g1
    have lu := paired_len row
    refine ⟨_, rfl, l, rfl, ⟨_, SqL.of g2⟩, fun D hD => lc_list (K := K) (a := l) (xs := us) (fun i G => ∃ acc : List V, Ex J1 G ∧ G D = some (.lst acc) ∧ (∀ z ∈ acc, ∃ c, z = .ref c) ∧ acc.length ≤ i ∧ acc.isEmpty = decide (cn b ∉ (bs.take i).map cn)) ⟨[], Ex.mut (Ex.refl _) hD, upd_same, (fun z h => nomatch h), Nat.le_refl _, rfl⟩ (fun i G _ ⟨_, e, _⟩ => SqL.of (e _ _ g2)) ?_ ?_⟩
    · rintro j x G hx ⟨acc, e3, g3, rf, la, em⟩
      obtain ⟨c, hc, p', rfl, hp', okc⟩ := paired_get2 (bx_ex row1 e3) hx
      have tk : (bs.take (j + 1)).map cn = (bs.take j).map cn ++ [cn c] := by rw [List.take_add_one, hc, List.map_append]; rfl
      refine ⟨rfl, _, rfl, _, rfl, p', q1, l, l, c, b, rfl, hp', hb.ex e3, ⟨kr, wr, okc.pl⟩, ⟨kr, wr, ok.pl⟩, fun G1 e4 => ⟨_, rfl, ?_⟩⟩
      have g3' := e4 _ _ g3
      by_cases z : cn c = cn b
      · refine if_t (decide_eq_true z) ⟨_, rfl, acc, g3', len_lt (by have := List.getElem?_eq_some_iff.mp hx; obtain ⟨h, _⟩ := this; omega), acc ++ [.ref p'], Ex.mut (e3.trans e4) hD, upd_same, fun y hy => ?_, by rw [List.length_append]; show acc.length + 1 ≤ j + 1; omega, ?_⟩
        · rcases List.mem_append.mp hy with hy | hy
          · exact rf y hy
          · exact ⟨_, List.mem_singleton.mp hy⟩
        · rw [tk]
          have n1 : cn b ∈ (bs.take j).map cn ++ [cn c] := by rw [z]; exact List.mem_append.mpr (.inr List.mem_cons_self)
          rw [decide_eq_false (fun y => y n1)]
          cases acc <;> rfl
      · refine if_f (decide_eq_false z) ⟨acc, e3.trans e4, g3', rf, by omega, ?_⟩
        rw [em, tk]
        refine decide_eq_decide.mpr ⟨fun y w => ?_, fun y w => y (List.mem_append.mpr (.inl w))⟩
        rcases List.mem_append.mp w with w | w
        · exact y w
        · exact z (List.mem_singleton.mp w).symm
    rintro G ⟨acc, e3, g3, rf, la, em⟩
    rw [lu, List.take_of_length_le (Nat.le_refl _)] at em
    refine ⟨(by show 0 ≤ sizeLine; decide), fun q0 hq0 => ?_⟩
    have e4 : Ex G (upd G q0 (.lst [])) := Ex.new hq0
    refine Kq.rowEq rf (SqL.of (e4 _ _ g3)) (SqL.of upd_same) ⟨_, rfl, ?_⟩
    generalize upd G q0 (.lst []) = G1 at e4 ⊢
    have e14 := e3.trans e4
    have row2 := bx_ex row1 e14
    have g4 := e14 _ _ g2
    rw [em]
    by_cases z : cn b ∈ bs.map cn
    · exact if_f (decide_eq_false (fun y => y z)) ⟨_, _, _, us, bs, rfl, e12.trans e14, g4, row2, nd, by omega⟩
    · refine if_t (decide_eq_true z) ⟨_, rfl, .inl ⟨rfl, _, SqL.of g4⟩, _, rfl, l, _, _, rfl, rfl, g4, len_lt (by omega), ?_⟩
      refine ⟨_, _, _, us ++ [.ref q1], bs ++ [b], rfl, Ex.mut (e12.trans e14) hl, upd_same, paired_app (bx_put row2 g4) (.cons ⟨q1, rfl, (hb.ex e14).put g4, ok⟩ .nil), ?_, by rw [List.length_append]; show bs.length + 1 ≤ i + 1; omega⟩
      rw [List.map_append, List.nodup_append]
      refine ⟨nd, by simp, fun x hx y hy => ?_⟩
      rw [List.map_cons, List.map_nil, List.mem_singleton] at hy
      subst hy
      exact fun w => z (w ▸ hx)
  · rintro σ J ⟨v4, v5, v6, us, bs, rfl, e1, g1, row, nd, lb⟩
    exact ⟨_, rfl, q J l us bs e1 hl g1 row nd (by omega)⟩
def spBansMade (K : PySem.W.Frag) (AA : Ads) : Sp := fun vs H Q _ => ∃ (kr wr : List Str) (sh l : Addr) (us : List V) (bs : List Pb), vs = [.ref sh, .ref l] ∧ SheetAt AA.C_Sheet H sh (srt kr) (srt wr) ∧ OkS (srt kr) ∧ OkS (srt wr) ∧ SqL K H l us ∧ Paired (BY kr wr H) us bs ∧ bs.length ≤ 50 ∧ (uniq (bs.map cn)).length ≤ 8 ∧
  ∀ H' p, Ex H H' → BansAt AA H' p (srt kr) (srt wr) (uniq (bs.map cn)) → Q (.ref p) H'
theorem rw_put {AA : Ads} {ks ws : List Str} {H : Hp} {D : Addr} {xs : List V} {o : HO} {vs : List V} {cs : List Pb} (h : Rw AA ks ws H vs cs) (hD : H D = some (.lst xs)) : Rw AA ks ws (upd H D o) vs cs := paired_imp (fun _ _ z => z.put hD) h
theorem ok_law_bans_made (T : Txt K mg AA) : FnOk P w K mg base CX0 10 AA.a_law_bans_made AA.d_law_bans_made ["_law_thing", "_law_bans"] (spBansMade K AA) := by
  have G_law_shape_made : FnOk P w K mg base CX0 6 AA.a_law_shape_made AA.d_law_shape_made ["_law_thing", "_law_shape"] (spShapeMade AA) := ok_law_shape_made T
  have G_Bans_of : Kw.FnA P w K mg base CX0 9 AA.a_Bans_of [] (fun vs _ H Q E => spOfB K AA vs H Q E) := ok_Bans_ofA T
  refine T.F_law_bans_made.ok sc_law_bans_made (fun vs H Q E h => ?_) (fun cdv A outer s H vs Q E hr h => ?_)
  · obtain ⟨kr, wr, sh, l, us, bs, rfl, _⟩ := h
    rfl
  obtain ⟨kr, wr, sh, l, us, bs, rfl, hs, o1, o2, hl, row, lb, u8, q⟩ := h
  have lu := paired_len row
  refine ⟨_, (pss_one (ps_ret (Kw.pe_cmethK (pe_glob (v := .ref AA.C_Bans) (by rfl) T.g_Bans rfl) T.R_Bans T.K_Bans_of G_Bans_of (hr.mono (by decide)) pass0 (pa_cons (pv 0) (pa_cons (pe_callTy call_tuple_of (by rfl) T.n_tuple (by decide +kernel) (pa_cons (pe_lc (own := [("_law_ban", 2)]) (g := gName 2) rfl sc_law_bans_made.nd  (pi_list (pv 1)) (blkOk_by (N := N_law_bans_made) (sc := defScope s_law_bans_made) (by decide +kernel)) (fun _ _ _ _ _ => (pg_name (i := 2) sc_law_bans_made.nd rfl (Or.inl rfl))) (fun _ _ _ _ _ => pts_nil) (fun _ _ _ _ _ => by exact (pe_call G_law_shape_made (hr.mono (by decide)) (by rfl) T.g_law_shape_made T.k_law_shape_made T.b_law_shape_made .nil pass0 (pa_cons (pv 0) (pa_cons (pv 2) pa_nil))))) pa_nil)) pa_nil)) pk_nil))), ?_⟩
  refine ⟨rfl, _, rfl, _, rfl, l, rfl, ⟨_, hl⟩, fun D hD => lc_list (K := K) (a := l) (xs := us) (fun i G => ∃ acc : List V, Ex H G ∧ G D = some (.lst acc) ∧ Rw AA (srt kr) (srt wr) G acc ((bs.take i).map cn)) ⟨[], Ex.mut (Ex.refl _) hD, upd_same, .nil⟩ (fun i G _ ⟨_, e, _⟩ => ex_l e hl) ?_ ?_⟩
  · rintro j x G hx ⟨acc, e1, g1, rw1⟩
    obtain ⟨c, hc, l0, p', rfl, hp', okc⟩ := paired_get2 (by_ex row e1) hx
    have tk : (bs.take (j + 1)).map cn = (bs.take j).map cn ++ [cn c] := by rw [List.take_add_one, hc, List.map_append]; rfl
    have la := paired_len rw1
    rw [List.length_map, List.length_take] at la
    refine ⟨rfl, ?_⟩
    unfold tYes
    dsimp only
    rw [if_pos rfl]
    refine ⟨_, rfl, _, rfl, sh, p', l0, kr, wr, c, rfl, hs.ex e1, o1, o2, hp', okc.pl, fun G1 x1 e2 hx1 => ?_⟩
    refine ⟨acc, e2 _ _ g1, len_lt (by omega), acc ++ [.ref x1], Ex.mut (e1.trans e2) hD, upd_same, ?_⟩
    rw [tk]
    exact paired_app (rw_put (rw_ex rw1 e2) (e2 _ _ g1)) (.cons (SB.put ⟨x1, rfl, hx1, okc.ok⟩ (e2 _ _ g1)) .nil)
  rintro G ⟨acc, e1, g1, rw1⟩
  rw [lu, List.take_of_length_le (Nat.le_refl _)] at rw1
  refine ⟨D, acc, rfl, .inl ⟨SqL.of g1, fun t ht => ?_⟩⟩
  have e2 : Ex G (upd G t (.tup acc)) := Ex.new ht
  have e02 := e1.trans e2
  exact ⟨rfl, sh, t, _, _, acc, _, rfl, hs.ex e02, o1, o2, upd_same, rw_ex rw1 e2, by rw [List.length_map]; omega, u8, fun H' p e3 hb => q H' p (e02.trans e3) hb⟩
end
end K23
namespace K23
open PySem L2 Kd Evl Ks Kt Ky
open PySem.W (Datum DatumOrd T3)
theorem emp_app (x : Str) : Str.empty ++ x = x := by
  obtain ⟨a⟩ := x
  show Str.mk (#[] ++ a) = _
  rw [Array.empty_append]
theorem SB.shp {AA : Ads} {ks ws : List Str} {H : Hp} {v : V} {c : Pb} (h : SB AA ks ws H v c) : ∃ a dx fs, v = .ref a ∧ H a = some (.ins AA.C_Shape dx fs) ∧ ShpAt AA H a (toS ks ws c) ∧ Cn c := by
  obtain ⟨a, rfl, ha, ok⟩ := h
  have ha0 := ha
  obtain ⟨si, ⟨dy, qo, uh, ma, g1, _⟩, _⟩ := ha
  exact ⟨a, dy, _, rfl, g1, ha0, ok.cn⟩
section
variable {P : Program} {w : World} {K : PySem.W.Frag} {mg : Str → Option Value} {base : Heap} {AA : Ads}
def spTold (K : PySem.W.Frag) (AA : Ads) : Sp := fun vs H Q _ => ∃ (kr wr : List Str) (p sh l : Addr) (us : List V) (bs : List Pb), vs = [.ref p, .ref sh, .ref l] ∧ BansAt AA H p (srt kr) (srt wr) (bs.map cn) ∧ SheetAt AA.C_Sheet H sh (srt kr) (srt wr) ∧ OkS (srt kr) ∧ OkS (srt wr) ∧ SqL K H l us ∧ Paired (BY kr wr H) us bs ∧ bs.length ≤ 20 ∧
  ∀ H', Ex H H' → Q (.bl true) H'
theorem ok_law_is_told (T : Txt K mg AA) : FnOk P w K mg base CX0 8 AA.a_law_is_told AA.d_law_is_told ["_law_made", "_law_thing", "_law_bans"] (spTold K AA) := by
  have G_law_shape_made : FnOk P w K mg base CX0 6 AA.a_law_shape_made AA.d_law_shape_made ["_law_thing", "_law_shape"] (spShapeMade AA) := ok_law_shape_made T
  have G_Shape_eq : FnOk P w K mg base CX0 3 AA.a_Shape_eq AA.d_Shape_eq ["self", "other"] (spEqP K AA) := ok_Shape_eq T
  have G_Sheet_eq : FnOk P w K mg base CX0 1 AA.a_Sheet_eq AA.d_Sheet_eq ["self", "other"] (spEqS K AA.C_Sheet) := ok_Sheet_eq T
  have G_Bans_len : FnOk P w K mg base CX0 1 AA.a_Bans_len AA.d_Bans_len ["self"] (spLenB AA) := ok_Bans_len T
  have G_Bans_str : FnOk P w K mg base CX0 1 AA.a_Bans_str AA.d_Bans_str ["self"] (spStrB AA) := ok_Bans_str T
  have G_Bans_sheet : FnOk P w K mg base CX0 1 AA.a_Bans_sheet AA.d_Bans_sheet ["self"] (getS AA.C_Bans "own_sheet") := ok_Bans_sheet T
  have G_Bans_shapes : FnOk P w K mg base CX0 1 AA.a_Bans_shapes AA.d_Bans_shapes ["self"] (getS AA.C_Bans "own_shapes") := ok_Bans_shapes T
  have G_Bans_contains : FnOk P w K mg base CX0 5 AA.a_Bans_contains AA.d_Bans_contains ["self", "value"] (spInB K AA) := ok_Bans_contains T
  have G_Bans_getitem : FnOk P w K mg base (L2.CX P w) 4 AA.a_Bans_getitem AA.d_Bans_getitem ["self", "at"] (spGetB K AA) := ok_Bans_getitem T
  refine T.F_law_is_told.ok sc_law_is_told (fun vs H Q E h => ?_) (fun cdv A outer s H vs Q E hr h => ?_)
  · obtain ⟨kr, wr, p, sh, l, us, bs, rfl, _⟩ := h
    rfl
  obtain ⟨kr, wr, p, sh, l, us, bs, rfl, hB, hs, o1, o2, hl, row, lb, q⟩ := h
  have hu : _ + 64 < cLine := hu64 hr
  have lu := paired_len row
  refine ⟨_, (pss_cons (ps_setLc (i := 3) (own := [("_law_ban", 6)]) (g := gName 6) rfl sc_law_is_told.nd rfl rfl (sw_true rfl rfl rfl (by decide +kernel)) (pi_list (pv 2)) (blkOk_by (N := N_law_is_told) (sc := defScope s_law_is_told) (by decide +kernel)) (fun _ _ _ _ _ => (pg_name (i := 6) sc_law_is_told.nd rfl (Or.inl rfl))) (fun _ _ _ _ _ => pts_nil) (fun _ _ _ _ _ => by exact (pe_call G_law_shape_made (hr.mono (by decide)) (by rfl) T.g_law_shape_made T.k_law_shape_made T.b_law_shape_made .nil pass0 (pa_cons (pv 1) (pa_cons (pv 6) pa_nil)))))
    (pss_cons (ps_if (pw_or (pt_not (pt_val (pe_callB call_isi (by rfl) T.n_isinstance (by decide +kernel) (pa_cons (pe_prop (pv 0) T.cl_Bans T.P_Bans_shapes G_Bans_shapes (hr.mono (by decide)) T.b_Bans_shapes .nil pass0 rfl) (pa_cons (pe_bltn (v := .ty "tuple") (u := .type "tuple") (by rfl) T.n_tuple (by decide +kernel) rfl) pa_nil))))) (pw_or (pt_cmpR (Kq.op_neL (K := K) rfl (Kq.askD_own G_Shape_eq (T.I_Shape.own T.m_Shape_eq) T.b_Shape_eq) (hr.mono (by decide))) (pe_callTy call_list_of (by rfl) T.n_list (by decide +kernel) (pa_cons (pe_prop (pv 0) T.cl_Bans T.P_Bans_shapes G_Bans_shapes (hr.mono (by decide)) T.b_Bans_shapes .nil pass0 rfl) pa_nil)) (pv 3) (nomark _)) (pw_or1 (pt_cmpR (op_neP (K := K) rfl hu) (pe_callB (call_lenOwn G_Bans_len T.m_Bans_len.at_ T.m_Bans_len.fn T.b_Bans_len (hr.mono (by decide))) (by rfl) T.n_len (by decide +kernel) (pa_cons (pv 0) pa_nil)) (pe_callB call_len_seq (by rfl) T.n_len (by decide +kernel) (pa_cons (pv 3) pa_nil)) (nomark _))))).pt (pss_one (ps_ret pe_bl)) pss_nil)
    (pss_cons (ps_if (pw_or (pt_cmpR (op_ownNe G_Sheet_eq (T.I_Sheet.own T.m_Sheet_eq) T.b_Sheet_eq (hr.mono (by decide))) (pe_prop (pv 0) T.cl_Bans T.P_Bans_sheet G_Bans_sheet (hr.mono (by decide)) T.b_Bans_sheet .nil pass0 rfl) (pv 1) (nomark _)) (pw_or1 (pt_cmpR (op_neP (K := K) rfl hu) (pe_callTy (call_strOwn G_Bans_str T.m_Bans_str.at_ T.m_Bans_str.fn T.b_Bans_str (hr.mono (by decide))) (by rfl) T.n_str (by decide +kernel) (pa_cons (pv 0) pa_nil)) (pe_op op_add_str (pe_callTy call_str_int (by rfl) T.n_str (by decide +kernel) (pa_cons (pe_callB call_len_seq (by rfl) T.n_len (by decide +kernel) (pa_cons (pv 3) pa_nil)) pa_nil)) pe_str) (nomark _)))).pt (pss_one (ps_ret pe_bl)) pss_nil)
    (pss_cons (ps_for PassesOwn.never rfl (pi_enum (by rfl) T.n_enumerate (pa_cons (pv 3) pa_nil)) (pg_tup rfl (pgs_cons (pg_name (i := 4) sc_law_is_told.nd rfl (Or.inl rfl)) (pgs_cons (pg_name (i := 5) sc_law_is_told.nd rfl (Or.inl rfl)) pgs_nil)))
      (pss_one (ps_if (pw_or (pt_cmpR (op_ownNe G_Shape_eq (T.I_Shape.own T.m_Shape_eq) T.b_Shape_eq (hr.mono (by decide))) (pe_getO G_Bans_getitem T.m_Bans_getitem.at_ T.m_Bans_getitem.fn T.gf_getitem T.b_Bans_getitem (fun σ pins H s e s' I h => (passes_call takes0 (fun _ _ _ _ h => h)) pins σ H s e s' I h) (hr.mono (by decide)) (pv 0) (pv 4)) (pv 5) (nomark _)) (pw_or1 (pt_cmpR (op_notInOwn (K := K) rfl G_Bans_contains T.m_Bans_contains.at_ T.m_Bans_contains.fn T.b_Bans_contains (hr.mono (by decide))) (pv 5) (pv 0) rfl))).pt (pss_one (ps_ret pe_bl)) pss_nil)))
    (pss_one (ps_ret pe_bl)))))), ?_⟩
  refine ⟨_, rfl, l, rfl, ⟨_, hl⟩, fun D hD => lc_list (K := K) (a := l) (xs := us) (fun i G => ∃ acc : List V, Ex H G ∧ G D = some (.lst acc) ∧ Rw AA (srt kr) (srt wr) G acc ((bs.take i).map cn)) ⟨[], Ex.mut (Ex.refl _) hD, upd_same, .nil⟩ (fun i G _ ⟨_, e, _⟩ => ex_l e hl) ?_ ?_⟩
  · rintro j x G hx ⟨acc, e1, g1, rw1⟩
    obtain ⟨c, hc, l0, p', rfl, hp', okc⟩ := paired_get2 (by_ex row e1) hx
    have tk : (bs.take (j + 1)).map cn = (bs.take j).map cn ++ [cn c] := by rw [List.take_add_one, hc, List.map_append]; rfl
    have la := paired_len rw1
    rw [List.length_map, List.length_take] at la
    refine ⟨rfl, ?_⟩
    unfold tYes
    dsimp only
    rw [if_pos rfl]
    refine ⟨_, rfl, _, rfl, sh, p', l0, kr, wr, c, rfl, hs.ex e1, o1, o2, hp', okc.pl, fun G1 x1 e2 hx1 => ?_⟩
    refine ⟨acc, e2 _ _ g1, len_lt (by omega), acc ++ [.ref x1], Ex.mut (e1.trans e2) hD, upd_same, ?_⟩
    rw [tk]
    exact paired_app (rw_put (rw_ex rw1 e2) (e2 _ _ g1)) (.cons (SB.put ⟨x1, rfl, hx1, okc.ok⟩ (e2 _ _ g1)) .nil)
  rintro G ⟨acc, e1, g1, rw1⟩
  rw [lu, List.take_of_length_le (Nat.le_refl _)] at rw1
  have la := paired_len rw1
  rw [List.length_map] at la
  have hBG := hB.ex e1
  obtain ⟨dx, sb, t, ys, h1, h2, h3, h4, h5, h6⟩ := hBG
  have ly := paired_len h6
  rw [List.length_map] at ly
  obtain ⟨d1, f1, k1, w1, s1, _⟩ := id h2.at_
  obtain ⟨d2, f2, k2, w2, s2, _⟩ := id (hs.ex e1).at_
  -- the shapes
  refine ⟨_, rfl, p, dx, _, rfl, h1, ⟨p, dx, _, _, rfl, h1, bf_shapes, ?_⟩⟩
  refine ⟨_, _, _, _, _, rfl, .ty "tuple", .base (.tup h5), kit_ty (by decide +kernel : kitB "tuple" "tuple" = some true), _, rfl, if_f rfl ?_⟩
  refine ⟨_, rfl, p, dx, _, rfl, h1, ⟨p, dx, _, _, rfl, h1, bf_shapes, ?_⟩⟩
  refine ⟨t, ys, rfl, .inr (SqT.of h5), fun q1 hq1 => ?_⟩
  have e2 : Ex G (upd G q1 (.lst ys)) := Ex.new hq1
  have g2 : upd G q1 (.lst ys) q1 = some (.lst ys) := upd_same
  generalize upd G q1 (.lst ys) = G2 at e2 g2 ⊢
  have r1 := rw_ex h6 e2
  have r2 := rw_ex rw1 e2
  have g12 := e2 _ _ g1
  obtain ⟨as, rfl⟩ := rw_refs h6
  obtain ⟨cs, rfl⟩ := rw_refs rw1
  rw [List.length_map] at ly la
  refine ⟨_, rfl, q1, D, as, cs, _, rfl, rfl, SqL.of g2, SqL.of g12, rows_d r1 r2, _, rfl, ?_⟩
  have same : (decide (as.length = cs.length) && (List.range (min as.length cs.length)).all fun i => decide ((bs.map cn)[i]? = (bs.map cn)[i]?)) = true := by
    rw [decide_eq_true (by omega), Bool.true_and, List.all_eq_true]
    exact fun i _ => decide_eq_true rfl
  rw [same]
  refine if_f rfl ?_
  -- len
  have hB2 := hB.ex (e1.trans e2)
  refine ⟨_, rfl, p, dx, _, rfl, e2 _ _ h1, ⟨p, _, _, _, rfl, hB2, _, rfl, by omega, by rw [List.length_map]; omega, ?_⟩⟩
  refine ⟨_, rfl, D, _, rfl, .inl (SqL.of g12), neP (hd_int _) (hd_int _) ⟨_, rfl, ?_⟩⟩
  refine if_f (by rw [decide_eq_true (by rw [List.length_map, List.length_map, la])]; rfl) ?_
  -- sheet
  refine ⟨_, rfl, p, dx, _, rfl, e2 _ _ h1, ⟨p, dx, _, _, rfl, e2 _ _ h1, bf_sheet, ?_⟩⟩
  refine ⟨_, rfl, sb, d1, f1, _, rfl, e2 _ _ s1, T.I_Sheet.ty (e2 _ _ s2), not_first_self, sb, _, _, _, some (srt kr, srt wr), rfl, h2.ex e2, o1, o2, .inr ⟨sh, _, _, rfl, hs.ex (e1.trans e2), o1, o2, rfl⟩, _, rfl, _, rfl, ?_⟩
  rw [decide_eq_true rfl]
  refine if_f rfl ?_
  obtain ⟨n1, n2⟩ := numS_ok bs.length (by omega)
  have c2 : (" bans" : Str).length = 5 := by decide +kernel
  have line : (100 : Nat) ≤ sizeLine := by decide
  refine ⟨_, rfl, p, dx, _, rfl, e2 _ _ h1, ⟨p, _, _, _, rfl, hB2, by rw [List.length_map]; omega, _, rfl, ?_⟩⟩
  refine ⟨_, rfl, D, _, rfl, .inl (SqL.of g12), _, rfl, by rw [List.length_map, la]; exact n2, _, _, rfl, rfl, ?_, ?_⟩
  · rw [List.length_map, la, c2]
    have : (numS bs.length).length ≤ 2 := n1
    show (numS bs.length).length + 5 ≤ _
    omega
  refine neP (hd_str _) (hd_str _) ⟨_, rfl, ?_⟩
  have eqs : bansStr (bs.map cn).length = (toString (((cs.map V.ref).length : Nat) : Int) : Str) ++ (" bans" : Str) := by
    unfold bansStr
    rw [emp_app, List.length_map, List.length_map, la]
    rfl
  rw [eqs, decide_eq_true rfl]
  refine if_f rfl ?_
  -- item by item
  refine ⟨_, rfl, D, _, rfl, SqL.of g12, ?_⟩
  refine for_it walk_enum (fun i σ J => Ex G2 J ∧ ∃ v4 v5 v6 : Option V, σ = [some (.ref p), some (.ref sh), some (.ref l), some (.ref D), v4, v5, v6]) ⟨Ex.refl _, none, none, none, rfl⟩ (fun i σ J _ h => SqL.of (h.1 _ _ g12)) ?_ ?_
  · rintro i x σ J J2 hi ⟨e3, v4, v5, v6, rfl⟩ ⟨T1, x1, y1, rfl, hT, rfl, hx1, hy1⟩
    dsimp only at hx1 hy1
    cases hx1
    have e4 : Ex G2 (upd J T1 (.tup [.int (i : Nat), y1])) := e3.trans (Ex.new hT)
    have g4 : upd J T1 (.tup [.int (i : Nat), y1]) T1 = some (.tup [.int (i : Nat), y1]) := upd_same
    generalize upd J T1 (.tup [.int (i : Nat), y1]) = J3 at e4 g4 ⊢
    rw [List.length_map] at hi
    obtain ⟨c, hc, hv⟩ := paired_get2 (rw_ex r2 e4) hy1
    obtain ⟨u, hu1, hv'⟩ := paired_at2 (rw_ex r1 e4) hc
    refine ⟨T1, _, rfl, SqT.of g4, rfl, _, _, rfl, _, _, rfl, rfl, ?_⟩
    obtain ⟨b1, dy, fy, rfl, y2, y3, y4⟩ := hv.shp
    have hB3 := hB2.ex e4
    refine ⟨_, rfl, _, rfl, p, dx, _, rfl, (e2.trans e4) _ _ h1, p, _, .int (i : Nat), _, _, _, rfl, hB3, .inl (.int _), by rw [List.length_map]; omega, fun k c' u' ek hk hsb => ?_, fun z => ?_⟩
    · injection ek with ek
      have ek : k = i := by omega
      subst ek
      cases hc.symm.trans hk
      obtain ⟨b2, dz, fz, rfl, z2, z3, z4⟩ := hsb.shp
      refine ⟨_, rfl, b2, dz, fz, _, rfl, z2, T.I_Shape.ty y2, not_first_self, b2, .ref b1, _, some (toS (srt kr) (srt wr) c), rfl, z3, .inr (.inr ⟨b1, _, rfl, y3, rfl⟩), _, rfl, _, rfl, ?_⟩
      have es : eqO (toS (srt kr) (srt wr) c) (some (toS (srt kr) (srt wr) c)) = true := by
        show eqShp _ _ = true
        rw [eqShp_cn z4 z4, decide_eq_true rfl]
      rw [es]
      refine if_f rfl ?_
      refine ⟨_, rfl, _, rfl, p, dx, _, rfl, (e2.trans e4) _ _ h1, p, .ref b1, _, _, _, rfl, hB3, .inr ⟨b1, c, rfl, y3, y4, _, rfl, _, rfl, ?_⟩⟩
      rw [decide_eq_true (List.mem_of_getElem? hc)]
      exact if_f rfl ⟨e4, _, _, _, rfl⟩
    · have : (decide (0 ≤ ((i : Nat) : Int)) && decide (((i : Nat) : Int) < ((bs.map cn).length : Int))) = false := z
      rw [decide_eq_true (by omega), decide_eq_true (by rw [List.length_map]; omega)] at this
      cases this
  · rintro σ J ⟨e3, v4, v5, v6, rfl⟩
    exact q J ((e1.trans e2).trans e3)
end
end K23
namespace K23
open PySem L2 Kd Evl Ks Kt Ky
open PySem.W (Datum DatumOrd T3)
section
variable {P : Program} {w : World} {K : PySem.W.Frag} {mg : Str → Option Value} {base : Heap} {AA : Ads}
def spRefuses (K : PySem.W.Frag) (AA : Ads) : Sp := fun vs H Q _ => ∃ (p : Addr) (v : V) (d : PyData) (z : Str) (ks ws : List Str) (cs : List Pb), vs = [.ref p, v] ∧ BansAt AA H p ks ws cs ∧ cs.length ≤ 100 ∧ Dv K H v d ∧ numD cs.length d = false ∧ ShownV K H v z ∧ ∀ H', Ex H H' → Q (.bl true) H'
theorem ok_law_refuses (T : Txt K mg AA) : FnG P w K mg base 6 AA.a_law_refuses AA.d_law_refuses ["_law_made", "_law_value"] (spRefuses K AA) := by
  have G_Bans_getitem : FnOk P w K mg base (L2.CX P w) 4 AA.a_Bans_getitem AA.d_Bans_getitem ["self", "at"] (spGetB K AA) := ok_Bans_getitem T
  refine fnG_of T.F_law_refuses sc_law_refuses (fun vs H Q E h => ?_) (fun cdv A outer s H vs Q E hG hr h => ?_)
  · obtain ⟨p, v, d, z, ks, ws, cs, rfl, _⟩ := h
    rfl
  · obtain ⟨p, v, d, z, ks, ws, cs, rfl, hB, few, hv, nd, sh, q⟩ := h
    have hu : _ + 64 < cLine := hu64 hr
    refine ⟨_, pss_one (ps_try_as (i := 2) (tb := fun W => tSeq (tAsg (tGetO AA.C_Bans (spGetB K AA) (WE W) (tVar 0) (tVar 1)) (gName 3)) (tRet (tOp (fun x y H Q => y = .non ∧ Q (.bl (decide (x = .non))) H) (tVar 3) (tC .non)))) (ts := fun a cls d => tRet (tOp (rEqP K) (tCB (rReprV K) (tCons (tXf a cls d AA.C_InvalidNumber "value" (tVar 2)) tNil)) (tCB (rReprV K) (tCons (tVar 1) tNil)))) (Wout := fun _ _ _ _ => False) rfl rfl sc_law_refuses.nd rfl rfl ⟨rfl, by decide, Or.inl T.g_InvalidNumber⟩ takes0
      (fun W pn xe tk _ => pss_cons (ps_set (i := 3) sc_law_refuses.nd rfl (Or.inl rfl) (by exact (pe_getO G_Bans_getitem T.m_Bans_getitem.at_ T.m_Bans_getitem.fn T.gf_getitem T.b_Bans_getitem (fun σ => passAt tk σ) (hr.mono (by decide)) (pv 0) (pv 1)))) (pss_one (ps_ret (by exact (pe_cmpR op_isN (pv 3) pe_non (nomark _))))))
      (fun a oe cls d pn hz hf => pss_one (ps_ret (by exact (pe_cmpR (op_eqP (K := K) rfl hu) (pe_callB (call_reprV (K := K) rfl hG hu) (by rfl) T.n_repr (by decide +kernel) (pa_cons (pe_xf (xfB_ok T.xf_InvalidNumber) T.n_InvalidNumber_value hz hf (pv 2)) pa_nil)) (pe_callB (call_reprV (K := K) rfl hG hu) (by rfl) T.n_repr (by decide +kernel) (pa_cons (pv 1) pa_nil)) (nomark _)))))), ?_⟩
    have hB0 := hB
    obtain ⟨dx, sb, t, us, h1, _⟩ := hB0
    refine ⟨_, rfl, _, rfl, p, dx, _, rfl, h1, p, v, d, ks, ws, cs, rfl, hB, hv, few, fun k c u ed hk _ => ?_, fun c H' e x' he => ⟨true, T.e_InvalidNumber, fun _ a na => ?_, fun z => Bool.noConfusion z⟩⟩
    · rw [ed] at nd
      have hk' := List.getElem?_eq_some_iff.mp hk
      obtain ⟨hk1, _⟩ := hk'
      have : (decide (0 ≤ ((k : Nat) : Int)) && decide (((k : Nat) : Int) < (cs.length : Int))) = false := nd
      rw [decide_eq_true (by omega), decide_eq_true (by omega)] at this
      cases this
    · refine ⟨_, rfl, rfl, rfl, e, _, v, rfl, he, rfl, v, z, rfl, sh.ex x', _, rfl, v, z, rfl, sh.ex x', eqP (hd_str z) (hd_str z) ?_⟩
      rw [decide_eq_true rfl]
      exact q H' x'
end
end K23
namespace K23
open PySem L2 Kd Evl Ks Kt Ky
open PySem.W (Datum DatumOrd T3)
/-- what stands while the law looks -/
structure Rr (K : PySem.W.Frag) (AA : Ads) (J : Hp) (a ps p sh lb lo : Addr) (kr wr : List Str) (ub uo : List V) (bs os : List Pb) : Prop where
  da : J a = some (diceO a)
  sd : SheetD J ps kr wr
  nk : Nm kr 3
  nw : Nm wr 2
  hs : SheetAt AA.C_Sheet J sh (srt kr) (srt wr)
  o1 : OkS (srt kr)
  o2 : OkS (srt wr)
  gb : J lb = some (.lst ub)
  rb : Paired (BY kr wr J) ub bs
  go : J lo = some (.lst uo)
  ro : Paired (BY kr wr J) uo os
  ndb : (bs.map cn).Nodup
  ndo : (os.map cn).Nodup
  lb6 : bs.length ≤ 6
  lo2 : os.length ≤ 2
  md : BansAt AA J p (srt kr) (srt wr) (bs.map cn)
theorem Rr.ex {K : PySem.W.Frag} {AA : Ads} {J J' : Hp} {a ps p sh lb lo : Addr} {kr wr : List Str} {ub uo : List V} {bs os : List Pb} (h : Rr K AA J a ps p sh lb lo kr wr ub uo bs os) (e : Ex J J') : Rr K AA J' a ps p sh lb lo kr wr ub uo bs os :=
  ⟨e _ _ h.da, h.sd.ex e, h.nk, h.nw, h.hs.ex e, h.o1, h.o2, e _ _ h.gb, by_ex h.rb e, e _ _ h.go, by_ex h.ro e, h.ndb, h.ndo, h.lb6, h.lo2, h.md.ex e⟩
/-- the places of the law -/
def slots (a ps p sh lb lo : Addr) (v3 v4 v5 v6 v7 v8 v9 v10 v14 v15 v16 v17 v18 v19 v20 : Option V) : L2.St := [some (.ref a), some (.ref ps), some (.ref p), v3, v4, v5, v6, v7, v8, v9, v10, some (.ref sh), some (.ref lb), some (.ref lo), v14, v15, v16, v17, v18, v19, v20]
/-- what the rows from i on promise -/
def RtTail (K : PySem.W.Frag) (AA : Ads) (X : Cx) (i : Nat) : Prop := ∃ t, PSs X ((defBody s_law_right).drop i) t ∧ ∀ (Q : VK) (J : Hp) (a ps p sh lb lo : Addr) (kr wr : List Str) (ub uo : List V) (bs os : List Pb) (v3 v4 v5 v6 v7 v8 v9 v10 v14 v15 v16 v17 v18 v19 v20 : Option V),
  Rr K AA J a ps p sh lb lo kr wr ub uo bs os → (∀ H', Ex J H' → Q (.bl true) H') → t { nx := fun _ H' => Q .non H', rt := Q } (slots a ps p sh lb lo v3 v4 v5 v6 v7 v8 v9 v10 v14 v15 v16 v17 v18 v19 v20) J
theorem notI_data {K : PySem.W.Frag} {C : Addr} (i : InsT K C) {H : Hp} {v : V} {d : PyData} (h : Dv K H v d) : NotI K C H v := ⟨_, tyX_of h, i.no d, not_first d⟩
theorem notI_ty {K : PySem.W.Frag} {C : Addr} (i : InsT K C) {H : Hp} {v : V} (d : PyData) (h : TyX K H v (.type (tyN d))) : NotI K C H v := ⟨_, h, i.no d, not_first d⟩
theorem notI_cls {K : PySem.W.Frag} {C D : Addr} (i : InsT K C) (j : InsT K D) {H : Hp} {b dx : Addr} {fs : List (Str × V)} (h : H b = some (.ins D dx fs)) (ne : (Value.ref D == Value.ref C) = false) (no : PySem.W.subIn K (.ref D) (.ref C) = some false) : NotI K C H (.ref b) := by
  refine ⟨_, j.ty h, ?_, ?_⟩
  · have h1 : PySem.W.kitOne K (.ref D) (.ref C) = PySem.W.kitCls K (.ref D) (.ref C) := by
      show (if (Value.ref D == Value.ref C) = true then some true else _) = _
      rw [if_neg (by rw [ne]; exact Bool.false_ne_true)]
    rw [h1, kitCls_own i.ic i.it]
    exact no
  · unfold PySem.W.notFirst
    rw [no]
    simp
/-- made == y, made != y -/
theorem own_bans {K : PySem.W.Frag} {mg : Str → Option Value} {AA : Ads} (T : Txt K mg AA) {H : Hp} {p b : Addr} {ks ws : List Str} {cs ds : List Pb} {g : Bool → Bool} {Q : VK} (h : BansAt AA H p ks ws cs) (h' : BansAt AA H b ks ws ds) (q : Q (.bl (g (decide (cs = ds)))) H) : rOwnC K AA.C_Bans (spEqB K AA) g (.ref p) (.ref b) H Q := by
  have h0 := h
  have h0' := h'
  obtain ⟨dx, sh, t, us, h1, _⟩ := h
  obtain ⟨dy, si, u, vs, g1, _⟩ := h'
  exact ⟨p, dx, _, _, rfl, h1, T.I_Bans.ty g1, not_first_self, p, .ref b, ks, ws, cs, rfl, h0, .inr ⟨b, ds, rfl, h0', _, rfl, q⟩⟩
theorem own_not {K : PySem.W.Frag} {mg : Str → Option Value} {AA : Ads} (T : Txt K mg AA) {H : Hp} {p : Addr} {y : V} {ks ws : List Str} {cs : List Pb} {g : Bool → Bool} {Q : VK} (h : BansAt AA H p ks ws cs) (h' : NotI K AA.C_Bans H y) (q : Q (.bl (g false)) H) : rOwnC K AA.C_Bans (spEqB K AA) g (.ref p) y H Q := by
  have h0 := h
  have h0' := h'
  obtain ⟨dx, sh, t, us, h1, _⟩ := h
  obtain ⟨ty, t1, t2, t3⟩ := h'
  exact ⟨p, dx, _, ty, rfl, h1, t1, t3, p, y, ks, ws, cs, rfl, h0, .inl ⟨h0', _, rfl, q⟩⟩
theorem in_bans {K : PySem.W.Frag} {AA : Ads} {H : Hp} {p a : Addr} {ks ws : List Str} {cs : List Pb} {c : Pb} {g : Bool → Bool} {Q : VK} (h : BansAt AA H p ks ws cs) (ha : ShpAt AA H a (toS ks ws c)) (hc : Cn c) (q : Q (.bl (g (decide (c ∈ cs)))) H) : rInOwn AA.C_Bans (spInB K AA) g (.ref a) (.ref p) H Q := by
  have h0 := h
  obtain ⟨dx, sh, t, us, h1, _⟩ := h
  exact ⟨p, dx, _, rfl, h1, p, .ref a, ks, ws, cs, rfl, h0, .inr ⟨a, c, rfl, ha, hc, _, rfl, q⟩⟩
theorem in_not {K : PySem.W.Frag} {AA : Ads} {H : Hp} {p : Addr} {y : V} {ks ws : List Str} {cs : List Pb} {g : Bool → Bool} {Q : VK} (h : BansAt AA H p ks ws cs) (h' : NotI K AA.C_Shape H y) (q : Q (.bl (g false)) H) : rInOwn AA.C_Bans (spInB K AA) g y (.ref p) H Q := by
  have h0 := h
  obtain ⟨dx, sh, t, us, h1, _⟩ := h
  exact ⟨p, dx, _, rfl, h1, p, y, ks, ws, cs, rfl, h0, .inl ⟨h', _, rfl, q⟩⟩
theorem or_bans {AA : Ads} {H : Hp} {a b : Addr} {ks ws : List Str} {cs ds : List Pb} {Q : VK} (h : BansAt AA H a ks ws cs) (h' : BansAt AA H b ks ws ds) (few : cs.length + ds.length ≤ 100) (u8 : (uniq (cs ++ ds)).length ≤ 8) (q : ∀ H' p, Ex H H' → BansAt AA H' p ks ws (uniq (cs ++ ds)) → Q (.ref p) H') : rBinO AA.C_Bans (spOrB AA) (.ref a) (.ref b) H Q := by
  have h0 := h
  have h0' := h'
  obtain ⟨dx, sh, t, us, h1, _⟩ := h
  obtain ⟨dy, si, u, vs, g1, _⟩ := h'
  exact ⟨a, b, dx, dy, _, _, rfl, rfl, h1, g1, a, b, ks, ws, cs, ds, rfl, h0, h0', few, u8, fun H' p e hb => ⟨⟨p, rfl⟩, q H' p e hb⟩⟩
/-- [one for one in l if ..], one taken where its own order is that of b -/
theorem pick_lc {K : PySem.W.Frag} {kr wr : List Str} {l : Addr} {i : Nat} {tt : TT} {σ : L2.St} {H1 : Hp} {D : Addr} {Qd : Hp → Prop} {us : List V} {bs : List Pb} {b : Pb} (hD : H1 D = none) (hl : H1 l = some (.lst us)) (row : Paired (BY kr wr H1) us bs) (lb : bs.length ≤ 50) (hw : ∀ v, wipe ((wipe σ [i]).set i v) [i] = wipe σ [i])
    (hi : ∀ v : V, ((wipe σ [i]).set i (some v))[i]? = some (some v)) (ht : ∀ x c H, BY kr wr H x c → Ex H1 H → EvT tt ((wipe σ [i]).set i (some x)) H (decide (cn c = cn b))) (hq : ∀ H acc, Ex H1 H → H D = some (.lst acc) → (∀ z ∈ acc, ∃ c, z = .ref c) → acc.isEmpty = decide (cn b ∉ bs.map cn) → Qd H) :
    ∃ W : Nat → Nat → Hp → Prop, (∃ m, W 0 m (upd H1 D (.lst []))) ∧ ∀ k m H, W k m H →
      ((Itl K l).stop k H ∧ Qd H) ∨ ((Itl K l).go k H ∧ ∃ Nx : Hp → Prop, (∀ H', Nx H' → ∃ m', m' < m ∧ W (k + 1) m' H') ∧ ∀ x H', (Itl K l).yld k H x H' → gName i x (wipe σ [i]) H' fun σ2 H2 => wipe σ2 [i] = wipe σ [i] ∧ tt σ2 H2 fun b H3 =>
        if b = true then tVar i σ2 H3 fun y H4 => ∃ acc, H4 D = some (.lst acc) ∧ acc.length < sizeLine ∧ Nx (upd H4 D (.lst (acc ++ [y]))) else Nx H3) := by
  have lu := paired_len row
  refine lc_list (K := K) (a := l) (xs := us) (fun k G => ∃ acc : List V, Ex H1 G ∧ G D = some (.lst acc) ∧ (∀ z ∈ acc, ∃ c, z = .ref c) ∧ acc.length ≤ k ∧ acc.isEmpty = decide (cn b ∉ (bs.take k).map cn)) ⟨[], Ex.mut (Ex.refl _) hD, upd_same, (fun z h => nomatch h), Nat.le_refl _, rfl⟩ (fun k G _ ⟨_, e, _⟩ => SqL.of (e _ _ hl)) ?_ ?_
  · rintro j x G hx ⟨acc, e3, g3, rf, la, em⟩
    obtain ⟨c, hc, hv⟩ := paired_get2 (by_ex row e3) hx
    have tk : (bs.take (j + 1)).map cn = (bs.take j).map cn ++ [cn c] := by rw [List.take_add_one, hc, List.map_append]; rfl
    refine ⟨hw _, ht x c G hv e3 G (Ex.refl _) _ fun G1 e4 => ?_⟩
    have g3' := e4 _ _ g3
    have hj := (List.getElem?_eq_some_iff.mp hx).1
    obtain ⟨l0, p', ex, _⟩ := hv
    by_cases z : cn c = cn b
    · refine if_t (decide_eq_true z) ⟨_, hi _, acc, g3', len_lt (by omega), acc ++ [x], Ex.mut (e3.trans e4) hD, upd_same, fun y hy => ?_, by rw [List.length_append]; show acc.length + 1 ≤ j + 1; omega, ?_⟩
      · rcases List.mem_append.mp hy with hy | hy
        · exact rf y hy
        · exact ⟨p', by rw [List.mem_singleton.mp hy, ex]⟩
      · rw [tk]
        have n1 : cn b ∈ (bs.take j).map cn ++ [cn c] := by rw [z]; exact List.mem_append.mpr (.inr List.mem_cons_self)
        rw [decide_eq_false (fun y => y n1)]
        cases acc <;> rfl
    · refine if_f (decide_eq_false z) ⟨acc, e3.trans e4, g3', rf, by omega, ?_⟩
      rw [em, tk]
      refine decide_eq_decide.mpr ⟨fun y w => ?_, fun y w => y (List.mem_append.mpr (.inl w))⟩
      rcases List.mem_append.mp w with w | w
      · exact y w
      · exact z (List.mem_singleton.mp w).symm
  · rintro G ⟨acc, e3, g3, rf, la, em⟩
    rw [lu, List.take_of_length_le (Nat.le_refl _)] at em
    exact hq G acc e3 g3 rf em
theorem filter_cn (os : List Pb) (cs : List Pb) : (os.filter fun b => decide (cn b ∉ cs)).map cn = (os.map cn).filter fun c => decide (c ∉ cs) := by
  rw [List.filter_map]
  rfl
end K23
namespace K23
open PySem L2 Kd Evl Ks Kt Ky
open PySem.W (Datum DatumOrd T3)
section
variable {P : Program} {w : World} {K : PySem.W.Frag} {mg : Str → Option Value} {base : Heap} {AA : Ads}
set_option maxHeartbeats 16000000 in
theorem rt_last (T : Txt K mg AA) {cdv : Value} {A : Around} {outer : List Env} {s : Shared} {H0 : Hp} {E : XK} (hG : A.guards = some []) (hr : Room 11 (A.deeper (PyProof.Rows.envOfC "_law_right" (defScope s_law_right) s.heap.objs.size AA.a_law_right cdv))) :
    RtTail K AA (cxOf CX0 P w K mg base N_law_right "_law_right" (defScope s_law_right) AA.a_law_right cdv A outer s H0 E).nox 16 := by
  have G_law_roll : FnOk P w K mg base CX0 1 AA.a_law_roll AA.d_law_roll ["_law_dice_here", "_law_many"] spRoll := ok_law_roll T
  have G_law_mixed : FnOk P w K mg base CX0 2 AA.a_law_mixed AA.d_law_mixed ["_law_dice_here", "_law_items"] (spMixed K) := ok_law_mixed T
  have G_law_twin : FnOk P w K mg base CX0 5 AA.a_law_twin AA.d_law_twin ["_law_sheet"] (spSheetMade AA) := ok_law_twin T
  have G_law_shape_made : FnOk P w K mg base CX0 6 AA.a_law_shape_made AA.d_law_shape_made ["_law_thing", "_law_shape"] (spShapeMade AA) := ok_law_shape_made T
  have G_law_same_shape : FnOk P w K mg base CX0 1 AA.a_law_same_shape AA.d_law_same_shape ["_law_one", "_law_other"] spSame := ok_law_same_shape T
  have G_law_bans_made : FnOk P w K mg base CX0 10 AA.a_law_bans_made AA.d_law_bans_made ["_law_thing", "_law_bans"] (spBansMade K AA) := ok_law_bans_made T
  have G_law_is_told : FnOk P w K mg base CX0 8 AA.a_law_is_told AA.d_law_is_told ["_law_made", "_law_thing", "_law_bans"] (spTold K AA) := ok_law_is_told T
  have G_law_refuses : FnG P w K mg base 6 AA.a_law_refuses AA.d_law_refuses ["_law_made", "_law_value"] (spRefuses K AA) := ok_law_refuses T
  have G_Bans_init : Kw.FnA P w K mg base CX0 7 AA.a_Bans_init [] (spIniB K AA) := ok_Bans_init_A T
  have G_Bans_eq : FnOk P w K mg base CX0 5 AA.a_Bans_eq AA.d_Bans_eq ["self", "other"] (spEqB K AA) := ok_Bans_eq T
  have G_Bans_or : FnOk P w K mg base CX0 9 AA.a_Bans_or AA.d_Bans_or ["self", "other"] (spOrB AA) := ok_Bans_or T
  have G_Bans_contains : FnOk P w K mg base CX0 5 AA.a_Bans_contains AA.d_Bans_contains ["self", "value"] (spInB K AA) := ok_Bans_contains T
  have G_Bans_sheet : FnOk P w K mg base CX0 1 AA.a_Bans_sheet AA.d_Bans_sheet ["self"] (getS AA.C_Bans "own_sheet") := ok_Bans_sheet T
  have G_Bans_shapes : FnOk P w K mg base CX0 1 AA.a_Bans_shapes AA.d_Bans_shapes ["self"] (getS AA.C_Bans "own_shapes") := ok_Bans_shapes T
  have G_Sheet_eq : FnOk P w K mg base CX0 1 AA.a_Sheet_eq AA.d_Sheet_eq ["self", "other"] (spEqS K AA.C_Sheet) := ok_Sheet_eq T
  have hu : _ + 64 < cLine := hu64 hr
  have hu1 : _ + 1 < cLine := hu_of hr
  refine ⟨_, (pss_cons (ps_for PassesOwn.never rfl (pi_list (pe_lst (pa_cons pe_non (pa_cons pe_int (pa_cons (pe_tup pa_nil) (pa_cons (pv 11) (pa_cons (pv 12) (pa_cons (pe_prop (pv 2) T.cl_Bans T.P_Bans_shapes G_Bans_shapes (hr.mono (by decide)) T.b_Bans_shapes .nil pass0 rfl) pa_nil)))))))) (pg_name (i := 10) sc_law_right.nd rfl (Or.inl rfl))
      (pss_one (ps_if (pw_or (pt_cmpR (op_ownEq G_Bans_eq (T.I_Bans.own T.m_Bans_eq) T.b_Bans_eq (hr.mono (by decide))) (pv 2) (pv 10) (nomark _)) (pw_or (pt_not (pt_cmpR (op_ownNe G_Bans_eq (T.I_Bans.own T.m_Bans_eq) T.b_Bans_eq (hr.mono (by decide))) (pv 2) (pv 10) (nomark _))) (pw_or1 (pt_cmpR (op_inOwn (K := K) rfl G_Bans_contains T.m_Bans_contains.at_ T.m_Bans_contains.fn T.b_Bans_contains (hr.mono (by decide))) (pv 10) (pv 2) rfl)))).pt (pss_one (ps_ret pe_bl)) pss_nil)))
    (pss_one (ps_ret (pe_and (pe_cmpR (op_ownEq G_Bans_eq (T.I_Bans.own T.m_Bans_eq) T.b_Bans_eq (hr.mono (by decide))) (pe_op (op_binOwn (K := K) (op := .BitOr) rfl G_Bans_or T.sf_Bans T.m_Bans_or.at_ T.m_Bans_or.fn T.b_Bans_or (hr.mono (by decide))) (pv 2) (pv 2)) (pv 2) (nomark _)) (pe_and (pe_cmpR (op_ownEq G_Bans_eq (T.I_Bans.own T.m_Bans_eq) T.b_Bans_eq (hr.mono (by decide))) (pe_op (op_binOwn (K := K) (op := .BitOr) rfl G_Bans_or T.sf_Bans T.m_Bans_or.at_ T.m_Bans_or.fn T.b_Bans_or (hr.mono (by decide))) (pv 2) (StX.pe_makeR T.M_Bans G_Bans_init.r (hr.mono (by decide)) (by rfl) T.g_Bans pass0 (pa_cons (pv 11) pa_nil))) (pv 2) (nomark _)) (pe_one (pe_call G_law_is_told (hr.mono (by decide)) (by rfl) T.g_law_is_told T.k_law_is_told T.b_law_is_told .nil pass0 (pa_cons (pv 2) (pa_cons (pv 11) (pa_cons (pv 12) pa_nil)))))))))), ?_⟩
  intro Q J a ps p sh lb lo kr wr ub uo bs os v3 v4 v5 v6 v7 v8 v9 v10 v14 v15 v16 v17 v18 v19 v20 g q
  obtain ⟨dx, sb, t, us, h1, h2, h3, h4, h5, h6⟩ := g.md
  have few := g.lb6
  refine ⟨(by show 0 ≤ sizeLine; decide), fun t0 nt0 => ?_⟩
  have e1 : Ex J (upd J t0 (.tup [])) := Ex.new nt0
  have g1 : upd J t0 (.tup []) t0 = some (.tup []) := upd_same
  generalize upd J t0 (.tup []) = J1 at e1 g1 ⊢
  refine ⟨_, rfl, _, rfl, _, rfl, p, dx, _, rfl, e1 _ _ h1, ⟨p, dx, _, _, rfl, e1 _ _ h1, bf_shapes, ?_⟩⟩
  refine ⟨(by show 6 ≤ sizeLine; decide), fun l nl => ?_⟩
  have e2 : Ex J1 (upd J1 l (.lst [.non, .int 0, .ref t0, .ref sh, .ref lb, .ref t])) := Ex.new nl
  have g2 : upd J1 l (.lst [.non, .int 0, .ref t0, .ref sh, .ref lb, .ref t]) l = some (.lst [.non, .int 0, .ref t0, .ref sh, .ref lb, .ref t]) := upd_same
  generalize upd J1 l (.lst [.non, .int 0, .ref t0, .ref sh, .ref lb, .ref t]) = J2 at e2 g2 ⊢
  have e02 := e1.trans e2
  have gg := g.ex e02
  obtain ⟨d2, f2, k2, w2, s2, _⟩ := id gg.hs.at_
  have nots : ∀ x ∈ ([.non, .int 0, .ref t0, .ref sh, .ref lb, .ref t] : List V), NotI K AA.C_Bans J2 x ∧ NotI K AA.C_Shape J2 x := by
    intro x hx
    simp only [List.mem_cons, List.not_mem_nil, or_false] at hx
    rcases hx with rfl | rfl | rfl | rfl | rfl | rfl
    · exact ⟨notI_data T.I_Bans (.inl .non), notI_data T.I_Shape (.inl .non)⟩
    · exact ⟨notI_data T.I_Bans (.inl (.int 0)), notI_data T.I_Shape (.inl (.int 0))⟩
    · exact ⟨notI_ty T.I_Bans (.tuple []) (.base (.tup (e2 _ _ g1))), notI_ty T.I_Shape (.tuple []) (.base (.tup (e2 _ _ g1)))⟩
    · exact ⟨notI_cls T.I_Bans T.I_Sheet s2 T.sb_ne T.sb_no, notI_cls T.I_Shape T.I_Sheet s2 T.ss_ne T.ss_no⟩
    · exact ⟨notI_ty T.I_Bans (.list []) (.base (.lst gg.gb)), notI_ty T.I_Shape (.list []) (.base (.lst gg.gb))⟩
    · exact ⟨notI_ty T.I_Bans (.tuple []) (.base (.tup (e02 _ _ h5))), notI_ty T.I_Shape (.tuple []) (.base (.tup (e02 _ _ h5)))⟩
  refine ⟨l, rfl, ⟨_, SqL.of g2⟩, ?_⟩
  refine for_list (xs := [.non, .int 0, .ref t0, .ref sh, .ref lb, .ref t]) (fun i σ G => G = J2 ∧ ∃ v, σ = slots a ps p sh lb lo v3 v4 v5 v6 v7 v8 v9 v v14 v15 v16 v17 v18 v19 v20) ⟨rfl, _, rfl⟩ (fun i σ G _ h => by rw [h.1]; exact SqL.of g2) ?_ ?_
  · rintro i x σ G hx ⟨rfl, v, rfl⟩
    obtain ⟨n1, n2⟩ := nots x (List.mem_of_getElem? hx)
    refine ⟨_, rfl, _, rfl, own_not T gg.md n1 ⟨_, rfl, if_f rfl ?_⟩⟩
    refine ⟨_, rfl, _, rfl, own_not T gg.md n1 ⟨_, rfl, if_f rfl ?_⟩⟩
    exact ⟨_, rfl, _, rfl, in_not gg.md n2 ⟨_, rfl, if_f rfl ⟨rfl, _, rfl⟩⟩⟩
  rintro σ G ⟨rfl, v, rfl⟩
  have ucc : uniq (bs.map cn ++ bs.map cn) = bs.map cn := uniq_sub g.ndb fun x hx => hx
  have lbs : (bs.map cn).length = bs.length := List.length_map ..
  refine ⟨_, rfl, _, rfl, or_bans gg.md gg.md (by omega) (by rw [ucc]; omega) fun J3 p3 e3 b3 => ?_⟩
  rw [ucc] at b3
  refine ⟨_, rfl, own_bans T b3 (gg.md.ex e3) ⟨_, rfl, if_t (decide_eq_true rfl) ?_⟩⟩
  refine ⟨_, rfl, _, rfl, fun x dz hx hdz hne => ?_⟩
  refine made_bans (K := K) (us := []) (cs := []) hx hdz hne (gg.hs.ex e3) gg.o1 gg.o2 .nil (by decide) (by decide) fun J4 e4 b4 => ?_
  have e34 := e3.trans e4
  have un : uniq (bs.map cn ++ uniq ([] : List Pb)) = bs.map cn := by
    rw [show uniq ([] : List Pb) = [] from rfl, List.append_nil]
    exact uniq_nodup g.ndb
  refine or_bans (gg.md.ex e34) b4 (by show (bs.map cn).length + 0 ≤ 100; omega) (by rw [un]; omega) fun J5 p5 e5 b5 => ?_
  rw [un] at b5
  have e35 := e34.trans e5
  refine ⟨_, rfl, own_bans T b5 (gg.md.ex e35) ⟨_, rfl, if_t (decide_eq_true rfl) ?_⟩⟩
  have g5 := gg.ex e35
  exact ⟨_, rfl, _, rfl, _, rfl, kr, wr, p, sh, lb, ub, bs, rfl, g5.md, g5.hs, g5.o1, g5.o2, SqL.of g5.gb, g5.rb, by omega, fun H' e6 => q H' ((e02.trans e35).trans e6)⟩
end
end K23
namespace K23
open PySem L2 Kd Evl Ks Kt Ky
open PySem.W (Datum DatumOrd T3)
section
variable {P : Program} {w : World} {K : PySem.W.Frag} {mg : Str → Option Value} {base : Heap} {AA : Ads}
theorem take_filter {os : List Pb} {p : Pb → Bool} {i : Nat} {c : Pb} (h : os[i]? = some c) : (os.take (i + 1)).filter p = (os.take i).filter p ++ (if p c = true then [c] else []) := by
  rw [List.take_add_one, h]
  show (os.take i ++ [c]).filter p = _
  rw [List.filter_append]
  congr 1
  rw [List.filter_cons, List.filter_nil]
set_option maxHeartbeats 32000000 in
theorem rt_rest (T : Txt K mg AA) {cdv : Value} {A : Around} {outer : List Env} {s : Shared} {H0 : Hp} {E : XK} (hG : A.guards = some []) (hr : Room 11 (A.deeper (PyProof.Rows.envOfC "_law_right" (defScope s_law_right) s.heap.objs.size AA.a_law_right cdv))) :
    RtTail K AA (cxOf CX0 P w K mg base N_law_right "_law_right" (defScope s_law_right) AA.a_law_right cdv A outer s H0 E).nox 11 := by
  have G_law_roll : FnOk P w K mg base CX0 1 AA.a_law_roll AA.d_law_roll ["_law_dice_here", "_law_many"] spRoll := ok_law_roll T
  have G_law_mixed : FnOk P w K mg base CX0 2 AA.a_law_mixed AA.d_law_mixed ["_law_dice_here", "_law_items"] (spMixed K) := ok_law_mixed T
  have G_law_twin : FnOk P w K mg base CX0 5 AA.a_law_twin AA.d_law_twin ["_law_sheet"] (spSheetMade AA) := ok_law_twin T
  have G_law_shape_made : FnOk P w K mg base CX0 6 AA.a_law_shape_made AA.d_law_shape_made ["_law_thing", "_law_shape"] (spShapeMade AA) := ok_law_shape_made T
  have G_law_same_shape : FnOk P w K mg base CX0 1 AA.a_law_same_shape AA.d_law_same_shape ["_law_one", "_law_other"] spSame := ok_law_same_shape T
  have G_law_bans_made : FnOk P w K mg base CX0 10 AA.a_law_bans_made AA.d_law_bans_made ["_law_thing", "_law_bans"] (spBansMade K AA) := ok_law_bans_made T
  have G_law_is_told : FnOk P w K mg base CX0 8 AA.a_law_is_told AA.d_law_is_told ["_law_made", "_law_thing", "_law_bans"] (spTold K AA) := ok_law_is_told T
  have G_law_refuses : FnG P w K mg base 6 AA.a_law_refuses AA.d_law_refuses ["_law_made", "_law_value"] (spRefuses K AA) := ok_law_refuses T
  have G_Bans_init : Kw.FnA P w K mg base CX0 7 AA.a_Bans_init [] (spIniB K AA) := ok_Bans_init_A T
  have G_Bans_eq : FnOk P w K mg base CX0 5 AA.a_Bans_eq AA.d_Bans_eq ["self", "other"] (spEqB K AA) := ok_Bans_eq T
  have G_Bans_or : FnOk P w K mg base CX0 9 AA.a_Bans_or AA.d_Bans_or ["self", "other"] (spOrB AA) := ok_Bans_or T
  have G_Bans_contains : FnOk P w K mg base CX0 5 AA.a_Bans_contains AA.d_Bans_contains ["self", "value"] (spInB K AA) := ok_Bans_contains T
  have G_Bans_sheet : FnOk P w K mg base CX0 1 AA.a_Bans_sheet AA.d_Bans_sheet ["self"] (getS AA.C_Bans "own_sheet") := ok_Bans_sheet T
  have G_Bans_shapes : FnOk P w K mg base CX0 1 AA.a_Bans_shapes AA.d_Bans_shapes ["self"] (getS AA.C_Bans "own_shapes") := ok_Bans_shapes T
  have G_Sheet_eq : FnOk P w K mg base CX0 1 AA.a_Sheet_eq AA.d_Sheet_eq ["self", "other"] (spEqS K AA.C_Sheet) := ok_Sheet_eq T
  have hu : _ + 64 < cLine := hu64 hr
  have hu1 : _ + 1 < cLine := hu_of hr
  obtain ⟨tN, hN, qN⟩ := rt_last (base := base) (P := P) (w := w) (outer := outer) (s := s) (H0 := H0) (E := E) (cdv := cdv) (A := A) T hG hr
  refine ⟨_, (pss_cons (ps_setLc (i := 7) (own := [("_law_ban", 8)]) (g := gName 8) rfl sc_law_right.nd rfl rfl (sw_true rfl rfl rfl (by decide +kernel)) (pi_list (pv 13)) (blkOk_by (N := N_law_right) (sc := defScope s_law_right) (by decide +kernel)) (fun _ _ _ _ _ => (pg_name (i := 8) sc_law_right.nd rfl (by first | exact Or.inl rfl | exact Or.inr rfl))) (fun _ _ _ _ _ => (by exact pts_one (pt_cmpR (Kq.op_eqS (n := 0) (K := K) rfl Kq.askD_none (hr.mono (by decide))) (pe_lc (own := [("_law_one", 18)]) (g := gName 18) rfl sc_law_right.nd  (Kv.pi_list (K := K) rfl (pv 12)) (blkOk_by (by kernel_rfl)) (fun _ _ _ _ _ => (pg_name (i := 18) sc_law_right.nd rfl (by first | exact Or.inl rfl | exact Or.inr rfl))) (fun _ _ _ _ _ => (by exact pts_one (pt_val (pe_call G_law_same_shape (hr.mono (by decide)) (by rfl) T.g_law_same_shape T.k_law_same_shape T.b_law_same_shape .nil pass0 (pa_cons (pv 18) (pa_cons (pv 8) pa_nil)))))) (fun _ _ _ _ _ => by exact (pv 18))) (pe_lst pa_nil) (nomark _)))) (fun _ _ _ _ _ => by exact (pv 8)))
    (pss_cons (ps_for PassesOwn.never rfl (pi_list (pv 7)) (pg_name (i := 8) sc_law_right.nd rfl (by first | exact Or.inl rfl | exact Or.inr rfl))
      (pss_one (ps_if (pt_cmpR (op_inOwn (K := K) rfl G_Bans_contains T.m_Bans_contains.at_ T.m_Bans_contains.fn T.b_Bans_contains (hr.mono (by decide))) (pe_call G_law_shape_made (hr.mono (by decide)) (by rfl) T.g_law_shape_made T.k_law_shape_made T.b_law_shape_made .nil pass0 (pa_cons (pv 11) (pa_cons (pv 8) pa_nil))) (pv 2) rfl) (pss_one (ps_ret pe_bl)) pss_nil)))
    (pss_cons (ps_par (i := 16) (j := 17) rfl sc_law_right.nd rfl rfl (by decide) rfl rfl (by exact (pa_cons (pe_op (op_binOwn (K := K) (op := .BitOr) rfl G_Bans_or T.sf_Bans T.m_Bans_or.at_ T.m_Bans_or.fn T.b_Bans_or (hr.mono (by decide))) (pv 2) (pe_call G_law_bans_made (hr.mono (by decide)) (by rfl) T.g_law_bans_made T.k_law_bans_made T.b_law_bans_made .nil pass0 (pa_cons (pe_call G_law_twin (hr.mono (by decide)) (by rfl) T.g_law_twin T.k_law_twin T.b_law_twin .nil pass0 (pa_cons (pv 1) pa_nil)) (pa_cons (pv 13) pa_nil)))) (pa_cons (pe_call G_law_bans_made (hr.mono (by decide)) (by rfl) T.g_law_bans_made T.k_law_bans_made T.b_law_bans_made .nil pass0 (pa_cons (pv 11) (pa_cons (pv 13) pa_nil))) pa_nil))) rfl)
    (pss_cons (ps_setLc (i := 9) (own := [("_law_ban", 8)]) (g := gName 8) rfl sc_law_right.nd rfl rfl (sw_true rfl rfl rfl (by decide +kernel)) (pi_list (pv 12)) (blkOk_by (N := N_law_right) (sc := defScope s_law_right) (by decide +kernel)) (fun _ _ _ _ _ => (pg_name (i := 8) sc_law_right.nd rfl (by first | exact Or.inl rfl | exact Or.inr rfl))) (fun _ _ _ _ _ => (by exact pts_one (pt_cmpR (Kq.op_eqS (n := 0) (K := K) rfl Kq.askD_none (hr.mono (by decide))) (pe_lc (own := [("_law_one", 18)]) (g := gName 18) rfl sc_law_right.nd  (Kv.pi_list (K := K) rfl (pv 13)) (blkOk_by (by kernel_rfl)) (fun _ _ _ _ _ => (pg_name (i := 18) sc_law_right.nd rfl (by first | exact Or.inl rfl | exact Or.inr rfl))) (fun _ _ _ _ _ => (by exact pts_one (pt_val (pe_call G_law_same_shape (hr.mono (by decide)) (by rfl) T.g_law_same_shape T.k_law_same_shape T.b_law_same_shape .nil pass0 (pa_cons (pv 18) (pa_cons (pv 8) pa_nil)))))) (fun _ _ _ _ _ => by exact (pv 18))) (pe_lst pa_nil) (nomark _)))) (fun _ _ _ _ _ => by exact (pv 8)))
    (pss_cons (ps_if (pw_or (pt_not (pt_val (pe_call G_law_is_told (hr.mono (by decide)) (by rfl) T.g_law_is_told T.k_law_is_told T.b_law_is_told .nil pass0 (pa_cons (pv 16) (pa_cons (pv 11) (pa_cons (pe_op op_cat (pv 12) (pv 7)) pa_nil)))))) (pw_or1 (pt_not (pt_val (pe_call G_law_is_told (hr.mono (by decide)) (by rfl) T.g_law_is_told T.k_law_is_told T.b_law_is_told .nil pass0 (pa_cons (pe_op (op_binOwn (K := K) (op := .BitOr) rfl G_Bans_or T.sf_Bans T.m_Bans_or.at_ T.m_Bans_or.fn T.b_Bans_or (hr.mono (by decide))) (pv 17) (pv 2)) (pa_cons (pv 11) (pa_cons (pe_op op_cat (pv 13) (pv 9)) pa_nil)))))))).pt (pss_one (ps_ret pe_bl)) pss_nil)
    hN))))), ?_⟩
  intro Q J a ps p sh lb lo kr wr ub uo bs os v3 v4 v5 v6 v7 v8 v9 v10 v14 v15 v16 v17 v18 v19 v20 g q
  have few := g.lb6
  have few2 := g.lo2
  have lub := paired_len g.rb
  have luo := paired_len g.ro
  refine ⟨_, rfl, lo, rfl, ⟨_, SqL.of g.go⟩, fun D hD => lc_list (K := K) (a := lo) (xs := uo) (fun k G => ∃ acc : List V, Ex J G ∧ G D = some (.lst acc) ∧ Paired (BY kr wr J) acc ((os.take k).filter fun b => decide (cn b ∉ bs.map cn))) ⟨[], Ex.mut (Ex.refl _) hD, upd_same, .nil⟩ (fun k G _ ⟨_, e, _⟩ => SqL.of (e _ _ g.go)) ?_ ?_⟩
  · rintro j x G hx ⟨acc, e1, g1, r1⟩
    obtain ⟨c, hc, hv⟩ := paired_get2 g.ro hx
    have hv0 := hv
    obtain ⟨l1, q1, rfl, hq1, okc⟩ := hv
    have g2 := g.ex e1
    have la := paired_len r1
    have l2 := List.length_filter_le (fun b => decide (cn b ∉ bs.map cn)) (os.take j)
    rw [List.length_take] at l2
    refine ⟨rfl, _, rfl, lb, rfl, ⟨_, SqL.of g2.gb⟩, fun D2 hD2 => pick_lc (b := c) hD2 g2.gb g2.rb (by omega) (fun _ => rfl) (fun _ => rfl) (fun y d H5 hy e5 => ?_) (fun H5 acc2 e5 g5 rf em => ?_)⟩
    · intro H6 e6 Q6 q6
      obtain ⟨l2, p2, rfl, hp2, okd⟩ := hy
      exact ⟨_, rfl, _, rfl, p2, q1, l2, l1, d, c, rfl, hp2.ex e6, hq1.ex (e1.trans (e5.trans e6)), ⟨kr, wr, okd.pl⟩, ⟨kr, wr, okc.pl⟩, fun G1 e7 => ⟨_, rfl, q6 G1 e7⟩⟩
    refine ⟨(by show 0 ≤ sizeLine; decide), fun q0 hq0 => ?_⟩
    have e6 : Ex H5 (upd H5 q0 (.lst [])) := Ex.new hq0
    refine Kq.rowEq rf (SqL.of (e6 _ _ g5)) (SqL.of upd_same) ⟨_, rfl, ?_⟩
    generalize upd H5 q0 (.lst []) = H6 at e6 ⊢
    have e16 := e5.trans e6
    have g16 := e16 _ _ g1
    rw [em]
    by_cases z : cn c ∈ bs.map cn
    · refine if_f (decide_eq_false (fun y => y z)) ⟨acc, e1.trans e16, g16, ?_⟩
      rw [take_filter hc, if_neg (by rw [decide_eq_false (fun y => y z)]; exact Bool.false_ne_true), List.append_nil]
      exact r1
    · refine if_t (decide_eq_true z) ⟨_, rfl, acc, g16, len_lt (by omega), acc ++ [.ref q1], Ex.mut (e1.trans e16) hD, upd_same, ?_⟩
      rw [take_filter hc, if_pos (decide_eq_true z)]
      exact paired_app r1 (.cons hv0 .nil)
  rintro G ⟨acc, e1, g1, r1⟩
  rw [luo, List.take_of_length_le (Nat.le_refl _)] at r1
  have gG := g.ex e1
  have la := paired_len r1
  have lf := List.length_filter_le (fun b => decide (cn b ∉ bs.map cn)) os
  -- none of the rest is there
  refine ⟨_, rfl, D, rfl, ⟨_, SqL.of g1⟩, ?_⟩
  refine for_list (xs := acc) (fun i σ G2 => Ex G G2 ∧ ∃ v, σ = slots a ps p sh lb lo v3 v4 v5 v6 (some (.ref D)) v v9 v10 v14 v15 v16 v17 v18 v19 v20) ⟨Ex.refl _, v8, rfl⟩ (fun i σ G2 _ h => SqL.of (h.1 _ _ g1)) ?_ ?_
  · rintro i x σ G2 hx ⟨e2, v, rfl⟩
    obtain ⟨c, hc, hv⟩ := paired_get2 r1 hx
    have mc := (List.mem_filter.mp (List.mem_of_getElem? hc)).2
    obtain ⟨l1, q1, rfl, hq1, okc⟩ := hv
    have gg := gG.ex e2
    refine ⟨_, rfl, _, rfl, sh, q1, l1, kr, wr, c, rfl, gg.hs, gg.o1, gg.o2, hq1.ex (e1.trans e2), okc.pl, fun G3 x3 e3 hx3 => ⟨_, rfl, in_bans (gg.md.ex e3) hx3 okc.ok.cn ⟨_, rfl, if_f ?_ ⟨e2.trans e3, _, rfl⟩⟩⟩⟩
    exact decide_eq_false (of_decide_eq_true mc)
  rintro σ G2 ⟨e2, v, rfl⟩
  have g2 := gG.ex e2
  have x2 := e1.trans e2
  -- both, two
  have uo1 : uniq (os.map cn) = os.map cn := uniq_nodup g.ndo
  have ub1 : uniq (bs.map cn ++ os.map cn) = bs.map cn ++ (os.map cn).filter fun c => decide (c ∉ bs.map cn) := uniq_app g.ndb g.ndo
  have ub2 : uniq (os.map cn ++ bs.map cn) = os.map cn ++ (bs.map cn).filter fun c => decide (c ∉ os.map cn) := uniq_app g.ndo g.ndb
  have lo1 : (os.map cn).length = os.length := List.length_map ..
  have lb1 : (bs.map cn).length = bs.length := List.length_map ..
  have lf1 := List.length_filter_le (fun c => decide (c ∉ bs.map cn)) (os.map cn)
  have lf2 := List.length_filter_le (fun c => decide (c ∉ os.map cn)) (bs.map cn)
  refine ⟨_, rfl, _, rfl, ps, kr, wr, rfl, g2.sd, g2.nk, g2.nw, fun G3 tw e3 htw => ?_⟩
  have g3 := g2.ex e3
  refine ⟨_, rfl, kr, wr, tw, lo, uo, os, rfl, htw, g3.o1, g3.o2, SqL.of g3.go, g3.ro, by omega, by rw [uo1]; omega, fun G4 pt e4 hpt => ?_⟩
  rw [uo1] at hpt
  have g4 := g3.ex e4
  refine or_bans g4.md hpt (by omega) (by rw [ub1, List.length_append]; omega) fun G5 pb e5 hpb => ?_
  rw [ub1, ← filter_cn, ← List.map_append] at hpb
  have g5 := g4.ex e5
  refine ⟨_, rfl, _, rfl, kr, wr, sh, lo, uo, os, rfl, g5.hs, g5.o1, g5.o2, SqL.of g5.go, g5.ro, by omega, by rw [uo1]; omega, fun G6 pw e6 hpw => ⟨_, _, rfl, ?_⟩⟩
  rw [uo1] at hpw
  have g6 := g5.ex e6
  have x6 := (((x2.trans e3).trans e4).trans e5).trans e6
  -- what is behind
  refine ⟨_, rfl, lb, rfl, ⟨_, SqL.of g6.gb⟩, fun D3 hD3 => lc_list (K := K) (a := lb) (xs := ub) (fun k G => ∃ acc : List V, Ex G6 G ∧ G D3 = some (.lst acc) ∧ Paired (BY kr wr J) acc ((bs.take k).filter fun b => decide (cn b ∉ os.map cn))) ⟨[], Ex.mut (Ex.refl _) hD3, upd_same, .nil⟩ (fun k G _ ⟨_, e, _⟩ => SqL.of (e _ _ g6.gb)) ?_ ?_⟩
  · rintro j x G7 hx ⟨acc3, e7, g7, r7⟩
    obtain ⟨c, hc, hv⟩ := paired_get2 g.rb hx
    have hv0 := hv
    obtain ⟨l1, q1, rfl, hq1, okc⟩ := hv
    have g8 := g6.ex e7
    have la := paired_len r7
    have l2 := List.length_filter_le (fun b => decide (cn b ∉ os.map cn)) (bs.take j)
    rw [List.length_take] at l2
    refine ⟨rfl, _, rfl, lo, rfl, ⟨_, SqL.of g8.go⟩, fun D2 hD2 => pick_lc (b := c) hD2 g8.go g8.ro (by omega) (fun _ => rfl) (fun _ => rfl) (fun y d H5 hy e5 => ?_) (fun H5 acc2 e5 g5 rf em => ?_)⟩
    · intro H6 e6 Q6 q6
      obtain ⟨l2, p2, rfl, hp2, okd⟩ := hy
      exact ⟨_, rfl, _, rfl, p2, q1, l2, l1, d, c, rfl, hp2.ex e6, hq1.ex (x6.trans (e7.trans (e5.trans e6))), ⟨kr, wr, okd.pl⟩, ⟨kr, wr, okc.pl⟩, fun G1 e7 => ⟨_, rfl, q6 G1 e7⟩⟩
    refine ⟨(by show 0 ≤ sizeLine; decide), fun q0 hq0 => ?_⟩
    have e6 : Ex H5 (upd H5 q0 (.lst [])) := Ex.new hq0
    refine Kq.rowEq rf (SqL.of (e6 _ _ g5)) (SqL.of upd_same) ⟨_, rfl, ?_⟩
    generalize upd H5 q0 (.lst []) = H6 at e6 ⊢
    have e16 := e5.trans e6
    have g16 := e16 _ _ g7
    rw [em]
    by_cases z : cn c ∈ os.map cn
    · refine if_f (decide_eq_false (fun y => y z)) ⟨acc3, e7.trans e16, g16, ?_⟩
      rw [take_filter hc, if_neg (by rw [decide_eq_false (fun y => y z)]; exact Bool.false_ne_true), List.append_nil]
      exact r7
    · refine if_t (decide_eq_true z) ⟨_, rfl, acc3, g16, len_lt (by omega), acc3 ++ [.ref q1], Ex.mut (e7.trans e16) hD3, upd_same, ?_⟩
      rw [take_filter hc, if_pos (decide_eq_true z)]
      exact paired_app r7 (.cons hv0 .nil)
  rintro G7 ⟨acc3, e7, g7, r7⟩
  rw [lub, List.take_of_length_le (Nat.le_refl _)] at r7
  have g8 := g6.ex e7
  have x7 := x6.trans e7
  have la3 := paired_len r7
  have lf3 := List.length_filter_le (fun b => decide (cn b ∉ os.map cn)) bs
  -- both are told
  refine ⟨_, rfl, _, rfl, _, rfl, _, rfl, _, _, _, _, rfl, rfl, g8.gb, (((((e2.trans e3).trans e4).trans e5).trans e6).trans e7) _ _ g1, Nat.le_of_lt (len_lt (by omega)), fun c1 nc1 => ?_⟩
  have e8 : Ex G7 (upd G7 c1 (.lst (ub ++ acc))) := Ex.new nc1
  have h8 : upd G7 c1 (.lst (ub ++ acc)) c1 = some (.lst (ub ++ acc)) := upd_same
  generalize upd G7 c1 (.lst (ub ++ acc)) = G8 at e8 h8 ⊢
  have g9 := g8.ex e8
  refine ⟨kr, wr, pb, sh, c1, ub ++ acc, _, rfl, hpb.ex ((e6.trans e7).trans e8), g9.hs, g9.o1, g9.o2, SqL.of h8, paired_app g9.rb (by_ex r1 (x7.trans e8)), by rw [List.length_append]; omega, fun G9 e9 => ⟨_, rfl, if_f rfl ?_⟩⟩
  have ga := g9.ex e9
  have x9 := (x7.trans e8).trans e9
  refine ⟨_, rfl, _, rfl, or_bans (hpw.ex ((e7.trans e8).trans e9)) ga.md (by omega) (by rw [ub2, List.length_append]; omega) fun Ga pz ea hpz => ?_⟩
  rw [ub2, ← filter_cn, ← List.map_append] at hpz
  have gb := ga.ex ea
  refine ⟨_, rfl, _, rfl, _, rfl, _, _, _, _, rfl, rfl, gb.go, ((e8.trans e9).trans ea) _ _ g7, Nat.le_of_lt (len_lt (by omega)), fun c2 nc2 => ?_⟩
  have eb : Ex Ga (upd Ga c2 (.lst (uo ++ acc3))) := Ex.new nc2
  have hb : upd Ga c2 (.lst (uo ++ acc3)) c2 = some (.lst (uo ++ acc3)) := upd_same
  generalize upd Ga c2 (.lst (uo ++ acc3)) = Gb at eb hb ⊢
  have gc := gb.ex eb
  refine ⟨kr, wr, pz, sh, c2, uo ++ acc3, _, rfl, hpz.ex eb, gc.hs, gc.o1, gc.o2, SqL.of hb, paired_app gc.ro (by_ex r7 ((x9.trans ea).trans eb)), by rw [List.length_append]; omega, fun Gc ec => ⟨_, rfl, if_f rfl ?_⟩⟩
  exact qN Q Gc a ps p sh lb lo kr wr ub uo bs os _ _ _ _ _ _ _ _ _ _ _ _ _ _ _ (gc.ex ec) fun H' e => q H' ((((x9.trans ea).trans eb).trans ec).trans e)
end
end K23
namespace K23
open PySem L2 Kd Evl Ks Kt Ky
open PySem.W (Datum DatumOrd T3)
instance : Low (List Int) := ⟨by decide⟩
theorem dpOnes {K : PySem.W.Frag} {H : Hp} : ∀ n : Nat, HdL K H (List.replicate n (V.int 1)) (List.replicate n (1 : Int))
  | 0 => .nil
  | n + 1 => .cons (hd_int 1) (dpOnes n)
section
variable {P : Program} {w : World} {K : PySem.W.Frag} {mg : Str → Option Value} {base : Heap} {AA : Ads}
set_option maxHeartbeats 32000000 in
theorem rt_mixed (T : Txt K mg AA) {cdv : Value} {A : Around} {outer : List Env} {s : Shared} {H0 : Hp} {E : XK} (hG : A.guards = some []) (hr : Room 11 (A.deeper (PyProof.Rows.envOfC "_law_right" (defScope s_law_right) s.heap.objs.size AA.a_law_right cdv))) :
    RtTail K AA (cxOf CX0 P w K mg base N_law_right "_law_right" (defScope s_law_right) AA.a_law_right cdv A outer s H0 E).nox 5 := by
  have G_law_roll : FnOk P w K mg base CX0 1 AA.a_law_roll AA.d_law_roll ["_law_dice_here", "_law_many"] spRoll := ok_law_roll T
  have G_law_mixed : FnOk P w K mg base CX0 2 AA.a_law_mixed AA.d_law_mixed ["_law_dice_here", "_law_items"] (spMixed K) := ok_law_mixed T
  have G_law_twin : FnOk P w K mg base CX0 5 AA.a_law_twin AA.d_law_twin ["_law_sheet"] (spSheetMade AA) := ok_law_twin T
  have G_law_shape_made : FnOk P w K mg base CX0 6 AA.a_law_shape_made AA.d_law_shape_made ["_law_thing", "_law_shape"] (spShapeMade AA) := ok_law_shape_made T
  have G_law_same_shape : FnOk P w K mg base CX0 1 AA.a_law_same_shape AA.d_law_same_shape ["_law_one", "_law_other"] spSame := ok_law_same_shape T
  have G_law_bans_made : FnOk P w K mg base CX0 10 AA.a_law_bans_made AA.d_law_bans_made ["_law_thing", "_law_bans"] (spBansMade K AA) := ok_law_bans_made T
  have G_law_is_told : FnOk P w K mg base CX0 8 AA.a_law_is_told AA.d_law_is_told ["_law_made", "_law_thing", "_law_bans"] (spTold K AA) := ok_law_is_told T
  have G_law_refuses : FnG P w K mg base 6 AA.a_law_refuses AA.d_law_refuses ["_law_made", "_law_value"] (spRefuses K AA) := ok_law_refuses T
  have G_Bans_init : Kw.FnA P w K mg base CX0 7 AA.a_Bans_init [] (spIniB K AA) := ok_Bans_init_A T
  have G_Bans_eq : FnOk P w K mg base CX0 5 AA.a_Bans_eq AA.d_Bans_eq ["self", "other"] (spEqB K AA) := ok_Bans_eq T
  have G_Bans_or : FnOk P w K mg base CX0 9 AA.a_Bans_or AA.d_Bans_or ["self", "other"] (spOrB AA) := ok_Bans_or T
  have G_Bans_contains : FnOk P w K mg base CX0 5 AA.a_Bans_contains AA.d_Bans_contains ["self", "value"] (spInB K AA) := ok_Bans_contains T
  have G_Bans_sheet : FnOk P w K mg base CX0 1 AA.a_Bans_sheet AA.d_Bans_sheet ["self"] (getS AA.C_Bans "own_sheet") := ok_Bans_sheet T
  have G_Bans_shapes : FnOk P w K mg base CX0 1 AA.a_Bans_shapes AA.d_Bans_shapes ["self"] (getS AA.C_Bans "own_shapes") := ok_Bans_shapes T
  have G_Sheet_eq : FnOk P w K mg base CX0 1 AA.a_Sheet_eq AA.d_Sheet_eq ["self", "other"] (spEqS K AA.C_Sheet) := ok_Sheet_eq T
  have hu : _ + 64 < cLine := hu64 hr
  have hu1 : _ + 1 < cLine := hu_of hr
  obtain ⟨tN, hN, qN⟩ := rt_rest (base := base) (P := P) (w := w) (outer := outer) (s := s) (H0 := H0) (E := E) (cdv := cdv) (A := A) T hG hr
  refine ⟨_, (pss_cons (ps_set (i := 5) sc_law_right.nd rfl (Or.inl rfl) (pe_call G_law_mixed (hr.mono (by decide)) (by rfl) T.g_law_mixed T.k_law_mixed T.b_law_mixed .nil pass0 (pa_cons (pv 0) (pa_cons (pv 12) pa_nil))))
    (pss_cons (ps_set (i := 6) sc_law_right.nd rfl (Or.inl rfl) (pe_cmpR (op_eqP (K := K) rfl hu) (pe_lc (own := [("_law_one", 18), ("_law_other", 19)]) (g := gTup K 2 (gCons (gName 18) (gCons (gName 19) (gNil)))) rfl sc_law_right.nd  (pi_zip (by rfl) T.n_zip (pa_cons (pv 12) (pa_cons (pv 5) pa_nil))) (blkOk_by (N := N_law_right) (sc := defScope s_law_right) (by decide +kernel)) (fun _ _ _ _ _ => by exact (pg_tup rfl (pgs_cons (pg_name (i := 18) sc_law_right.nd rfl (by first | exact Or.inl rfl | exact Or.inr rfl)) (pgs_cons (pg_name (i := 19) sc_law_right.nd rfl (Or.inl rfl)) pgs_nil)))) (fun _ _ _ _ _ => (by exact pts_one (pt_not (pt_val (pe_call G_law_same_shape (hr.mono (by decide)) (by rfl) T.g_law_same_shape T.k_law_same_shape T.b_law_same_shape .nil pass0 (pa_cons (pv 18) (pa_cons (pv 19) pa_nil))))))) (fun _ _ _ _ _ => by exact pe_int)) (pe_lst pa_nil) (nomark _)))
    (pss_cons (ps_par (i := 14) (j := 15) rfl sc_law_right.nd rfl rfl (by decide) rfl rfl (by exact (pa_cons (pe_call G_law_bans_made (hr.mono (by decide)) (by rfl) T.g_law_bans_made T.k_law_bans_made T.b_law_bans_made .nil pass0 (pa_cons (pv 11) (pa_cons (pv 5) pa_nil))) (pa_cons (pe_call G_law_bans_made (hr.mono (by decide)) (by rfl) T.g_law_bans_made T.k_law_bans_made T.b_law_bans_made .nil pass0 (pa_cons (pv 11) (pa_cons (pe_slice sl_list (pv 12) (po_some pe_int) po_none) pa_nil))) pa_nil))) rfl)
    (pss_cons (ps_if (pw_or (pt_cmpR op_ne (pe_cmpR (op_ownEq G_Bans_eq (T.I_Bans.own T.m_Bans_eq) T.b_Bans_eq (hr.mono (by decide))) (pv 2) (pv 14) (nomark _)) (pv 6) (nomark _)) (pw_or1 (pt_cmpR op_eq (pe_cmpR (op_ownNe G_Bans_eq (T.I_Bans.own T.m_Bans_eq) T.b_Bans_eq (hr.mono (by decide))) (pv 2) (pv 14) (nomark _)) (pv 6) (nomark _)))).pt (pss_one (ps_ret pe_bl)) pss_nil)
    (pss_cons (ps_if (pw_or (pt_cmpR (op_ownNe G_Bans_eq (T.I_Bans.own T.m_Bans_eq) T.b_Bans_eq (hr.mono (by decide))) (pv 2) (pe_call G_law_bans_made (hr.mono (by decide)) (by rfl) T.g_law_bans_made T.k_law_bans_made T.b_law_bans_made .nil pass0 (pa_cons (pe_call G_law_twin (hr.mono (by decide)) (by rfl) T.g_law_twin T.k_law_twin T.b_law_twin .nil pass0 (pa_cons (pv 1) pa_nil)) (pa_cons (pv 12) pa_nil))) (nomark _)) (pw_or1 (pt_cmpR (op_ownNe G_Sheet_eq (T.I_Sheet.own T.m_Sheet_eq) T.b_Sheet_eq (hr.mono (by decide))) (pe_prop (pv 2) T.cl_Bans T.P_Bans_sheet G_Bans_sheet (hr.mono (by decide)) T.b_Bans_sheet .nil pass0 rfl) (pe_call G_law_twin (hr.mono (by decide)) (by rfl) T.g_law_twin T.k_law_twin T.b_law_twin .nil pass0 (pa_cons (pv 1) pa_nil)) (nomark _)))).pt (pss_one (ps_ret pe_bl)) pss_nil)
    (pss_cons (ps_if (pw_and (pt_cmpR (Kq.op_neL (n := 0) (K := K) rfl Kq.askD_none (hr.mono (by decide))) (pv 12) (pe_lst pa_nil) (nomark _)) (pw_and1 (pw_or (pt_cmpR (op_ownEq G_Bans_eq (T.I_Bans.own T.m_Bans_eq) T.b_Bans_eq (hr.mono (by decide))) (pv 2) (pv 15) (nomark _)) (pw_or1 (pt_cmpR (op_inOwn (K := K) rfl G_Bans_contains T.m_Bans_contains.at_ T.m_Bans_contains.fn T.b_Bans_contains (hr.mono (by decide))) (pe_call G_law_shape_made (hr.mono (by decide)) (by rfl) T.g_law_shape_made T.k_law_shape_made T.b_law_shape_made .nil pass0 (pa_cons (pv 11) (pa_cons (pe_ix ix_list (pv 12) pe_int (fun _ _ => rfl)) pa_nil))) (pv 15) rfl))).pt)).pt (pss_one (ps_ret pe_bl)) pss_nil)
    hN)))))), ?_⟩
  intro Q J a ps p sh lb lo kr wr ub uo bs os v3 v4 v5 v6 v7 v8 v9 v10 v14 v15 v16 v17 v18 v19 v20 g q
  have few := g.lb6
  have lub := paired_len g.rb
  have lbm : (bs.map cn).length = bs.length := List.length_map ..
  refine ⟨_, rfl, _, rfl, a, lb, ub, rfl, g.da, SqL.of g.gb, by omega, by_refs g.rb, fun ys pm J1 perm e1 _ hm => ?_⟩
  have g1 := g.ex e1
  obtain ⟨ms, mperm, rm⟩ := paired_perm perm g.rb
  have lys := paired_len rm
  have lms := mperm.length_eq
  have ndm : (ms.map cn).Nodup := (mperm.map cn).nodup_iff.mpr g.ndb
  -- is it the same
  refine ⟨_, rfl, _, rfl, lb, pm, ub, ys, rfl, SqL.of g1.gb, SqL.of hm, fun D hD => ?_⟩
  refine lc_it (walk_zip (n := bs.length) (xs := ub) (ys := ys) (by omega)) (fun k G => ∃ n : Nat, Ex J1 G ∧ G D = some (.lst (List.replicate n (V.int 1))) ∧ n ≤ k ∧ decide (n = 0) = decide ((bs.take k).map cn = (ms.take k).map cn)) ⟨0, Ex.mut (Ex.refl _) hD, upd_same, Nat.le_refl _, rfl⟩ (fun k G _ ⟨_, e, _⟩ => ⟨SqL.of (e _ _ g1.gb), SqL.of (e _ _ hm)⟩) ?_ ?_
  · rintro k x G G' hk ⟨n, e2, h2, hn, en⟩ ⟨T1, x1, y1, rfl, hT, rfl, hx1, hy1⟩
    dsimp only at hx1 hy1
    have e3 : Ex J1 (upd G T1 (.tup [x1, y1])) := e2.trans (Ex.new hT)
    have h3 := (Ex.new (o := HO.tup [x1, y1]) hT) _ _ h2
    have g3 : upd G T1 (.tup [x1, y1]) T1 = some (.tup [x1, y1]) := upd_same
    generalize upd G T1 (.tup [x1, y1]) = G3 at e3 h3 g3 ⊢
    obtain ⟨c, hc, l1, q1, rfl, hq1, okc⟩ := paired_get2 (by_ex g1.rb e3) hx1
    obtain ⟨d, hd, l2, q2, rfl, hq2, okd⟩ := paired_get2 (by_ex rm (e1.trans e3)) hy1
    refine ⟨T1, _, rfl, SqT.of g3, rfl, _, _, rfl, _, _, rfl, rfl, rfl, ?_⟩
    refine ⟨_, rfl, _, rfl, q1, q2, l1, l2, c, d, rfl, hq1, hq2, ⟨kr, wr, okc.pl⟩, ⟨kr, wr, okd.pl⟩, fun G4 e4 => ⟨_, rfl, ?_⟩⟩
    have h4 := e4 _ _ h3
    have tb : (bs.take (k + 1)).map cn = (bs.take k).map cn ++ [cn c] := by rw [List.take_add_one, hc, List.map_append]; rfl
    have tm : (ms.take (k + 1)).map cn = (ms.take k).map cn ++ [cn d] := by rw [List.take_add_one, hd, List.map_append]; rfl
    have sl : ((bs.take k).map cn).length = ((ms.take k).map cn).length := by rw [List.length_map, List.length_map, List.length_take, List.length_take]; omega
    by_cases z : cn c = cn d
    · refine if_f (by rw [decide_eq_true z]; rfl) ⟨n, e3.trans e4, h4, by omega, ?_⟩
      rw [en, tb, tm, z]
      exact decide_eq_decide.mpr ⟨fun y => by rw [y], fun y => (List.append_inj y sl).1⟩
    · refine if_t (by rw [decide_eq_false z]; rfl) ⟨_, h4, len_lt (by rw [List.length_replicate]; omega), n + 1, Ex.mut (e3.trans e4) hD, by rw [upd_same, List.replicate_succ'], by omega, ?_⟩
      rw [tb, tm]
      exact decide_eq_decide.mpr ⟨fun y => by omega, fun y => absurd (List.cons.inj (List.append_inj y sl).2).1 z⟩
  rintro G ⟨n, e2, h2, hn, en⟩
  rw [List.take_of_length_le (Nat.le_refl _), List.take_of_length_le (by omega)] at en
  refine ⟨(by show 0 ≤ sizeLine; decide), fun q0 hq0 => ?_⟩
  have e3 : Ex G (upd G q0 (.lst [])) := Ex.new hq0
  refine eqP (hd_list (SqL.of (e3 _ _ h2)) (dpOnes n)) (hd_list (α := Int) (SqL.of upd_same) .nil) ?_
  have e4 : decide (List.replicate n (1 : Int) = []) = decide (bs.map cn = ms.map cn) := by
    rw [← en]
    exact decide_eq_decide.mpr (by cases n <;> simp [List.replicate_succ])
  rw [e4]
  generalize upd G q0 (.lst []) = G1 at e3 ⊢
  have e13 := e2.trans e3
  have g3 := g1.ex e13
  have x3 := e1.trans e13
  -- again, less
  have um : uniq (ms.map cn) = ms.map cn := uniq_nodup ndm
  have nd1 : ((bs.drop 1).map cn).Nodup := by rw [List.map_drop]; exact g.ndb.sublist (List.drop_sublist _ _)
  have ul : uniq ((bs.drop 1).map cn) = (bs.drop 1).map cn := uniq_nodup nd1
  refine ⟨_, rfl, _, rfl, kr, wr, sh, pm, ys, ms, rfl, g3.hs, g3.o1, g3.o2, SqL.of (e13 _ _ hm), by_ex rm x3, by omega, by rw [um, List.length_map]; omega, fun J2 pa e4 ha => ?_⟩
  rw [um] at ha
  have g4 := g3.ex e4
  refine ⟨_, rfl, _, rfl, _, rfl, _, _, rfl, SqL.of g4.gb, fun s1 hs1 => ?_⟩
  rw [show cutV ub (some (1 : Int)) none = ub.drop 1 from cut_from ub 1]
  have e5 : Ex J2 (upd J2 s1 (.lst (ub.drop 1))) := Ex.new hs1
  have h5 : upd J2 s1 (.lst (ub.drop 1)) s1 = some (.lst (ub.drop 1)) := upd_same
  generalize upd J2 s1 (.lst (ub.drop 1)) = J3 at e5 h5 ⊢
  have g5 := g4.ex e5
  refine ⟨kr, wr, sh, s1, ub.drop 1, bs.drop 1, rfl, g5.hs, g5.o1, g5.o2, SqL.of h5, paired_drop 1 g5.rb, by rw [List.length_drop]; omega, by rw [ul, List.length_map, List.length_drop]; omega, fun J4 pl e6 hl => ⟨_, _, rfl, ?_⟩⟩
  rw [ul] at hl
  have g6 := g5.ex e6
  have ha6 := ha.ex (e5.trans e6)
  have x6 := ((x3.trans e4).trans e5).trans e6
  refine ⟨_, rfl, _, rfl, own_bans T g6.md ha6 ?_⟩
  refine ⟨_, rfl, rfl, _, rfl, ?_⟩
  refine if_f (by simp) ?_
  refine ⟨_, rfl, _, rfl, own_bans T g6.md ha6 ?_⟩
  refine ⟨_, rfl, rfl, _, rfl, ?_⟩
  refine if_f (by simp) ?_
  -- the twin
  have ub1 : uniq (bs.map cn) = bs.map cn := uniq_nodup g.ndb
  refine ⟨_, rfl, _, rfl, ps, kr, wr, rfl, g6.sd, g6.nk, g6.nw, fun J5 tw e7 htw => ?_⟩
  have g7 := g6.ex e7
  refine ⟨_, rfl, kr, wr, tw, lb, ub, bs, rfl, htw, g7.o1, g7.o2, SqL.of g7.gb, g7.rb, by omega, by rw [ub1]; omega, fun J6 pt e8 hpt => ?_⟩
  rw [ub1] at hpt
  have g8 := g7.ex e8
  refine own_bans T g8.md hpt ⟨_, rfl, if_f (by rw [decide_eq_true rfl]; rfl) ?_⟩
  obtain ⟨dx, sb, t, us, h1, hsb, h3', h4', h5', h6'⟩ := g8.md
  refine ⟨_, rfl, p, dx, _, rfl, h1, ⟨p, dx, _, _, rfl, h1, bf_sheet, ?_⟩⟩
  refine ⟨_, rfl, ps, kr, wr, rfl, g8.sd, g8.nk, g8.nw, fun J7 tw2 e9 htw2 => ?_⟩
  have g9 := g8.ex e9
  obtain ⟨d1, f1, k1, w1, s1', _⟩ := id (hsb.ex e9).at_
  obtain ⟨d2, f2, k2, w2, s2', _⟩ := id htw2.at_
  refine ⟨sb, d1, f1, _, rfl, s1', T.I_Sheet.ty s2', not_first_self, sb, _, _, _, some (srt kr, srt wr), rfl, hsb.ex e9, g.o1, g.o2, .inr ⟨tw2, _, _, rfl, htw2, g.o1, g.o2, rfl⟩, _, rfl, _, rfl, ?_⟩
  rw [decide_eq_true rfl]
  refine if_f rfl ?_
  have x9 := ((x6.trans e7).trans e8).trans e9
  have hl9 := hl.ex ((e7.trans e8).trans e9)
  -- one less
  refine ⟨_, rfl, (by show 0 ≤ sizeLine; decide), fun q1 hq1 => ?_⟩
  have ea : Ex J7 (upd J7 q1 (.lst [])) := Ex.new hq1
  refine Kq.rowNe (by_refs g.rb) (SqL.of (ea _ _ g9.gb)) (SqL.of upd_same) ⟨_, rfl, ?_⟩
  generalize upd J7 q1 (.lst []) = J8 at ea ⊢
  have ga := g9.ex ea
  have xa := x9.trans ea
  cases ub with
  | nil => exact if_f rfl (if_f rfl (qN Q J8 a ps p sh lb lo kr wr [] uo bs os _ _ _ _ _ _ _ _ _ _ _ _ _ _ _ ga fun H' e => q H' (xa.trans e)))
  | cons u0 ub =>
    obtain ⟨b0, hb0, l1, q2, rfl, hq2, ok0⟩ := paired_get2 (i := 0) ga.rb rfl
    obtain ⟨bt, rfl⟩ : ∃ bt, bs = b0 :: bt := by
      cases bs with
      | nil => cases hb0
      | cons b bt => cases hb0; exact ⟨bt, rfl⟩
    refine if_t rfl ?_
    refine ⟨_, rfl, _, rfl, own_bans T ga.md (hl9.ex ea) ⟨_, rfl, if_f (decide_eq_false fun z => ?_) ?_⟩⟩
    · have z1 := congrArg List.length z
      rw [List.length_map, List.length_map, List.length_drop, List.length_cons] at z1
      omega
    refine ⟨_, rfl, _, rfl, lb, _, _, .ref q2, rfl, rfl, SqL.of ga.gb, atI_nat (j := 0) rfl, sh, q2, l1, kr, wr, b0, rfl, ga.hs, ga.o1, ga.o2, hq2, ok0.pl, fun J9 x9 eb hx9 => ?_⟩
    have gb := ga.ex eb
    refine ⟨_, rfl, in_bans ((hl9.ex ea).ex eb) hx9 ok0.ok.cn ⟨_, rfl, if_f (decide_eq_false fun z => ?_) ?_⟩⟩
    · have nd := g.ndb
      rw [List.map_cons, List.nodup_cons] at nd
      exact nd.1 z
    · exact qN Q J9 a ps p sh lb lo kr wr _ uo _ os _ _ _ _ _ _ _ _ _ _ _ _ _ _ _ gb fun H' e => q H' ((xa.trans eb).trans e)
end
end K23
namespace K23
open PySem L2 Kd Evl Ks Kt Ky
open PySem.W (Datum DatumOrd T3)
def Nr (i : Int) : Prop := -1 ≤ i ∧ i < 20000000000000
theorem nr_log {i : Int} (h : Nr i) : i.natAbs.log2 < 1920 := by
  obtain ⟨h0, h1⟩ := h
  by_cases c : i.natAbs = 0
  · rw [c]; decide
  · refine (Nat.log2_lt c).mpr ?_
    have h2 : i.natAbs < 2 ^ 64 := by omega
    exact Nat.lt_of_lt_of_le h2 (Nat.pow_le_pow_right (by decide) (by decide))
/-- a value that is no number of n items, and what repr tells of it -/
def Odd (K : PySem.W.Frag) (H : Hp) (n : Nat) (v : V) : Prop := ∃ d z, Dv K H v d ∧ numD n d = false ∧ ShownV K H v z
theorem Odd.ex {K : PySem.W.Frag} {H H' : Hp} {n : Nat} {v : V} (h : Odd K H n v) (e : Ex H H') : Odd K H' n v := by
  obtain ⟨d, z, h1, h2, h3⟩ := h
  exact ⟨d, z, dv_ex e h1, h2, h3.ex e⟩
theorem odd_int {K : PySem.W.Frag} {H : Hp} {n : Nat} {i : Int} (h : Nr i) (no : ¬ (0 ≤ i ∧ i < (n : Int))) : Odd K H n (.int i) := by
  refine ⟨.int i, _, .inl (.int i), ?_, .inl ⟨_, .int i, decide_eq_true (nr_log h), (by simp only [PyData.depth]; decide), ?_, rfl⟩⟩
  · show (decide (0 ≤ i) && decide (i < (n : Int))) = false
    by_cases c : 0 ≤ i
    · rw [decide_eq_false (fun y => no ⟨c, y⟩), Bool.and_false]
    · rw [decide_eq_false c]; rfl
  · have z := PyProof.Rows.int_text_len_1921 (nr_log h)
    have s : sizeLine = 16777216 := by decide
    simp only [PyData.shown]
    omega
section
variable {P : Program} {w : World} {K : PySem.W.Frag} {mg : Str → Option Value} {base : Heap} {AA : Ads}
set_option maxHeartbeats 32000000 in
theorem rt_odds (T : Txt K mg AA) {cdv : Value} {A : Around} {outer : List Env} {s : Shared} {H0 : Hp} {E : XK} (hG : A.guards = some []) (hr : Room 11 (A.deeper (PyProof.Rows.envOfC "_law_right" (defScope s_law_right) s.heap.objs.size AA.a_law_right cdv))) :
    RtTail K AA (cxOf CX0 P w K mg base N_law_right "_law_right" (defScope s_law_right) AA.a_law_right cdv A outer s H0 E).nox 3 := by
  have G_law_roll : FnOk P w K mg base CX0 1 AA.a_law_roll AA.d_law_roll ["_law_dice_here", "_law_many"] spRoll := ok_law_roll T
  have G_law_mixed : FnOk P w K mg base CX0 2 AA.a_law_mixed AA.d_law_mixed ["_law_dice_here", "_law_items"] (spMixed K) := ok_law_mixed T
  have G_law_twin : FnOk P w K mg base CX0 5 AA.a_law_twin AA.d_law_twin ["_law_sheet"] (spSheetMade AA) := ok_law_twin T
  have G_law_shape_made : FnOk P w K mg base CX0 6 AA.a_law_shape_made AA.d_law_shape_made ["_law_thing", "_law_shape"] (spShapeMade AA) := ok_law_shape_made T
  have G_law_same_shape : FnOk P w K mg base CX0 1 AA.a_law_same_shape AA.d_law_same_shape ["_law_one", "_law_other"] spSame := ok_law_same_shape T
  have G_law_bans_made : FnOk P w K mg base CX0 10 AA.a_law_bans_made AA.d_law_bans_made ["_law_thing", "_law_bans"] (spBansMade K AA) := ok_law_bans_made T
  have G_law_is_told : FnOk P w K mg base CX0 8 AA.a_law_is_told AA.d_law_is_told ["_law_made", "_law_thing", "_law_bans"] (spTold K AA) := ok_law_is_told T
  have G_law_refuses : FnG P w K mg base 6 AA.a_law_refuses AA.d_law_refuses ["_law_made", "_law_value"] (spRefuses K AA) := ok_law_refuses T
  have G_Bans_init : Kw.FnA P w K mg base CX0 7 AA.a_Bans_init [] (spIniB K AA) := ok_Bans_init_A T
  have G_Bans_eq : FnOk P w K mg base CX0 5 AA.a_Bans_eq AA.d_Bans_eq ["self", "other"] (spEqB K AA) := ok_Bans_eq T
  have G_Bans_or : FnOk P w K mg base CX0 9 AA.a_Bans_or AA.d_Bans_or ["self", "other"] (spOrB AA) := ok_Bans_or T
  have G_Bans_contains : FnOk P w K mg base CX0 5 AA.a_Bans_contains AA.d_Bans_contains ["self", "value"] (spInB K AA) := ok_Bans_contains T
  have G_Bans_sheet : FnOk P w K mg base CX0 1 AA.a_Bans_sheet AA.d_Bans_sheet ["self"] (getS AA.C_Bans "own_sheet") := ok_Bans_sheet T
  have G_Bans_shapes : FnOk P w K mg base CX0 1 AA.a_Bans_shapes AA.d_Bans_shapes ["self"] (getS AA.C_Bans "own_shapes") := ok_Bans_shapes T
  have G_Sheet_eq : FnOk P w K mg base CX0 1 AA.a_Sheet_eq AA.d_Sheet_eq ["self", "other"] (spEqS K AA.C_Sheet) := ok_Sheet_eq T
  have hu : _ + 64 < cLine := hu64 hr
  have hu1 : _ + 1 < cLine := hu_of hr
  obtain ⟨tN, hN, qN⟩ := rt_mixed (base := base) (P := P) (w := w) (outer := outer) (s := s) (H0 := H0) (E := E) (cdv := cdv) (A := A) T hG hr
  refine ⟨_, (pss_cons (ps_set (i := 3) sc_law_right.nd rfl (Or.inl rfl) (pe_lst (pa_cons (pe_un un_neg pe_int) (pa_cons (pe_callB call_len_seq (by rfl) T.n_len (by decide +kernel) (pa_cons (pv 12) pa_nil)) (pa_cons (pe_op op_add (pe_callB call_len_seq (by rfl) T.n_len (by decide +kernel) (pa_cons (pv 12) pa_nil)) pe_int) (pa_cons pe_bl (pa_cons pe_bl (pa_cons pe_non (pa_cons pe_str (pa_cons (pe_tup (pa_cons pe_int pa_nil)) (pa_cons (pe_lst (pa_cons pe_int pa_nil)) (pa_cons (pe_op op_sub (pe_op op_pow pe_int pe_int) pe_int) (pa_cons pe_dnewK pa_nil)))))))))))))
    (pss_cons (ps_for PassesOwn.never rfl (pi_range1 rfl T.n_range (pa_cons pe_int pa_nil)) (pg_name (i := 4) sc_law_right.nd rfl (Or.inl rfl))
      (pss_one (ps_if (pw_or (pt_not (pt_val (pe_call G_law_is_told (hr.mono (by decide)) (by rfl) T.g_law_is_told T.k_law_is_told T.b_law_is_told .nil pass0 (pa_cons (pv 2) (pa_cons (pv 11) (pa_cons (pv 12) pa_nil)))))) (pw_or1 (pt_cmpR (op_neP (K := K) rfl hu) (pe_lc (own := [("_law_odd", 20)]) (g := gName 20) rfl sc_law_right.nd  (pi_list (pv 3)) (blkOk_by (N := N_law_right) (sc := defScope s_law_right) (by decide +kernel)) (fun _ _ _ _ _ => (pg_name (i := 20) sc_law_right.nd rfl (Or.inl rfl))) (fun _ _ _ _ _ => (by exact pts_one (pt_not (pt_val (pe_callG G_law_refuses hG (hr.mono (by decide)) (by rfl) T.g_law_refuses T.k_law_refuses T.b_law_refuses (pa_cons (pv 2) (pa_cons (pv 20) pa_nil))))))) (fun _ _ _ _ _ => by exact (pv 20))) (pe_lst pa_nil) (nomark _)))).pt (pss_one (ps_ret pe_bl)) pss_nil)))
    hN)), ?_⟩
  intro Q J a ps p sh lb lo kr wr ub uo bs os v3 v4 v5 v6 v7 v8 v9 v10 v14 v15 v16 v17 v18 v19 v20 g q
  have few := g.lb6
  have lub := paired_len g.rb
  have lbm : (bs.map cn).length = bs.length := List.length_map ..
  refine ⟨_, rfl, _, rfl, lb, _, rfl, .inl (SqL.of g.gb), _, rfl, lb, _, rfl, .inl (SqL.of g.gb), _, _, rfl, rfl, (by show 1 ≤ sizeLine; decide), fun t1 ht1 => ?_⟩
  have e1 : Ex J (upd J t1 (.tup [.int 0])) := Ex.new ht1
  have g1 : upd J t1 (.tup [.int 0]) t1 = some (.tup [.int 0]) := upd_same
  generalize upd J t1 (.tup [.int 0]) = J1 at e1 g1 ⊢
  refine ⟨(by show 1 ≤ sizeLine; decide), fun l1 hl1 => ?_⟩
  have e2 : Ex J1 (upd J1 l1 (.lst [.int 0])) := Ex.new hl1
  have g2 : upd J1 l1 (.lst [.int 0]) l1 = some (.lst [.int 0]) := upd_same
  generalize upd J1 l1 (.lst [.int 0]) = J2 at e2 g2 ⊢
  refine ⟨_, _, rfl, rfl, ⟨by decide, by decide, by decide⟩, _, _, rfl, rfl, ?_⟩
  intro d1 hd1
  have e3 : Ex J2 (upd J2 d1 (.dK [])) := Ex.new hd1
  have g3 : upd J2 d1 (.dK []) d1 = some (.dK []) := upd_same
  generalize upd J2 d1 (.dK []) = J3 at e3 g3 ⊢
  refine ⟨(by show 11 ≤ sizeLine; decide), fun lD hlD => ?_⟩
  have x3 := (e1.trans e2).trans e3
  have odds : ∀ x ∈ ([.int (-1), .int (ub.length : Nat), .int ((ub.length : Nat) + 7), .bl true, .bl false, .non, .str "0", .ref t1, .ref l1, .int ((10 : Int) ^ (12 : Int).toNat - 1), .ref d1] : List V), Odd K J3 (bs.map cn).length x := by
    intro x hx
    simp only [List.mem_cons, List.not_mem_nil, or_false] at hx
    have pw : (10 : Int) ^ (12 : Int).toNat - 1 = 999999999999 := by decide +kernel
    rcases hx with rfl | rfl | rfl | rfl | rfl | rfl | rfl | rfl | rfl | rfl | rfl
    · exact odd_int ⟨by decide, by decide⟩ (fun z => by omega)
    · exact odd_int ⟨by omega, by omega⟩ (fun z => by omega)
    · exact odd_int ⟨by omega, by omega⟩ (fun z => by omega)
    · exact ⟨.bool true, _, .inl (.bl _), rfl, .inl ⟨_, .bl _, rfl, by decide, by decide +kernel, rfl⟩⟩
    · exact ⟨.bool false, _, .inl (.bl _), rfl, .inl ⟨_, .bl _, rfl, by decide, by decide +kernel, rfl⟩⟩
    · exact ⟨.none, _, .inl .non, rfl, .inl ⟨_, .non, rfl, by decide, by decide +kernel, rfl⟩⟩
    · exact ⟨.str "0", _, .inl (.str _), rfl, .inl ⟨_, .str _, rfl, by decide, by decide +kernel, rfl⟩⟩
    · exact ⟨.tuple [.int 0], _, .inl (.tup (SqT.of ((e2.trans e3) _ _ g1)) (.cons (.int 0) .nil)), rfl, .inl ⟨_, .tup (SqT.of ((e2.trans e3) _ _ g1)) (.cons (.int 0) .nil), by decide +kernel, by decide +kernel, by decide +kernel, rfl⟩⟩
    · exact ⟨.list [.int 0], _, .inl (.lst (SqL.of (e3 _ _ g2)) (.cons (.int 0) .nil)), rfl, .inl ⟨_, .lst (SqL.of (e3 _ _ g2)) (.cons (.int 0) .nil), by decide +kernel, by decide +kernel, by decide +kernel, rfl⟩⟩
    · rw [pw]
      exact odd_int ⟨by decide, by decide⟩ (fun z => by omega)
    · exact ⟨.dict [], _, .inr ⟨d1, [], rfl, g3, rfl⟩, rfl, .inr ⟨d1, rfl, g3, rfl⟩⟩
  generalize hxs : ([.int (-1), .int (ub.length : Nat), .int ((ub.length : Nat) + 7), .bl true, .bl false, .non, .str "0", .ref t1, .ref l1, .int ((10 : Int) ^ (12 : Int).toNat - 1), .ref d1] : List V) = xs at odds
  have e4 : Ex J3 (upd J3 lD (.lst xs)) := Ex.new hlD
  have g4 : upd J3 lD (.lst xs) lD = some (.lst xs) := upd_same
  subst hxs
  generalize upd J3 lD (.lst _) = J4 at e4 g4 ⊢
  have x4 := x3.trans e4
  have gg := g.ex x4
  refine ⟨2, rfl, by decide, by decide, ?_⟩
  refine for_range (n := 2) (fun i σ G => Ex J4 G ∧ ∃ v, σ = slots a ps p sh lb lo (some (.ref lD)) v v5 v6 v7 v8 v9 v10 v14 v15 v16 v17 v18 v19 v20) ⟨Ex.refl _, v4, rfl⟩ ?_ ?_
  · rintro i σ G hi ⟨e5, v, rfl⟩
    have g5 := gg.ex e5
    refine ⟨_, rfl, _, rfl, _, rfl, kr, wr, p, sh, lb, ub, bs, rfl, g5.md, g5.hs, g5.o1, g5.o2, SqL.of g5.gb, g5.rb, by omega, fun G1 e6 => ⟨_, rfl, if_f rfl ?_⟩⟩
    have g6 := g5.ex e6
    have x6 := e5.trans e6
    refine ⟨_, rfl, lD, rfl, ⟨_, SqL.of (x6 _ _ g4)⟩, fun D hD => ?_⟩
    refine lc_list (K := K) (a := lD) (fun k G2 => Ex G1 G2 ∧ G2 D = some (.lst [])) ⟨Ex.mut (Ex.refl _) hD, upd_same⟩ (fun k G2 _ h => SqL.of (h.1 _ _ (x6 _ _ g4))) ?_ ?_
    · rintro j x G2 hx ⟨e7, h7⟩
      obtain ⟨d, z, o1, o2, o3⟩ := (odds x (List.mem_of_getElem? hx)).ex ((e4.trans x6).trans e7)
      exact ⟨rfl, _, rfl, _, rfl, p, x, d, z, _, _, _, rfl, g6.md.ex e7, by omega, o1, o2, o3, fun G3 e8 => ⟨_, rfl, if_f rfl ⟨e7.trans e8, e8 _ _ h7⟩⟩⟩
    rintro G2 ⟨e7, h7⟩
    refine ⟨(by show 0 ≤ sizeLine; decide), fun q0 hq0 => ?_⟩
    have e8 : Ex G2 (upd G2 q0 (.lst [])) := Ex.new hq0
    refine neP (α := List Str) (a := []) (b := []) (hd_list (SqL.of (e8 _ _ h7)) .nil) (hd_list (SqL.of upd_same) .nil) ⟨_, rfl, if_f rfl ?_⟩
    exact ⟨(x6.trans e7).trans e8, _, rfl⟩
  rintro σ G ⟨e5, v, rfl⟩
  exact qN Q G a ps p sh lb lo kr wr ub uo bs os _ _ _ _ _ _ _ _ _ _ _ _ _ _ _ (gg.ex e5) fun H' e => q H' ((x4.trans e5).trans e)
end
end K23
namespace K23
open PySem L2 Kd Evl Ks Kt Ky
open PySem.W (Datum DatumOrd T3)
section
variable {P : Program} {w : World} {K : PySem.W.Frag} {mg : Str → Option Value} {base : Heap} {AA : Ads}
def spRight : Sp := fun vs H Q _ => ∃ a : Addr, vs = [.ref a] ∧ H a = some (diceO a) ∧ ∀ H', Ex H H' → Q (.bl true) H'
set_option maxHeartbeats 32000000 in
theorem ok_law_right (T : Txt K mg AA) : FnG P w K mg base 12 AA.a_law_right AA.d_law_right ["_law_dice_here"] spRight := by
  refine fnG_of T.F_law_right sc_law_right (fun vs H Q E h => ?_) (fun cdv A outer s H vs Q E hG hr h => ?_)
  · obtain ⟨a, rfl, _⟩ := h
    rfl
  obtain ⟨a, rfl, ha, q⟩ := h
  have G_law_new_sheet : FnOk P w K mg base CX0 5 AA.a_law_new_sheet AA.d_law_new_sheet ["_law_dice_here"] spNewSheet := ok_law_new_sheet T
  have G_law_sheet_made : FnOk P w K mg base CX0 5 AA.a_law_sheet_made AA.d_law_sheet_made ["_law_sheet"] (spSheetMade AA) := ok_law_sheet_made T
  have G_law_new_bans : FnOk P w K mg base CX0 6 AA.a_law_new_bans AA.d_law_new_bans ["_law_dice_here", "_law_sheet", "_law_most"] spNewBans := ok_law_new_bans T
  have G_law_roll : FnOk P w K mg base CX0 1 AA.a_law_roll AA.d_law_roll ["_law_dice_here", "_law_many"] spRoll := ok_law_roll T
  have G_law_mixed : FnOk P w K mg base CX0 2 AA.a_law_mixed AA.d_law_mixed ["_law_dice_here", "_law_items"] (spMixed K) := ok_law_mixed T
  have G_law_twin : FnOk P w K mg base CX0 5 AA.a_law_twin AA.d_law_twin ["_law_sheet"] (spSheetMade AA) := ok_law_twin T
  have G_law_shape_made : FnOk P w K mg base CX0 6 AA.a_law_shape_made AA.d_law_shape_made ["_law_thing", "_law_shape"] (spShapeMade AA) := ok_law_shape_made T
  have G_law_same_shape : FnOk P w K mg base CX0 1 AA.a_law_same_shape AA.d_law_same_shape ["_law_one", "_law_other"] spSame := ok_law_same_shape T
  have G_law_bans_made : FnOk P w K mg base CX0 10 AA.a_law_bans_made AA.d_law_bans_made ["_law_thing", "_law_bans"] (spBansMade K AA) := ok_law_bans_made T
  have G_law_is_told : FnOk P w K mg base CX0 8 AA.a_law_is_told AA.d_law_is_told ["_law_made", "_law_thing", "_law_bans"] (spTold K AA) := ok_law_is_told T
  have G_law_refuses : FnG P w K mg base 6 AA.a_law_refuses AA.d_law_refuses ["_law_made", "_law_value"] (spRefuses K AA) := ok_law_refuses T
  have G_Bans_init : Kw.FnA P w K mg base CX0 7 AA.a_Bans_init [] (spIniB K AA) := ok_Bans_init_A T
  have G_Bans_eq : FnOk P w K mg base CX0 5 AA.a_Bans_eq AA.d_Bans_eq ["self", "other"] (spEqB K AA) := ok_Bans_eq T
  have G_Bans_or : FnOk P w K mg base CX0 9 AA.a_Bans_or AA.d_Bans_or ["self", "other"] (spOrB AA) := ok_Bans_or T
  have G_Bans_contains : FnOk P w K mg base CX0 5 AA.a_Bans_contains AA.d_Bans_contains ["self", "value"] (spInB K AA) := ok_Bans_contains T
  have G_Bans_sheet : FnOk P w K mg base CX0 1 AA.a_Bans_sheet AA.d_Bans_sheet ["self"] (getS AA.C_Bans "own_sheet") := ok_Bans_sheet T
  have G_Bans_shapes : FnOk P w K mg base CX0 1 AA.a_Bans_shapes AA.d_Bans_shapes ["self"] (getS AA.C_Bans "own_shapes") := ok_Bans_shapes T
  have G_Sheet_eq : FnOk P w K mg base CX0 1 AA.a_Sheet_eq AA.d_Sheet_eq ["self", "other"] (spEqS K AA.C_Sheet) := ok_Sheet_eq T
  have hu : _ + 64 < cLine := hu64 hr
  have hu1 : _ + 1 < cLine := hu_of hr
  obtain ⟨tN, hN, qN⟩ := rt_odds (base := base) (P := P) (w := w) (outer := outer) (s := s) (H0 := H) (E := E) (cdv := cdv) (A := A) T hG hr
  refine ⟨_, (pss_cons (ps_set (i := 1) sc_law_right.nd rfl (Or.inl rfl) (pe_call G_law_new_sheet (hr.mono (by decide)) (by rfl) T.g_law_new_sheet T.k_law_new_sheet T.b_law_new_sheet .nil pass0 (pa_cons (pv 0) pa_nil)))
    (pss_cons (ps_asg (pe_tup (pa_cons (pe_call G_law_sheet_made (hr.mono (by decide)) (by rfl) T.g_law_sheet_made T.k_law_sheet_made T.b_law_sheet_made .nil pass0 (pa_cons (pv 1) pa_nil)) (pa_cons (pe_call G_law_new_bans (hr.mono (by decide)) (by rfl) T.g_law_new_bans T.k_law_new_bans T.b_law_new_bans .nil pass0 (pa_cons (pv 0) (pa_cons (pv 1) (pa_cons pe_int pa_nil)))) (pa_cons (pe_call G_law_new_bans (hr.mono (by decide)) (by rfl) T.g_law_new_bans T.k_law_new_bans T.b_law_new_bans .nil pass0 (pa_cons (pv 0) (pa_cons (pv 1) (pa_cons pe_int pa_nil)))) pa_nil)))) (pg_tup rfl (pgs_cons (pg_name (i := 11) sc_law_right.nd rfl (Or.inl rfl)) (pgs_cons (pg_name (i := 12) sc_law_right.nd rfl (Or.inr rfl)) (pgs_cons (pg_name (i := 13) sc_law_right.nd rfl (Or.inr rfl)) pgs_nil)))))
    (pss_cons (ps_set (i := 2) sc_law_right.nd rfl (Or.inr rfl) (pe_call G_law_bans_made (hr.mono (by decide)) (by rfl) T.g_law_bans_made T.k_law_bans_made T.b_law_bans_made .nil pass0 (pa_cons (pv 11) (pa_cons (pe_op op_cat (pv 12) (pe_slice sl_list (pe_call G_law_mixed (hr.mono (by decide)) (by rfl) T.g_law_mixed T.k_law_mixed T.b_law_mixed .nil pass0 (pa_cons (pv 0) (pa_cons (pv 12) pa_nil))) po_none (po_some (pe_call G_law_roll (hr.mono (by decide)) (by rfl) T.g_law_roll T.k_law_roll T.b_law_roll .nil pass0 (pa_cons (pv 0) (pa_cons pe_int pa_nil)))))) pa_nil))))
    hN))), ?_⟩
  refine ⟨_, rfl, a, rfl, ha, fun J1 ps kr wr e1 sd nk nw => ?_⟩
  refine ⟨_, rfl, ps, kr, wr, rfl, sd, nk, nw, fun J2 sh e2 hs => ?_⟩
  have x2 := e1.trans e2
  refine ⟨_, rfl, _, rfl, kr, wr, a, ps, 6, rfl, x2 _ _ ha, sd.ex e2, nk, nw, by decide, by decide, fun J3 lb ub bs e3 nb hb rb ndb l6 => ?_⟩
  have x3 := x2.trans e3
  refine ⟨_, rfl, _, rfl, kr, wr, a, ps, 2, rfl, x3 _ _ ha, sd.ex (e2.trans e3), nk, nw, by decide, by decide, fun J4 lo uo os e4 no ho ro ndo l2 => ?_⟩
  have x4 := x3.trans e4
  refine ⟨(by show 3 ≤ sizeLine; decide), fun t nt => ?_⟩
  have e5 : Ex J4 (upd J4 t (.tup [.ref sh, .ref lb, .ref lo])) := Ex.new nt
  have h5 : upd J4 t (.tup [.ref sh, .ref lb, .ref lo]) t = some (.tup [.ref sh, .ref lb, .ref lo]) := upd_same
  generalize upd J4 t (.tup [.ref sh, .ref lb, .ref lo]) = J5 at e5 h5 ⊢
  have x5 := x4.trans e5
  have o1 : OkS (srt kr) := fun z hz => nk.ok z ((srt_perm kr).mem_iff.mp hz)
  have o2 : OkS (srt wr) := fun z hz => nw.ok z ((srt_perm wr).mem_iff.mp hz)
  have rb5 := by_of (bx_ex rb (e4.trans e5))
  have hb5 := (e4.trans e5) _ _ hb
  have hs5 := hs.ex ((e3.trans e4).trans e5)
  have lub := paired_len rb
  refine ⟨t, _, rfl, SqT.of h5, rfl, _, _, rfl, _, _, rfl, _, _, rfl, rfl, ?_⟩
  refine ⟨_, rfl, _, rfl, _, rfl, _, rfl, a, lb, ub, rfl, x5 _ _ ha, SqL.of hb5, by omega, by_refs rb5, fun ys pm J6 perm e6 _ hm => ?_⟩
  have x6 := x5.trans e6
  obtain ⟨ms, mperm, rm⟩ := paired_perm perm rb5
  have lms := mperm.length_eq
  refine ⟨_, rfl, a, 4, rfl, x6 _ _ ha, by decide, by decide, fun r r0 r1 => ?_⟩
  obtain ⟨k, rfl⟩ := Int.eq_ofNat_of_zero_le r0
  refine ⟨_, rfl, _, _, rfl, SqL.of hm, fun s1 hs1 => ?_⟩
  rw [cut_upto]
  have e7 : Ex J6 (upd J6 s1 (.lst (ys.take k))) := Ex.new hs1
  have h7 : upd J6 s1 (.lst (ys.take k)) s1 = some (.lst (ys.take k)) := upd_same
  generalize upd J6 s1 (.lst (ys.take k)) = J7 at e7 h7 ⊢
  have lty := List.length_take_le k ys
  have ltm := List.length_take_le k ms
  refine ⟨_, _, _, _, rfl, rfl, (e6.trans e7) _ _ hb5, h7, Nat.le_of_lt (len_lt (by rw [paired_len (paired_take k rm)]; omega)), fun c1 nc1 => ?_⟩
  have e8 : Ex J7 (upd J7 c1 (.lst (ub ++ ys.take k))) := Ex.new nc1
  have h8 : upd J7 c1 (.lst (ub ++ ys.take k)) c1 = some (.lst (ub ++ ys.take k)) := upd_same
  generalize upd J7 c1 (.lst (ub ++ ys.take k)) = J8 at e8 h8 ⊢
  have e58 := (e6.trans e7).trans e8
  have x8 := (x6.trans e7).trans e8
  have uu : uniq ((bs ++ ms.take k).map cn) = bs.map cn := by
    rw [List.map_append]
    refine uniq_sub ndb fun x hx => ?_
    obtain ⟨b, hb, rfl⟩ := List.mem_map.mp hx
    exact List.mem_map.mpr ⟨b, mperm.mem_iff.mp (List.mem_of_mem_take hb), rfl⟩
  refine ⟨kr, wr, sh, c1, ub ++ ys.take k, bs ++ ms.take k, rfl, hs5.ex e58, o1, o2, SqL.of h8, paired_app (by_ex rb5 e58) (by_ex (paired_take k rm) e58), by rw [List.length_append]; omega, by rw [uu, List.length_map]; omega, fun J9 p e9 hp => ?_⟩
  rw [uu] at hp
  have e59 := e58.trans e9
  have x9 := x8.trans e9
  exact qN Q J9 a ps p sh lb lo kr wr ub uo bs os _ _ _ _ _ _ _ _ _ _ _ _ _ _ _ ⟨x9 _ _ ha, sd.ex ((((e2.trans e3).trans e4).trans e5).trans e59), nk, nw, hs5.ex e59, o1, o2, e59 _ _ hb5, by_ex rb5 e59, (e5.trans e59) _ _ ho, by_of (bx_ex ro (e5.trans e59)), ndb, ndo, by omega, by omega, hp⟩ fun H' e => q H' (x9.trans e)
theorem rw_one {AA : Ads} {ks ws : List Str} {H : Hp} {x : Addr} {b : Pb} {kr wr : List Str} (h : ShpAt AA H x (toS ks ws (cn b))) (ok : BR kr wr b) : Rw AA ks ws H [.ref x] [cn b] := .cons ⟨x, rfl, h, ok.ok⟩ .nil
set_option maxHeartbeats 32000000 in
theorem ok_law_by_place (T : Txt K mg AA) : FnOk P w K mg base CX0 12 AA.a_law_by_place AA.d_law_by_place ["_law_dice_here"] spRight := by
  have G_law_new_sheet : FnOk P w K mg base CX0 5 AA.a_law_new_sheet AA.d_law_new_sheet ["_law_dice_here"] spNewSheet := ok_law_new_sheet T
  have G_law_sheet_made : FnOk P w K mg base CX0 5 AA.a_law_sheet_made AA.d_law_sheet_made ["_law_sheet"] (spSheetMade AA) := ok_law_sheet_made T
  have G_law_new_ban : FnOk P w K mg base CX0 5 AA.a_law_new_ban AA.d_law_new_ban ["_law_dice_here", "_law_sheet"] spNewBan := ok_law_new_ban T
  have G_law_shape_made : FnOk P w K mg base CX0 6 AA.a_law_shape_made AA.d_law_shape_made ["_law_thing", "_law_shape"] (spShapeMade AA) := ok_law_shape_made T
  have G_Bans_init : Kw.FnA P w K mg base CX0 7 AA.a_Bans_init [] (spIniB K AA) := ok_Bans_init_A T
  have G_Bans_of : Kw.FnA P w K mg base CX0 9 AA.a_Bans_of [] (fun vs _ H Q E => spOfB K AA vs H Q E) := ok_Bans_ofA T
  have G_Bans_eq : FnOk P w K mg base CX0 5 AA.a_Bans_eq AA.d_Bans_eq ["self", "other"] (spEqB K AA) := ok_Bans_eq T
  have G_Bans_len : FnOk P w K mg base CX0 1 AA.a_Bans_len AA.d_Bans_len ["self"] (spLenB AA) := ok_Bans_len T
  refine T.F_law_by_place.ok sc_law_by_place (fun vs H Q E h => ?_) (fun cdv A outer s H vs Q E hr h => ?_)
  · obtain ⟨a, rfl, _⟩ := h
    rfl
  obtain ⟨a, rfl, ha, q⟩ := h
  have hu : _ + 64 < cLine := hu64 hr
  have line1 : (1 : Nat) ≤ sizeLine := by decide
  refine ⟨_, (pss_cons (ps_set (i := 1) sc_law_by_place.nd rfl (Or.inl rfl) (pe_call G_law_new_sheet (hr.mono (by decide)) (by rfl) T.g_law_new_sheet T.k_law_new_sheet T.b_law_new_sheet .nil pass0 (pa_cons (pv 0) pa_nil)))
    (pss_cons (ps_set (i := 2) sc_law_by_place.nd rfl (Or.inl rfl) (pe_call G_law_sheet_made (hr.mono (by decide)) (by rfl) T.g_law_sheet_made T.k_law_sheet_made T.b_law_sheet_made .nil pass0 (pa_cons (pv 1) pa_nil)))
    (pss_cons (ps_par (i := 3) (j := 4) rfl sc_law_by_place.nd rfl rfl (by decide) rfl rfl (by exact (pa_cons (pe_call G_law_shape_made (hr.mono (by decide)) (by rfl) T.g_law_shape_made T.k_law_shape_made T.b_law_shape_made .nil pass0 (pa_cons (pv 2) (pa_cons (pe_call G_law_new_ban (hr.mono (by decide)) (by rfl) T.g_law_new_ban T.k_law_new_ban T.b_law_new_ban .nil pass0 (pa_cons (pv 0) (pa_cons (pv 1) pa_nil))) pa_nil))) (pa_cons (pe_call G_law_shape_made (hr.mono (by decide)) (by rfl) T.g_law_shape_made T.k_law_shape_made T.b_law_shape_made .nil pass0 (pa_cons (pv 2) (pa_cons (pe_call G_law_new_ban (hr.mono (by decide)) (by rfl) T.g_law_new_ban T.k_law_new_ban T.b_law_new_ban .nil pass0 (pa_cons (pv 0) (pa_cons (pv 1) pa_nil))) pa_nil))) pa_nil))) rfl)
    (pss_cons (ps_if (pw_or (pt_cmpR (op_ownNe G_Bans_eq (T.I_Bans.own T.m_Bans_eq) T.b_Bans_eq (hr.mono (by decide))) (StX.pe_makeR T.M_Bans G_Bans_init.r (hr.mono (by decide)) (by rfl) T.g_Bans pass0 (pa_cons (pv 2) pa_nil)) (Kw.pe_cmethK (pe_glob (v := .ref AA.C_Bans) (by rfl) T.g_Bans rfl) T.R_Bans T.K_Bans_of G_Bans_of (hr.mono (by decide)) pass0 (pa_cons (pv 2) (pa_cons (pe_tup pa_nil) pa_nil)) pk_nil) (nomark _)) (pw_or (pt_cmpR (op_neP (K := K) rfl hu) (pe_callB (call_lenOwn G_Bans_len T.m_Bans_len.at_ T.m_Bans_len.fn T.b_Bans_len (hr.mono (by decide))) (by rfl) T.n_len (by decide +kernel) (pa_cons (StX.pe_makeR T.M_Bans G_Bans_init.r (hr.mono (by decide)) (by rfl) T.g_Bans pass0 (pa_cons (pv 2) pa_nil)) pa_nil)) pe_int (nomark _)) (pw_or1 (pt_cmpR (op_ownNe G_Bans_eq (T.I_Bans.own T.m_Bans_eq) T.b_Bans_eq (hr.mono (by decide))) (StX.pe_makeR T.M_Bans G_Bans_init.r (hr.mono (by decide)) (by rfl) T.g_Bans pass0 (pa_cons (pv 2) (pa_cons (pv 3) pa_nil))) (Kw.pe_cmethK (pe_glob (v := .ref AA.C_Bans) (by rfl) T.g_Bans rfl) T.R_Bans T.K_Bans_of G_Bans_of (hr.mono (by decide)) pass0 (pa_cons (pv 2) (pa_cons (pe_tup (pa_cons (pv 3) pa_nil)) pa_nil)) pk_nil) (nomark _))))).pt (pss_one (ps_ret pe_bl)) pss_nil)
    (pss_one (ps_ret (pe_and (pe_cmpR (op_ownEq G_Bans_eq (T.I_Bans.own T.m_Bans_eq) T.b_Bans_eq (hr.mono (by decide))) (StX.pe_makeR T.M_Bans G_Bans_init.r (hr.mono (by decide)) (by rfl) T.g_Bans pass0 (pa_cons (pv 2) (pa_cons (pv 3) (pa_cons (pv 4) pa_nil)))) (Kw.pe_cmethK (pe_glob (v := .ref AA.C_Bans) (by rfl) T.g_Bans rfl) T.R_Bans T.K_Bans_of G_Bans_of (hr.mono (by decide)) pass0 (pa_cons (pv 2) (pa_cons (pe_tup (pa_cons (pv 3) (pa_cons (pv 4) pa_nil))) pa_nil)) pk_nil) (nomark _)) (pe_one (pe_cmpR (op_ownEq G_Bans_eq (T.I_Bans.own T.m_Bans_eq) T.b_Bans_eq (hr.mono (by decide))) (StX.pe_makeR T.M_Bans G_Bans_init.r (hr.mono (by decide)) (by rfl) T.g_Bans pass0 (pa_cons (pv 2) (pa_cons (pv 3) (pa_cons (pv 3) pa_nil)))) (StX.pe_makeR T.M_Bans G_Bans_init.r (hr.mono (by decide)) (by rfl) T.g_Bans pass0 (pa_cons (pv 2) (pa_cons (pv 3) pa_nil))) (nomark _)))))))))), ?_⟩
  refine ⟨_, rfl, a, rfl, ha, fun J1 ps kr wr e1 sd nk nw => ?_⟩
  refine ⟨_, rfl, ps, kr, wr, rfl, sd, nk, nw, fun J2 sh e2 hs => ?_⟩
  have x2 := e1.trans e2
  have o1 : OkS (srt kr) := fun z hz => nk.ok z ((srt_perm kr).mem_iff.mp hz)
  have o2 : OkS (srt wr) := fun z hz => nw.ok z ((srt_perm wr).mem_iff.mp hz)
  refine ⟨_, rfl, _, rfl, _, rfl, a, ps, kr, wr, rfl, x2 _ _ ha, sd.ex e2, nk, nw, fun J3 p1 b1 e3 k1 f1 => ?_⟩
  have x3 := x2.trans e3
  refine ⟨sh, p1, a, kr, wr, b1, rfl, hs.ex e3, o1, o2, f1 a (by rw [x2 _ _ ha]; simp), k1.pl, fun J4 y1 e4 s1 => ?_⟩
  have x4 := x3.trans e4
  refine ⟨_, rfl, _, rfl, _, rfl, a, ps, kr, wr, rfl, x4 _ _ ha, sd.ex ((e2.trans e3).trans e4), nk, nw, fun J5 p2 b2 e5 k2 f2 => ?_⟩
  have x5 := x4.trans e5
  refine ⟨sh, p2, a, kr, wr, b2, rfl, hs.ex ((e3.trans e4).trans e5), o1, o2, f2 a (by rw [x4 _ _ ha]; simp), k2.pl, fun J6 y2 e6 s2 => ⟨_, _, rfl, ?_⟩⟩
  have x6 := x5.trans e6
  have hs6 := hs.ex (((e3.trans e4).trans e5).trans e6)
  have s16 := s1.ex (e5.trans e6)
  clear f1 f2 sd e1 e2 e3 e4 e5 e6 x2 x3 x4 x5 s1 hs
  have un : uniq ([] : List Pb) = [] := rfl
  -- none at all
  refine ⟨_, rfl, fun x dx hx hdx hne => ?_⟩
  refine made_bans (K := K) (us := []) (cs := []) hx hdx hne hs6 o1 o2 .nil (by decide) (by decide) fun K1 e1 b1' => ?_
  refine ⟨rfl, _, rfl, (by show 0 ≤ sizeLine; decide), fun t ht => ?_⟩
  have e2 : Ex K1 (upd K1 t (.tup [])) := Ex.new ht
  have h2 : upd K1 t (.tup []) t = some (.tup []) := upd_same
  generalize upd K1 t (.tup []) = K2 at e2 h2 ⊢
  have x2 := e1.trans e2
  refine ⟨rfl, sh, t, _, _, [], [], rfl, hs6.ex x2, o1, o2, h2, .nil, by decide, by decide, fun K3 z1 e3 b2' => ?_⟩
  refine own_bans T (b1'.ex (e2.trans e3)) b2' ⟨_, rfl, if_f (by rw [decide_eq_true rfl]; rfl) ?_⟩
  have x3 := x2.trans e3
  refine ⟨_, rfl, fun x' dx' hx' hdx' hne' => ?_⟩
  refine made_bans (K := K) (us := []) (cs := []) hx' hdx' hne' (hs6.ex x3) o1 o2 .nil (by decide) (by decide) fun K4 e4 b3' => ?_
  have b30 := b3'
  obtain ⟨dz, sb, tt, vv, i1, _⟩ := b3'
  refine ⟨x', dz, _, rfl, i1, ⟨x', _, _, _, rfl, b30, _, rfl, by decide, by decide, ?_⟩⟩
  refine neP (hd_int _) (hd_int _) ⟨_, rfl, if_f rfl ?_⟩
  have x4 := x3.trans e4
  -- one
  have u1 : uniq [cn b1] = [cn b1] := rfl
  refine ⟨_, rfl, _, rfl, fun x5' dx5 hx5 hdx5 hne5 => ?_⟩
  refine made_bans (K := K) (us := [.ref y1]) (cs := [cn b1]) hx5 hdx5 hne5 (hs6.ex x4) o1 o2 (rw_one (s16.ex x4) k1) (show 1 ≤ 100 by decide) (show 1 ≤ 8 by decide) fun K5 e5 b4' => ?_
  have x5 := x4.trans e5
  refine ⟨rfl, _, rfl, _, rfl, line1, fun t2 ht2 => ?_⟩
  have e6 : Ex K5 (upd K5 t2 (.tup [.ref y1])) := Ex.new ht2
  have h6 : upd K5 t2 (.tup [.ref y1]) t2 = some (.tup [.ref y1]) := upd_same
  generalize upd K5 t2 (.tup [.ref y1]) = K6 at e6 h6 ⊢
  have x6' := x5.trans e6
  refine ⟨rfl, sh, t2, _, _, _, [cn b1], rfl, hs6.ex x6', o1, o2, h6, rw_one (s16.ex x6') k1, (show 1 ≤ 100 by decide), (show 1 ≤ 8 by decide), fun K7 z2 e7 b5' => ?_⟩
  refine own_bans T (b4'.ex (e6.trans e7)) b5' ⟨_, rfl, if_f (by rw [decide_eq_true rfl]; rfl) ?_⟩
  have x7 := x6'.trans e7
  -- two
  have rw2 : ∀ {G : Hp}, Ex J6 G → Rw AA (srt kr) (srt wr) G [.ref y1, .ref y2] [cn b1, cn b2] := fun e => .cons ⟨y1, rfl, s16.ex e, k1.ok⟩ (.cons ⟨y2, rfl, s2.ex e, k2.ok⟩ .nil)
  have l2 : (uniq [cn b1, cn b2]).length ≤ 8 := Nat.le_trans (len_uniq _) (by show 2 ≤ 8; decide)
  refine ⟨_, rfl, _, rfl, _, rfl, fun x8 dx8 hx8 hdx8 hne8 => ?_⟩
  refine made_bans (K := K) (us := [.ref y1, .ref y2]) (cs := [cn b1, cn b2]) hx8 hdx8 hne8 (hs6.ex x7) o1 o2 (rw2 x7) (show 2 ≤ 100 by decide) l2 fun K8 e8 b6' => ?_
  have x8' := x7.trans e8
  refine ⟨rfl, _, rfl, _, rfl, _, rfl, (by show 2 ≤ sizeLine; decide), fun t3 ht3 => ?_⟩
  have e9 : Ex K8 (upd K8 t3 (.tup [.ref y1, .ref y2])) := Ex.new ht3
  have h9 : upd K8 t3 (.tup [.ref y1, .ref y2]) t3 = some (.tup [.ref y1, .ref y2]) := upd_same
  generalize upd K8 t3 (.tup [.ref y1, .ref y2]) = K9 at e9 h9 ⊢
  have x9 := x8'.trans e9
  refine ⟨rfl, sh, t3, _, _, _, [cn b1, cn b2], rfl, hs6.ex x9, o1, o2, h9, rw2 x9, (show 2 ≤ 100 by decide), l2, fun Ka z3 ea b7' => ?_⟩
  refine own_bans T (b6'.ex (e9.trans ea)) b7' ⟨_, rfl, if_t (decide_eq_true rfl) ?_⟩
  have xa := x9.trans ea
  -- the same one twice
  have rw3 : ∀ {G : Hp}, Ex J6 G → Rw AA (srt kr) (srt wr) G [.ref y1, .ref y1] [cn b1, cn b1] := fun e => .cons ⟨y1, rfl, s16.ex e, k1.ok⟩ (rw_one (s16.ex e) k1)
  have u3 : uniq [cn b1, cn b1] = [cn b1] := uniq_sub (l := [cn b1]) (r := [cn b1]) (by simp) (fun x hx => hx)
  refine ⟨_, rfl, _, rfl, _, rfl, fun xb dxb hxb hdxb hneb => ?_⟩
  refine made_bans (K := K) (us := [.ref y1, .ref y1]) (cs := [cn b1, cn b1]) hxb hdxb hneb (hs6.ex xa) o1 o2 (rw3 xa) (show 2 ≤ 100 by decide) (by rw [u3]; exact (show 1 ≤ 8 by decide)) fun Kb eb b8' => ?_
  rw [u3] at b8'
  have xb' := xa.trans eb
  refine ⟨_, rfl, _, rfl, fun xc dxc hxc hdxc hnec => ?_⟩
  refine made_bans (K := K) (us := [.ref y1]) (cs := [cn b1]) hxc hdxc hnec (hs6.ex xb') o1 o2 (rw_one (s16.ex xb') k1) (show 1 ≤ 100 by decide) (show 1 ≤ 8 by decide) fun Kc ec b9' => ?_
  refine own_bans T (b8'.ex ec) b9' ?_
  rw [u1, decide_eq_true rfl]
  exact q Kc (x6.trans (xb'.trans ec))
end
end K23
namespace K23
open PySem L2 Kd Evl Ks Kt Ky
open PySem.W (Datum DatumOrd T3)
def spLaw (K : PySem.W.Frag) : Sp := fun vs H Q _ => ∃ (a : Addr) (ns : List Int), vs = [.ref a] ∧ SqL K H a (ns.map V.int) ∧ ns.length ≤ 63 ∧ ∀ H', Q (.bl true) H'
section
variable {P : Program} {w : World} {K : PySem.W.Frag} {mg : Str → Option Value} {base : Heap} {AA : Ads}
theorem ok_law (T : Txt K mg AA) : FnG P w K mg base 13 AA.a_law AA.d_law ["_law_script"] (spLaw K) := by
  have G_law_dice : FnOk P w K mg base CX0 1 AA.a_law_dice AA.d_law_dice ["_law_script", "_law_spot"] (spDice K) := ok_law_dice T
  have G_law_right : FnG P w K mg base 12 AA.a_law_right AA.d_law_right ["_law_dice_here"] spRight := ok_law_right T
  have G_law_by_place : FnOk P w K mg base CX0 12 AA.a_law_by_place AA.d_law_by_place ["_law_dice_here"] spRight := ok_law_by_place T
  refine fnG_of T.F_law sc_law (fun vs H Q E h => ?_) (fun cdv A outer s H vs Q E hG hr h => ?_)
  · obtain ⟨a, ns, rfl, _⟩ := h
    rfl
  · obtain ⟨a, ns, rfl, hS, hlen, q⟩ := h
    refine ⟨_, (pss_cons (ps_for PassesOwn.never rfl (pi_range1 rfl T.n_range (pa_cons (pe_callB (call_max2 rfl) (by rfl) T.n_max (by decide +kernel) (pa_cons pe_int (pa_cons (pe_callB (call_min2 rfl) (by rfl) T.n_min (by decide +kernel) (pa_cons pe_int (pa_cons (pe_callB call_len_seq (by rfl) T.n_len (by decide +kernel) (pa_cons (pv 0) pa_nil)) pa_nil))) pa_nil))) pa_nil)) (pg_name (i := 1) sc_law.nd rfl (Or.inl rfl))
      (pss_cons (ps_set (i := 2) sc_law.nd rfl (Or.inl rfl) (pe_call G_law_dice (hr.mono (by decide)) (by rfl) T.g_law_dice T.k_law_dice T.b_law_dice .nil pass0 (pa_cons (pv 0) (pa_cons (pv 1) pa_nil))))
    (pss_one (ps_if (pw_or (pt_not (pt_val (pe_callG G_law_right hG (hr.mono (by decide)) (by rfl) T.g_law_right T.k_law_right T.b_law_right (pa_cons (pv 2) pa_nil)))) (pw_or1 (pt_not (pt_val (pe_call G_law_by_place (hr.mono (by decide)) (by rfl) T.g_law_by_place T.k_law_by_place T.b_law_by_place .nil pass0 (pa_cons (pv 2) pa_nil)))))).pt (pss_one (ps_ret pe_bl)) pss_nil))))
    (pss_one (ps_ret pe_bl))), ?_⟩
    refine ⟨_, rfl, a, _, rfl, .inl hS, _, _, rfl, _, _, rfl, _, rfl, ?_, ?_, ?_⟩
    · split <;> split <;> omega
    · rw [List.length_map]
      split <;> split <;> omega
    refine for_range (fun k σ J => ∃ v1 v2 : Option V, σ = [some (.ref a), v1, v2] ∧ Ex H J) ⟨none, none, rfl, Ex.refl _⟩ ?_ ?_
    · rintro k σ J hk ⟨v1, v2, rfl, e⟩
      refine ⟨_, rfl, _, rfl, a, ns, _, rfl, ex_l e hS, by omega, fun p hp => ?_⟩
      have e1 : Ex J (upd J p (diceO p)) := Ex.new hp
      have g1 : upd J p (diceO p) p = some (diceO p) := upd_same
      refine ⟨_, rfl, p, rfl, g1, fun H' e2 => ⟨_, rfl, if_f rfl ?_⟩⟩
      exact ⟨_, rfl, p, rfl, e2 _ _ g1, fun H2 e3 => ⟨_, rfl, if_f rfl ⟨_, _, rfl, ((e.trans e1).trans e2).trans e3⟩⟩⟩
    · rintro σ J ⟨v1, v2, rfl, e⟩
      exact q _
end
end K23
namespace K23
open PySem L2 Kd Evl Ks Kt Ky
theorem all_mk {l : PySem.W.OpenLaw} {w : World} {K : PySem.W.Frag} {h : Heap} {mg : Str → Option Value} {fa : Addr} {C_Sheet C_Shape C_Bans C_ShapeError C_InvalidSheet C_InvalidShape C_InvalidBans C_InvalidOperation C_InvalidNumber f_InvalidNumber_init f_is_integer f_is_name f_are_names f_Sheet_init f_Sheet_kinds f_Sheet_words f_Sheet_eq f_Sheet_str f_require_sheet f_is_kind f_is_tie f_are_posts f_is_triple_of f_are_triples f_Shape_init f_Shape_sheet f_Shape_posts f_Shape_there f_Shape_lacking f_Shape_names f_Shape_len f_Shape_eq f_Shape_str f_can_be_ban f_different f_Bans_init f_Bans_of f_Bans_sheet f_Bans_shapes f_Bans_or f_Bans_contains f_Bans_getitem f_Bans_iter f_Bans_len f_Bans_eq f_Bans_str f_law_dice f_law_roll f_law_pick f_law_mixed f_law_fresh f_law_names f_law_new_sheet f_law_sheet_made f_law_twin f_law_ties f_law_shape_made f_law_new_ban f_law_same_shape f_law_new_bans f_law_bans_made f_law_is_told f_law_refuses f_law_right f_law_by_place f_law r_Sheet_kinds r_Sheet_words r_Shape_sheet r_Shape_posts r_Shape_there r_Shape_lacking r_Shape_names r_Bans_sheet r_Bans_shapes r_Bans_of dT_Shape_init e_Shape_init_0 e_Shape_init_1 : Addr} (X : K.In h) (G : h.Ns mainGlobals mg) (hfa : mg "law" = some (.ref fa))
    {od_InvalidNumber_init an_InvalidNumber_init od_is_integer an_is_integer od_is_name an_is_name od_are_names an_are_names od_Sheet_init an_Sheet_init od_Sheet_kinds an_Sheet_kinds od_Sheet_words an_Sheet_words od_Sheet_eq an_Sheet_eq od_Sheet_str an_Sheet_str od_require_sheet an_require_sheet od_is_kind an_is_kind od_is_tie an_is_tie od_are_posts an_are_posts od_is_triple_of an_is_triple_of od_are_triples an_are_triples od_Shape_init an_Shape_init td_Shape_init ed_Shape_init_0 ed_Shape_init_1 od_Shape_sheet an_Shape_sheet od_Shape_posts an_Shape_posts od_Shape_there an_Shape_there od_Shape_lacking an_Shape_lacking od_Shape_names an_Shape_names od_Shape_len an_Shape_len od_Shape_eq an_Shape_eq od_Shape_str an_Shape_str od_can_be_ban an_can_be_ban od_different an_different od_Bans_init an_Bans_init od_Bans_of an_Bans_of od_Bans_sheet an_Bans_sheet od_Bans_shapes an_Bans_shapes od_Bans_or an_Bans_or od_Bans_contains an_Bans_contains od_Bans_getitem an_Bans_getitem od_Bans_iter an_Bans_iter od_Bans_len an_Bans_len od_Bans_eq an_Bans_eq od_Bans_str an_Bans_str od_law_dice an_law_dice od_law_roll an_law_roll od_law_pick an_law_pick od_law_mixed an_law_mixed od_law_fresh an_law_fresh od_law_names an_law_names od_law_new_sheet an_law_new_sheet od_law_sheet_made an_law_sheet_made od_law_twin an_law_twin od_law_ties an_law_ties od_law_shape_made an_law_shape_made od_law_new_ban an_law_new_ban od_law_same_shape an_law_same_shape od_law_new_bans an_law_new_bans od_law_bans_made an_law_bans_made od_law_is_told an_law_is_told od_law_refuses an_law_refuses od_law_right an_law_right od_law_by_place an_law_by_place od_law an_law : Option Addr} {sl_InvalidNumber_init sl_is_integer sl_is_name sl_are_names sl_Sheet_init sl_Sheet_kinds sl_Sheet_words sl_Sheet_eq sl_Sheet_str sl_require_sheet sl_is_kind sl_is_tie sl_are_posts sl_is_triple_of sl_are_triples sl_Shape_init ts_Shape_init es_Shape_init_0 es_Shape_init_1 sl_Shape_sheet sl_Shape_posts sl_Shape_there sl_Shape_lacking sl_Shape_names sl_Shape_len sl_Shape_eq sl_Shape_str sl_can_be_ban sl_different sl_Bans_init sl_Bans_of sl_Bans_sheet sl_Bans_shapes sl_Bans_or sl_Bans_contains sl_Bans_getitem sl_Bans_iter sl_Bans_len sl_Bans_eq sl_Bans_str sl_law_dice sl_law_roll sl_law_pick sl_law_mixed sl_law_fresh sl_law_names sl_law_new_sheet sl_law_sheet_made sl_law_twin sl_law_ties sl_law_shape_made sl_law_new_ban sl_law_same_shape sl_law_new_bans sl_law_bans_made sl_law_is_told sl_law_refuses sl_law_right sl_law_by_place sl_law : Array (Option Value)} {oc_InvalidNumber_init kV_InvalidNumber_init dc_InvalidNumber_init pm_InvalidNumber_init cd_InvalidNumber_init ct_InvalidNumber_init oc_is_integer kV_is_integer dc_is_integer pm_is_integer cd_is_integer ct_is_integer oc_is_name kV_is_name dc_is_name pm_is_name cd_is_name ct_is_name oc_are_names kV_are_names dc_are_names pm_are_names cd_are_names ct_are_names oc_Sheet_init kV_Sheet_init dc_Sheet_init pm_Sheet_init cd_Sheet_init ct_Sheet_init oc_Sheet_kinds kV_Sheet_kinds dc_Sheet_kinds pm_Sheet_kinds cd_Sheet_kinds ct_Sheet_kinds oc_Sheet_words kV_Sheet_words dc_Sheet_words pm_Sheet_words cd_Sheet_words ct_Sheet_words oc_Sheet_eq kV_Sheet_eq dc_Sheet_eq pm_Sheet_eq cd_Sheet_eq ct_Sheet_eq oc_Sheet_str kV_Sheet_str dc_Sheet_str pm_Sheet_str cd_Sheet_str ct_Sheet_str oc_require_sheet kV_require_sheet dc_require_sheet pm_require_sheet cd_require_sheet ct_require_sheet oc_is_kind kV_is_kind dc_is_kind pm_is_kind cd_is_kind ct_is_kind oc_is_tie kV_is_tie dc_is_tie pm_is_tie cd_is_tie ct_is_tie oc_are_posts kV_are_posts dc_are_posts pm_are_posts cd_are_posts ct_are_posts oc_is_triple_of kV_is_triple_of dc_is_triple_of pm_is_triple_of cd_is_triple_of ct_is_triple_of oc_are_triples kV_are_triples dc_are_triples pm_are_triples cd_are_triples ct_are_triples oc_Shape_init kV_Shape_init dc_Shape_init pm_Shape_init cd_Shape_init ct_Shape_init to_Shape_init oc_Shape_sheet kV_Shape_sheet dc_Shape_sheet pm_Shape_sheet cd_Shape_sheet ct_Shape_sheet oc_Shape_posts kV_Shape_posts dc_Shape_posts pm_Shape_posts cd_Shape_posts ct_Shape_posts oc_Shape_there kV_Shape_there dc_Shape_there pm_Shape_there cd_Shape_there ct_Shape_there oc_Shape_lacking kV_Shape_lacking dc_Shape_lacking pm_Shape_lacking cd_Shape_lacking ct_Shape_lacking oc_Shape_names kV_Shape_names dc_Shape_names pm_Shape_names cd_Shape_names ct_Shape_names oc_Shape_len kV_Shape_len dc_Shape_len pm_Shape_len cd_Shape_len ct_Shape_len oc_Shape_eq kV_Shape_eq dc_Shape_eq pm_Shape_eq cd_Shape_eq ct_Shape_eq oc_Shape_str kV_Shape_str dc_Shape_str pm_Shape_str cd_Shape_str ct_Shape_str oc_can_be_ban kV_can_be_ban dc_can_be_ban pm_can_be_ban cd_can_be_ban ct_can_be_ban oc_different kV_different dc_different pm_different cd_different ct_different oc_Bans_init kV_Bans_init dc_Bans_init pm_Bans_init cd_Bans_init ct_Bans_init oc_Bans_of kV_Bans_of dc_Bans_of pm_Bans_of cd_Bans_of ct_Bans_of oc_Bans_sheet kV_Bans_sheet dc_Bans_sheet pm_Bans_sheet cd_Bans_sheet ct_Bans_sheet oc_Bans_shapes kV_Bans_shapes dc_Bans_shapes pm_Bans_shapes cd_Bans_shapes ct_Bans_shapes oc_Bans_or kV_Bans_or dc_Bans_or pm_Bans_or cd_Bans_or ct_Bans_or oc_Bans_contains kV_Bans_contains dc_Bans_contains pm_Bans_contains cd_Bans_contains ct_Bans_contains oc_Bans_getitem kV_Bans_getitem dc_Bans_getitem pm_Bans_getitem cd_Bans_getitem ct_Bans_getitem oc_Bans_iter kV_Bans_iter dc_Bans_iter pm_Bans_iter cd_Bans_iter ct_Bans_iter oc_Bans_len kV_Bans_len dc_Bans_len pm_Bans_len cd_Bans_len ct_Bans_len oc_Bans_eq kV_Bans_eq dc_Bans_eq pm_Bans_eq cd_Bans_eq ct_Bans_eq oc_Bans_str kV_Bans_str dc_Bans_str pm_Bans_str cd_Bans_str ct_Bans_str oc_law_dice kV_law_dice dc_law_dice pm_law_dice cd_law_dice ct_law_dice oc_law_roll kV_law_roll dc_law_roll pm_law_roll cd_law_roll ct_law_roll oc_law_pick kV_law_pick dc_law_pick pm_law_pick cd_law_pick ct_law_pick oc_law_mixed kV_law_mixed dc_law_mixed pm_law_mixed cd_law_mixed ct_law_mixed oc_law_fresh kV_law_fresh dc_law_fresh pm_law_fresh cd_law_fresh ct_law_fresh oc_law_names kV_law_names dc_law_names pm_law_names cd_law_names ct_law_names oc_law_new_sheet kV_law_new_sheet dc_law_new_sheet pm_law_new_sheet cd_law_new_sheet ct_law_new_sheet oc_law_sheet_made kV_law_sheet_made dc_law_sheet_made pm_law_sheet_made cd_law_sheet_made ct_law_sheet_made oc_law_twin kV_law_twin dc_law_twin pm_law_twin cd_law_twin ct_law_twin oc_law_ties kV_law_ties dc_law_ties pm_law_ties cd_law_ties ct_law_ties oc_law_shape_made kV_law_shape_made dc_law_shape_made pm_law_shape_made cd_law_shape_made ct_law_shape_made oc_law_new_ban kV_law_new_ban dc_law_new_ban pm_law_new_ban cd_law_new_ban ct_law_new_ban oc_law_same_shape kV_law_same_shape dc_law_same_shape pm_law_same_shape cd_law_same_shape ct_law_same_shape oc_law_new_bans kV_law_new_bans dc_law_new_bans pm_law_new_bans cd_law_new_bans ct_law_new_bans oc_law_bans_made kV_law_bans_made dc_law_bans_made pm_law_bans_made cd_law_bans_made ct_law_bans_made oc_law_is_told kV_law_is_told dc_law_is_told pm_law_is_told cd_law_is_told ct_law_is_told oc_law_refuses kV_law_refuses dc_law_refuses pm_law_refuses cd_law_refuses ct_law_refuses oc_law_right kV_law_right dc_law_right pm_law_right cd_law_right ct_law_right oc_law_by_place kV_law_by_place dc_law_by_place pm_law_by_place cd_law_by_place ct_law_by_place oc_law kV_law dc_law pm_law cd_law ct_law : Value} {rs_Sheet_kinds rs_Sheet_words rs_Shape_sheet rs_Shape_posts rs_Shape_there rs_Shape_lacking rs_Shape_names rs_Bans_of rs_Bans_sheet rs_Bans_shapes : List Value} {tn_Shape_init en_Shape_init_0 en_Shape_init_1 : Nat} {t_MAX_KINDS t_MAX_WORDS t_MAX_LETTERS t_LETTERS t_MAX_NAMES t_MAX_BANS t_MOST_POSTS : Tok}
    (gC_Sheet : PySem.W.nsIn K mainGlobals "Sheet" = some (some (.ref C_Sheet)))
    (gC_Shape : PySem.W.nsIn K mainGlobals "Shape" = some (some (.ref C_Shape)))
    (gC_Bans : PySem.W.nsIn K mainGlobals "Bans" = some (some (.ref C_Bans)))
    (gC_ShapeError : PySem.W.nsIn K mainGlobals "ShapeError" = some (some (.ref C_ShapeError)))
    (gC_InvalidSheet : PySem.W.nsIn K mainGlobals "InvalidSheet" = some (some (.ref C_InvalidSheet)))
    (gC_InvalidShape : PySem.W.nsIn K mainGlobals "InvalidShape" = some (some (.ref C_InvalidShape)))
    (gC_InvalidBans : PySem.W.nsIn K mainGlobals "InvalidBans" = some (some (.ref C_InvalidBans)))
    (gC_InvalidOperation : PySem.W.nsIn K mainGlobals "InvalidOperation" = some (some (.ref C_InvalidOperation)))
    (gC_InvalidNumber : PySem.W.nsIn K mainGlobals "InvalidNumber" = some (some (.ref C_InvalidNumber)))
    (a_InvalidNumber_init : PySem.W.findIn K (.ref C_InvalidNumber) "__init__" = some (some (.ref f_InvalidNumber_init)))
    (i_InvalidNumber_init : PySem.W.isFn K (.ref f_InvalidNumber_init) = true)
    (l_InvalidNumber_init : K.lookup f_InvalidNumber_init = some ⟨oc_InvalidNumber_init, od_InvalidNumber_init, .func (PySem.W.fnOf "__init__" "InvalidNumber.__init__" (defArgs s_InvalidNumber_init) (defBody s_InvalidNumber_init) (defScope s_InvalidNumber_init) .none kV_InvalidNumber_init dc_InvalidNumber_init pm_InvalidNumber_init an_InvalidNumber_init cd_InvalidNumber_init ct_InvalidNumber_init), sl_InvalidNumber_init⟩)
    (c_InvalidNumber_init : PySem.W.codeIn K cd_InvalidNumber_init "InvalidNumber.__init__" = true)
    (k_InvalidNumber_init : PySem.W.keepIn K (.ref f_InvalidNumber_init) = true)
    (a_is_integer : PySem.W.nsIn K mainGlobals "is_integer" = some (some (.ref f_is_integer)))
    (l_is_integer : K.lookup f_is_integer = some ⟨oc_is_integer, od_is_integer, .func (PySem.W.fnOf "is_integer" "is_integer" (defArgs s_is_integer) (defBody s_is_integer) (defScope s_is_integer) .none kV_is_integer dc_is_integer pm_is_integer an_is_integer cd_is_integer ct_is_integer), sl_is_integer⟩)
    (c_is_integer : PySem.W.codeIn K cd_is_integer "is_integer" = true)
    (k_is_integer : PySem.W.keepIn K (.ref f_is_integer) = true)
    (a_is_name : PySem.W.nsIn K mainGlobals "is_name" = some (some (.ref f_is_name)))
    (l_is_name : K.lookup f_is_name = some ⟨oc_is_name, od_is_name, .func (PySem.W.fnOf "is_name" "is_name" (defArgs s_is_name) (defBody s_is_name) (defScope s_is_name) .none kV_is_name dc_is_name pm_is_name an_is_name cd_is_name ct_is_name), sl_is_name⟩)
    (c_is_name : PySem.W.codeIn K cd_is_name "is_name" = true)
    (k_is_name : PySem.W.keepIn K (.ref f_is_name) = true)
    (a_are_names : PySem.W.nsIn K mainGlobals "are_names" = some (some (.ref f_are_names)))
    (l_are_names : K.lookup f_are_names = some ⟨oc_are_names, od_are_names, .func (PySem.W.fnOf "are_names" "are_names" (defArgs s_are_names) (defBody s_are_names) (defScope s_are_names) .none kV_are_names dc_are_names pm_are_names an_are_names cd_are_names ct_are_names), sl_are_names⟩)
    (c_are_names : PySem.W.codeIn K cd_are_names "are_names" = true)
    (k_are_names : PySem.W.keepIn K (.ref f_are_names) = true)
    (a_Sheet_init : PySem.W.findIn K (.ref C_Sheet) "__init__" = some (some (.ref f_Sheet_init)))
    (i_Sheet_init : PySem.W.isFn K (.ref f_Sheet_init) = true)
    (l_Sheet_init : K.lookup f_Sheet_init = some ⟨oc_Sheet_init, od_Sheet_init, .func (PySem.W.fnOf "__init__" "Sheet.__init__" (defArgs s_Sheet_init) (defBody s_Sheet_init) (defScope s_Sheet_init) .none kV_Sheet_init dc_Sheet_init pm_Sheet_init an_Sheet_init cd_Sheet_init ct_Sheet_init), sl_Sheet_init⟩)
    (c_Sheet_init : PySem.W.codeIn K cd_Sheet_init "Sheet.__init__" = true)
    (k_Sheet_init : PySem.W.keepIn K (.ref f_Sheet_init) = true)
    (at_Sheet_kinds : PySem.W.findIn K (.ref C_Sheet) "kinds" = some (some (.ref r_Sheet_kinds)))
    (gt_Sheet_kinds : PySem.W.specialIn K (.ref r_Sheet_kinds) "__get__" = some (some (.builtin "property.__get__")))
    (tk_Sheet_kinds : PySem.W.takesIn K (.ref r_Sheet_kinds) = some true)
    (rc_Sheet_kinds : PySem.W.recIn K r_Sheet_kinds "property" = some (.ref f_Sheet_kinds :: rs_Sheet_kinds))
    (l_Sheet_kinds : K.lookup f_Sheet_kinds = some ⟨oc_Sheet_kinds, od_Sheet_kinds, .func (PySem.W.fnOf "kinds" "Sheet.kinds" (defArgs s_Sheet_kinds) (defBody s_Sheet_kinds) (defScope s_Sheet_kinds) .none kV_Sheet_kinds dc_Sheet_kinds pm_Sheet_kinds an_Sheet_kinds cd_Sheet_kinds ct_Sheet_kinds), sl_Sheet_kinds⟩)
    (c_Sheet_kinds : PySem.W.codeIn K cd_Sheet_kinds "Sheet.kinds" = true)
    (k_Sheet_kinds : PySem.W.keepIn K (.ref f_Sheet_kinds) = true)
    (at_Sheet_words : PySem.W.findIn K (.ref C_Sheet) "words" = some (some (.ref r_Sheet_words)))
    (gt_Sheet_words : PySem.W.specialIn K (.ref r_Sheet_words) "__get__" = some (some (.builtin "property.__get__")))
    (tk_Sheet_words : PySem.W.takesIn K (.ref r_Sheet_words) = some true)
    (rc_Sheet_words : PySem.W.recIn K r_Sheet_words "property" = some (.ref f_Sheet_words :: rs_Sheet_words))
    (l_Sheet_words : K.lookup f_Sheet_words = some ⟨oc_Sheet_words, od_Sheet_words, .func (PySem.W.fnOf "words" "Sheet.words" (defArgs s_Sheet_words) (defBody s_Sheet_words) (defScope s_Sheet_words) .none kV_Sheet_words dc_Sheet_words pm_Sheet_words an_Sheet_words cd_Sheet_words ct_Sheet_words), sl_Sheet_words⟩)
    (c_Sheet_words : PySem.W.codeIn K cd_Sheet_words "Sheet.words" = true)
    (k_Sheet_words : PySem.W.keepIn K (.ref f_Sheet_words) = true)
    (a_Sheet_eq : PySem.W.findIn K (.ref C_Sheet) "__eq__" = some (some (.ref f_Sheet_eq)))
    (i_Sheet_eq : PySem.W.isFn K (.ref f_Sheet_eq) = true)
    (l_Sheet_eq : K.lookup f_Sheet_eq = some ⟨oc_Sheet_eq, od_Sheet_eq, .func (PySem.W.fnOf "__eq__" "Sheet.__eq__" (defArgs s_Sheet_eq) (defBody s_Sheet_eq) (defScope s_Sheet_eq) .none kV_Sheet_eq dc_Sheet_eq pm_Sheet_eq an_Sheet_eq cd_Sheet_eq ct_Sheet_eq), sl_Sheet_eq⟩)
    (c_Sheet_eq : PySem.W.codeIn K cd_Sheet_eq "Sheet.__eq__" = true)
    (k_Sheet_eq : PySem.W.keepIn K (.ref f_Sheet_eq) = true)
    (a_Sheet_str : PySem.W.findIn K (.ref C_Sheet) "__str__" = some (some (.ref f_Sheet_str)))
    (i_Sheet_str : PySem.W.isFn K (.ref f_Sheet_str) = true)
    (l_Sheet_str : K.lookup f_Sheet_str = some ⟨oc_Sheet_str, od_Sheet_str, .func (PySem.W.fnOf "__str__" "Sheet.__str__" (defArgs s_Sheet_str) (defBody s_Sheet_str) (defScope s_Sheet_str) .none kV_Sheet_str dc_Sheet_str pm_Sheet_str an_Sheet_str cd_Sheet_str ct_Sheet_str), sl_Sheet_str⟩)
    (c_Sheet_str : PySem.W.codeIn K cd_Sheet_str "Sheet.__str__" = true)
    (k_Sheet_str : PySem.W.keepIn K (.ref f_Sheet_str) = true)
    (a_require_sheet : PySem.W.nsIn K mainGlobals "require_sheet" = some (some (.ref f_require_sheet)))
    (l_require_sheet : K.lookup f_require_sheet = some ⟨oc_require_sheet, od_require_sheet, .func (PySem.W.fnOf "require_sheet" "require_sheet" (defArgs s_require_sheet) (defBody s_require_sheet) (defScope s_require_sheet) .none kV_require_sheet dc_require_sheet pm_require_sheet an_require_sheet cd_require_sheet ct_require_sheet), sl_require_sheet⟩)
    (c_require_sheet : PySem.W.codeIn K cd_require_sheet "require_sheet" = true)
    (k_require_sheet : PySem.W.keepIn K (.ref f_require_sheet) = true)
    (a_is_kind : PySem.W.nsIn K mainGlobals "is_kind" = some (some (.ref f_is_kind)))
    (l_is_kind : K.lookup f_is_kind = some ⟨oc_is_kind, od_is_kind, .func (PySem.W.fnOf "is_kind" "is_kind" (defArgs s_is_kind) (defBody s_is_kind) (defScope s_is_kind) .none kV_is_kind dc_is_kind pm_is_kind an_is_kind cd_is_kind ct_is_kind), sl_is_kind⟩)
    (c_is_kind : PySem.W.codeIn K cd_is_kind "is_kind" = true)
    (k_is_kind : PySem.W.keepIn K (.ref f_is_kind) = true)
    (a_is_tie : PySem.W.nsIn K mainGlobals "is_tie" = some (some (.ref f_is_tie)))
    (l_is_tie : K.lookup f_is_tie = some ⟨oc_is_tie, od_is_tie, .func (PySem.W.fnOf "is_tie" "is_tie" (defArgs s_is_tie) (defBody s_is_tie) (defScope s_is_tie) .none kV_is_tie dc_is_tie pm_is_tie an_is_tie cd_is_tie ct_is_tie), sl_is_tie⟩)
    (c_is_tie : PySem.W.codeIn K cd_is_tie "is_tie" = true)
    (k_is_tie : PySem.W.keepIn K (.ref f_is_tie) = true)
    (a_are_posts : PySem.W.nsIn K mainGlobals "are_posts" = some (some (.ref f_are_posts)))
    (l_are_posts : K.lookup f_are_posts = some ⟨oc_are_posts, od_are_posts, .func (PySem.W.fnOf "are_posts" "are_posts" (defArgs s_are_posts) (defBody s_are_posts) (defScope s_are_posts) .none kV_are_posts dc_are_posts pm_are_posts an_are_posts cd_are_posts ct_are_posts), sl_are_posts⟩)
    (c_are_posts : PySem.W.codeIn K cd_are_posts "are_posts" = true)
    (k_are_posts : PySem.W.keepIn K (.ref f_are_posts) = true)
    (a_is_triple_of : PySem.W.nsIn K mainGlobals "is_triple_of" = some (some (.ref f_is_triple_of)))
    (l_is_triple_of : K.lookup f_is_triple_of = some ⟨oc_is_triple_of, od_is_triple_of, .func (PySem.W.fnOf "is_triple_of" "is_triple_of" (defArgs s_is_triple_of) (defBody s_is_triple_of) (defScope s_is_triple_of) .none kV_is_triple_of dc_is_triple_of pm_is_triple_of an_is_triple_of cd_is_triple_of ct_is_triple_of), sl_is_triple_of⟩)
    (c_is_triple_of : PySem.W.codeIn K cd_is_triple_of "is_triple_of" = true)
    (k_is_triple_of : PySem.W.keepIn K (.ref f_is_triple_of) = true)
    (a_are_triples : PySem.W.nsIn K mainGlobals "are_triples" = some (some (.ref f_are_triples)))
    (l_are_triples : K.lookup f_are_triples = some ⟨oc_are_triples, od_are_triples, .func (PySem.W.fnOf "are_triples" "are_triples" (defArgs s_are_triples) (defBody s_are_triples) (defScope s_are_triples) .none kV_are_triples dc_are_triples pm_are_triples an_are_triples cd_are_triples ct_are_triples), sl_are_triples⟩)
    (c_are_triples : PySem.W.codeIn K cd_are_triples "are_triples" = true)
    (k_are_triples : PySem.W.keepIn K (.ref f_are_triples) = true)
    (a_Shape_init : PySem.W.findIn K (.ref C_Shape) "__init__" = some (some (.ref f_Shape_init)))
    (i_Shape_init : PySem.W.isFn K (.ref f_Shape_init) = true)
    (l_Shape_init : K.lookup f_Shape_init = some ⟨oc_Shape_init, od_Shape_init, .func (PySem.W.fnOf "__init__" "Shape.__init__" (defArgs s_Shape_init) (defBody s_Shape_init) (defScope s_Shape_init) (.ref dT_Shape_init) kV_Shape_init dc_Shape_init pm_Shape_init an_Shape_init cd_Shape_init ct_Shape_init), sl_Shape_init⟩)
    (c_Shape_init : PySem.W.codeIn K cd_Shape_init "Shape.__init__" = true)
    (k_Shape_init : PySem.W.keepIn K (.ref f_Shape_init) = true)
    (dl_Shape_init : K.lookup dT_Shape_init = some ⟨to_Shape_init, td_Shape_init, .seq #[.ref e_Shape_init_0, .ref e_Shape_init_1] tn_Shape_init, ts_Shape_init⟩)
    (el_Shape_init_0 : K.lookup e_Shape_init_0 = some ⟨.type "tuple", ed_Shape_init_0, .seq #[] en_Shape_init_0, es_Shape_init_0⟩)
    (el_Shape_init_1 : K.lookup e_Shape_init_1 = some ⟨.type "tuple", ed_Shape_init_1, .seq #[] en_Shape_init_1, es_Shape_init_1⟩)
    (at_Shape_sheet : PySem.W.findIn K (.ref C_Shape) "sheet" = some (some (.ref r_Shape_sheet)))
    (gt_Shape_sheet : PySem.W.specialIn K (.ref r_Shape_sheet) "__get__" = some (some (.builtin "property.__get__")))
    (tk_Shape_sheet : PySem.W.takesIn K (.ref r_Shape_sheet) = some true)
    (rc_Shape_sheet : PySem.W.recIn K r_Shape_sheet "property" = some (.ref f_Shape_sheet :: rs_Shape_sheet))
    (l_Shape_sheet : K.lookup f_Shape_sheet = some ⟨oc_Shape_sheet, od_Shape_sheet, .func (PySem.W.fnOf "sheet" "Shape.sheet" (defArgs s_Shape_sheet) (defBody s_Shape_sheet) (defScope s_Shape_sheet) .none kV_Shape_sheet dc_Shape_sheet pm_Shape_sheet an_Shape_sheet cd_Shape_sheet ct_Shape_sheet), sl_Shape_sheet⟩)
    (c_Shape_sheet : PySem.W.codeIn K cd_Shape_sheet "Shape.sheet" = true)
    (k_Shape_sheet : PySem.W.keepIn K (.ref f_Shape_sheet) = true)
    (at_Shape_posts : PySem.W.findIn K (.ref C_Shape) "posts" = some (some (.ref r_Shape_posts)))
    (gt_Shape_posts : PySem.W.specialIn K (.ref r_Shape_posts) "__get__" = some (some (.builtin "property.__get__")))
    (tk_Shape_posts : PySem.W.takesIn K (.ref r_Shape_posts) = some true)
    (rc_Shape_posts : PySem.W.recIn K r_Shape_posts "property" = some (.ref f_Shape_posts :: rs_Shape_posts))
    (l_Shape_posts : K.lookup f_Shape_posts = some ⟨oc_Shape_posts, od_Shape_posts, .func (PySem.W.fnOf "posts" "Shape.posts" (defArgs s_Shape_posts) (defBody s_Shape_posts) (defScope s_Shape_posts) .none kV_Shape_posts dc_Shape_posts pm_Shape_posts an_Shape_posts cd_Shape_posts ct_Shape_posts), sl_Shape_posts⟩)
    (c_Shape_posts : PySem.W.codeIn K cd_Shape_posts "Shape.posts" = true)
    (k_Shape_posts : PySem.W.keepIn K (.ref f_Shape_posts) = true)
    (at_Shape_there : PySem.W.findIn K (.ref C_Shape) "there" = some (some (.ref r_Shape_there)))
    (gt_Shape_there : PySem.W.specialIn K (.ref r_Shape_there) "__get__" = some (some (.builtin "property.__get__")))
    (tk_Shape_there : PySem.W.takesIn K (.ref r_Shape_there) = some true)
    (rc_Shape_there : PySem.W.recIn K r_Shape_there "property" = some (.ref f_Shape_there :: rs_Shape_there))
    (l_Shape_there : K.lookup f_Shape_there = some ⟨oc_Shape_there, od_Shape_there, .func (PySem.W.fnOf "there" "Shape.there" (defArgs s_Shape_there) (defBody s_Shape_there) (defScope s_Shape_there) .none kV_Shape_there dc_Shape_there pm_Shape_there an_Shape_there cd_Shape_there ct_Shape_there), sl_Shape_there⟩)
    (c_Shape_there : PySem.W.codeIn K cd_Shape_there "Shape.there" = true)
    (k_Shape_there : PySem.W.keepIn K (.ref f_Shape_there) = true)
    (at_Shape_lacking : PySem.W.findIn K (.ref C_Shape) "lacking" = some (some (.ref r_Shape_lacking)))
    (gt_Shape_lacking : PySem.W.specialIn K (.ref r_Shape_lacking) "__get__" = some (some (.builtin "property.__get__")))
    (tk_Shape_lacking : PySem.W.takesIn K (.ref r_Shape_lacking) = some true)
    (rc_Shape_lacking : PySem.W.recIn K r_Shape_lacking "property" = some (.ref f_Shape_lacking :: rs_Shape_lacking))
    (l_Shape_lacking : K.lookup f_Shape_lacking = some ⟨oc_Shape_lacking, od_Shape_lacking, .func (PySem.W.fnOf "lacking" "Shape.lacking" (defArgs s_Shape_lacking) (defBody s_Shape_lacking) (defScope s_Shape_lacking) .none kV_Shape_lacking dc_Shape_lacking pm_Shape_lacking an_Shape_lacking cd_Shape_lacking ct_Shape_lacking), sl_Shape_lacking⟩)
    (c_Shape_lacking : PySem.W.codeIn K cd_Shape_lacking "Shape.lacking" = true)
    (k_Shape_lacking : PySem.W.keepIn K (.ref f_Shape_lacking) = true)
    (at_Shape_names : PySem.W.findIn K (.ref C_Shape) "names" = some (some (.ref r_Shape_names)))
    (gt_Shape_names : PySem.W.specialIn K (.ref r_Shape_names) "__get__" = some (some (.builtin "property.__get__")))
    (tk_Shape_names : PySem.W.takesIn K (.ref r_Shape_names) = some true)
    (rc_Shape_names : PySem.W.recIn K r_Shape_names "property" = some (.ref f_Shape_names :: rs_Shape_names))
    (l_Shape_names : K.lookup f_Shape_names = some ⟨oc_Shape_names, od_Shape_names, .func (PySem.W.fnOf "names" "Shape.names" (defArgs s_Shape_names) (defBody s_Shape_names) (defScope s_Shape_names) .none kV_Shape_names dc_Shape_names pm_Shape_names an_Shape_names cd_Shape_names ct_Shape_names), sl_Shape_names⟩)
    (c_Shape_names : PySem.W.codeIn K cd_Shape_names "Shape.names" = true)
    (k_Shape_names : PySem.W.keepIn K (.ref f_Shape_names) = true)
    (a_Shape_len : PySem.W.findIn K (.ref C_Shape) "__len__" = some (some (.ref f_Shape_len)))
    (i_Shape_len : PySem.W.isFn K (.ref f_Shape_len) = true)
    (l_Shape_len : K.lookup f_Shape_len = some ⟨oc_Shape_len, od_Shape_len, .func (PySem.W.fnOf "__len__" "Shape.__len__" (defArgs s_Shape_len) (defBody s_Shape_len) (defScope s_Shape_len) .none kV_Shape_len dc_Shape_len pm_Shape_len an_Shape_len cd_Shape_len ct_Shape_len), sl_Shape_len⟩)
    (c_Shape_len : PySem.W.codeIn K cd_Shape_len "Shape.__len__" = true)
    (k_Shape_len : PySem.W.keepIn K (.ref f_Shape_len) = true)
    (a_Shape_eq : PySem.W.findIn K (.ref C_Shape) "__eq__" = some (some (.ref f_Shape_eq)))
    (i_Shape_eq : PySem.W.isFn K (.ref f_Shape_eq) = true)
    (l_Shape_eq : K.lookup f_Shape_eq = some ⟨oc_Shape_eq, od_Shape_eq, .func (PySem.W.fnOf "__eq__" "Shape.__eq__" (defArgs s_Shape_eq) (defBody s_Shape_eq) (defScope s_Shape_eq) .none kV_Shape_eq dc_Shape_eq pm_Shape_eq an_Shape_eq cd_Shape_eq ct_Shape_eq), sl_Shape_eq⟩)
    (c_Shape_eq : PySem.W.codeIn K cd_Shape_eq "Shape.__eq__" = true)
    (k_Shape_eq : PySem.W.keepIn K (.ref f_Shape_eq) = true)
    (a_Shape_str : PySem.W.findIn K (.ref C_Shape) "__str__" = some (some (.ref f_Shape_str)))
    (i_Shape_str : PySem.W.isFn K (.ref f_Shape_str) = true)
    (l_Shape_str : K.lookup f_Shape_str = some ⟨oc_Shape_str, od_Shape_str, .func (PySem.W.fnOf "__str__" "Shape.__str__" (defArgs s_Shape_str) (defBody s_Shape_str) (defScope s_Shape_str) .none kV_Shape_str dc_Shape_str pm_Shape_str an_Shape_str cd_Shape_str ct_Shape_str), sl_Shape_str⟩)
    (c_Shape_str : PySem.W.codeIn K cd_Shape_str "Shape.__str__" = true)
    (k_Shape_str : PySem.W.keepIn K (.ref f_Shape_str) = true)
    (a_can_be_ban : PySem.W.nsIn K mainGlobals "can_be_ban" = some (some (.ref f_can_be_ban)))
    (l_can_be_ban : K.lookup f_can_be_ban = some ⟨oc_can_be_ban, od_can_be_ban, .func (PySem.W.fnOf "can_be_ban" "can_be_ban" (defArgs s_can_be_ban) (defBody s_can_be_ban) (defScope s_can_be_ban) .none kV_can_be_ban dc_can_be_ban pm_can_be_ban an_can_be_ban cd_can_be_ban ct_can_be_ban), sl_can_be_ban⟩)
    (c_can_be_ban : PySem.W.codeIn K cd_can_be_ban "can_be_ban" = true)
    (k_can_be_ban : PySem.W.keepIn K (.ref f_can_be_ban) = true)
    (a_different : PySem.W.nsIn K mainGlobals "different" = some (some (.ref f_different)))
    (l_different : K.lookup f_different = some ⟨oc_different, od_different, .func (PySem.W.fnOf "different" "different" (defArgs s_different) (defBody s_different) (defScope s_different) .none kV_different dc_different pm_different an_different cd_different ct_different), sl_different⟩)
    (c_different : PySem.W.codeIn K cd_different "different" = true)
    (k_different : PySem.W.keepIn K (.ref f_different) = true)
    (a_Bans_init : PySem.W.findIn K (.ref C_Bans) "__init__" = some (some (.ref f_Bans_init)))
    (i_Bans_init : PySem.W.isFn K (.ref f_Bans_init) = true)
    (l_Bans_init : K.lookup f_Bans_init = some ⟨oc_Bans_init, od_Bans_init, .func (PySem.W.fnOf "__init__" "Bans.__init__" (defArgs s_Bans_init) (defBody s_Bans_init) (defScope s_Bans_init) .none kV_Bans_init dc_Bans_init pm_Bans_init an_Bans_init cd_Bans_init ct_Bans_init), sl_Bans_init⟩)
    (c_Bans_init : PySem.W.codeIn K cd_Bans_init "Bans.__init__" = true)
    (k_Bans_init : PySem.W.keepIn K (.ref f_Bans_init) = true)
    (at_Bans_of : PySem.W.findCls K (.ref C_Bans) (.type "type") "of" = some (.get (.builtin "classmethod.__get__") (.ref r_Bans_of) .none (.ref C_Bans)))
    (rc_Bans_of : PySem.W.recIn K r_Bans_of "classmethod" = some (.ref f_Bans_of :: rs_Bans_of))
    (fi_Bans_of : PySem.W.fnIn K f_Bans_of = true)
    (l_Bans_of : K.lookup f_Bans_of = some ⟨oc_Bans_of, od_Bans_of, .func (PySem.W.fnOf "of" "Bans.of" (defArgs s_Bans_of) (defBody s_Bans_of) (defScope s_Bans_of) .none kV_Bans_of dc_Bans_of pm_Bans_of an_Bans_of cd_Bans_of ct_Bans_of), sl_Bans_of⟩)
    (c_Bans_of : PySem.W.codeIn K cd_Bans_of "Bans.of" = true)
    (k_Bans_of : PySem.W.keepIn K (.ref f_Bans_of) = true)
    (at_Bans_sheet : PySem.W.findIn K (.ref C_Bans) "sheet" = some (some (.ref r_Bans_sheet)))
    (gt_Bans_sheet : PySem.W.specialIn K (.ref r_Bans_sheet) "__get__" = some (some (.builtin "property.__get__")))
    (tk_Bans_sheet : PySem.W.takesIn K (.ref r_Bans_sheet) = some true)
    (rc_Bans_sheet : PySem.W.recIn K r_Bans_sheet "property" = some (.ref f_Bans_sheet :: rs_Bans_sheet))
    (l_Bans_sheet : K.lookup f_Bans_sheet = some ⟨oc_Bans_sheet, od_Bans_sheet, .func (PySem.W.fnOf "sheet" "Bans.sheet" (defArgs s_Bans_sheet) (defBody s_Bans_sheet) (defScope s_Bans_sheet) .none kV_Bans_sheet dc_Bans_sheet pm_Bans_sheet an_Bans_sheet cd_Bans_sheet ct_Bans_sheet), sl_Bans_sheet⟩)
    (c_Bans_sheet : PySem.W.codeIn K cd_Bans_sheet "Bans.sheet" = true)
    (k_Bans_sheet : PySem.W.keepIn K (.ref f_Bans_sheet) = true)
    (at_Bans_shapes : PySem.W.findIn K (.ref C_Bans) "shapes" = some (some (.ref r_Bans_shapes)))
    (gt_Bans_shapes : PySem.W.specialIn K (.ref r_Bans_shapes) "__get__" = some (some (.builtin "property.__get__")))
    (tk_Bans_shapes : PySem.W.takesIn K (.ref r_Bans_shapes) = some true)
    (rc_Bans_shapes : PySem.W.recIn K r_Bans_shapes "property" = some (.ref f_Bans_shapes :: rs_Bans_shapes))
    (l_Bans_shapes : K.lookup f_Bans_shapes = some ⟨oc_Bans_shapes, od_Bans_shapes, .func (PySem.W.fnOf "shapes" "Bans.shapes" (defArgs s_Bans_shapes) (defBody s_Bans_shapes) (defScope s_Bans_shapes) .none kV_Bans_shapes dc_Bans_shapes pm_Bans_shapes an_Bans_shapes cd_Bans_shapes ct_Bans_shapes), sl_Bans_shapes⟩)
    (c_Bans_shapes : PySem.W.codeIn K cd_Bans_shapes "Bans.shapes" = true)
    (k_Bans_shapes : PySem.W.keepIn K (.ref f_Bans_shapes) = true)
    (a_Bans_or : PySem.W.findIn K (.ref C_Bans) "__or__" = some (some (.ref f_Bans_or)))
    (i_Bans_or : PySem.W.isFn K (.ref f_Bans_or) = true)
    (l_Bans_or : K.lookup f_Bans_or = some ⟨oc_Bans_or, od_Bans_or, .func (PySem.W.fnOf "__or__" "Bans.__or__" (defArgs s_Bans_or) (defBody s_Bans_or) (defScope s_Bans_or) .none kV_Bans_or dc_Bans_or pm_Bans_or an_Bans_or cd_Bans_or ct_Bans_or), sl_Bans_or⟩)
    (c_Bans_or : PySem.W.codeIn K cd_Bans_or "Bans.__or__" = true)
    (k_Bans_or : PySem.W.keepIn K (.ref f_Bans_or) = true)
    (a_Bans_contains : PySem.W.findIn K (.ref C_Bans) "__contains__" = some (some (.ref f_Bans_contains)))
    (i_Bans_contains : PySem.W.isFn K (.ref f_Bans_contains) = true)
    (l_Bans_contains : K.lookup f_Bans_contains = some ⟨oc_Bans_contains, od_Bans_contains, .func (PySem.W.fnOf "__contains__" "Bans.__contains__" (defArgs s_Bans_contains) (defBody s_Bans_contains) (defScope s_Bans_contains) .none kV_Bans_contains dc_Bans_contains pm_Bans_contains an_Bans_contains cd_Bans_contains ct_Bans_contains), sl_Bans_contains⟩)
    (c_Bans_contains : PySem.W.codeIn K cd_Bans_contains "Bans.__contains__" = true)
    (k_Bans_contains : PySem.W.keepIn K (.ref f_Bans_contains) = true)
    (a_Bans_getitem : PySem.W.findIn K (.ref C_Bans) "__getitem__" = some (some (.ref f_Bans_getitem)))
    (i_Bans_getitem : PySem.W.isFn K (.ref f_Bans_getitem) = true)
    (l_Bans_getitem : K.lookup f_Bans_getitem = some ⟨oc_Bans_getitem, od_Bans_getitem, .func (PySem.W.fnOf "__getitem__" "Bans.__getitem__" (defArgs s_Bans_getitem) (defBody s_Bans_getitem) (defScope s_Bans_getitem) .none kV_Bans_getitem dc_Bans_getitem pm_Bans_getitem an_Bans_getitem cd_Bans_getitem ct_Bans_getitem), sl_Bans_getitem⟩)
    (c_Bans_getitem : PySem.W.codeIn K cd_Bans_getitem "Bans.__getitem__" = true)
    (k_Bans_getitem : PySem.W.keepIn K (.ref f_Bans_getitem) = true)
    (a_Bans_iter : PySem.W.findIn K (.ref C_Bans) "__iter__" = some (some (.ref f_Bans_iter)))
    (i_Bans_iter : PySem.W.isFn K (.ref f_Bans_iter) = true)
    (l_Bans_iter : K.lookup f_Bans_iter = some ⟨oc_Bans_iter, od_Bans_iter, .func (PySem.W.fnOf "__iter__" "Bans.__iter__" (defArgs s_Bans_iter) (defBody s_Bans_iter) (defScope s_Bans_iter) .none kV_Bans_iter dc_Bans_iter pm_Bans_iter an_Bans_iter cd_Bans_iter ct_Bans_iter), sl_Bans_iter⟩)
    (c_Bans_iter : PySem.W.codeIn K cd_Bans_iter "Bans.__iter__" = true)
    (k_Bans_iter : PySem.W.keepIn K (.ref f_Bans_iter) = true)
    (a_Bans_len : PySem.W.findIn K (.ref C_Bans) "__len__" = some (some (.ref f_Bans_len)))
    (i_Bans_len : PySem.W.isFn K (.ref f_Bans_len) = true)
    (l_Bans_len : K.lookup f_Bans_len = some ⟨oc_Bans_len, od_Bans_len, .func (PySem.W.fnOf "__len__" "Bans.__len__" (defArgs s_Bans_len) (defBody s_Bans_len) (defScope s_Bans_len) .none kV_Bans_len dc_Bans_len pm_Bans_len an_Bans_len cd_Bans_len ct_Bans_len), sl_Bans_len⟩)
    (c_Bans_len : PySem.W.codeIn K cd_Bans_len "Bans.__len__" = true)
    (k_Bans_len : PySem.W.keepIn K (.ref f_Bans_len) = true)
    (a_Bans_eq : PySem.W.findIn K (.ref C_Bans) "__eq__" = some (some (.ref f_Bans_eq)))
    (i_Bans_eq : PySem.W.isFn K (.ref f_Bans_eq) = true)
    (l_Bans_eq : K.lookup f_Bans_eq = some ⟨oc_Bans_eq, od_Bans_eq, .func (PySem.W.fnOf "__eq__" "Bans.__eq__" (defArgs s_Bans_eq) (defBody s_Bans_eq) (defScope s_Bans_eq) .none kV_Bans_eq dc_Bans_eq pm_Bans_eq an_Bans_eq cd_Bans_eq ct_Bans_eq), sl_Bans_eq⟩)
    (c_Bans_eq : PySem.W.codeIn K cd_Bans_eq "Bans.__eq__" = true)
    (k_Bans_eq : PySem.W.keepIn K (.ref f_Bans_eq) = true)
    (a_Bans_str : PySem.W.findIn K (.ref C_Bans) "__str__" = some (some (.ref f_Bans_str)))
    (i_Bans_str : PySem.W.isFn K (.ref f_Bans_str) = true)
    (l_Bans_str : K.lookup f_Bans_str = some ⟨oc_Bans_str, od_Bans_str, .func (PySem.W.fnOf "__str__" "Bans.__str__" (defArgs s_Bans_str) (defBody s_Bans_str) (defScope s_Bans_str) .none kV_Bans_str dc_Bans_str pm_Bans_str an_Bans_str cd_Bans_str ct_Bans_str), sl_Bans_str⟩)
    (c_Bans_str : PySem.W.codeIn K cd_Bans_str "Bans.__str__" = true)
    (k_Bans_str : PySem.W.keepIn K (.ref f_Bans_str) = true)
    (a_law_dice : PySem.W.nsIn K mainGlobals "_law_dice" = some (some (.ref f_law_dice)))
    (l_law_dice : K.lookup f_law_dice = some ⟨oc_law_dice, od_law_dice, .func (PySem.W.fnOf "_law_dice" "_law_dice" (defArgs s_law_dice) (defBody s_law_dice) (defScope s_law_dice) .none kV_law_dice dc_law_dice pm_law_dice an_law_dice cd_law_dice ct_law_dice), sl_law_dice⟩)
    (c_law_dice : PySem.W.codeIn K cd_law_dice "_law_dice" = true)
    (k_law_dice : PySem.W.keepIn K (.ref f_law_dice) = true)
    (a_law_roll : PySem.W.nsIn K mainGlobals "_law_roll" = some (some (.ref f_law_roll)))
    (l_law_roll : K.lookup f_law_roll = some ⟨oc_law_roll, od_law_roll, .func (PySem.W.fnOf "_law_roll" "_law_roll" (defArgs s_law_roll) (defBody s_law_roll) (defScope s_law_roll) .none kV_law_roll dc_law_roll pm_law_roll an_law_roll cd_law_roll ct_law_roll), sl_law_roll⟩)
    (c_law_roll : PySem.W.codeIn K cd_law_roll "_law_roll" = true)
    (k_law_roll : PySem.W.keepIn K (.ref f_law_roll) = true)
    (a_law_pick : PySem.W.nsIn K mainGlobals "_law_pick" = some (some (.ref f_law_pick)))
    (l_law_pick : K.lookup f_law_pick = some ⟨oc_law_pick, od_law_pick, .func (PySem.W.fnOf "_law_pick" "_law_pick" (defArgs s_law_pick) (defBody s_law_pick) (defScope s_law_pick) .none kV_law_pick dc_law_pick pm_law_pick an_law_pick cd_law_pick ct_law_pick), sl_law_pick⟩)
    (c_law_pick : PySem.W.codeIn K cd_law_pick "_law_pick" = true)
    (k_law_pick : PySem.W.keepIn K (.ref f_law_pick) = true)
    (a_law_mixed : PySem.W.nsIn K mainGlobals "_law_mixed" = some (some (.ref f_law_mixed)))
    (l_law_mixed : K.lookup f_law_mixed = some ⟨oc_law_mixed, od_law_mixed, .func (PySem.W.fnOf "_law_mixed" "_law_mixed" (defArgs s_law_mixed) (defBody s_law_mixed) (defScope s_law_mixed) .none kV_law_mixed dc_law_mixed pm_law_mixed an_law_mixed cd_law_mixed ct_law_mixed), sl_law_mixed⟩)
    (c_law_mixed : PySem.W.codeIn K cd_law_mixed "_law_mixed" = true)
    (k_law_mixed : PySem.W.keepIn K (.ref f_law_mixed) = true)
    (a_law_fresh : PySem.W.nsIn K mainGlobals "_law_fresh" = some (some (.ref f_law_fresh)))
    (l_law_fresh : K.lookup f_law_fresh = some ⟨oc_law_fresh, od_law_fresh, .func (PySem.W.fnOf "_law_fresh" "_law_fresh" (defArgs s_law_fresh) (defBody s_law_fresh) (defScope s_law_fresh) .none kV_law_fresh dc_law_fresh pm_law_fresh an_law_fresh cd_law_fresh ct_law_fresh), sl_law_fresh⟩)
    (c_law_fresh : PySem.W.codeIn K cd_law_fresh "_law_fresh" = true)
    (k_law_fresh : PySem.W.keepIn K (.ref f_law_fresh) = true)
    (a_law_names : PySem.W.nsIn K mainGlobals "_law_names" = some (some (.ref f_law_names)))
    (l_law_names : K.lookup f_law_names = some ⟨oc_law_names, od_law_names, .func (PySem.W.fnOf "_law_names" "_law_names" (defArgs s_law_names) (defBody s_law_names) (defScope s_law_names) .none kV_law_names dc_law_names pm_law_names an_law_names cd_law_names ct_law_names), sl_law_names⟩)
    (c_law_names : PySem.W.codeIn K cd_law_names "_law_names" = true)
    (k_law_names : PySem.W.keepIn K (.ref f_law_names) = true)
    (a_law_new_sheet : PySem.W.nsIn K mainGlobals "_law_new_sheet" = some (some (.ref f_law_new_sheet)))
    (l_law_new_sheet : K.lookup f_law_new_sheet = some ⟨oc_law_new_sheet, od_law_new_sheet, .func (PySem.W.fnOf "_law_new_sheet" "_law_new_sheet" (defArgs s_law_new_sheet) (defBody s_law_new_sheet) (defScope s_law_new_sheet) .none kV_law_new_sheet dc_law_new_sheet pm_law_new_sheet an_law_new_sheet cd_law_new_sheet ct_law_new_sheet), sl_law_new_sheet⟩)
    (c_law_new_sheet : PySem.W.codeIn K cd_law_new_sheet "_law_new_sheet" = true)
    (k_law_new_sheet : PySem.W.keepIn K (.ref f_law_new_sheet) = true)
    (a_law_sheet_made : PySem.W.nsIn K mainGlobals "_law_sheet_made" = some (some (.ref f_law_sheet_made)))
    (l_law_sheet_made : K.lookup f_law_sheet_made = some ⟨oc_law_sheet_made, od_law_sheet_made, .func (PySem.W.fnOf "_law_sheet_made" "_law_sheet_made" (defArgs s_law_sheet_made) (defBody s_law_sheet_made) (defScope s_law_sheet_made) .none kV_law_sheet_made dc_law_sheet_made pm_law_sheet_made an_law_sheet_made cd_law_sheet_made ct_law_sheet_made), sl_law_sheet_made⟩)
    (c_law_sheet_made : PySem.W.codeIn K cd_law_sheet_made "_law_sheet_made" = true)
    (k_law_sheet_made : PySem.W.keepIn K (.ref f_law_sheet_made) = true)
    (a_law_twin : PySem.W.nsIn K mainGlobals "_law_twin" = some (some (.ref f_law_twin)))
    (l_law_twin : K.lookup f_law_twin = some ⟨oc_law_twin, od_law_twin, .func (PySem.W.fnOf "_law_twin" "_law_twin" (defArgs s_law_twin) (defBody s_law_twin) (defScope s_law_twin) .none kV_law_twin dc_law_twin pm_law_twin an_law_twin cd_law_twin ct_law_twin), sl_law_twin⟩)
    (c_law_twin : PySem.W.codeIn K cd_law_twin "_law_twin" = true)
    (k_law_twin : PySem.W.keepIn K (.ref f_law_twin) = true)
    (a_law_ties : PySem.W.nsIn K mainGlobals "_law_ties" = some (some (.ref f_law_ties)))
    (l_law_ties : K.lookup f_law_ties = some ⟨oc_law_ties, od_law_ties, .func (PySem.W.fnOf "_law_ties" "_law_ties" (defArgs s_law_ties) (defBody s_law_ties) (defScope s_law_ties) .none kV_law_ties dc_law_ties pm_law_ties an_law_ties cd_law_ties ct_law_ties), sl_law_ties⟩)
    (c_law_ties : PySem.W.codeIn K cd_law_ties "_law_ties" = true)
    (k_law_ties : PySem.W.keepIn K (.ref f_law_ties) = true)
    (a_law_shape_made : PySem.W.nsIn K mainGlobals "_law_shape_made" = some (some (.ref f_law_shape_made)))
    (l_law_shape_made : K.lookup f_law_shape_made = some ⟨oc_law_shape_made, od_law_shape_made, .func (PySem.W.fnOf "_law_shape_made" "_law_shape_made" (defArgs s_law_shape_made) (defBody s_law_shape_made) (defScope s_law_shape_made) .none kV_law_shape_made dc_law_shape_made pm_law_shape_made an_law_shape_made cd_law_shape_made ct_law_shape_made), sl_law_shape_made⟩)
    (c_law_shape_made : PySem.W.codeIn K cd_law_shape_made "_law_shape_made" = true)
    (k_law_shape_made : PySem.W.keepIn K (.ref f_law_shape_made) = true)
    (a_law_new_ban : PySem.W.nsIn K mainGlobals "_law_new_ban" = some (some (.ref f_law_new_ban)))
    (l_law_new_ban : K.lookup f_law_new_ban = some ⟨oc_law_new_ban, od_law_new_ban, .func (PySem.W.fnOf "_law_new_ban" "_law_new_ban" (defArgs s_law_new_ban) (defBody s_law_new_ban) (defScope s_law_new_ban) .none kV_law_new_ban dc_law_new_ban pm_law_new_ban an_law_new_ban cd_law_new_ban ct_law_new_ban), sl_law_new_ban⟩)
    (c_law_new_ban : PySem.W.codeIn K cd_law_new_ban "_law_new_ban" = true)
    (k_law_new_ban : PySem.W.keepIn K (.ref f_law_new_ban) = true)
    (a_law_same_shape : PySem.W.nsIn K mainGlobals "_law_same_shape" = some (some (.ref f_law_same_shape)))
    (l_law_same_shape : K.lookup f_law_same_shape = some ⟨oc_law_same_shape, od_law_same_shape, .func (PySem.W.fnOf "_law_same_shape" "_law_same_shape" (defArgs s_law_same_shape) (defBody s_law_same_shape) (defScope s_law_same_shape) .none kV_law_same_shape dc_law_same_shape pm_law_same_shape an_law_same_shape cd_law_same_shape ct_law_same_shape), sl_law_same_shape⟩)
    (c_law_same_shape : PySem.W.codeIn K cd_law_same_shape "_law_same_shape" = true)
    (k_law_same_shape : PySem.W.keepIn K (.ref f_law_same_shape) = true)
    (a_law_new_bans : PySem.W.nsIn K mainGlobals "_law_new_bans" = some (some (.ref f_law_new_bans)))
    (l_law_new_bans : K.lookup f_law_new_bans = some ⟨oc_law_new_bans, od_law_new_bans, .func (PySem.W.fnOf "_law_new_bans" "_law_new_bans" (defArgs s_law_new_bans) (defBody s_law_new_bans) (defScope s_law_new_bans) .none kV_law_new_bans dc_law_new_bans pm_law_new_bans an_law_new_bans cd_law_new_bans ct_law_new_bans), sl_law_new_bans⟩)
    (c_law_new_bans : PySem.W.codeIn K cd_law_new_bans "_law_new_bans" = true)
    (k_law_new_bans : PySem.W.keepIn K (.ref f_law_new_bans) = true)
    (a_law_bans_made : PySem.W.nsIn K mainGlobals "_law_bans_made" = some (some (.ref f_law_bans_made)))
    (l_law_bans_made : K.lookup f_law_bans_made = some ⟨oc_law_bans_made, od_law_bans_made, .func (PySem.W.fnOf "_law_bans_made" "_law_bans_made" (defArgs s_law_bans_made) (defBody s_law_bans_made) (defScope s_law_bans_made) .none kV_law_bans_made dc_law_bans_made pm_law_bans_made an_law_bans_made cd_law_bans_made ct_law_bans_made), sl_law_bans_made⟩)
    (c_law_bans_made : PySem.W.codeIn K cd_law_bans_made "_law_bans_made" = true)
    (k_law_bans_made : PySem.W.keepIn K (.ref f_law_bans_made) = true)
    (a_law_is_told : PySem.W.nsIn K mainGlobals "_law_is_told" = some (some (.ref f_law_is_told)))
    (l_law_is_told : K.lookup f_law_is_told = some ⟨oc_law_is_told, od_law_is_told, .func (PySem.W.fnOf "_law_is_told" "_law_is_told" (defArgs s_law_is_told) (defBody s_law_is_told) (defScope s_law_is_told) .none kV_law_is_told dc_law_is_told pm_law_is_told an_law_is_told cd_law_is_told ct_law_is_told), sl_law_is_told⟩)
    (c_law_is_told : PySem.W.codeIn K cd_law_is_told "_law_is_told" = true)
    (k_law_is_told : PySem.W.keepIn K (.ref f_law_is_told) = true)
    (a_law_refuses : PySem.W.nsIn K mainGlobals "_law_refuses" = some (some (.ref f_law_refuses)))
    (l_law_refuses : K.lookup f_law_refuses = some ⟨oc_law_refuses, od_law_refuses, .func (PySem.W.fnOf "_law_refuses" "_law_refuses" (defArgs s_law_refuses) (defBody s_law_refuses) (defScope s_law_refuses) .none kV_law_refuses dc_law_refuses pm_law_refuses an_law_refuses cd_law_refuses ct_law_refuses), sl_law_refuses⟩)
    (c_law_refuses : PySem.W.codeIn K cd_law_refuses "_law_refuses" = true)
    (k_law_refuses : PySem.W.keepIn K (.ref f_law_refuses) = true)
    (a_law_right : PySem.W.nsIn K mainGlobals "_law_right" = some (some (.ref f_law_right)))
    (l_law_right : K.lookup f_law_right = some ⟨oc_law_right, od_law_right, .func (PySem.W.fnOf "_law_right" "_law_right" (defArgs s_law_right) (defBody s_law_right) (defScope s_law_right) .none kV_law_right dc_law_right pm_law_right an_law_right cd_law_right ct_law_right), sl_law_right⟩)
    (c_law_right : PySem.W.codeIn K cd_law_right "_law_right" = true)
    (k_law_right : PySem.W.keepIn K (.ref f_law_right) = true)
    (a_law_by_place : PySem.W.nsIn K mainGlobals "_law_by_place" = some (some (.ref f_law_by_place)))
    (l_law_by_place : K.lookup f_law_by_place = some ⟨oc_law_by_place, od_law_by_place, .func (PySem.W.fnOf "_law_by_place" "_law_by_place" (defArgs s_law_by_place) (defBody s_law_by_place) (defScope s_law_by_place) .none kV_law_by_place dc_law_by_place pm_law_by_place an_law_by_place cd_law_by_place ct_law_by_place), sl_law_by_place⟩)
    (c_law_by_place : PySem.W.codeIn K cd_law_by_place "_law_by_place" = true)
    (k_law_by_place : PySem.W.keepIn K (.ref f_law_by_place) = true)
    (a_law : PySem.W.nsIn K mainGlobals "law" = some (some (.ref f_law)))
    (l_law : K.lookup f_law = some ⟨oc_law, od_law, .func (PySem.W.fnOf "law" "law" (defArgs s_law) (defBody s_law) (defScope s_law) .none kV_law dc_law pm_law an_law cd_law ct_law), sl_law⟩)
    (c_law : PySem.W.codeIn K cd_law "law" = true)
    (k_law : PySem.W.keepIn K (.ref f_law) = true)
    (pg_Sheet : PySem.W.plainGet K C_Sheet Str.empty = true)
    (hd_Sheet : PySem.W.hasDictIn K C_Sheet = true)
    (po_Sheet : PySem.W.plainOver K C_Sheet = true)
    (sa_Sheet : PySem.W.findIn K (.ref C_Sheet) "__setattr__" = some (some (.builtin "object.__setattr__")))
    (cc_Sheet : PySem.W.findIn K (.ref C_Sheet) "__class__" = some (some (.builtin "object.__class__")))
    (cg_Sheet : PySem.W.specialIn K (.builtin "object.__class__") "__get__" = some (some (.builtin "getset_descriptor.__get__")))
    (ct_Sheet : PySem.W.takesIn K (.builtin "object.__class__") = some true)
    (mr_Sheet : PySem.W.mroIn K C_Sheet (.type "object") = some true)
    (ne_Sheet : PySem.W.findIn K (.ref C_Sheet) "__ne__" = some (some (.builtin "object.__ne__")))
    (ic_Sheet : PySem.W.isClsIn K C_Sheet = true)
    (it_Sheet : PySem.W.typeIn K (.ref C_Sheet) = some (.type "type"))
    (mk_Sheet : PySem.W.makesIn K C_Sheet = true)
    (kc_Sheet : PySem.W.keepIn K (.ref C_Sheet) = true)
    (n_Sheet_own_kinds : PySem.W.findIn K (.ref C_Sheet) "own_kinds" = some none)
    (n_Sheet_own_words : PySem.W.findIn K (.ref C_Sheet) "own_words" = some none)
    (pg_Shape : PySem.W.plainGet K C_Shape Str.empty = true)
    (hd_Shape : PySem.W.hasDictIn K C_Shape = true)
    (po_Shape : PySem.W.plainOver K C_Shape = true)
    (sa_Shape : PySem.W.findIn K (.ref C_Shape) "__setattr__" = some (some (.builtin "object.__setattr__")))
    (cc_Shape : PySem.W.findIn K (.ref C_Shape) "__class__" = some (some (.builtin "object.__class__")))
    (cg_Shape : PySem.W.specialIn K (.builtin "object.__class__") "__get__" = some (some (.builtin "getset_descriptor.__get__")))
    (ct_Shape : PySem.W.takesIn K (.builtin "object.__class__") = some true)
    (mr_Shape : PySem.W.mroIn K C_Shape (.type "object") = some true)
    (ne_Shape : PySem.W.findIn K (.ref C_Shape) "__ne__" = some (some (.builtin "object.__ne__")))
    (ic_Shape : PySem.W.isClsIn K C_Shape = true)
    (it_Shape : PySem.W.typeIn K (.ref C_Shape) = some (.type "type"))
    (mk_Shape : PySem.W.makesIn K C_Shape = true)
    (kc_Shape : PySem.W.keepIn K (.ref C_Shape) = true)
    (n_Shape_own_sheet : PySem.W.findIn K (.ref C_Shape) "own_sheet" = some none)
    (n_Shape_own_posts : PySem.W.findIn K (.ref C_Shape) "own_posts" = some none)
    (n_Shape_own_there : PySem.W.findIn K (.ref C_Shape) "own_there" = some none)
    (n_Shape_own_lacking : PySem.W.findIn K (.ref C_Shape) "own_lacking" = some none)
    (pg_Bans : PySem.W.plainGet K C_Bans Str.empty = true)
    (hd_Bans : PySem.W.hasDictIn K C_Bans = true)
    (po_Bans : PySem.W.plainOver K C_Bans = true)
    (sa_Bans : PySem.W.findIn K (.ref C_Bans) "__setattr__" = some (some (.builtin "object.__setattr__")))
    (cc_Bans : PySem.W.findIn K (.ref C_Bans) "__class__" = some (some (.builtin "object.__class__")))
    (cg_Bans : PySem.W.specialIn K (.builtin "object.__class__") "__get__" = some (some (.builtin "getset_descriptor.__get__")))
    (ct_Bans : PySem.W.takesIn K (.builtin "object.__class__") = some true)
    (mr_Bans : PySem.W.mroIn K C_Bans (.type "object") = some true)
    (ne_Bans : PySem.W.findIn K (.ref C_Bans) "__ne__" = some (some (.builtin "object.__ne__")))
    (ic_Bans : PySem.W.isClsIn K C_Bans = true)
    (it_Bans : PySem.W.typeIn K (.ref C_Bans) = some (.type "type"))
    (mk_Bans : PySem.W.makesIn K C_Bans = true)
    (kc_Bans : PySem.W.keepIn K (.ref C_Bans) = true)
    (n_Bans_own_sheet : PySem.W.findIn K (.ref C_Bans) "own_sheet" = some none)
    (n_Bans_own_shapes : PySem.W.findIn K (.ref C_Bans) "own_shapes" = some none)
    (rd_Bans : PySem.W.readsIn K C_Bans (.type "type") = true)
    (ga_Bans : PySem.W.specialIn K (.ref C_Bans) "__getattribute__" = some (some (.builtin "type.__getattribute__")))
    (x_ShapeError : PySem.W.excIn K C_ShapeError [.type "ValueError", .type "Exception", .type "BaseException", .type "object"] "ValueError.__new__" = true)
    (k_ShapeError : PySem.W.keepIn K (.ref C_ShapeError) = true)
    (s_ShapeError : PySem.W.subIn K (.ref C_ShapeError) (.type "BaseException") = some true)
    (t_ShapeError : PySem.W.typeIn K (.ref C_ShapeError) = some (.type "type"))
    (i_ShapeError : PySem.W.isClsIn K C_ShapeError = true)
    (ss_ShapeError : PySem.W.subIn K (.ref C_ShapeError) (.ref C_ShapeError) = some true)
    (x_InvalidSheet : PySem.W.excIn K C_InvalidSheet [.type "ValueError", .type "Exception", .type "BaseException", .type "object"] "ValueError.__new__" = true)
    (k_InvalidSheet : PySem.W.keepIn K (.ref C_InvalidSheet) = true)
    (s_InvalidSheet : PySem.W.subIn K (.ref C_InvalidSheet) (.type "BaseException") = some true)
    (t_InvalidSheet : PySem.W.typeIn K (.ref C_InvalidSheet) = some (.type "type"))
    (i_InvalidSheet : PySem.W.isClsIn K C_InvalidSheet = true)
    (ss_InvalidSheet : PySem.W.subIn K (.ref C_InvalidSheet) (.ref C_InvalidSheet) = some true)
    (x_InvalidShape : PySem.W.excIn K C_InvalidShape [.type "ValueError", .type "Exception", .type "BaseException", .type "object"] "ValueError.__new__" = true)
    (k_InvalidShape : PySem.W.keepIn K (.ref C_InvalidShape) = true)
    (s_InvalidShape : PySem.W.subIn K (.ref C_InvalidShape) (.type "BaseException") = some true)
    (t_InvalidShape : PySem.W.typeIn K (.ref C_InvalidShape) = some (.type "type"))
    (i_InvalidShape : PySem.W.isClsIn K C_InvalidShape = true)
    (ss_InvalidShape : PySem.W.subIn K (.ref C_InvalidShape) (.ref C_InvalidShape) = some true)
    (x_InvalidBans : PySem.W.excIn K C_InvalidBans [.type "ValueError", .type "Exception", .type "BaseException", .type "object"] "ValueError.__new__" = true)
    (k_InvalidBans : PySem.W.keepIn K (.ref C_InvalidBans) = true)
    (s_InvalidBans : PySem.W.subIn K (.ref C_InvalidBans) (.type "BaseException") = some true)
    (t_InvalidBans : PySem.W.typeIn K (.ref C_InvalidBans) = some (.type "type"))
    (i_InvalidBans : PySem.W.isClsIn K C_InvalidBans = true)
    (ss_InvalidBans : PySem.W.subIn K (.ref C_InvalidBans) (.ref C_InvalidBans) = some true)
    (x_InvalidOperation : PySem.W.excIn K C_InvalidOperation [.type "ValueError", .type "Exception", .type "BaseException", .type "object"] "ValueError.__new__" = true)
    (k_InvalidOperation : PySem.W.keepIn K (.ref C_InvalidOperation) = true)
    (s_InvalidOperation : PySem.W.subIn K (.ref C_InvalidOperation) (.type "BaseException") = some true)
    (t_InvalidOperation : PySem.W.typeIn K (.ref C_InvalidOperation) = some (.type "type"))
    (i_InvalidOperation : PySem.W.isClsIn K C_InvalidOperation = true)
    (ss_InvalidOperation : PySem.W.subIn K (.ref C_InvalidOperation) (.ref C_InvalidOperation) = some true)
    (n_InvalidNumber_value : PySem.W.findIn K (.ref C_InvalidNumber) "value" = some none)
    (k_InvalidNumber : PySem.W.keepIn K (.ref C_InvalidNumber) = true)
    (s_InvalidNumber : PySem.W.subIn K (.ref C_InvalidNumber) (.type "BaseException") = some true)
    (t_InvalidNumber : PySem.W.typeIn K (.ref C_InvalidNumber) = some (.type "type"))
    (i_InvalidNumber : PySem.W.isClsIn K C_InvalidNumber = true)
    (ss_InvalidNumber : PySem.W.subIn K (.ref C_InvalidNumber) (.ref C_InvalidNumber) = some true)
    (y_ss_no : PySem.W.subIn K (.ref C_Sheet) (.ref C_Shape) = some false)
    (y_sb_no : PySem.W.subIn K (.ref C_Sheet) (.ref C_Bans) = some false)
    (y_sb_ne : (Value.ref C_Sheet == Value.ref C_Bans) = false)
    (y_sf_Bans : PySem.W.selfFirst K C_Bans = true)
    (y_gf_getitem : PySem.W.fnIn K f_Bans_getitem = true)
    (y_xf_InvalidNumber : L2.xfB K C_InvalidNumber = true)
    (y_o_InvalidNumber : PySem.Kx.oxB K C_InvalidNumber PySem.Kx.tIndex "IndexError.__new__" = true)
    (y_sa_InvalidNumber : PySem.W.findIn K (.ref C_InvalidNumber) "__setattr__" = some (some (.builtin "object.__setattr__")))
    (y_v_IndexError : PySem.W.findCls K (.type "IndexError") (.type "type") "__init__" = some (.val (.builtin "IndexError.__init__")))
    (y_ss_ne : (Value.ref C_Sheet == Value.ref C_Shape) = false)
    (v_MAX_KINDS : PySem.W.nsIn K mainGlobals "MAX_KINDS" = some (some (.int 3 t_MAX_KINDS)))
    (v_MAX_WORDS : PySem.W.nsIn K mainGlobals "MAX_WORDS" = some (some (.int 2 t_MAX_WORDS)))
    (v_MAX_LETTERS : PySem.W.nsIn K mainGlobals "MAX_LETTERS" = some (some (.int 8 t_MAX_LETTERS)))
    (v_LETTERS : PySem.W.nsIn K mainGlobals "LETTERS" = some (some (.str "abcdefghijklmnopqrstuvwxyz" t_LETTERS)))
    (v_MAX_NAMES : PySem.W.nsIn K mainGlobals "MAX_NAMES" = some (some (.int 12 t_MAX_NAMES)))
    (v_MAX_BANS : PySem.W.nsIn K mainGlobals "MAX_BANS" = some (some (.int 8 t_MAX_BANS)))
    (v_MOST_POSTS : PySem.W.nsIn K mainGlobals "MOST_POSTS" = some (some (.int 3 t_MOST_POSTS)))
    (z_IndexError : PySem.W.nsIn K mainGlobals "IndexError" = some none)
    (z_abs : PySem.W.nsIn K mainGlobals "abs" = some none)
    (z_all : PySem.W.nsIn K mainGlobals "all" = some none)
    (z_any : PySem.W.nsIn K mainGlobals "any" = some none)
    (z_bool : PySem.W.nsIn K mainGlobals "bool" = some none)
    (z_classmethod : PySem.W.nsIn K mainGlobals "classmethod" = some none)
    (z_dict : PySem.W.nsIn K mainGlobals "dict" = some none)
    (z_enumerate : PySem.W.nsIn K mainGlobals "enumerate" = some none)
    (z_int : PySem.W.nsIn K mainGlobals "int" = some none)
    (z_isinstance : PySem.W.nsIn K mainGlobals "isinstance" = some none)
    (z_iter : PySem.W.nsIn K mainGlobals "iter" = some none)
    (z_len : PySem.W.nsIn K mainGlobals "len" = some none)
    (z_list : PySem.W.nsIn K mainGlobals "list" = some none)
    (z_max : PySem.W.nsIn K mainGlobals "max" = some none)
    (z_min : PySem.W.nsIn K mainGlobals "min" = some none)
    (z_property : PySem.W.nsIn K mainGlobals "property" = some none)
    (z_range : PySem.W.nsIn K mainGlobals "range" = some none)
    (z_repr : PySem.W.nsIn K mainGlobals "repr" = some none)
    (z_sorted : PySem.W.nsIn K mainGlobals "sorted" = some none)
    (z_str : PySem.W.nsIn K mainGlobals "str" = some none)
    (z_tuple : PySem.W.nsIn K mainGlobals "tuple" = some none)
    (z_zip : PySem.W.nsIn K mainGlobals "zip" = some none)
    : ∃ fd : FuncData, (∀ (s : Shared) (v : Value), BindsTo s fd ⟨[v], []⟩ [("_law_script", v)]) ∧ ∀ base : Heap, K.In base → base.Ns mainGlobals mg → FnG l.prog w K mg base 13 fa fd ["_law_script"] (spLaw K) := by
  have e : f_law = fa := by
    have e := hfa.symm.trans (PySem.W.mg_of X G a_law)
    cases e
    rfl
  subst e
  have F_InvalidNumber_init := fun_mk (st := s_InvalidNumber_init) l_InvalidNumber_init c_InvalidNumber_init k_InvalidNumber_init
  have b_InvalidNumber_init := F_InvalidNumber_init.binds (ps := ["self", "value"]) fun _ _ _ _ _ _ us hl => match us, hl with | [_, _], _ => rfl
  have F_is_integer := fun_mk (st := s_is_integer) l_is_integer c_is_integer k_is_integer
  have b_is_integer := F_is_integer.binds (ps := ["value"]) fun _ _ _ _ _ _ us hl => match us, hl with | [_], _ => rfl
  have F_is_name := fun_mk (st := s_is_name) l_is_name c_is_name k_is_name
  have b_is_name := F_is_name.binds (ps := ["value"]) fun _ _ _ _ _ _ us hl => match us, hl with | [_], _ => rfl
  have F_are_names := fun_mk (st := s_are_names) l_are_names c_are_names k_are_names
  have b_are_names := F_are_names.binds (ps := ["value", "most"]) fun _ _ _ _ _ _ us hl => match us, hl with | [_, _], _ => rfl
  have F_Sheet_init := fun_mk (st := s_Sheet_init) l_Sheet_init c_Sheet_init k_Sheet_init
  have b_Sheet_init := F_Sheet_init.binds (ps := ["self", "kinds", "words"]) fun _ _ _ _ _ _ us hl => match us, hl with | [_, _, _], _ => rfl
  have F_Sheet_kinds := fun_mk (st := s_Sheet_kinds) l_Sheet_kinds c_Sheet_kinds k_Sheet_kinds
  have b_Sheet_kinds := F_Sheet_kinds.binds (ps := ["self"]) fun _ _ _ _ _ _ us hl => match us, hl with | [_], _ => rfl
  have F_Sheet_words := fun_mk (st := s_Sheet_words) l_Sheet_words c_Sheet_words k_Sheet_words
  have b_Sheet_words := F_Sheet_words.binds (ps := ["self"]) fun _ _ _ _ _ _ us hl => match us, hl with | [_], _ => rfl
  have F_Sheet_eq := fun_mk (st := s_Sheet_eq) l_Sheet_eq c_Sheet_eq k_Sheet_eq
  have b_Sheet_eq := F_Sheet_eq.binds (ps := ["self", "other"]) fun _ _ _ _ _ _ us hl => match us, hl with | [_, _], _ => rfl
  have F_Sheet_str := fun_mk (st := s_Sheet_str) l_Sheet_str c_Sheet_str k_Sheet_str
  have b_Sheet_str := F_Sheet_str.binds (ps := ["self"]) fun _ _ _ _ _ _ us hl => match us, hl with | [_], _ => rfl
  have F_require_sheet := fun_mk (st := s_require_sheet) l_require_sheet c_require_sheet k_require_sheet
  have b_require_sheet := F_require_sheet.binds (ps := ["sheet"]) fun _ _ _ _ _ _ us hl => match us, hl with | [_], _ => rfl
  have F_is_kind := fun_mk (st := s_is_kind) l_is_kind c_is_kind k_is_kind
  have b_is_kind := F_is_kind.binds (ps := ["sheet", "value"]) fun _ _ _ _ _ _ us hl => match us, hl with | [_, _], _ => rfl
  have F_is_tie := fun_mk (st := s_is_tie) l_is_tie c_is_tie k_is_tie
  have b_is_tie := F_is_tie.binds (ps := ["sheet", "value"]) fun _ _ _ _ _ _ us hl => match us, hl with | [_, _], _ => rfl
  have F_are_posts := fun_mk (st := s_are_posts) l_are_posts c_are_posts k_are_posts
  have b_are_posts := F_are_posts.binds (ps := ["sheet", "value"]) fun _ _ _ _ _ _ us hl => match us, hl with | [_, _], _ => rfl
  have F_is_triple_of := fun_mk (st := s_is_triple_of) l_is_triple_of c_is_triple_of k_is_triple_of
  have b_is_triple_of := F_is_triple_of.binds (ps := ["sheet", "names", "value"]) fun _ _ _ _ _ _ us hl => match us, hl with | [_, _, _], _ => rfl
  have F_are_triples := fun_mk (st := s_are_triples) l_are_triples c_are_triples k_are_triples
  have b_are_triples := F_are_triples.binds (ps := ["sheet", "names", "value"]) fun _ _ _ _ _ _ us hl => match us, hl with | [_, _, _], _ => rfl
  have F_Shape_init : FunD K "__init__" "Shape.__init__" (defArgs s_Shape_init) (defBody s_Shape_init) (defScope s_Shape_init) [.ref e_Shape_init_0, .ref e_Shape_init_1] [] f_Shape_init _ := ⟨⟨_, _, _, _, _, _, _, _, _, _, rfl, l_Shape_init, c_Shape_init, .inr ⟨(fun z => nomatch z), dT_Shape_init, _, _, _, rfl, dl_Shape_init, rfl, (.cons rfl (.cons rfl .nil))⟩, .inl rfl⟩, k_Shape_init⟩
  have b_Shape_init : Binds K _ ["self", "sheet", "posts", "there", "lacking"] [] := dfl_binds F_Shape_init dl_Shape_init 5 2 rfl fun us its h1 h2 => match us, its, h1, h2 with | [_, _, _, _, _], [_, _], _, _ => ⟨_, rfl, rfl⟩
  have b_Shape_init_1 : Binds K _ ["self", "sheet", "posts", "there", "lacking"] [.ref e_Shape_init_1] := dfl_binds F_Shape_init dl_Shape_init 4 1 rfl fun us its h1 h2 => match us, its, h1, h2 with | [_, _, _, _], [_, _], _, _ => ⟨_, rfl, rfl⟩
  have b_Shape_init_2 : Binds K _ ["self", "sheet", "posts", "there", "lacking"] [.ref e_Shape_init_0, .ref e_Shape_init_1] := dfl_binds F_Shape_init dl_Shape_init 3 0 rfl fun us its h1 h2 => match us, its, h1, h2 with | [_, _, _], [_, _], _, _ => ⟨_, rfl, rfl⟩
  have F_Shape_sheet := fun_mk (st := s_Shape_sheet) l_Shape_sheet c_Shape_sheet k_Shape_sheet
  have b_Shape_sheet := F_Shape_sheet.binds (ps := ["self"]) fun _ _ _ _ _ _ us hl => match us, hl with | [_], _ => rfl
  have F_Shape_posts := fun_mk (st := s_Shape_posts) l_Shape_posts c_Shape_posts k_Shape_posts
  have b_Shape_posts := F_Shape_posts.binds (ps := ["self"]) fun _ _ _ _ _ _ us hl => match us, hl with | [_], _ => rfl
  have F_Shape_there := fun_mk (st := s_Shape_there) l_Shape_there c_Shape_there k_Shape_there
  have b_Shape_there := F_Shape_there.binds (ps := ["self"]) fun _ _ _ _ _ _ us hl => match us, hl with | [_], _ => rfl
  have F_Shape_lacking := fun_mk (st := s_Shape_lacking) l_Shape_lacking c_Shape_lacking k_Shape_lacking
  have b_Shape_lacking := F_Shape_lacking.binds (ps := ["self"]) fun _ _ _ _ _ _ us hl => match us, hl with | [_], _ => rfl
  have F_Shape_names := fun_mk (st := s_Shape_names) l_Shape_names c_Shape_names k_Shape_names
  have b_Shape_names := F_Shape_names.binds (ps := ["self"]) fun _ _ _ _ _ _ us hl => match us, hl with | [_], _ => rfl
  have F_Shape_len := fun_mk (st := s_Shape_len) l_Shape_len c_Shape_len k_Shape_len
  have b_Shape_len := F_Shape_len.binds (ps := ["self"]) fun _ _ _ _ _ _ us hl => match us, hl with | [_], _ => rfl
  have F_Shape_eq := fun_mk (st := s_Shape_eq) l_Shape_eq c_Shape_eq k_Shape_eq
  have b_Shape_eq := F_Shape_eq.binds (ps := ["self", "other"]) fun _ _ _ _ _ _ us hl => match us, hl with | [_, _], _ => rfl
  have F_Shape_str := fun_mk (st := s_Shape_str) l_Shape_str c_Shape_str k_Shape_str
  have b_Shape_str := F_Shape_str.binds (ps := ["self"]) fun _ _ _ _ _ _ us hl => match us, hl with | [_], _ => rfl
  have F_can_be_ban := fun_mk (st := s_can_be_ban) l_can_be_ban c_can_be_ban k_can_be_ban
  have b_can_be_ban := F_can_be_ban.binds (ps := ["sheet", "value"]) fun _ _ _ _ _ _ us hl => match us, hl with | [_, _], _ => rfl
  have F_different := fun_mk (st := s_different) l_different c_different k_different
  have b_different := F_different.binds (ps := ["shapes"]) fun _ _ _ _ _ _ us hl => match us, hl with | [_], _ => rfl
  have F_Bans_init : FunD K "__init__" "Bans.__init__" (defArgs s_Bans_init) (defBody s_Bans_init) (defScope s_Bans_init) [] [] f_Bans_init _ := ⟨⟨_, _, _, _, _, _, _, _, _, _, rfl, l_Bans_init, c_Bans_init, .inl ⟨rfl, rfl⟩, .inl rfl⟩, k_Bans_init⟩
  have sb_Bans_init_0 := sbq_Bans_init (K := K) (kV := kV_Bans_init) (dc := dc_Bans_init) (pm := pm_Bans_init) (an := an_Bans_init) (cd := cd_Bans_init) (ct := ct_Bans_init)
  have F_Bans_of := fun_mk (st := s_Bans_of) l_Bans_of c_Bans_of k_Bans_of
  have b_Bans_of := F_Bans_of.binds (ps := ["cls", "sheet", "shapes"]) fun _ _ _ _ _ _ us hl => match us, hl with | [_, _, _], _ => rfl
  have F_Bans_sheet := fun_mk (st := s_Bans_sheet) l_Bans_sheet c_Bans_sheet k_Bans_sheet
  have b_Bans_sheet := F_Bans_sheet.binds (ps := ["self"]) fun _ _ _ _ _ _ us hl => match us, hl with | [_], _ => rfl
  have F_Bans_shapes := fun_mk (st := s_Bans_shapes) l_Bans_shapes c_Bans_shapes k_Bans_shapes
  have b_Bans_shapes := F_Bans_shapes.binds (ps := ["self"]) fun _ _ _ _ _ _ us hl => match us, hl with | [_], _ => rfl
  have F_Bans_or := fun_mk (st := s_Bans_or) l_Bans_or c_Bans_or k_Bans_or
  have b_Bans_or := F_Bans_or.binds (ps := ["self", "other"]) fun _ _ _ _ _ _ us hl => match us, hl with | [_, _], _ => rfl
  have F_Bans_contains := fun_mk (st := s_Bans_contains) l_Bans_contains c_Bans_contains k_Bans_contains
  have b_Bans_contains := F_Bans_contains.binds (ps := ["self", "value"]) fun _ _ _ _ _ _ us hl => match us, hl with | [_, _], _ => rfl
  have F_Bans_getitem := fun_mk (st := s_Bans_getitem) l_Bans_getitem c_Bans_getitem k_Bans_getitem
  have b_Bans_getitem := F_Bans_getitem.binds (ps := ["self", "at"]) fun _ _ _ _ _ _ us hl => match us, hl with | [_, _], _ => rfl
  have F_Bans_iter := fun_mk (st := s_Bans_iter) l_Bans_iter c_Bans_iter k_Bans_iter
  have b_Bans_iter := F_Bans_iter.binds (ps := ["self"]) fun _ _ _ _ _ _ us hl => match us, hl with | [_], _ => rfl
  have F_Bans_len := fun_mk (st := s_Bans_len) l_Bans_len c_Bans_len k_Bans_len
  have b_Bans_len := F_Bans_len.binds (ps := ["self"]) fun _ _ _ _ _ _ us hl => match us, hl with | [_], _ => rfl
  have F_Bans_eq := fun_mk (st := s_Bans_eq) l_Bans_eq c_Bans_eq k_Bans_eq
  have b_Bans_eq := F_Bans_eq.binds (ps := ["self", "other"]) fun _ _ _ _ _ _ us hl => match us, hl with | [_, _], _ => rfl
  have F_Bans_str := fun_mk (st := s_Bans_str) l_Bans_str c_Bans_str k_Bans_str
  have b_Bans_str := F_Bans_str.binds (ps := ["self"]) fun _ _ _ _ _ _ us hl => match us, hl with | [_], _ => rfl
  have F_law_dice := fun_mk (st := s_law_dice) l_law_dice c_law_dice k_law_dice
  have b_law_dice := F_law_dice.binds (ps := ["_law_script", "_law_spot"]) fun _ _ _ _ _ _ us hl => match us, hl with | [_, _], _ => rfl
  have F_law_roll := fun_mk (st := s_law_roll) l_law_roll c_law_roll k_law_roll
  have b_law_roll := F_law_roll.binds (ps := ["_law_dice_here", "_law_many"]) fun _ _ _ _ _ _ us hl => match us, hl with | [_, _], _ => rfl
  have F_law_pick := fun_mk (st := s_law_pick) l_law_pick c_law_pick k_law_pick
  have b_law_pick := F_law_pick.binds (ps := ["_law_dice_here", "_law_items"]) fun _ _ _ _ _ _ us hl => match us, hl with | [_, _], _ => rfl
  have F_law_mixed := fun_mk (st := s_law_mixed) l_law_mixed c_law_mixed k_law_mixed
  have b_law_mixed := F_law_mixed.binds (ps := ["_law_dice_here", "_law_items"]) fun _ _ _ _ _ _ us hl => match us, hl with | [_, _], _ => rfl
  have F_law_fresh := fun_mk (st := s_law_fresh) l_law_fresh c_law_fresh k_law_fresh
  have b_law_fresh := F_law_fresh.binds (ps := ["_law_dice_here", "_law_taken"]) fun _ _ _ _ _ _ us hl => match us, hl with | [_, _], _ => rfl
  have F_law_names := fun_mk (st := s_law_names) l_law_names c_law_names k_law_names
  have b_law_names := F_law_names.binds (ps := ["_law_dice_here", "_law_many", "_law_taken"]) fun _ _ _ _ _ _ us hl => match us, hl with | [_, _, _], _ => rfl
  have F_law_new_sheet := fun_mk (st := s_law_new_sheet) l_law_new_sheet c_law_new_sheet k_law_new_sheet
  have b_law_new_sheet := F_law_new_sheet.binds (ps := ["_law_dice_here"]) fun _ _ _ _ _ _ us hl => match us, hl with | [_], _ => rfl
  have F_law_sheet_made := fun_mk (st := s_law_sheet_made) l_law_sheet_made c_law_sheet_made k_law_sheet_made
  have b_law_sheet_made := F_law_sheet_made.binds (ps := ["_law_sheet"]) fun _ _ _ _ _ _ us hl => match us, hl with | [_], _ => rfl
  have F_law_twin := fun_mk (st := s_law_twin) l_law_twin c_law_twin k_law_twin
  have b_law_twin := F_law_twin.binds (ps := ["_law_sheet"]) fun _ _ _ _ _ _ us hl => match us, hl with | [_], _ => rfl
  have F_law_ties := fun_mk (st := s_law_ties) l_law_ties c_law_ties k_law_ties
  have b_law_ties := F_law_ties.binds (ps := ["_law_dice_here", "_law_items", "_law_words", "_law_many"]) fun _ _ _ _ _ _ us hl => match us, hl with | [_, _, _, _], _ => rfl
  have F_law_shape_made := fun_mk (st := s_law_shape_made) l_law_shape_made c_law_shape_made k_law_shape_made
  have b_law_shape_made := F_law_shape_made.binds (ps := ["_law_thing", "_law_shape"]) fun _ _ _ _ _ _ us hl => match us, hl with | [_, _], _ => rfl
  have F_law_new_ban := fun_mk (st := s_law_new_ban) l_law_new_ban c_law_new_ban k_law_new_ban
  have b_law_new_ban := F_law_new_ban.binds (ps := ["_law_dice_here", "_law_sheet"]) fun _ _ _ _ _ _ us hl => match us, hl with | [_, _], _ => rfl
  have F_law_same_shape := fun_mk (st := s_law_same_shape) l_law_same_shape c_law_same_shape k_law_same_shape
  have b_law_same_shape := F_law_same_shape.binds (ps := ["_law_one", "_law_other"]) fun _ _ _ _ _ _ us hl => match us, hl with | [_, _], _ => rfl
  have F_law_new_bans := fun_mk (st := s_law_new_bans) l_law_new_bans c_law_new_bans k_law_new_bans
  have b_law_new_bans := F_law_new_bans.binds (ps := ["_law_dice_here", "_law_sheet", "_law_most"]) fun _ _ _ _ _ _ us hl => match us, hl with | [_, _, _], _ => rfl
  have F_law_bans_made := fun_mk (st := s_law_bans_made) l_law_bans_made c_law_bans_made k_law_bans_made
  have b_law_bans_made := F_law_bans_made.binds (ps := ["_law_thing", "_law_bans"]) fun _ _ _ _ _ _ us hl => match us, hl with | [_, _], _ => rfl
  have F_law_is_told := fun_mk (st := s_law_is_told) l_law_is_told c_law_is_told k_law_is_told
  have b_law_is_told := F_law_is_told.binds (ps := ["_law_made", "_law_thing", "_law_bans"]) fun _ _ _ _ _ _ us hl => match us, hl with | [_, _, _], _ => rfl
  have F_law_refuses := fun_mk (st := s_law_refuses) l_law_refuses c_law_refuses k_law_refuses
  have b_law_refuses := F_law_refuses.binds (ps := ["_law_made", "_law_value"]) fun _ _ _ _ _ _ us hl => match us, hl with | [_, _], _ => rfl
  have F_law_right := fun_mk (st := s_law_right) l_law_right c_law_right k_law_right
  have b_law_right := F_law_right.binds (ps := ["_law_dice_here"]) fun _ _ _ _ _ _ us hl => match us, hl with | [_], _ => rfl
  have F_law_by_place := fun_mk (st := s_law_by_place) l_law_by_place c_law_by_place k_law_by_place
  have b_law_by_place := F_law_by_place.binds (ps := ["_law_dice_here"]) fun _ _ _ _ _ _ us hl => match us, hl with | [_], _ => rfl
  have F_law := fun_mk (st := s_law) l_law c_law k_law
  have b_law := F_law.binds (ps := ["_law_script"]) fun _ _ _ _ _ _ us hl => match us, hl with | [_], _ => rfl
  have cl_Sheet : Cls K C_Sheet := ⟨pg_Sheet, hd_Sheet, po_Sheet, sa_Sheet⟩
  have cl_Shape : Cls K C_Shape := ⟨pg_Shape, hd_Shape, po_Shape, sa_Shape⟩
  have cl_Bans : Cls K C_Bans := ⟨pg_Bans, hd_Bans, po_Bans, sa_Bans⟩
  have T : Txt K mg { a_InvalidNumber_init := f_InvalidNumber_init, d_InvalidNumber_init := PySem.W.fnOf "__init__" "InvalidNumber.__init__" (defArgs s_InvalidNumber_init) (defBody s_InvalidNumber_init) (defScope s_InvalidNumber_init) .none kV_InvalidNumber_init dc_InvalidNumber_init pm_InvalidNumber_init an_InvalidNumber_init cd_InvalidNumber_init ct_InvalidNumber_init, a_is_integer := f_is_integer, d_is_integer := PySem.W.fnOf "is_integer" "is_integer" (defArgs s_is_integer) (defBody s_is_integer) (defScope s_is_integer) .none kV_is_integer dc_is_integer pm_is_integer an_is_integer cd_is_integer ct_is_integer, a_is_name := f_is_name, d_is_name := PySem.W.fnOf "is_name" "is_name" (defArgs s_is_name) (defBody s_is_name) (defScope s_is_name) .none kV_is_name dc_is_name pm_is_name an_is_name cd_is_name ct_is_name, a_are_names := f_are_names, d_are_names := PySem.W.fnOf "are_names" "are_names" (defArgs s_are_names) (defBody s_are_names) (defScope s_are_names) .none kV_are_names dc_are_names pm_are_names an_are_names cd_are_names ct_are_names, a_Sheet_init := f_Sheet_init, d_Sheet_init := PySem.W.fnOf "__init__" "Sheet.__init__" (defArgs s_Sheet_init) (defBody s_Sheet_init) (defScope s_Sheet_init) .none kV_Sheet_init dc_Sheet_init pm_Sheet_init an_Sheet_init cd_Sheet_init ct_Sheet_init, a_Sheet_kinds := f_Sheet_kinds, d_Sheet_kinds := PySem.W.fnOf "kinds" "Sheet.kinds" (defArgs s_Sheet_kinds) (defBody s_Sheet_kinds) (defScope s_Sheet_kinds) .none kV_Sheet_kinds dc_Sheet_kinds pm_Sheet_kinds an_Sheet_kinds cd_Sheet_kinds ct_Sheet_kinds, p_Sheet_kinds := r_Sheet_kinds, a_Sheet_words := f_Sheet_words, d_Sheet_words := PySem.W.fnOf "words" "Sheet.words" (defArgs s_Sheet_words) (defBody s_Sheet_words) (defScope s_Sheet_words) .none kV_Sheet_words dc_Sheet_words pm_Sheet_words an_Sheet_words cd_Sheet_words ct_Sheet_words, p_Sheet_words := r_Sheet_words, a_Sheet_eq := f_Sheet_eq, d_Sheet_eq := PySem.W.fnOf "__eq__" "Sheet.__eq__" (defArgs s_Sheet_eq) (defBody s_Sheet_eq) (defScope s_Sheet_eq) .none kV_Sheet_eq dc_Sheet_eq pm_Sheet_eq an_Sheet_eq cd_Sheet_eq ct_Sheet_eq, a_Sheet_str := f_Sheet_str, d_Sheet_str := PySem.W.fnOf "__str__" "Sheet.__str__" (defArgs s_Sheet_str) (defBody s_Sheet_str) (defScope s_Sheet_str) .none kV_Sheet_str dc_Sheet_str pm_Sheet_str an_Sheet_str cd_Sheet_str ct_Sheet_str, a_require_sheet := f_require_sheet, d_require_sheet := PySem.W.fnOf "require_sheet" "require_sheet" (defArgs s_require_sheet) (defBody s_require_sheet) (defScope s_require_sheet) .none kV_require_sheet dc_require_sheet pm_require_sheet an_require_sheet cd_require_sheet ct_require_sheet, a_is_kind := f_is_kind, d_is_kind := PySem.W.fnOf "is_kind" "is_kind" (defArgs s_is_kind) (defBody s_is_kind) (defScope s_is_kind) .none kV_is_kind dc_is_kind pm_is_kind an_is_kind cd_is_kind ct_is_kind, a_is_tie := f_is_tie, d_is_tie := PySem.W.fnOf "is_tie" "is_tie" (defArgs s_is_tie) (defBody s_is_tie) (defScope s_is_tie) .none kV_is_tie dc_is_tie pm_is_tie an_is_tie cd_is_tie ct_is_tie, a_are_posts := f_are_posts, d_are_posts := PySem.W.fnOf "are_posts" "are_posts" (defArgs s_are_posts) (defBody s_are_posts) (defScope s_are_posts) .none kV_are_posts dc_are_posts pm_are_posts an_are_posts cd_are_posts ct_are_posts, a_is_triple_of := f_is_triple_of, d_is_triple_of := PySem.W.fnOf "is_triple_of" "is_triple_of" (defArgs s_is_triple_of) (defBody s_is_triple_of) (defScope s_is_triple_of) .none kV_is_triple_of dc_is_triple_of pm_is_triple_of an_is_triple_of cd_is_triple_of ct_is_triple_of, a_are_triples := f_are_triples, d_are_triples := PySem.W.fnOf "are_triples" "are_triples" (defArgs s_are_triples) (defBody s_are_triples) (defScope s_are_triples) .none kV_are_triples dc_are_triples pm_are_triples an_are_triples cd_are_triples ct_are_triples, e_Shape_init_0 := e_Shape_init_0, e_Shape_init_1 := e_Shape_init_1, a_Shape_init := f_Shape_init, d_Shape_init := PySem.W.fnOf "__init__" "Shape.__init__" (defArgs s_Shape_init) (defBody s_Shape_init) (defScope s_Shape_init) (.ref dT_Shape_init) kV_Shape_init dc_Shape_init pm_Shape_init an_Shape_init cd_Shape_init ct_Shape_init, a_Shape_sheet := f_Shape_sheet, d_Shape_sheet := PySem.W.fnOf "sheet" "Shape.sheet" (defArgs s_Shape_sheet) (defBody s_Shape_sheet) (defScope s_Shape_sheet) .none kV_Shape_sheet dc_Shape_sheet pm_Shape_sheet an_Shape_sheet cd_Shape_sheet ct_Shape_sheet, p_Shape_sheet := r_Shape_sheet, a_Shape_posts := f_Shape_posts, d_Shape_posts := PySem.W.fnOf "posts" "Shape.posts" (defArgs s_Shape_posts) (defBody s_Shape_posts) (defScope s_Shape_posts) .none kV_Shape_posts dc_Shape_posts pm_Shape_posts an_Shape_posts cd_Shape_posts ct_Shape_posts, p_Shape_posts := r_Shape_posts, a_Shape_there := f_Shape_there, d_Shape_there := PySem.W.fnOf "there" "Shape.there" (defArgs s_Shape_there) (defBody s_Shape_there) (defScope s_Shape_there) .none kV_Shape_there dc_Shape_there pm_Shape_there an_Shape_there cd_Shape_there ct_Shape_there, p_Shape_there := r_Shape_there, a_Shape_lacking := f_Shape_lacking, d_Shape_lacking := PySem.W.fnOf "lacking" "Shape.lacking" (defArgs s_Shape_lacking) (defBody s_Shape_lacking) (defScope s_Shape_lacking) .none kV_Shape_lacking dc_Shape_lacking pm_Shape_lacking an_Shape_lacking cd_Shape_lacking ct_Shape_lacking, p_Shape_lacking := r_Shape_lacking, a_Shape_names := f_Shape_names, d_Shape_names := PySem.W.fnOf "names" "Shape.names" (defArgs s_Shape_names) (defBody s_Shape_names) (defScope s_Shape_names) .none kV_Shape_names dc_Shape_names pm_Shape_names an_Shape_names cd_Shape_names ct_Shape_names, p_Shape_names := r_Shape_names, a_Shape_len := f_Shape_len, d_Shape_len := PySem.W.fnOf "__len__" "Shape.__len__" (defArgs s_Shape_len) (defBody s_Shape_len) (defScope s_Shape_len) .none kV_Shape_len dc_Shape_len pm_Shape_len an_Shape_len cd_Shape_len ct_Shape_len, a_Shape_eq := f_Shape_eq, d_Shape_eq := PySem.W.fnOf "__eq__" "Shape.__eq__" (defArgs s_Shape_eq) (defBody s_Shape_eq) (defScope s_Shape_eq) .none kV_Shape_eq dc_Shape_eq pm_Shape_eq an_Shape_eq cd_Shape_eq ct_Shape_eq, a_Shape_str := f_Shape_str, d_Shape_str := PySem.W.fnOf "__str__" "Shape.__str__" (defArgs s_Shape_str) (defBody s_Shape_str) (defScope s_Shape_str) .none kV_Shape_str dc_Shape_str pm_Shape_str an_Shape_str cd_Shape_str ct_Shape_str, a_can_be_ban := f_can_be_ban, d_can_be_ban := PySem.W.fnOf "can_be_ban" "can_be_ban" (defArgs s_can_be_ban) (defBody s_can_be_ban) (defScope s_can_be_ban) .none kV_can_be_ban dc_can_be_ban pm_can_be_ban an_can_be_ban cd_can_be_ban ct_can_be_ban, a_different := f_different, d_different := PySem.W.fnOf "different" "different" (defArgs s_different) (defBody s_different) (defScope s_different) .none kV_different dc_different pm_different an_different cd_different ct_different, a_Bans_init := f_Bans_init, d_Bans_init := PySem.W.fnOf "__init__" "Bans.__init__" (defArgs s_Bans_init) (defBody s_Bans_init) (defScope s_Bans_init) .none kV_Bans_init dc_Bans_init pm_Bans_init an_Bans_init cd_Bans_init ct_Bans_init, a_Bans_of := f_Bans_of, d_Bans_of := PySem.W.fnOf "of" "Bans.of" (defArgs s_Bans_of) (defBody s_Bans_of) (defScope s_Bans_of) .none kV_Bans_of dc_Bans_of pm_Bans_of an_Bans_of cd_Bans_of ct_Bans_of, p_Bans_of := r_Bans_of, a_Bans_sheet := f_Bans_sheet, d_Bans_sheet := PySem.W.fnOf "sheet" "Bans.sheet" (defArgs s_Bans_sheet) (defBody s_Bans_sheet) (defScope s_Bans_sheet) .none kV_Bans_sheet dc_Bans_sheet pm_Bans_sheet an_Bans_sheet cd_Bans_sheet ct_Bans_sheet, p_Bans_sheet := r_Bans_sheet, a_Bans_shapes := f_Bans_shapes, d_Bans_shapes := PySem.W.fnOf "shapes" "Bans.shapes" (defArgs s_Bans_shapes) (defBody s_Bans_shapes) (defScope s_Bans_shapes) .none kV_Bans_shapes dc_Bans_shapes pm_Bans_shapes an_Bans_shapes cd_Bans_shapes ct_Bans_shapes, p_Bans_shapes := r_Bans_shapes, a_Bans_or := f_Bans_or, d_Bans_or := PySem.W.fnOf "__or__" "Bans.__or__" (defArgs s_Bans_or) (defBody s_Bans_or) (defScope s_Bans_or) .none kV_Bans_or dc_Bans_or pm_Bans_or an_Bans_or cd_Bans_or ct_Bans_or, a_Bans_contains := f_Bans_contains, d_Bans_contains := PySem.W.fnOf "__contains__" "Bans.__contains__" (defArgs s_Bans_contains) (defBody s_Bans_contains) (defScope s_Bans_contains) .none kV_Bans_contains dc_Bans_contains pm_Bans_contains an_Bans_contains cd_Bans_contains ct_Bans_contains, a_Bans_getitem := f_Bans_getitem, d_Bans_getitem := PySem.W.fnOf "__getitem__" "Bans.__getitem__" (defArgs s_Bans_getitem) (defBody s_Bans_getitem) (defScope s_Bans_getitem) .none kV_Bans_getitem dc_Bans_getitem pm_Bans_getitem an_Bans_getitem cd_Bans_getitem ct_Bans_getitem, a_Bans_iter := f_Bans_iter, d_Bans_iter := PySem.W.fnOf "__iter__" "Bans.__iter__" (defArgs s_Bans_iter) (defBody s_Bans_iter) (defScope s_Bans_iter) .none kV_Bans_iter dc_Bans_iter pm_Bans_iter an_Bans_iter cd_Bans_iter ct_Bans_iter, a_Bans_len := f_Bans_len, d_Bans_len := PySem.W.fnOf "__len__" "Bans.__len__" (defArgs s_Bans_len) (defBody s_Bans_len) (defScope s_Bans_len) .none kV_Bans_len dc_Bans_len pm_Bans_len an_Bans_len cd_Bans_len ct_Bans_len, a_Bans_eq := f_Bans_eq, d_Bans_eq := PySem.W.fnOf "__eq__" "Bans.__eq__" (defArgs s_Bans_eq) (defBody s_Bans_eq) (defScope s_Bans_eq) .none kV_Bans_eq dc_Bans_eq pm_Bans_eq an_Bans_eq cd_Bans_eq ct_Bans_eq, a_Bans_str := f_Bans_str, d_Bans_str := PySem.W.fnOf "__str__" "Bans.__str__" (defArgs s_Bans_str) (defBody s_Bans_str) (defScope s_Bans_str) .none kV_Bans_str dc_Bans_str pm_Bans_str an_Bans_str cd_Bans_str ct_Bans_str, a_law_dice := f_law_dice, d_law_dice := PySem.W.fnOf "_law_dice" "_law_dice" (defArgs s_law_dice) (defBody s_law_dice) (defScope s_law_dice) .none kV_law_dice dc_law_dice pm_law_dice an_law_dice cd_law_dice ct_law_dice, a_law_roll := f_law_roll, d_law_roll := PySem.W.fnOf "_law_roll" "_law_roll" (defArgs s_law_roll) (defBody s_law_roll) (defScope s_law_roll) .none kV_law_roll dc_law_roll pm_law_roll an_law_roll cd_law_roll ct_law_roll, a_law_pick := f_law_pick, d_law_pick := PySem.W.fnOf "_law_pick" "_law_pick" (defArgs s_law_pick) (defBody s_law_pick) (defScope s_law_pick) .none kV_law_pick dc_law_pick pm_law_pick an_law_pick cd_law_pick ct_law_pick, a_law_mixed := f_law_mixed, d_law_mixed := PySem.W.fnOf "_law_mixed" "_law_mixed" (defArgs s_law_mixed) (defBody s_law_mixed) (defScope s_law_mixed) .none kV_law_mixed dc_law_mixed pm_law_mixed an_law_mixed cd_law_mixed ct_law_mixed, a_law_fresh := f_law_fresh, d_law_fresh := PySem.W.fnOf "_law_fresh" "_law_fresh" (defArgs s_law_fresh) (defBody s_law_fresh) (defScope s_law_fresh) .none kV_law_fresh dc_law_fresh pm_law_fresh an_law_fresh cd_law_fresh ct_law_fresh, a_law_names := f_law_names, d_law_names := PySem.W.fnOf "_law_names" "_law_names" (defArgs s_law_names) (defBody s_law_names) (defScope s_law_names) .none kV_law_names dc_law_names pm_law_names an_law_names cd_law_names ct_law_names, a_law_new_sheet := f_law_new_sheet, d_law_new_sheet := PySem.W.fnOf "_law_new_sheet" "_law_new_sheet" (defArgs s_law_new_sheet) (defBody s_law_new_sheet) (defScope s_law_new_sheet) .none kV_law_new_sheet dc_law_new_sheet pm_law_new_sheet an_law_new_sheet cd_law_new_sheet ct_law_new_sheet, a_law_sheet_made := f_law_sheet_made, d_law_sheet_made := PySem.W.fnOf "_law_sheet_made" "_law_sheet_made" (defArgs s_law_sheet_made) (defBody s_law_sheet_made) (defScope s_law_sheet_made) .none kV_law_sheet_made dc_law_sheet_made pm_law_sheet_made an_law_sheet_made cd_law_sheet_made ct_law_sheet_made, a_law_twin := f_law_twin, d_law_twin := PySem.W.fnOf "_law_twin" "_law_twin" (defArgs s_law_twin) (defBody s_law_twin) (defScope s_law_twin) .none kV_law_twin dc_law_twin pm_law_twin an_law_twin cd_law_twin ct_law_twin, a_law_ties := f_law_ties, d_law_ties := PySem.W.fnOf "_law_ties" "_law_ties" (defArgs s_law_ties) (defBody s_law_ties) (defScope s_law_ties) .none kV_law_ties dc_law_ties pm_law_ties an_law_ties cd_law_ties ct_law_ties, a_law_shape_made := f_law_shape_made, d_law_shape_made := PySem.W.fnOf "_law_shape_made" "_law_shape_made" (defArgs s_law_shape_made) (defBody s_law_shape_made) (defScope s_law_shape_made) .none kV_law_shape_made dc_law_shape_made pm_law_shape_made an_law_shape_made cd_law_shape_made ct_law_shape_made, a_law_new_ban := f_law_new_ban, d_law_new_ban := PySem.W.fnOf "_law_new_ban" "_law_new_ban" (defArgs s_law_new_ban) (defBody s_law_new_ban) (defScope s_law_new_ban) .none kV_law_new_ban dc_law_new_ban pm_law_new_ban an_law_new_ban cd_law_new_ban ct_law_new_ban, a_law_same_shape := f_law_same_shape, d_law_same_shape := PySem.W.fnOf "_law_same_shape" "_law_same_shape" (defArgs s_law_same_shape) (defBody s_law_same_shape) (defScope s_law_same_shape) .none kV_law_same_shape dc_law_same_shape pm_law_same_shape an_law_same_shape cd_law_same_shape ct_law_same_shape, a_law_new_bans := f_law_new_bans, d_law_new_bans := PySem.W.fnOf "_law_new_bans" "_law_new_bans" (defArgs s_law_new_bans) (defBody s_law_new_bans) (defScope s_law_new_bans) .none kV_law_new_bans dc_law_new_bans pm_law_new_bans an_law_new_bans cd_law_new_bans ct_law_new_bans, a_law_bans_made := f_law_bans_made, d_law_bans_made := PySem.W.fnOf "_law_bans_made" "_law_bans_made" (defArgs s_law_bans_made) (defBody s_law_bans_made) (defScope s_law_bans_made) .none kV_law_bans_made dc_law_bans_made pm_law_bans_made an_law_bans_made cd_law_bans_made ct_law_bans_made, a_law_is_told := f_law_is_told, d_law_is_told := PySem.W.fnOf "_law_is_told" "_law_is_told" (defArgs s_law_is_told) (defBody s_law_is_told) (defScope s_law_is_told) .none kV_law_is_told dc_law_is_told pm_law_is_told an_law_is_told cd_law_is_told ct_law_is_told, a_law_refuses := f_law_refuses, d_law_refuses := PySem.W.fnOf "_law_refuses" "_law_refuses" (defArgs s_law_refuses) (defBody s_law_refuses) (defScope s_law_refuses) .none kV_law_refuses dc_law_refuses pm_law_refuses an_law_refuses cd_law_refuses ct_law_refuses, a_law_right := f_law_right, d_law_right := PySem.W.fnOf "_law_right" "_law_right" (defArgs s_law_right) (defBody s_law_right) (defScope s_law_right) .none kV_law_right dc_law_right pm_law_right an_law_right cd_law_right ct_law_right, a_law_by_place := f_law_by_place, d_law_by_place := PySem.W.fnOf "_law_by_place" "_law_by_place" (defArgs s_law_by_place) (defBody s_law_by_place) (defScope s_law_by_place) .none kV_law_by_place dc_law_by_place pm_law_by_place an_law_by_place cd_law_by_place ct_law_by_place, a_law := f_law, d_law := PySem.W.fnOf "law" "law" (defArgs s_law) (defBody s_law) (defScope s_law) .none kV_law dc_law pm_law an_law cd_law ct_law, C_Sheet := C_Sheet, C_Shape := C_Shape, C_Bans := C_Bans, C_ShapeError := C_ShapeError, C_InvalidSheet := C_InvalidSheet, C_InvalidShape := C_InvalidShape, C_InvalidBans := C_InvalidBans, C_InvalidOperation := C_InvalidOperation, C_InvalidNumber := C_InvalidNumber, c_MAX_KINDS := .int 3 t_MAX_KINDS, c_MAX_WORDS := .int 2 t_MAX_WORDS, c_MAX_LETTERS := .int 8 t_MAX_LETTERS, c_LETTERS := .str "abcdefghijklmnopqrstuvwxyz" t_LETTERS, c_MAX_NAMES := .int 12 t_MAX_NAMES, c_MAX_BANS := .int 8 t_MAX_BANS, c_MOST_POSTS := .int 3 t_MOST_POSTS : Ads } := { F_InvalidNumber_init := F_InvalidNumber_init, b_InvalidNumber_init := b_InvalidNumber_init, m_InvalidNumber_init := ⟨a_InvalidNumber_init, i_InvalidNumber_init, k_InvalidNumber_init⟩, F_is_integer := F_is_integer, b_is_integer := b_is_integer, g_is_integer := PySem.W.mg_of X G a_is_integer, k_is_integer := k_is_integer, F_is_name := F_is_name, b_is_name := b_is_name, g_is_name := PySem.W.mg_of X G a_is_name, k_is_name := k_is_name, F_are_names := F_are_names, b_are_names := b_are_names, g_are_names := PySem.W.mg_of X G a_are_names, k_are_names := k_are_names, F_Sheet_init := F_Sheet_init, b_Sheet_init := b_Sheet_init, m_Sheet_init := ⟨a_Sheet_init, i_Sheet_init, k_Sheet_init⟩, F_Sheet_kinds := F_Sheet_kinds, b_Sheet_kinds := b_Sheet_kinds, P_Sheet_kinds := ⟨at_Sheet_kinds, gt_Sheet_kinds, tk_Sheet_kinds, _, rc_Sheet_kinds⟩, F_Sheet_words := F_Sheet_words, b_Sheet_words := b_Sheet_words, P_Sheet_words := ⟨at_Sheet_words, gt_Sheet_words, tk_Sheet_words, _, rc_Sheet_words⟩, F_Sheet_eq := F_Sheet_eq, b_Sheet_eq := b_Sheet_eq, m_Sheet_eq := ⟨a_Sheet_eq, i_Sheet_eq, k_Sheet_eq⟩, F_Sheet_str := F_Sheet_str, b_Sheet_str := b_Sheet_str, m_Sheet_str := ⟨a_Sheet_str, i_Sheet_str, k_Sheet_str⟩, F_require_sheet := F_require_sheet, b_require_sheet := b_require_sheet, g_require_sheet := PySem.W.mg_of X G a_require_sheet, k_require_sheet := k_require_sheet, F_is_kind := F_is_kind, b_is_kind := b_is_kind, g_is_kind := PySem.W.mg_of X G a_is_kind, k_is_kind := k_is_kind, F_is_tie := F_is_tie, b_is_tie := b_is_tie, g_is_tie := PySem.W.mg_of X G a_is_tie, k_is_tie := k_is_tie, F_are_posts := F_are_posts, b_are_posts := b_are_posts, g_are_posts := PySem.W.mg_of X G a_are_posts, k_are_posts := k_are_posts, F_is_triple_of := F_is_triple_of, b_is_triple_of := b_is_triple_of, g_is_triple_of := PySem.W.mg_of X G a_is_triple_of, k_is_triple_of := k_is_triple_of, F_are_triples := F_are_triples, b_are_triples := b_are_triples, g_are_triples := PySem.W.mg_of X G a_are_triples, k_are_triples := k_are_triples, q_Shape_init_0 := fun H => .inr ⟨_, _, _, el_Shape_init_0, rfl, rfl, Nat.zero_le _, .nil⟩, q_Shape_init_1 := fun H => .inr ⟨_, _, _, el_Shape_init_1, rfl, rfl, Nat.zero_le _, .nil⟩, b_Shape_init_1 := b_Shape_init_1, b_Shape_init_2 := b_Shape_init_2, F_Shape_init := F_Shape_init, b_Shape_init := b_Shape_init, m_Shape_init := ⟨a_Shape_init, i_Shape_init, k_Shape_init⟩, F_Shape_sheet := F_Shape_sheet, b_Shape_sheet := b_Shape_sheet, P_Shape_sheet := ⟨at_Shape_sheet, gt_Shape_sheet, tk_Shape_sheet, _, rc_Shape_sheet⟩, F_Shape_posts := F_Shape_posts, b_Shape_posts := b_Shape_posts, P_Shape_posts := ⟨at_Shape_posts, gt_Shape_posts, tk_Shape_posts, _, rc_Shape_posts⟩, F_Shape_there := F_Shape_there, b_Shape_there := b_Shape_there, P_Shape_there := ⟨at_Shape_there, gt_Shape_there, tk_Shape_there, _, rc_Shape_there⟩, F_Shape_lacking := F_Shape_lacking, b_Shape_lacking := b_Shape_lacking, P_Shape_lacking := ⟨at_Shape_lacking, gt_Shape_lacking, tk_Shape_lacking, _, rc_Shape_lacking⟩, F_Shape_names := F_Shape_names, b_Shape_names := b_Shape_names, P_Shape_names := ⟨at_Shape_names, gt_Shape_names, tk_Shape_names, _, rc_Shape_names⟩, F_Shape_len := F_Shape_len, b_Shape_len := b_Shape_len, m_Shape_len := ⟨a_Shape_len, i_Shape_len, k_Shape_len⟩, F_Shape_eq := F_Shape_eq, b_Shape_eq := b_Shape_eq, m_Shape_eq := ⟨a_Shape_eq, i_Shape_eq, k_Shape_eq⟩, F_Shape_str := F_Shape_str, b_Shape_str := b_Shape_str, m_Shape_str := ⟨a_Shape_str, i_Shape_str, k_Shape_str⟩, F_can_be_ban := F_can_be_ban, b_can_be_ban := b_can_be_ban, g_can_be_ban := PySem.W.mg_of X G a_can_be_ban, k_can_be_ban := k_can_be_ban, F_different := F_different, b_different := b_different, g_different := PySem.W.mg_of X G a_different, k_different := k_different, sb_Bans_init_0 := sb_Bans_init_0, F_Bans_init := F_Bans_init, m_Bans_init := ⟨a_Bans_init, i_Bans_init, k_Bans_init⟩, F_Bans_of := F_Bans_of, b_Bans_of := b_Bans_of, K_Bans_of := ⟨at_Bans_of, ⟨_, rc_Bans_of⟩, fi_Bans_of⟩, F_Bans_sheet := F_Bans_sheet, b_Bans_sheet := b_Bans_sheet, P_Bans_sheet := ⟨at_Bans_sheet, gt_Bans_sheet, tk_Bans_sheet, _, rc_Bans_sheet⟩, F_Bans_shapes := F_Bans_shapes, b_Bans_shapes := b_Bans_shapes, P_Bans_shapes := ⟨at_Bans_shapes, gt_Bans_shapes, tk_Bans_shapes, _, rc_Bans_shapes⟩, F_Bans_or := F_Bans_or, b_Bans_or := b_Bans_or, m_Bans_or := ⟨a_Bans_or, i_Bans_or, k_Bans_or⟩, F_Bans_contains := F_Bans_contains, b_Bans_contains := b_Bans_contains, m_Bans_contains := ⟨a_Bans_contains, i_Bans_contains, k_Bans_contains⟩, F_Bans_getitem := F_Bans_getitem, b_Bans_getitem := b_Bans_getitem, m_Bans_getitem := ⟨a_Bans_getitem, i_Bans_getitem, k_Bans_getitem⟩, F_Bans_iter := F_Bans_iter, b_Bans_iter := b_Bans_iter, m_Bans_iter := ⟨a_Bans_iter, i_Bans_iter, k_Bans_iter⟩, F_Bans_len := F_Bans_len, b_Bans_len := b_Bans_len, m_Bans_len := ⟨a_Bans_len, i_Bans_len, k_Bans_len⟩, F_Bans_eq := F_Bans_eq, b_Bans_eq := b_Bans_eq, m_Bans_eq := ⟨a_Bans_eq, i_Bans_eq, k_Bans_eq⟩, F_Bans_str := F_Bans_str, b_Bans_str := b_Bans_str, m_Bans_str := ⟨a_Bans_str, i_Bans_str, k_Bans_str⟩, F_law_dice := F_law_dice, b_law_dice := b_law_dice, g_law_dice := PySem.W.mg_of X G a_law_dice, k_law_dice := k_law_dice, F_law_roll := F_law_roll, b_law_roll := b_law_roll, g_law_roll := PySem.W.mg_of X G a_law_roll, k_law_roll := k_law_roll, F_law_pick := F_law_pick, b_law_pick := b_law_pick, g_law_pick := PySem.W.mg_of X G a_law_pick, k_law_pick := k_law_pick, F_law_mixed := F_law_mixed, b_law_mixed := b_law_mixed, g_law_mixed := PySem.W.mg_of X G a_law_mixed, k_law_mixed := k_law_mixed, F_law_fresh := F_law_fresh, b_law_fresh := b_law_fresh, g_law_fresh := PySem.W.mg_of X G a_law_fresh, k_law_fresh := k_law_fresh, F_law_names := F_law_names, b_law_names := b_law_names, g_law_names := PySem.W.mg_of X G a_law_names, k_law_names := k_law_names, F_law_new_sheet := F_law_new_sheet, b_law_new_sheet := b_law_new_sheet, g_law_new_sheet := PySem.W.mg_of X G a_law_new_sheet, k_law_new_sheet := k_law_new_sheet, F_law_sheet_made := F_law_sheet_made, b_law_sheet_made := b_law_sheet_made, g_law_sheet_made := PySem.W.mg_of X G a_law_sheet_made, k_law_sheet_made := k_law_sheet_made, F_law_twin := F_law_twin, b_law_twin := b_law_twin, g_law_twin := PySem.W.mg_of X G a_law_twin, k_law_twin := k_law_twin, F_law_ties := F_law_ties, b_law_ties := b_law_ties, g_law_ties := PySem.W.mg_of X G a_law_ties, k_law_ties := k_law_ties, F_law_shape_made := F_law_shape_made, b_law_shape_made := b_law_shape_made, g_law_shape_made := PySem.W.mg_of X G a_law_shape_made, k_law_shape_made := k_law_shape_made, F_law_new_ban := F_law_new_ban, b_law_new_ban := b_law_new_ban, g_law_new_ban := PySem.W.mg_of X G a_law_new_ban, k_law_new_ban := k_law_new_ban, F_law_same_shape := F_law_same_shape, b_law_same_shape := b_law_same_shape, g_law_same_shape := PySem.W.mg_of X G a_law_same_shape, k_law_same_shape := k_law_same_shape, F_law_new_bans := F_law_new_bans, b_law_new_bans := b_law_new_bans, g_law_new_bans := PySem.W.mg_of X G a_law_new_bans, k_law_new_bans := k_law_new_bans, F_law_bans_made := F_law_bans_made, b_law_bans_made := b_law_bans_made, g_law_bans_made := PySem.W.mg_of X G a_law_bans_made, k_law_bans_made := k_law_bans_made, F_law_is_told := F_law_is_told, b_law_is_told := b_law_is_told, g_law_is_told := PySem.W.mg_of X G a_law_is_told, k_law_is_told := k_law_is_told, F_law_refuses := F_law_refuses, b_law_refuses := b_law_refuses, g_law_refuses := PySem.W.mg_of X G a_law_refuses, k_law_refuses := k_law_refuses, F_law_right := F_law_right, b_law_right := b_law_right, g_law_right := PySem.W.mg_of X G a_law_right, k_law_right := k_law_right, F_law_by_place := F_law_by_place, b_law_by_place := b_law_by_place, g_law_by_place := PySem.W.mg_of X G a_law_by_place, k_law_by_place := k_law_by_place, F_law := F_law, b_law := b_law, g_law := PySem.W.mg_of X G a_law, k_law := k_law, g_Sheet := PySem.W.mg_of X G gC_Sheet, cl_Sheet := cl_Sheet, I_Sheet := ⟨cl_Sheet, cc_Sheet, cg_Sheet, ct_Sheet, mr_Sheet, ne_Sheet, ic_Sheet, it_Sheet⟩, M_Sheet := ⟨mk_Sheet, a_Sheet_init, i_Sheet_init, kc_Sheet⟩, n_Sheet_own_kinds := n_Sheet_own_kinds, n_Sheet_own_words := n_Sheet_own_words, g_Shape := PySem.W.mg_of X G gC_Shape, cl_Shape := cl_Shape, I_Shape := ⟨cl_Shape, cc_Shape, cg_Shape, ct_Shape, mr_Shape, ne_Shape, ic_Shape, it_Shape⟩, M_Shape := ⟨mk_Shape, a_Shape_init, i_Shape_init, kc_Shape⟩, n_Shape_own_sheet := n_Shape_own_sheet, n_Shape_own_posts := n_Shape_own_posts, n_Shape_own_there := n_Shape_own_there, n_Shape_own_lacking := n_Shape_own_lacking, g_Bans := PySem.W.mg_of X G gC_Bans, cl_Bans := cl_Bans, I_Bans := ⟨cl_Bans, cc_Bans, cg_Bans, ct_Bans, mr_Bans, ne_Bans, ic_Bans, it_Bans⟩, M_Bans := ⟨mk_Bans, a_Bans_init, i_Bans_init, kc_Bans⟩, n_Bans_own_sheet := n_Bans_own_sheet, n_Bans_own_shapes := n_Bans_own_shapes, R_Bans := ⟨rd_Bans, ga_Bans⟩, g_ShapeError := PySem.W.mg_of X G gC_ShapeError, x_ShapeError := x_ShapeError, k_ShapeError := k_ShapeError, s_ShapeError := s_ShapeError, t_ShapeError := t_ShapeError, e_ShapeError := Kd.exm_own s_ShapeError i_ShapeError t_ShapeError s_ShapeError ss_ShapeError, g_InvalidSheet := PySem.W.mg_of X G gC_InvalidSheet, x_InvalidSheet := x_InvalidSheet, k_InvalidSheet := k_InvalidSheet, s_InvalidSheet := s_InvalidSheet, t_InvalidSheet := t_InvalidSheet, e_InvalidSheet := Kd.exm_own s_InvalidSheet i_InvalidSheet t_InvalidSheet s_InvalidSheet ss_InvalidSheet, g_InvalidShape := PySem.W.mg_of X G gC_InvalidShape, x_InvalidShape := x_InvalidShape, k_InvalidShape := k_InvalidShape, s_InvalidShape := s_InvalidShape, t_InvalidShape := t_InvalidShape, e_InvalidShape := Kd.exm_own s_InvalidShape i_InvalidShape t_InvalidShape s_InvalidShape ss_InvalidShape, g_InvalidBans := PySem.W.mg_of X G gC_InvalidBans, x_InvalidBans := x_InvalidBans, k_InvalidBans := k_InvalidBans, s_InvalidBans := s_InvalidBans, t_InvalidBans := t_InvalidBans, e_InvalidBans := Kd.exm_own s_InvalidBans i_InvalidBans t_InvalidBans s_InvalidBans ss_InvalidBans, g_InvalidOperation := PySem.W.mg_of X G gC_InvalidOperation, x_InvalidOperation := x_InvalidOperation, k_InvalidOperation := k_InvalidOperation, s_InvalidOperation := s_InvalidOperation, t_InvalidOperation := t_InvalidOperation, e_InvalidOperation := Kd.exm_own s_InvalidOperation i_InvalidOperation t_InvalidOperation s_InvalidOperation ss_InvalidOperation, g_InvalidNumber := PySem.W.mg_of X G gC_InvalidNumber, n_InvalidNumber_value := n_InvalidNumber_value, k_InvalidNumber := k_InvalidNumber, s_InvalidNumber := s_InvalidNumber, t_InvalidNumber := t_InvalidNumber, e_InvalidNumber := Kd.exm_own s_InvalidNumber i_InvalidNumber t_InvalidNumber s_InvalidNumber ss_InvalidNumber, ss_no := y_ss_no, sb_no := y_sb_no, sb_ne := y_sb_ne, sf_Bans := y_sf_Bans, gf_getitem := y_gf_getitem, xf_InvalidNumber := y_xf_InvalidNumber, o_InvalidNumber := y_o_InvalidNumber, sa_InvalidNumber := y_sa_InvalidNumber, v_IndexError := y_v_IndexError, ss_ne := y_ss_ne, c_MAX_KINDS := PySem.W.mg_of X G v_MAX_KINDS, r_MAX_KINDS := ⟨_, rfl⟩, c_MAX_WORDS := PySem.W.mg_of X G v_MAX_WORDS, r_MAX_WORDS := ⟨_, rfl⟩, c_MAX_LETTERS := PySem.W.mg_of X G v_MAX_LETTERS, r_MAX_LETTERS := ⟨_, rfl⟩, c_LETTERS := PySem.W.mg_of X G v_LETTERS, r_LETTERS := ⟨_, rfl⟩, c_MAX_NAMES := PySem.W.mg_of X G v_MAX_NAMES, r_MAX_NAMES := ⟨_, rfl⟩, c_MAX_BANS := PySem.W.mg_of X G v_MAX_BANS, r_MAX_BANS := ⟨_, rfl⟩, c_MOST_POSTS := PySem.W.mg_of X G v_MOST_POSTS, r_MOST_POSTS := ⟨_, rfl⟩, n_IndexError := PySem.W.mg_none_of X G z_IndexError, n_abs := PySem.W.mg_none_of X G z_abs, n_all := PySem.W.mg_none_of X G z_all, n_any := PySem.W.mg_none_of X G z_any, n_bool := PySem.W.mg_none_of X G z_bool, n_classmethod := PySem.W.mg_none_of X G z_classmethod, n_dict := PySem.W.mg_none_of X G z_dict, n_enumerate := PySem.W.mg_none_of X G z_enumerate, n_int := PySem.W.mg_none_of X G z_int, n_isinstance := PySem.W.mg_none_of X G z_isinstance, n_iter := PySem.W.mg_none_of X G z_iter, n_len := PySem.W.mg_none_of X G z_len, n_list := PySem.W.mg_none_of X G z_list, n_max := PySem.W.mg_none_of X G z_max, n_min := PySem.W.mg_none_of X G z_min, n_property := PySem.W.mg_none_of X G z_property, n_range := PySem.W.mg_none_of X G z_range, n_repr := PySem.W.mg_none_of X G z_repr, n_sorted := PySem.W.mg_none_of X G z_sorted, n_str := PySem.W.mg_none_of X G z_str, n_tuple := PySem.W.mg_none_of X G z_tuple, n_zip := PySem.W.mg_none_of X G z_zip }
  exact ⟨_, fun s v => .of_eq rfl, fun base _ _ => ok_law T⟩
theorem walk {l : PySem.W.OpenLaw} {q : Program} {loose : List Str} {XP : (Str → Option Value) → Heap → Prop} {YP : World → Heap → Prop} {d : DefRec} {K : Params → PySem.W.Frag} (hn : l.most = some 63) (hdf : d.params.defaults = [])
    (hY : ∀ (w : World) (h : Heap), YP w h → (K w.params).In h)
    (F : ∀ (w : World) (mg : Str → Option Value) (fa : Addr) (h : Heap), (K w.params).In h → h.Ns mainGlobals mg → mg d.name = some (.ref fa) →
      ∃ fd : FuncData, (∀ (s : Shared) (u : Value), BindsTo s fd ⟨[u], []⟩ [("_law_script", u)]) ∧ ∀ base : Heap, (K w.params).In base → base.Ns mainGlobals mg → FnG l.prog w (K w.params) mg base 13 fa fd ["_law_script"] (spLaw (K w.params))) :
    PySem.W.WalkO q loose XP YP l.row.toRowW d [] (fun f vs => PySem.call f vs) :=
  L2.walk_ofG (n := 63) (k := 13) (x := "_law_script") (sp := fun w => spLaw (K w.params)) hn (by decide) hdf ⟨rfl, by decide, by decide⟩ hY F (fun _ _ a ns hl hS => ⟨a, ns, rfl, hS, hl, fun _ => rfl⟩)
end K23
open PySem PySem.W PyProof.Rows
set_option maxRecDepth 100000 in
set_option maxHeartbeats 0 in
theorem PySem.Challenge.cw_keptshapes_k23_bans_made_and_asked_holds : PySem.Challenge.rw_keptshapes_k23_bans_made_and_asked.Holds := by
  w_on; o_law; k_head; (case hw => w_witness2)
  k_fill
  refine K23.walk (l := PySem.Challenge.rw_keptshapes_k23_bans_made_and_asked) rfl rfl (fun w h Y => PySem.W.kIn_of Y) ?F
  case F =>
    intro w mg fa h KX G hmg
    refine' K23.all_mk KX G hmg ?gC_Sheet ?gC_Shape ?gC_Bans ?gC_ShapeError ?gC_InvalidSheet ?gC_InvalidShape ?gC_InvalidBans ?gC_InvalidOperation ?gC_InvalidNumber ?a_InvalidNumber_init ?i_InvalidNumber_init ?l_InvalidNumber_init ?c_InvalidNumber_init ?k_InvalidNumber_init ?a_is_integer ?l_is_integer ?c_is_integer ?k_is_integer ?a_is_name ?l_is_name ?c_is_name ?k_is_name ?a_are_names ?l_are_names ?c_are_names ?k_are_names ?a_Sheet_init ?i_Sheet_init ?l_Sheet_init ?c_Sheet_init ?k_Sheet_init ?at_Sheet_kinds ?gt_Sheet_kinds ?tk_Sheet_kinds ?rc_Sheet_kinds ?l_Sheet_kinds ?c_Sheet_kinds ?k_Sheet_kinds ?at_Sheet_words ?gt_Sheet_words ?tk_Sheet_words ?rc_Sheet_words ?l_Sheet_words ?c_Sheet_words ?k_Sheet_words ?a_Sheet_eq ?i_Sheet_eq ?l_Sheet_eq ?c_Sheet_eq ?k_Sheet_eq ?a_Sheet_str ?i_Sheet_str ?l_Sheet_str ?c_Sheet_str ?k_Sheet_str ?a_require_sheet ?l_require_sheet ?c_require_sheet ?k_require_sheet ?a_is_kind ?l_is_kind ?c_is_kind ?k_is_kind ?a_is_tie ?l_is_tie ?c_is_tie ?k_is_tie ?a_are_posts ?l_are_posts ?c_are_posts ?k_are_posts ?a_is_triple_of ?l_is_triple_of ?c_is_triple_of ?k_is_triple_of ?a_are_triples ?l_are_triples ?c_are_triples ?k_are_triples ?a_Shape_init ?i_Shape_init ?l_Shape_init ?c_Shape_init ?k_Shape_init ?dl_Shape_init ?el_Shape_init_0 ?el_Shape_init_1 ?at_Shape_sheet ?gt_Shape_sheet ?tk_Shape_sheet ?rc_Shape_sheet ?l_Shape_sheet ?c_Shape_sheet ?k_Shape_sheet ?at_Shape_posts ?gt_Shape_posts ?tk_Shape_posts ?rc_Shape_posts ?l_Shape_posts ?c_Shape_posts ?k_Shape_posts ?at_Shape_there ?gt_Shape_there ?tk_Shape_there ?rc_Shape_there ?l_Shape_there ?c_Shape_there ?k_Shape_there ?at_Shape_lacking ?gt_Shape_lacking ?tk_Shape_lacking ?rc_Shape_lacking ?l_Shape_lacking ?c_Shape_lacking ?k_Shape_lacking ?at_Shape_names ?gt_Shape_names ?tk_Shape_names ?rc_Shape_names ?l_Shape_names ?c_Shape_names ?k_Shape_names ?a_Shape_len ?i_Shape_len ?l_Shape_len ?c_Shape_len ?k_Shape_len ?a_Shape_eq ?i_Shape_eq ?l_Shape_eq ?c_Shape_eq ?k_Shape_eq ?a_Shape_str ?i_Shape_str ?l_Shape_str ?c_Shape_str ?k_Shape_str ?a_can_be_ban ?l_can_be_ban ?c_can_be_ban ?k_can_be_ban ?a_different ?l_different ?c_different ?k_different ?a_Bans_init ?i_Bans_init ?l_Bans_init ?c_Bans_init ?k_Bans_init ?at_Bans_of ?rc_Bans_of ?fi_Bans_of ?l_Bans_of ?c_Bans_of ?k_Bans_of ?at_Bans_sheet ?gt_Bans_sheet ?tk_Bans_sheet ?rc_Bans_sheet ?l_Bans_sheet ?c_Bans_sheet ?k_Bans_sheet ?at_Bans_shapes ?gt_Bans_shapes ?tk_Bans_shapes ?rc_Bans_shapes ?l_Bans_shapes ?c_Bans_shapes ?k_Bans_shapes ?a_Bans_or ?i_Bans_or ?l_Bans_or ?c_Bans_or ?k_Bans_or ?a_Bans_contains ?i_Bans_contains ?l_Bans_contains ?c_Bans_contains ?k_Bans_contains ?a_Bans_getitem ?i_Bans_getitem ?l_Bans_getitem ?c_Bans_getitem ?k_Bans_getitem ?a_Bans_iter ?i_Bans_iter ?l_Bans_iter ?c_Bans_iter ?k_Bans_iter ?a_Bans_len ?i_Bans_len ?l_Bans_len ?c_Bans_len ?k_Bans_len ?a_Bans_eq ?i_Bans_eq ?l_Bans_eq ?c_Bans_eq ?k_Bans_eq ?a_Bans_str ?i_Bans_str ?l_Bans_str ?c_Bans_str ?k_Bans_str ?a_law_dice ?l_law_dice ?c_law_dice ?k_law_dice ?a_law_roll ?l_law_roll ?c_law_roll ?k_law_roll ?a_law_pick ?l_law_pick ?c_law_pick ?k_law_pick ?a_law_mixed ?l_law_mixed ?c_law_mixed ?k_law_mixed ?a_law_fresh ?l_law_fresh ?c_law_fresh ?k_law_fresh ?a_law_names ?l_law_names ?c_law_names ?k_law_names ?a_law_new_sheet ?l_law_new_sheet ?c_law_new_sheet ?k_law_new_sheet ?a_law_sheet_made ?l_law_sheet_made ?c_law_sheet_made ?k_law_sheet_made ?a_law_twin ?l_law_twin ?c_law_twin ?k_law_twin ?a_law_ties ?l_law_ties ?c_law_ties ?k_law_ties ?a_law_shape_made ?l_law_shape_made ?c_law_shape_made ?k_law_shape_made ?a_law_new_ban ?l_law_new_ban ?c_law_new_ban ?k_law_new_ban ?a_law_same_shape ?l_law_same_shape ?c_law_same_shape ?k_law_same_shape ?a_law_new_bans ?l_law_new_bans ?c_law_new_bans ?k_law_new_bans ?a_law_bans_made ?l_law_bans_made ?c_law_bans_made ?k_law_bans_made ?a_law_is_told ?l_law_is_told ?c_law_is_told ?k_law_is_told ?a_law_refuses ?l_law_refuses ?c_law_refuses ?k_law_refuses ?a_law_right ?l_law_right ?c_law_right ?k_law_right ?a_law_by_place ?l_law_by_place ?c_law_by_place ?k_law_by_place ?a_law ?l_law ?c_law ?k_law ?pg_Sheet ?hd_Sheet ?po_Sheet ?sa_Sheet ?cc_Sheet ?cg_Sheet ?ct_Sheet ?mr_Sheet ?ne_Sheet ?ic_Sheet ?it_Sheet ?mk_Sheet ?kc_Sheet ?n_Sheet_own_kinds ?n_Sheet_own_words ?pg_Shape ?hd_Shape ?po_Shape ?sa_Shape ?cc_Shape ?cg_Shape ?ct_Shape ?mr_Shape ?ne_Shape ?ic_Shape ?it_Shape ?mk_Shape ?kc_Shape ?n_Shape_own_sheet ?n_Shape_own_posts ?n_Shape_own_there ?n_Shape_own_lacking ?pg_Bans ?hd_Bans ?po_Bans ?sa_Bans ?cc_Bans ?cg_Bans ?ct_Bans ?mr_Bans ?ne_Bans ?ic_Bans ?it_Bans ?mk_Bans ?kc_Bans ?n_Bans_own_sheet ?n_Bans_own_shapes ?rd_Bans ?ga_Bans ?x_ShapeError ?k_ShapeError ?s_ShapeError ?t_ShapeError ?i_ShapeError ?ss_ShapeError ?x_InvalidSheet ?k_InvalidSheet ?s_InvalidSheet ?t_InvalidSheet ?i_InvalidSheet ?ss_InvalidSheet ?x_InvalidShape ?k_InvalidShape ?s_InvalidShape ?t_InvalidShape ?i_InvalidShape ?ss_InvalidShape ?x_InvalidBans ?k_InvalidBans ?s_InvalidBans ?t_InvalidBans ?i_InvalidBans ?ss_InvalidBans ?x_InvalidOperation ?k_InvalidOperation ?s_InvalidOperation ?t_InvalidOperation ?i_InvalidOperation ?ss_InvalidOperation ?n_InvalidNumber_value ?k_InvalidNumber ?s_InvalidNumber ?t_InvalidNumber ?i_InvalidNumber ?ss_InvalidNumber ?y_ss_no ?y_sb_no ?y_sb_ne ?y_sf_Bans ?y_gf_getitem ?y_xf_InvalidNumber ?y_o_InvalidNumber ?y_sa_InvalidNumber ?y_v_IndexError ?y_ss_ne ?v_MAX_KINDS ?v_MAX_WORDS ?v_MAX_LETTERS ?v_LETTERS ?v_MAX_NAMES ?v_MAX_BANS ?v_MOST_POSTS ?z_IndexError ?z_abs ?z_all ?z_any ?z_bool ?z_classmethod ?z_dict ?z_enumerate ?z_int ?z_isinstance ?z_iter ?z_len ?z_list ?z_max ?z_min ?z_property ?z_range ?z_repr ?z_sorted ?z_str ?z_tuple ?z_zip
    (case gC_Sheet => k_is)
    (case gC_Shape => k_is)
    (case gC_Bans => k_is)
    (case gC_ShapeError => k_is)
    (case gC_InvalidSheet => k_is)
    (case gC_InvalidShape => k_is)
    (case gC_InvalidBans => k_is)
    (case gC_InvalidOperation => k_is)
    (case gC_InvalidNumber => k_is)
    (case a_InvalidNumber_init => k_is)
    (case i_InvalidNumber_init => k_is)
    (case l_InvalidNumber_init => k_is)
    (case c_InvalidNumber_init => k_is)
    (case k_InvalidNumber_init => k_is)
    (case a_is_integer => k_is)
    (case l_is_integer => k_is)
    (case c_is_integer => k_is)
    (case k_is_integer => k_is)
    (case a_is_name => k_is)
    (case l_is_name => k_is)
    (case c_is_name => k_is)
    (case k_is_name => k_is)
    (case a_are_names => k_is)
    (case l_are_names => k_is)
    (case c_are_names => k_is)
    (case k_are_names => k_is)
    (case a_Sheet_init => k_is)
    (case i_Sheet_init => k_is)
    (case l_Sheet_init => k_is)
    (case c_Sheet_init => k_is)
    (case k_Sheet_init => k_is)
    (case at_Sheet_kinds => k_is)
    (case gt_Sheet_kinds => k_is)
    (case tk_Sheet_kinds => k_is)
    (case rc_Sheet_kinds => k_is)
    (case l_Sheet_kinds => k_is)
    (case c_Sheet_kinds => k_is)
    (case k_Sheet_kinds => k_is)
    (case at_Sheet_words => k_is)
    (case gt_Sheet_words => k_is)
    (case tk_Sheet_words => k_is)
    (case rc_Sheet_words => k_is)
    (case l_Sheet_words => k_is)
    (case c_Sheet_words => k_is)
    (case k_Sheet_words => k_is)
    (case a_Sheet_eq => k_is)
    (case i_Sheet_eq => k_is)
    (case l_Sheet_eq => k_is)
    (case c_Sheet_eq => k_is)
    (case k_Sheet_eq => k_is)
    (case a_Sheet_str => k_is)
    (case i_Sheet_str => k_is)
    (case l_Sheet_str => k_is)
    (case c_Sheet_str => k_is)
    (case k_Sheet_str => k_is)
    (case a_require_sheet => k_is)
    (case l_require_sheet => k_is)
    (case c_require_sheet => k_is)
    (case k_require_sheet => k_is)
    (case a_is_kind => k_is)
    (case l_is_kind => k_is)
    (case c_is_kind => k_is)
    (case k_is_kind => k_is)
    (case a_is_tie => k_is)
    (case l_is_tie => k_is)
    (case c_is_tie => k_is)
    (case k_is_tie => k_is)
    (case a_are_posts => k_is)
    (case l_are_posts => k_is)
    (case c_are_posts => k_is)
    (case k_are_posts => k_is)
    (case a_is_triple_of => k_is)
    (case l_is_triple_of => k_is)
    (case c_is_triple_of => k_is)
    (case k_is_triple_of => k_is)
    (case a_are_triples => k_is)
    (case l_are_triples => k_is)
    (case c_are_triples => k_is)
    (case k_are_triples => k_is)
    (case a_Shape_init => k_is)
    (case i_Shape_init => k_is)
    (case l_Shape_init => k_is)
    (case c_Shape_init => k_is)
    (case k_Shape_init => k_is)
    (case dl_Shape_init => k_is)
    (case el_Shape_init_0 => k_is)
    (case el_Shape_init_1 => k_is)
    (case at_Shape_sheet => k_is)
    (case gt_Shape_sheet => k_is)
    (case tk_Shape_sheet => k_is)
    (case rc_Shape_sheet => k_is)
    (case l_Shape_sheet => k_is)
    (case c_Shape_sheet => k_is)
    (case k_Shape_sheet => k_is)
    (case at_Shape_posts => k_is)
    (case gt_Shape_posts => k_is)
    (case tk_Shape_posts => k_is)
    (case rc_Shape_posts => k_is)
    (case l_Shape_posts => k_is)
    (case c_Shape_posts => k_is)
    (case k_Shape_posts => k_is)
    (case at_Shape_there => k_is)
    (case gt_Shape_there => k_is)
    (case tk_Shape_there => k_is)
    (case rc_Shape_there => k_is)
    (case l_Shape_there => k_is)
    (case c_Shape_there => k_is)
    (case k_Shape_there => k_is)
    (case at_Shape_lacking => k_is)
    (case gt_Shape_lacking => k_is)
    (case tk_Shape_lacking => k_is)
    (case rc_Shape_lacking => k_is)
    (case l_Shape_lacking => k_is)
    (case c_Shape_lacking => k_is)
    (case k_Shape_lacking => k_is)
    (case at_Shape_names => k_is)
    (case gt_Shape_names => k_is)
    (case tk_Shape_names => k_is)
    (case rc_Shape_names => k_is)
    (case l_Shape_names => k_is)
    (case c_Shape_names => k_is)
    (case k_Shape_names => k_is)
    (case a_Shape_len => k_is)
    (case i_Shape_len => k_is)
    (case l_Shape_len => k_is)
    (case c_Shape_len => k_is)
    (case k_Shape_len => k_is)
    (case a_Shape_eq => k_is)
    (case i_Shape_eq => k_is)
    (case l_Shape_eq => k_is)
    (case c_Shape_eq => k_is)
    (case k_Shape_eq => k_is)
    (case a_Shape_str => k_is)
    (case i_Shape_str => k_is)
    (case l_Shape_str => k_is)
    (case c_Shape_str => k_is)
    (case k_Shape_str => k_is)
    (case a_can_be_ban => k_is)
    (case l_can_be_ban => k_is)
    (case c_can_be_ban => k_is)
    (case k_can_be_ban => k_is)
    (case a_different => k_is)
    (case l_different => k_is)
    (case c_different => k_is)
    (case k_different => k_is)
    (case a_Bans_init => k_is)
    (case i_Bans_init => k_is)
    (case l_Bans_init => k_is)
    (case c_Bans_init => k_is)
    (case k_Bans_init => k_is)
    (case at_Bans_of => k_is)
    (case rc_Bans_of => k_is)
    (case fi_Bans_of => k_is)
    (case l_Bans_of => k_is)
    (case c_Bans_of => k_is)
    (case k_Bans_of => k_is)
    (case at_Bans_sheet => k_is)
    (case gt_Bans_sheet => k_is)
    (case tk_Bans_sheet => k_is)
    (case rc_Bans_sheet => k_is)
    (case l_Bans_sheet => k_is)
    (case c_Bans_sheet => k_is)
    (case k_Bans_sheet => k_is)
    (case at_Bans_shapes => k_is)
    (case gt_Bans_shapes => k_is)
    (case tk_Bans_shapes => k_is)
    (case rc_Bans_shapes => k_is)
    (case l_Bans_shapes => k_is)
    (case c_Bans_shapes => k_is)
    (case k_Bans_shapes => k_is)
    (case a_Bans_or => k_is)
    (case i_Bans_or => k_is)
    (case l_Bans_or => k_is)
    (case c_Bans_or => k_is)
    (case k_Bans_or => k_is)
    (case a_Bans_contains => k_is)
    (case i_Bans_contains => k_is)
    (case l_Bans_contains => k_is)
    (case c_Bans_contains => k_is)
    (case k_Bans_contains => k_is)
    (case a_Bans_getitem => k_is)
    (case i_Bans_getitem => k_is)
    (case l_Bans_getitem => k_is)
    (case c_Bans_getitem => k_is)
    (case k_Bans_getitem => k_is)
    (case a_Bans_iter => k_is)
    (case i_Bans_iter => k_is)
    (case l_Bans_iter => k_is)
    (case c_Bans_iter => k_is)
    (case k_Bans_iter => k_is)
    (case a_Bans_len => k_is)
    (case i_Bans_len => k_is)
    (case l_Bans_len => k_is)
    (case c_Bans_len => k_is)
    (case k_Bans_len => k_is)
    (case a_Bans_eq => k_is)
    (case i_Bans_eq => k_is)
    (case l_Bans_eq => k_is)
    (case c_Bans_eq => k_is)
    (case k_Bans_eq => k_is)
    (case a_Bans_str => k_is)
    (case i_Bans_str => k_is)
    (case l_Bans_str => k_is)
    (case c_Bans_str => k_is)
    (case k_Bans_str => k_is)
    (case a_law_dice => k_is)
    (case l_law_dice => k_is)
    (case c_law_dice => k_is)
    (case k_law_dice => k_is)
    (case a_law_roll => k_is)
    (case l_law_roll => k_is)
    (case c_law_roll => k_is)
    (case k_law_roll => k_is)
    (case a_law_pick => k_is)
    (case l_law_pick => k_is)
    (case c_law_pick => k_is)
    (case k_law_pick => k_is)
    (case a_law_mixed => k_is)
    (case l_law_mixed => k_is)
    (case c_law_mixed => k_is)
    (case k_law_mixed => k_is)
    (case a_law_fresh => k_is)
    (case l_law_fresh => k_is)
    (case c_law_fresh => k_is)
    (case k_law_fresh => k_is)
    (case a_law_names => k_is)
    (case l_law_names => k_is)
    (case c_law_names => k_is)
    (case k_law_names => k_is)
    (case a_law_new_sheet => k_is)
    (case l_law_new_sheet => k_is)
    (case c_law_new_sheet => k_is)
    (case k_law_new_sheet => k_is)
    (case a_law_sheet_made => k_is)
    (case l_law_sheet_made => k_is)
    (case c_law_sheet_made => k_is)
    (case k_law_sheet_made => k_is)
    (case a_law_twin => k_is)
    (case l_law_twin => k_is)
    (case c_law_twin => k_is)
    (case k_law_twin => k_is)
    (case a_law_ties => k_is)
    (case l_law_ties => k_is)
    (case c_law_ties => k_is)
    (case k_law_ties => k_is)
    (case a_law_shape_made => k_is)
    (case l_law_shape_made => k_is)
    (case c_law_shape_made => k_is)
    (case k_law_shape_made => k_is)
    (case a_law_new_ban => k_is)
    (case l_law_new_ban => k_is)
    (case c_law_new_ban => k_is)
    (case k_law_new_ban => k_is)
    (case a_law_same_shape => k_is)
    (case l_law_same_shape => k_is)
    (case c_law_same_shape => k_is)
    (case k_law_same_shape => k_is)
    (case a_law_new_bans => k_is)
    (case l_law_new_bans => k_is)
    (case c_law_new_bans => k_is)
    (case k_law_new_bans => k_is)
    (case a_law_bans_made => k_is)
    (case l_law_bans_made => k_is)
    (case c_law_bans_made => k_is)
    (case k_law_bans_made => k_is)
    (case a_law_is_told => k_is)
    (case l_law_is_told => k_is)
    (case c_law_is_told => k_is)
    (case k_law_is_told => k_is)
    (case a_law_refuses => k_is)
    (case l_law_refuses => k_is)
    (case c_law_refuses => k_is)
    (case k_law_refuses => k_is)
    (case a_law_right => k_is)
    (case l_law_right => k_is)
    (case c_law_right => k_is)
    (case k_law_right => k_is)
    (case a_law_by_place => k_is)
    (case l_law_by_place => k_is)
    (case c_law_by_place => k_is)
    (case k_law_by_place => k_is)
    (case a_law => k_is)
    (case l_law => k_is)
    (case c_law => k_is)
    (case k_law => k_is)
    (case pg_Sheet => k_is)
    (case hd_Sheet => k_is)
    (case po_Sheet => k_is)
    (case sa_Sheet => k_is)
    (case cc_Sheet => k_is)
    (case cg_Sheet => k_is)
    (case ct_Sheet => k_is)
    (case mr_Sheet => k_is)
    (case ne_Sheet => k_is)
    (case ic_Sheet => k_is)
    (case it_Sheet => k_is)
    (case mk_Sheet => k_is)
    (case kc_Sheet => k_is)
    (case n_Sheet_own_kinds => k_is)
    (case n_Sheet_own_words => k_is)
    (case pg_Shape => k_is)
    (case hd_Shape => k_is)
    (case po_Shape => k_is)
    (case sa_Shape => k_is)
    (case cc_Shape => k_is)
    (case cg_Shape => k_is)
    (case ct_Shape => k_is)
    (case mr_Shape => k_is)
    (case ne_Shape => k_is)
    (case ic_Shape => k_is)
    (case it_Shape => k_is)
    (case mk_Shape => k_is)
    (case kc_Shape => k_is)
    (case n_Shape_own_sheet => k_is)
    (case n_Shape_own_posts => k_is)
    (case n_Shape_own_there => k_is)
    (case n_Shape_own_lacking => k_is)
    (case pg_Bans => k_is)
    (case hd_Bans => k_is)
    (case po_Bans => k_is)
    (case sa_Bans => k_is)
    (case cc_Bans => k_is)
    (case cg_Bans => k_is)
    (case ct_Bans => k_is)
    (case mr_Bans => k_is)
    (case ne_Bans => k_is)
    (case ic_Bans => k_is)
    (case it_Bans => k_is)
    (case mk_Bans => k_is)
    (case kc_Bans => k_is)
    (case n_Bans_own_sheet => k_is)
    (case n_Bans_own_shapes => k_is)
    (case rd_Bans => k_is)
    (case ga_Bans => k_is)
    (case x_ShapeError => k_exc)
    (case k_ShapeError => k_is)
    (case s_ShapeError => k_is)
    (case t_ShapeError => k_is)
    (case i_ShapeError => k_is)
    (case ss_ShapeError => first | rfl | k_is)
    (case x_InvalidSheet => k_exc)
    (case k_InvalidSheet => k_is)
    (case s_InvalidSheet => k_is)
    (case t_InvalidSheet => k_is)
    (case i_InvalidSheet => k_is)
    (case ss_InvalidSheet => first | rfl | k_is)
    (case x_InvalidShape => k_exc)
    (case k_InvalidShape => k_is)
    (case s_InvalidShape => k_is)
    (case t_InvalidShape => k_is)
    (case i_InvalidShape => k_is)
    (case ss_InvalidShape => first | rfl | k_is)
    (case x_InvalidBans => k_exc)
    (case k_InvalidBans => k_is)
    (case s_InvalidBans => k_is)
    (case t_InvalidBans => k_is)
    (case i_InvalidBans => k_is)
    (case ss_InvalidBans => first | rfl | k_is)
    (case x_InvalidOperation => k_exc)
    (case k_InvalidOperation => k_is)
    (case s_InvalidOperation => k_is)
    (case t_InvalidOperation => k_is)
    (case i_InvalidOperation => k_is)
    (case ss_InvalidOperation => first | rfl | k_is)
    (case n_InvalidNumber_value => k_is)
    (case k_InvalidNumber => k_is)
    (case s_InvalidNumber => k_is)
    (case t_InvalidNumber => k_is)
    (case i_InvalidNumber => k_is)
    (case ss_InvalidNumber => first | rfl | k_is)
    (case y_ss_no => first | k_is | kernel_rfl | rfl)
    (case y_sb_no => first | k_is | kernel_rfl | rfl)
    (case y_sb_ne => first | k_is | kernel_rfl | rfl)
    (case y_sf_Bans => first | k_is | kernel_rfl | rfl)
    (case y_gf_getitem => first | k_is | kernel_rfl | rfl)
    (case y_xf_InvalidNumber => first | k_is | kernel_rfl | rfl)
    (case y_o_InvalidNumber => first | k_is | kernel_rfl | rfl)
    (case y_sa_InvalidNumber => first | k_is | kernel_rfl | rfl)
    (case y_v_IndexError => first | k_is | kernel_rfl | rfl)
    (case y_ss_ne => first | k_is | kernel_rfl | rfl)
    (case v_MAX_KINDS => k_is)
    (case v_MAX_WORDS => k_is)
    (case v_MAX_LETTERS => k_is)
    (case v_LETTERS => k_is)
    (case v_MAX_NAMES => k_is)
    (case v_MAX_BANS => k_is)
    (case v_MOST_POSTS => k_is)
    (case z_IndexError => first | rfl | k_is)
    (case z_abs => first | rfl | k_is)
    (case z_all => first | rfl | k_is)
    (case z_any => first | rfl | k_is)
    (case z_bool => first | rfl | k_is)
    (case z_classmethod => first | rfl | k_is)
    (case z_dict => first | rfl | k_is)
    (case z_enumerate => first | rfl | k_is)
    (case z_int => first | rfl | k_is)
    (case z_isinstance => first | rfl | k_is)
    (case z_iter => first | rfl | k_is)
    (case z_len => first | rfl | k_is)
    (case z_list => first | rfl | k_is)
    (case z_max => first | rfl | k_is)
    (case z_min => first | rfl | k_is)
    (case z_property => first | rfl | k_is)
    (case z_range => first | rfl | k_is)
    (case z_repr => first | rfl | k_is)
    (case z_sorted => first | rfl | k_is)
    (case z_str => first | rfl | k_is)
    (case z_tuple => first | rfl | k_is)
    (case z_zip => first | rfl | k_is)

