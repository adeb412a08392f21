import PyProof.Rows.All
import Wide.All
import OpenK.AllK
import Wide.FinOn
import HandS.ForMost
import HandS.Wide
import HandS.Evl
import HandS.Walk
import HandS.IsInst
import HandS.DictComp
import HandS.More
import HandS.OwnEq
import PyProof.InstNe
import PyProof.ReprRoads
import PyProof.TupleOfSeq
import HandS.Deep
import HandS.Exc
import HandS.TryOnly
import HandS.ExcOwn
import HandS.WordsExc
import HandS.ExcInit
import HandS.ExcValue
import HandS.ExcIs
import HandS.ExcField
import KE.KExcIs
import HandS.Property
import HandS.FStr
import PySem.Challenge.RW_keptshapes_k00_errors_and_their_kinds
set_option Elab.async false
set_option linter.all false
set_option maxRecDepth 100000
set_option maxHeartbeats 4000000
/-! The dice of the laws: a list of three ints of which nothing else is told. -/
namespace Kd
open PySem L2
theorem if_t {c : Bool} {A B : Prop} (h : c = true) (a : A) : if c = true then A else B := by rw [if_pos h]; exact a
theorem if_f {c : Bool} {A B : Prop} (h : c = false) (b : B) : if c = true then A else B := by rw [if_neg (by rw [h]; exact Bool.false_ne_true)]; exact b
/-- a list of three ints, whichever -/
def diceO (a : Addr) : HO := .ext fun h => ∃ (x y z : Int) (its : List Value) (n : Nat), Vals [.int x, .int y, .int z] its ∧ h.get? a = some { cls := .type "list", data := .seq its.toArray n }
theorem upd_back {H : Hp} {a : Addr} {o u : HO} (e : H a = some o) : upd (upd H a u) a o = H := by
  rw [upd_upd]
  funext b
  unfold upd
  split
  · rename_i h
    rw [h, e]
  · rfl
section
variable {X : Cx} {pins : List (Addr × Obj)} {σ : St} {H : Hp} {s : Shared} {a : Addr}
theorem open_dice (I : Inv X pins σ H s) (e : H a = some (diceO a)) : ∃ x y z : Int, Inv X pins σ (upd H a (.lst [.int x, .int y, .int z])) s := by
  obtain ⟨⟨x, y, z, its, n, r, ho⟩, _, _⟩ := I.hok a _ e
  refine ⟨x, y, z, ?_⟩
  have mu : Mut (H a) := by rw [e]; exact True.intro
  have hk : HOk X.prog X.w (upd H a (.lst [.int x, .int y, .int z])) s.heap :=
    I.hok.write (e := a) mu (.inl rfl) (fun _ _ _ q => q) ⟨_, ho⟩ ⟨by show 3 ≤ sizeLine; decide, its, n, r, ho⟩
  exact I.un (h' := s.heap) (t' := s.toks) (Un.write mu (.inl rfl) (fun _ _ _ q => q) ⟨_, ho⟩) hk
theorem shut_dice {x y z : Int} (I : Inv X pins σ H s) (e : H a = some (.lst [.int x, .int y, .int z])) : Inv X pins σ (upd H a (diceO a)) s := by
  obtain ⟨_, its, n, r, ho⟩ := I.hok a _ e
  have mu : Mut (H a) := by rw [e]; exact True.intro
  have hk : HOk X.prog X.w (upd H a (diceO a)) s.heap :=
    I.hok.write (e := a) mu (.inl rfl) (fun _ _ _ q => q) ⟨_, ho⟩ ⟨⟨x, y, z, its, n, r, ho⟩, ⟨_, ho⟩, fun h1 h2 ⟨x, y, z, its, n, r, q⟩ k => ⟨x, y, z, its, n, r, k _ q⟩⟩
  exact I.un (h' := s.heap) (t' := s.toks) (Un.write mu (.inl rfl) (fun _ _ _ q => q) ⟨_, ho⟩) hk
end
def rIxDice : R2 := fun x y H Q => ∃ (p : Addr) (k : Int), x = .ref p ∧ y = .int k ∧ H p = some (diceO p) ∧ (k = 0 ∨ k = 1 ∨ k = 2) ∧ ∀ i : Int, Q (.int i) H
theorem ix_dice {X : Cx} : IxR X rIxDice := by
  intro value slice pins s σ H x y v u Q I rx ry h hs
  obtain ⟨p, k, rfl, rfl, hp, hk, q⟩ := h
  obtain ⟨x, y, z, I'⟩ := open_dice I hp
  have key : ∃ i : Int, atI [V.int x, V.int y, V.int z] k = some (.int i) := by
    rcases hk with rfl | rfl | rfl
    · exact ⟨x, rfl⟩
    · exact ⟨y, rfl⟩
    · exact ⟨z, rfl⟩
  obtain ⟨i, hi⟩ := key
  refine thn (ix_list value slice pins s σ _ _ _ v u (fun v' H' => v' = .int i ∧ H' = upd H p (.lst [.int x, .int y, .int z])) I' rx ry ⟨p, _, k, _, rfl, rfl, SqL.of upd_same, hi, rfl, rfl⟩ hs) fun u s' h => ?_
  obtain ⟨v', H', I2, r2, rfl, rfl⟩ := h
  refine ⟨_, H, ?_, r2, q i⟩
  have J := shut_dice (a := p) I2 upd_same
  rw [upd_back hp] at J
  exact J
def rSetDice : TSet := fun o i v H Q => ∃ (p : Addr) (k j : Int), o = .ref p ∧ i = .int k ∧ v = .int j ∧ H p = some (diceO p) ∧ (k = 0 ∨ k = 1 ∨ k = 2) ∧ Q H
theorem set_dice {X : Cx} : PSet X rSetDice := by
  intro pins s σ H o i v ov iv u Q I ro ri rv h
  obtain ⟨p, k, j, rfl, rfl, rfl, hp, hk, q⟩ := h
  obtain ⟨x, y, z, I'⟩ := open_dice I hp
  have key : ∃ (n : Nat) (x' y' z' : Int), ixN 3 k = some n ∧ [V.int x, V.int y, V.int z].set n (.int j) = [.int x', .int y', .int z'] := by
    rcases hk with rfl | rfl | rfl
    · exact ⟨0, j, y, z, rfl, rfl⟩
    · exact ⟨1, x, j, z, rfl, rfl⟩
    · exact ⟨2, x, y, j, rfl, rfl⟩
  obtain ⟨n, x', y', z', hn, hs⟩ := key
  refine thn (set_list pins s σ _ _ _ _ ov iv u (fun H' => H' = upd H p (.lst [.int x', .int y', .int z'])) I' ro ri rv ⟨p, _, k, n, rfl, rfl, upd_same, hn, ?_⟩) fun u s' h => ?_
  · rw [upd_upd, hs]
  · obtain ⟨H', I2, rfl⟩ := h
    refine ⟨H, ?_, q⟩
    have J := shut_dice (a := p) I2 upd_same
    rw [upd_back hp] at J
    exact J
def CPowW (i j : Int) : Prop := 0 ≤ j ∧ (Builtin.Int.intBits i : Int) * j ≤ 2 ^ 27
theorem op_powW {X : Cx} : OpR X (binaryOp .Pow) (rI CPowW fun i j => .int (i ^ j.toNat)) := opI fun _ _ _ _ _ _ _ hc q => PyProof.Rows.pow_int hc.1 hc.2 q
/-- a new list of three ints is taken as a dice -/
def tShut (te : TE) : TE := fun σ H Q => te σ H fun v H1 => ∃ (p : Addr) (x y z : Int), v = .ref p ∧ H1 p = some (.lst [.int x, .int y, .int z]) ∧ Q v (upd H1 p (diceO p))
theorem pe_shut {X : Cx} {e : Expr} {te : TE} (h : PE X e te) : PE X e (tShut te) := ⟨fun pins s σ H Q I q => thn (h.run pins s σ H _ I q) fun u s1 ⟨v, H1, I1, r, p, x, y, z, ev, hp, q1⟩ => ⟨v, _, shut_dice I1 hp, r, q1⟩⟩
end Kd
namespace Kd
open PySem L2 Evl
/-- the type's name of a datum -/
def tyN : PyData → String
  | .none => "NoneType" | .bool _ => "bool" | .int _ => "int" | .str _ => "str" | .list _ => "list" | .tuple _ => "tuple" | .dict _ => "dict"
/-- data, dicts without their content -/
def Dv (K : PySem.W.Frag) (H : Hp) (v : V) (d : PyData) : Prop := Dp K H v d ∨ (∃ a kvs, v = .ref a ∧ H a = some (.dK kvs) ∧ d = .dict [])
theorem tyX_of {K : PySem.W.Frag} {H : Hp} {v : V} {d : PyData} (h : Dv K H v d) : TyX K H v (.type (tyN d)) := by
  rcases h with h | ⟨a, kvs, rfl, e, rfl⟩
  · cases h with
    | non => exact .base .non
    | bl b => exact .base (.bl b)
    | int i => exact .base (.int i)
    | str x => exact .base (.str x)
    | lst hs _ =>
      rcases hs with (e | ⟨o, e⟩) | ⟨o, its, n, e, c, _⟩
      · exact .base (.lst e)
      · exact .base (.frz e)
      · exact .kList e c
    | tup hs _ =>
      rcases hs with (e | ⟨o, e⟩) | ⟨o, its, n, e, c, _⟩
      · exact .base (.tup e)
      · exact .fTuple e
      · exact .kTuple e c
  · exact .base (.dK e)
mutual
theorem dp_ex {K : PySem.W.Frag} {H H' : Hp} (x : Ex H H') : ∀ (d : PyData) (v : V), Dp K H v d → Dp K H' v d
  | .none, _, h => by cases h; exact .non
  | .bool b, _, h => by cases h; exact .bl b
  | .int i, _, h => by cases h; exact .int i
  | .str s, _, h => by cases h; exact .str s
  | .list ds, _, h => by cases h with | lst hs ha => exact .lst (ex_l x hs) (dpAll_ex x ds _ ha)
  | .tuple ds, _, h => by cases h with | tup hs ha => exact .tup (ex_t x hs) (dpAll_ex x ds _ ha)
  | .dict _, _, h => by cases h
theorem dpAll_ex {K : PySem.W.Frag} {H H' : Hp} (x : Ex H H') : ∀ (ds : List PyData) (vs : List V), DpAll K H vs ds → DpAll K H' vs ds
  | [], _, h => by cases h; exact .nil
  | d :: ds, _, h => by cases h with | cons h1 h2 => exact .cons (dp_ex x d _ h1) (dpAll_ex x ds _ h2)
end
theorem dv_ex {K : PySem.W.Frag} {H H' : Hp} (x : Ex H H') {d : PyData} {v : V} (h : Dv K H v d) : Dv K H' v d := by
  rcases h with h | ⟨a, kvs, e1, e2, e3⟩
  · exact .inl (dp_ex x d v h)
  · exact .inr ⟨a, kvs, e1, x _ _ e2, e3⟩
theorem dpAll_strs {K : PySem.W.Frag} {H : Hp} : ∀ (zs : List Str), DpAll K H (zs.map V.str) (zs.map PyData.str)
  | [] => .nil
  | z :: zs => .cons (.str z) (dpAll_strs zs)
theorem isi_kit {d : PyData} (T : String) (r : Bool) (h : kitB (tyN d) T = some r) {K : PySem.W.Frag} : PySem.W.kitOne K (.type (tyN d)) (.type T) = some r := kit_ty h
theorem kit_str : ∀ d : PyData, kitB (tyN d) "str" = some (decide (tyN d = "str"))
  | .none => (by decide +kernel : kitB "NoneType" "str" = some (decide ("NoneType" = "str")))
  | .bool _ => (by decide +kernel : kitB "bool" "str" = some (decide ("bool" = "str")))
  | .int _ => (by decide +kernel : kitB "int" "str" = some (decide ("int" = "str")))
  | .str _ => (by decide +kernel : kitB "str" "str" = some (decide ("str" = "str")))
  | .list _ => (by decide +kernel : kitB "list" "str" = some (decide ("list" = "str")))
  | .tuple _ => (by decide +kernel : kitB "tuple" "str" = some (decide ("tuple" = "str")))
  | .dict _ => (by decide +kernel : kitB "dict" "str" = some (decide ("dict" = "str")))
theorem kit_tuple : ∀ d : PyData, kitB (tyN d) "tuple" = some (decide (tyN d = "tuple"))
  | .none => (by decide +kernel : kitB "NoneType" "tuple" = some (decide ("NoneType" = "tuple")))
  | .bool _ => (by decide +kernel : kitB "bool" "tuple" = some (decide ("bool" = "tuple")))
  | .int _ => (by decide +kernel : kitB "int" "tuple" = some (decide ("int" = "tuple")))
  | .str _ => (by decide +kernel : kitB "str" "tuple" = some (decide ("str" = "tuple")))
  | .list _ => (by decide +kernel : kitB "list" "tuple" = some (decide ("list" = "tuple")))
  | .tuple _ => (by decide +kernel : kitB "tuple" "tuple" = some (decide ("tuple" = "tuple")))
  | .dict _ => (by decide +kernel : kitB "dict" "tuple" = some (decide ("dict" = "tuple")))
theorem kit_bool : ∀ d : PyData, kitB (tyN d) "bool" = some (decide (tyN d = "bool"))
  | .none => (by decide +kernel : kitB "NoneType" "bool" = some (decide ("NoneType" = "bool")))
  | .bool _ => (by decide +kernel : kitB "bool" "bool" = some (decide ("bool" = "bool")))
  | .int _ => (by decide +kernel : kitB "int" "bool" = some (decide ("int" = "bool")))
  | .str _ => (by decide +kernel : kitB "str" "bool" = some (decide ("str" = "bool")))
  | .list _ => (by decide +kernel : kitB "list" "bool" = some (decide ("list" = "bool")))
  | .tuple _ => (by decide +kernel : kitB "tuple" "bool" = some (decide ("tuple" = "bool")))
  | .dict _ => (by decide +kernel : kitB "dict" "bool" = some (decide ("dict" = "bool")))
/-- [f(x) for x in .. if p(x)], scalars, nothing is changed but new things come -/
theorem lcS {J : It} {n : Nat} {G : Hp → Prop} {Y : Nat → Hp → V → Hp → Prop} (w : Walk J n G Y) {i : Nat} {tt : TT} {te : TE} {σ : L2.St} {H1 : Hp} {D : Addr} {Qd : Hp → Prop} (hD : H1 D = none) (xs : List V) (hn : xs.length = n) (hz : n < sizeLine)
    (p : V → Bool) (f : V → V) (hG : ∀ H, Ex H1 H → G H) (hY : ∀ k H x H', Y k H x H' → H' = H ∧ xs[k]? = some x) (hw : ∀ v, wipe ((wipe σ [i]).set i v) [i] = wipe σ [i])
    (ht : ∀ x H, x ∈ xs → Ex H1 H → EvT tt ((wipe σ [i]).set i (some x)) H (p x)) (he : ∀ x H, x ∈ xs → p x = true → Ex H1 H → Ev te ((wipe σ [i]).set i (some x)) H (f x))
    (hq : ∀ H, Ex H1 H → H D = some (.lst ((xs.filter p).map f)) → Qd H) :
    ∃ W : Nat → Nat → Hp → Prop, (∃ m, W 0 m (upd H1 D (.lst []))) ∧ ∀ k m H, W k m H →
      (J.stop k H ∧ Qd H) ∨ (J.go k H ∧ ∃ Nx : Hp → Prop, (∀ H', Nx H' → ∃ m', m' < m ∧ W (k + 1) m' H') ∧ ∀ x H', J.yld k H x H' → gName i x (wipe σ [i]) H' fun σ2 H2 => wipe σ2 [i] = wipe σ [i] ∧ tt σ2 H2 fun b H3 =>
        if b = true then te σ2 H3 fun y H4 => ∃ acc, H4 D = some (.lst acc) ∧ acc.length < sizeLine ∧ Nx (upd H4 D (.lst (acc ++ [y]))) else Nx H3) := by
  refine lc_it w (fun k H => Ex H1 H ∧ H D = some (.lst (((xs.take k).filter p).map f))) ⟨Ex.mut (Ex.refl H1) hD, upd_same⟩ (fun k H _ h => hG H h.1) ?_ (fun H h => hq H h.1 (by rw [h.2, List.take_of_length_le (by omega)]))
  rintro k x H H' hk ⟨e, hd⟩ y
  obtain ⟨rfl, hx⟩ := hY k H x H' y
  have hm : x ∈ xs := List.mem_of_getElem? hx
  have ht1 : xs.take (k + 1) = xs.take k ++ [x] := by
    rw [List.take_add_one, hx]
    rfl
  refine ⟨hw (some x), ht x H' hm e H' (Ex.refl _) _ fun H3 e3 => ?_⟩
  cases hp : p x with
  | false =>
    refine if_f rfl ⟨e.trans e3, ?_⟩
    rw [e3 _ _ hd, ht1, List.filter_append]
    simp [hp]
  | true =>
    refine if_t rfl (he x H' hm hp e H3 e3 _ fun H4 e4 => ⟨_, e4 _ _ (e3 _ _ hd), ?_, Ex.mut ((e.trans e3).trans e4) hD, ?_⟩)
    · rw [List.length_map]
      have h1 := List.length_filter_le p (xs.take k)
      have h2 : (xs.take k).length ≤ n := by rw [List.length_take, hn]; exact Nat.min_le_right _ _
      omega
    · rw [upd_same, ht1, List.filter_append, List.map_append]
      simp [hp]
end Kd
/-! == and != by an own __eq__, whatever it answers -/
namespace Ko
open PySem PySem.Spec PyProof.Rows PySem.SeqAt
section
variable {M : Model} {prog : Program} {w : World} {A : Around} {E : Value → Shared → Prop} {s : Shared} {K : PySem.W.Frag} {x C f L : Addr} {ox : Obj} {od : Option Obj} {b tb : Value} {h₀ : Heap} {m : Str → Option Value}
/-- object.__ne__ where the class has an own __eq__ -/
theorem ne_entry {Q : Fin → Shared → Prop} (hu : A.units < cLine) (X : K.In s.heap) (I : PySem.W.InstAt s.heap x ox C od) (hs : PySem.W.findIn K (.ref C) "__eq__" = some (some (.ref f))) (hf : PySem.W.isFn K (.ref f) = true)
    (h : wpAny M A (call (.ref f) [.ref x, b]) (fun v s' => ∃ c, v = .bool c ∧ Q (.done (.ret (.bool (!c)))) s') E s) : wpAny M A (Builtin.«object.__ne__» ⟨[.ref x, b], []⟩) Q E s := by
  unfold Builtin.«object.__ne__»
  repeat (first
    | with_reducible refine wpAny_cRoomFor hu ?_
    | (refine wpAny_bind (m := callSpecialIfBound? (.ref x) (Str.ofString "__eq__") [b]) (PySem.W.ifBound_K X I hs hf (wpAny_mono h (fun r s' hr => by
          obtain ⟨c, rfl, hq⟩ := hr
          repeat (first | exact hq | exact wpAny_pure hq | exact wpAny_truthy_bool hq | (refine wpAny_bind (m := truthy (.bool _)) (wpAny_truthy_bool ?_)) | wp_step)) fun _ _ e => e)))
    | wp_step)
theorem call_ne {Q : Value → Shared → Prop} (hu : A.units + 1 < cLine) (X : K.In s.heap) (I : PySem.W.InstAt s.heap x ox C od) (hm : PySem.W.mroIn K C (.type "object") = some true) (hs : PySem.W.findIn K (.ref C) "__eq__" = some (some (.ref f))) (hf : PySem.W.isFn K (.ref f) = true)
    (h : wpAny (model prog w) A.in1 (call (.ref f) [.ref x, b]) (fun v s' => ∃ c, v = .bool c ∧ Q (.bool (!c)) s') E s) : wpAny (model prog w) A (call (.builtin "object.__ne__") [.ref x, b]) Q E s :=
  wpAny_call (codeAny_call_builtin F.cmp_object.ne.plain F.cmpEntry_ne (PySem.W.check_slot F.cmpKind_ne F.cmpSplit_ne (I.type.andThen (PySem.W.looks_mroIn X hm)) (F.cmpArgs_ne _ _)
    (ne_entry (A := A.in1) hu X I hs hf (wpAny_mono h (fun v s' ⟨c, e, q⟩ => ⟨c, e, q⟩) fun _ _ e => e))))
theorem ifBound_ne {args : List Value} {Q : Option Value → Shared → Prop} (X : K.In s.heap) (I : PySem.W.InstAt s.heap x ox C od) (hs : PySem.W.findIn K (.ref C) "__ne__" = some (some (.builtin "object.__ne__")))
    (h : wpAny M A (call (.builtin "object.__ne__") (.ref x :: args)) (fun v => Q (some v)) E s) : wpAny M A (callSpecialIfBound? (.ref x) "__ne__" args) Q E s := by
  have fin : wpAny M A (call (.builtin "object.__ne__") ([.ref x] ++ args) >>= fun v => pure (some v)) Q E s := wpAny_bind (wpAny_mono h (fun _ _ q => wpAny_pure q) fun _ _ q => q)
  simp only [callSpecialIfBound?, bindSpecialIfBound?]
  refine wpAny_holding (wpAny_bind (wpAny_bind (wpAny_bind (I.type.here ((PySem.W.looks_findIn X hs).here (wpAny_bind (wpAny_askSetting (wpAny_ite ?_))))))))
  split
  · exact wpAny_bind (wpAny_of_eq (F.cmp_object.ne.bind _) (wpAny_pure (by exact fin)))
  · exact wpAny_tryCatch (wpAny_bind (wpAny_of_eq (F.cmp_object.ne.bind _) (wpAny_pure (by exact fin))))
theorem ne_own {Q : Value → Shared → Prop} (hu : A.units + 1 < cLine) (X : K.In s.heap) (I : PySem.W.InstAt s.heap x ox C od) (hb : PySem.W.Looks (model prog w) s.heap (typeOf b) tb) (hn : PySem.W.notFirst K C tb = true)
    (hm : PySem.W.mroIn K C (.type "object") = some true) (hne : PySem.W.findIn K (.ref C) "__ne__" = some (some (.builtin "object.__ne__"))) (hs : PySem.W.findIn K (.ref C) "__eq__" = some (some (.ref f))) (hf : PySem.W.isFn K (.ref f) = true)
    (h : wpAny (model prog w) A.in1 (call (.ref f) [.ref x, b]) (fun v s' => ∃ c, v = .bool c ∧ Q (.bool (!c)) s') E s) : wpAny (model prog w) A (richCompare .NotEq (.ref x) b) Q E s := by
  have one : wpAny (model prog w) A (tryCompare (.ref x) "__ne__" b) (fun r s' => ∃ c, r = some (.bool c) ∧ Q (.bool c) s') E s := by
    unfold tryCompare
    refine wpAny_bind (ifBound_ne X I hne (call_ne hu X I hm hs hf (wpAny_mono h (fun v s' z => ?_) fun _ _ e => e)))
    obtain ⟨c, rfl, q⟩ := z
    exact ⟨c, rfl, wpAny_pure ⟨!c, rfl, q⟩⟩
  simp only [richCompare, cmpInfo_NotEq, oneThing_ref]
  refine wpAny_holding (wpAny_bind (wpAny_cRoomFor (by omega) (wpAny_bind (I.type.here (wpAny_bind (hb.here ?_))))))
  split
  · rename_i q
    have e : PySem.W.subIn K tb (.ref C) = some false := by
      rcases Bool.or_eq_true_iff.mp hn with z | z
      · rw [beq_iff_eq.mp z] at q; simp at q
      · exact beq_iff_eq.mp z
    refine wpAny_bind ((PySem.W.looks_subIn X e).here ?_)
    simp only [Bool.false_eq_true, if_false]
    refine wpAny_bind (wpAny_mono one (fun r s' z => ?_) fun _ _ e => e)
    obtain ⟨c, rfl, hq⟩ := z
    exact wpAny_pure hq
  · refine wpAny_bind (wpAny_pure ?_)
    simp only [Bool.false_eq_true, if_false]
    refine wpAny_bind (wpAny_mono one (fun r s' z => ?_) fun _ _ e => e)
    obtain ⟨c, rfl, hq⟩ := z
    exact wpAny_pure hq
end
end Ko
namespace L2
open PySem PySem.Spec PyProof.Rows
section
variable {X : Cx} {C f : Addr} {fd : FuncData} {ps : List Str} {sp : Sp} {n : Nat}
/-- what an own class tells of its == -/
structure OwnCmp (K : PySem.W.Frag) (C f : Addr) : Prop where
  eq : PySem.W.findIn K (.ref C) "__eq__" = some (some (.ref f))
  fn : PySem.W.isFn K (.ref f) = true
  ne : PySem.W.findIn K (.ref C) "__ne__" = some (some (.builtin "object.__ne__"))
  mr : PySem.W.mroIn K C (.type "object") = some true
/-- x == y, x != y: x an instance of C, y of the type t -/
def rOwnC (K : PySem.W.Frag) (C : Addr) (sp : Sp) (g : Bool → Bool) : R2 := fun x y H Q => ∃ a dx fs t, x = .ref a ∧ H a = some (.ins C dx fs) ∧ TyX K H y t ∧ PySem.W.notFirst K C t = true ∧ sp [x, y] H (fun v H' => ∃ c, v = .bl c ∧ Q (.bl (g c)) H') fun _ _ _ => False
theorem typeLook {pins : List (Addr × Obj)} {σ : St} {H : Hp} {s : Shared} {M : Model} {x : V} {u t : Value} (I : Inv X pins σ H s) (rx : RelV x u) (ty : TyX X.K H x t) : PySem.W.Looks M s.heap (typeOf u) t := by
  obtain ⟨P, kx, hp, _⟩ := kit_of I rx ty
  exact kx.ty M _ I.kIn hp
/-- a def of the text, called at another depth -/
theorem run_at {CX : CXT} {E : XK} {pins : List (Addr × Obj)} {σ : St} {H : Hp} {s : Shared} {vs : List V} {us : List Value} {Q : VK} {A : Around} (F : FnOk X.prog X.w X.K X.mg X.base CX n f fd ps sp) (hb : Binds X.K fd ps []) (hx : Passes CX X E) (hA : A.frames = X.A.frames) (hr : Room n A)
    (I : Inv X pins σ H s) (r : Vals vs us) (q : sp vs H Q E) : wpAny (model X.prog X.w) A (call (.ref f) us) (EP X pins σ Q) X.xe s := by
  have e0 : Env0 X.prog X.w X.K X.mg X.base A X.stack s H := by
    have e := I.env0
    exact ⟨hA.trans e.frames, e.mod, e.bs, e.bsz, e.funs, e.frf, e.hok, e.bare⟩
  have hl := F.len _ _ _ _ q
  have hlu : us.length = ps.length := by rw [← r.length]; exact hl
  refine wpAny_call (codeAny_mono (F.run A X.stack s H ⟨us, []⟩ us vs Q E hr e0 (by simpa using hb s us I.kIn (by simpa using hlu)) r q) fun r' s' hq => ?_)
  cases r' with
  | error e => exact hx pins σ H s e s' I hq
  | ok fl =>
    cases fl with
    | ret w => exact I.after hq
    | next => exact hq.elim
    | brk => exact hq.elim
    | cont => exact hq.elim
theorem own_at {pins : List (Addr × Obj)} {σ : St} {H : Hp} {s : Shared} {a dx : Addr} {fs : List (Str × V)} (I : Inv X pins σ H s) (ha : H a = some (.ins C dx fs)) : ∃ (ox : Obj) (od : Option Obj), PySem.W.InstAt s.heap a ox C od := by
  obtain ⟨mA, J, _⟩ := ins_get I.hok ha
  obtain ⟨od, J, _⟩ := J.look
  exact ⟨_, _, J⟩
theorem op_ownEq (F : FnOk X.prog X.w X.K X.mg X.base CX0 n f fd ps sp) (O : OwnCmp X.K C f) (hb : Binds X.K fd ps []) (hr : Room n X.A) : OpR X (compareOp .Eq) (rOwnC X.K C sp id) := by
  intro pins s σ H x y v u Q I rx ry ⟨a, dx, fs, t, ex, ha, ht, hn, q⟩
  subst ex
  cases rx
  obtain ⟨ox, od, J⟩ := own_at I ha
  obtain ⟨m, hF⟩ := I.fr
  refine PySem.W.cmp_ofEq (PySem.W.cmp_K (op := .Eq) (tb := t) hr.units0 hF I.ok.mod.kin J (typeLook I ry ht) hn O.eq O.fn ?_)
  refine wpAny_mono (run_at F hb pass0 rfl hr I (vs := [.ref a, y]) (.cons rfl (.cons ry .nil)) q) (fun r s' z => ?_) fun _ _ z => z
  obtain ⟨v', H', I', rv, c, e, q'⟩ := z
  subst e
  cases rv
  exact ⟨.bl c, H', I', rfl, q'⟩
theorem op_ownNe (F : FnOk X.prog X.w X.K X.mg X.base CX0 n f fd ps sp) (O : OwnCmp X.K C f) (hb : Binds X.K fd ps []) (hr : Room (n + 1) X.A) : OpR X (compareOp .NotEq) (rOwnC X.K C sp not) := by
  intro pins s σ H x y v u Q I rx ry ⟨a, dx, fs, t, ex, ha, ht, hn, q⟩
  subst ex
  cases rx
  obtain ⟨ox, od, J⟩ := own_at I ha
  refine PySem.W.cmp_ofNotEq (Ko.ne_own (by have := hr.un; omega) I.kIn J (typeLook I ry ht) hn O.mr O.ne O.eq O.fn ?_)
  refine wpAny_mono (run_at (A := X.A.in1) F hb pass0 rfl hr.in1 I (vs := [.ref a, y]) (.cons rfl (.cons ry .nil)) q) (fun r s' z => ?_) fun _ _ z => z
  obtain ⟨v', H', I', rv, c, e, q'⟩ := z
  subst e
  cases rv
  exact ⟨c, rfl, .bl (!c), H', I', rfl, q'⟩
end
end L2
namespace Kd
open PySem L2
/-- what a class tells of its instances' type -/
structure InsT (K : PySem.W.Frag) (C : Addr) : Prop where
  cl : Cls K C
  cc : PySem.W.findIn K (.ref C) "__class__" = some (some (.builtin "object.__class__"))
  cg : PySem.W.specialIn K (.builtin "object.__class__") "__get__" = some (some (.builtin "getset_descriptor.__get__"))
  ct : PySem.W.takesIn K (.builtin "object.__class__") = some true
  mr : PySem.W.mroIn K C (.type "object") = some true
  ne : PySem.W.findIn K (.ref C) "__ne__" = some (some (.builtin "object.__ne__"))
  ic : PySem.W.isClsIn K C = true
  it : PySem.W.typeIn K (.ref C) = some (.type "type")
theorem InsT.ty {K : PySem.W.Frag} {C : Addr} (i : InsT K C) {H : Hp} {a dx : Addr} {fs : List (Str × V)} (e : H a = some (.ins C dx fs)) : TyX K H (.ref a) (.ref C) := .base (.ins e i.cl i.cc i.cg i.ct i.mr)
theorem kit_self {K : PySem.W.Frag} {C : Addr} : PySem.W.kitOne K (.ref C) (.ref C) = some true := by
  show (if (Value.ref C == Value.ref C) = true then some true else _) = some true
  rw [if_pos (by simp)]
theorem sub_data {K : PySem.W.Frag} {C : Addr} : ∀ d : PyData, PySem.W.subIn K (.type (tyN d)) (.ref C) = some false
  | .none => by have e : fastBuiltinMro "NoneType" = some [.type "NoneType", .type "object"] := by decide +kernel
                show (fastBuiltinMro "NoneType").map (·.contains (.ref C)) = some false; rw [e]; simp
  | .bool _ => by have e : fastBuiltinMro "bool" = some [.type "bool", .type "int", .type "object"] := by decide +kernel
                  show (fastBuiltinMro "bool").map (·.contains (.ref C)) = some false; rw [e]; simp
  | .int _ => by have e : fastBuiltinMro "int" = some [.type "int", .type "object"] := by decide +kernel
                 show (fastBuiltinMro "int").map (·.contains (.ref C)) = some false; rw [e]; simp
  | .str _ => by have e : fastBuiltinMro "str" = some [.type "str", .type "object"] := by decide +kernel
                 show (fastBuiltinMro "str").map (·.contains (.ref C)) = some false; rw [e]; simp
  | .list _ => by have e : fastBuiltinMro "list" = some [.type "list", .type "object"] := by decide +kernel
                  show (fastBuiltinMro "list").map (·.contains (.ref C)) = some false; rw [e]; simp
  | .tuple _ => by have e : fastBuiltinMro "tuple" = some [.type "tuple", .type "object"] := by decide +kernel
                   show (fastBuiltinMro "tuple").map (·.contains (.ref C)) = some false; rw [e]; simp
  | .dict _ => by have e : fastBuiltinMro "dict" = some [.type "dict", .type "object"] := by decide +kernel
                  show (fastBuiltinMro "dict").map (·.contains (.ref C)) = some false; rw [e]; simp
theorem kitCls_own {K : PySem.W.Frag} {C : Addr} {t : Value} (h1 : PySem.W.isClsIn K C = true) (h2 : PySem.W.typeIn K (.ref C) = some (.type "type")) : PySem.W.kitCls K t (.ref C) = PySem.W.subIn K t (.ref C) := by
  have h1' : (PySem.W.clsIn K C).isSome = true := h1
  unfold PySem.W.kitCls
  dsimp only
  rw [if_pos]
  simp [h1', h2]
/-- isinstance(data, C) is false -/
theorem InsT.no {K : PySem.W.Frag} {C : Addr} (i : InsT K C) (d : PyData) : PySem.W.kitOne K (.type (tyN d)) (.ref C) = some false := by
  have h1 : PySem.W.kitOne K (.type (tyN d)) (.ref C) = PySem.W.kitCls K (.type (tyN d)) (.ref C) := by
    show (if (Value.type (tyN d) == Value.ref C) = true then some true else _) = _
    rw [if_neg (by simp)]
  rw [h1, kitCls_own i.ic i.it]
  exact sub_data d
theorem exm_own {K : PySem.W.Frag} {S : Addr} (h1 : PySem.W.subIn K (.ref S) (.type "BaseException") = some true) (h2 : PySem.W.isClsIn K S = true) (h3 : PySem.W.typeIn K (.ref S) = some (.type "type")) {E : Addr} {r : Bool} (h0 : PySem.W.subIn K (.ref E) (.type "BaseException") = some true) (h4 : PySem.W.subIn K (.ref E) (.ref S) = some r) :
    PySem.W.exmOne K (.ref E) (.ref S) = some r := by
  have e1 : (PySem.W.subIn K (.ref S) (.type "BaseException") == some true) = true := by rw [h1] <;> rfl
  have e2 : ((PySem.W.clsIn K S).isSome && PySem.W.typeIn K (.ref S) == some (.type "type")) = true := by
    have h2' : (PySem.W.clsIn K S).isSome = true := h2
    rw [h2', h3] <;> rfl
  show (if (PySem.W.subIn K (.ref S) (.type "BaseException") == some true) = true then (if ((PySem.W.clsIn K S).isSome && PySem.W.typeIn K (.ref S) == some (.type "type")) = true then PySem.W.subIn K (.ref E) (.ref S) else none) else none) = some r
  rw [if_pos e1, if_pos e2]
  exact h4
theorem not_first {K : PySem.W.Frag} {C : Addr} (d : PyData) : PySem.W.notFirst K C (.type (tyN d)) = true := by
  unfold PySem.W.notFirst
  rw [sub_data d]
  simp
theorem not_first_self {K : PySem.W.Frag} {C : Addr} : PySem.W.notFirst K C (.ref C) = true := by
  unfold PySem.W.notFirst
  simp
theorem InsT.own {K : PySem.W.Frag} {C f : Addr} (i : InsT K C) (m : Meth K C "__eq__" f) : OwnCmp K C f := ⟨m.at_, m.fn, i.ne, i.mr⟩
end Kd
/-! Defs whose run knows that nothing is being shown (repr) around them. -/
namespace L2
open PySem PySem.Spec PyProof.Rows
/-- the promise, where no container is being shown around -/
structure FnG (P : Program) (w : World) (K : PySem.W.Frag) (mg : Str → Option Value) (base : Heap) (k : Nat) (f : Addr) (fd : FuncData) (ps : List Str) (sp : Sp) : Prop where
  len : ∀ vs H Q E, sp vs H Q E → vs.length = ps.length
  run : ∀ (A : Around) (outer : List Env) (s : Shared) (H : Hp) (args : Args) (us : List Value) (vs : List V) (Q : VK) (E : XK), A.guards = some [] → Room k A → Env0 P w K mg base A outer s H → BindsTo s fd args (ps.zip us) → Vals vs us → sp vs H Q E →
    codeAny (model P w) A (.call (.ref f) args) (CR CX0 outer P w H s Q E) s
section
variable {P : Program} {w : World} {K : PySem.W.Frag} {mg : Str → Option Value} {base : Heap}
theorem FnOk.g {k : Nat} {f : Addr} {fd : FuncData} {ps : List Str} {sp : Sp} (F : FnOk P w K mg base CX0 k f fd ps sp) : FnG P w K mg base k f fd ps sp :=
  ⟨F.len, fun A outer s H args us vs Q E _ => F.run A outer s H args us vs Q E⟩
theorem fnG_of {x qual : Str} {st : Stmt} {f : Addr} {fd : FuncData} {N ps : List Str} {k : Nat} {sp : Sp} (F : Fun K x qual st f fd) (S : FnScope N ps (defScope st)) (len : ∀ vs H Q E, sp vs H Q E → vs.length = ps.length)
    (hbody : ∀ (cdv : Value) (A : Around) (outer : List Env) (s : Shared) (H : Hp) (vs : List V) (Q : VK) (E : XK), A.guards = some [] → Room k (A.deeper (envOfC qual (defScope st) s.heap.objs.size f cdv)) → sp vs H Q E →
      ∃ t, PSs (cxOf CX0 P w K mg base N qual (defScope st) f cdv A outer s H E).nox (defBody st) t ∧ t { nx := fun _ H' => Q .non H', rt := Q } (start N vs) H) : FnG P w K mg base (k + 1) f fd ps sp := by
  refine ⟨len, fun A outer s H args us vs Q E hG hr e0 hb r hsp => ?_⟩
  obtain ⟨oc, od, kV, doc, pm, an, cdv, ct, osl, efd, lk, hcd⟩ := F.ex
  subst efd
  have kin : K.In s.heap := e0.mod.kin.keeps fun c q z => (e0.bs c q z).1
  have nl : s.heap.NoLimit := e0.mod.nolimit.keeps fun c q z => (e0.bs c q z).1
  have par : ∀ y ∈ ps.zip us, (defScope st).names.lookup y.1 = some .local ∨ ((defScope st).names.lookup y.1 = some .cell ∧ ((cellsFrom (s.heap.objs.size + 1) (defScope st).names []).lookup y.1).isSome = true) := by
    rintro ⟨z, v⟩ hz
    exact (S.par z (List.of_mem_zip hz).1).elim .inl fun q => .inr ⟨q, PySem.W.cellsFrom_some _ _ _ (.inl q)⟩
  refine codeAny_call_function hr.depth (kin _ _ lk) rfl S.co S.gen rfl (PySem.W.codeRec_of kin hcd) (hb _ _ _ _ (wpAny_newFunctionEnv_cells S.kind par fun env he s1 x => ?_))
  subst he
  refine ⟨nl.keeps x.toInCall.keep, codeAny_func ?_⟩
  obtain ⟨t, ht, hq⟩ := hbody cdv A outer s H vs Q E hG (hr.deeper _) hsp
  have J := inv_start (CX := CX0) (E := E) S hr.hd e0 (len _ _ _ _ hsp) r x
  refine wpAny_mono (ht.nox.run [] s1 (start N vs) H _ J hq) (fun fl s' hs => ?_) fun e s' hs => hs
  cases fl with
  | ret u => obtain ⟨v, σ', H', J', rv, q⟩ := hs; exact ⟨v, H', J'.os, J'.bare, J'.base, J'.hok, rv, q⟩
  | next => obtain ⟨σ', H', J', q⟩ := hs; exact ⟨V.non, H', J'.os, J'.bare, J'.base, J'.hok, rfl, q⟩
  | brk => obtain ⟨_, _, _, q⟩ := hs; exact q.elim
  | cont => obtain ⟨_, _, _, q⟩ := hs; exact q.elim
end
section
variable {X : Cx} {x : Str} {p pos : Pos} {e : Expr} {es : List Expr} {t : TA} {k : Nat} {f : Addr} {fd : FuncData} {ps : List Str} {sp : Sp}
/-- f(e, ..) of such a def -/
theorem pe_callG (F : FnG X.prog X.w X.K X.mg X.base k f fd ps sp) (hG : X.A.guards = some []) (hr : Room k X.A) (hg : Gl X x) (hm : X.mg x = some (.ref f)) (hk : PySem.W.keepIn X.K (.ref f) = true) (hb : Binds X.K fd ps []) (ha : PA X (e :: es) t)
    (hdb : (x == ("__debug__" : Str)) = false := by decide) (he : starEach (e :: es) X.env = (false, eval e X.env) :: starEach es X.env := by rfl) (hpl : (backTo pos (starEach es X.env)).any (·.1) = false := by rfl) :
    PE X (.Call (.Name x p) (e :: es) [] pos) (tCall sp [] E0 t) := by
  refine ⟨fun pins s σ H Q I h => wpAny_Call_Name_kw (ld_glob I hg hm (PySem.W.callWith_K (h₀ := X.base) I.ok.mod.kin hk (thn (ha.run pos pins s σ H _ I h) fun us s1 ⟨vs, H1, I1, r, q⟩ => ⟨I1.kIn, ?_⟩) he hpl) hdb)⟩
  have q' : sp vs H1 Q E0 := by simpa using q
  have hlu : us.length = ps.length := by rw [← r.length]; exact F.len _ _ _ _ q'
  refine wpAny_call (codeAny_mono (F.run X.A X.stack s1 H1 ⟨us, []⟩ us vs Q E0 hG hr I1.env0 (by simpa using hb s1 us I1.kIn (by simpa using hlu)) r q') fun r' s' hq => ?_)
  cases r' with
  | error z => exact hq.elim
  | ok fl =>
    cases fl with
    | ret w => exact I1.after hq
    | next => exact hq.elim
    | brk => exact hq.elim
    | cont => exact hq.elim
mutual
theorem noDict {K : PySem.W.Frag} {H : Hp} : ∀ (d : PyData) (v : V), Dp K H v d → d.hasDict = false
  | .none, _, _ => rfl
  | .bool _, _, _ => rfl
  | .int _, _, _ => rfl
  | .str _, _, _ => rfl
  | .list ds, _, h => by cases h with | lst _ ha => exact noDicts ds _ ha
  | .tuple ds, _, h => by cases h with | tup _ ha => exact noDicts ds _ ha
  | .dict _, _, h => by cases h
theorem noDicts {K : PySem.W.Frag} {H : Hp} : ∀ (ds : List PyData) (vs : List V), DpAll K H vs ds → PyData.hasDictAll ds = false
  | [], _, _ => rfl
  | d :: ds, _, h => by
    cases h with
    | cons h1 h2 =>
      show (d.hasDict || PyData.hasDictAll ds) = false
      rw [noDict d _ h1, noDicts ds _ h2]
      rfl
end
/-- repr(x), x a list, a tuple or a scalar -/
def rReprD (K : PySem.W.Frag) : List V → Hp → VK → Prop := fun xs H Q => ∃ v d, xs = [v] ∧ Dp K H v d ∧ d.showable = true ∧ d.depth ≤ 40 ∧ d.shown.length ≤ sizeLine ∧ Q (.str d.shown) H
theorem call_reprD (hG : X.A.guards = some []) (hu : X.A.units + 64 < cLine) : CallR X (.builtin "repr") (rReprD X.K) := by
  intro pins s σ H xs us Q I r ⟨v, d, ex, hd, hs, hdp, hz, q⟩
  subst ex
  obtain ⟨u, rfl, ru⟩ := r.one
  obtain ⟨as, hr⟩ := Dp.reads I d v u hd ru
  have hnd : d.hasDict = true → sysModules ∉ as := fun z => by rw [noDict d v hd] at z; cases z
  have big : ∀ (a : Addr), u = .ref a → wpAny (model X.prog X.w) X.A (call (.builtin "repr") [u]) (EP X pins σ Q) X.xe s := by
    intro a ea
    subst ea
    exact repr_of_reads' hr hs hnd hG (by omega) (fun _ _ z => z) (fun h' t tk k => ⟨.str d.shown, H, I.kept (t' := tk) k, ⟨t, rfl⟩, q⟩) hz
  cases hd with
  | non => cases ru; exact PySem.P.repr_of_none ⟨.str _, H, I.tok _, ⟨_, rfl⟩, q⟩
  | bl b => cases ru; exact PySem.P.repr_of_bool ⟨.str _, H, I.tok _, ⟨_, rfl⟩, q⟩
  | int i =>
    obtain ⟨t, rfl⟩ := ru
    exact PySem.P.repr_of_int (of_decide_eq_true hs) ⟨.str _, H, I.tok _, ⟨_, rfl⟩, q⟩
  | str z =>
    obtain ⟨t, rfl⟩ := ru
    exact PySem.P.repr_of_str ⟨.str _, H, I.tok _, ⟨_, rfl⟩, q⟩ hz
  | lst _ _ => exact big _ ru
  | tup _ _ => exact big _ ru
end
end L2
namespace L2
open PySem PySem.Spec PyProof.Rows
section
variable {X : Cx}
/-- sorted(t), t a tuple or a list of texts, fewer than 64 -/
def rSortU (K : PySem.W.Frag) : List V → Hp → VK → Prop := fun vs H Q => ∃ (a : Addr) (xs : List Str), vs = [V.ref a] ∧ (SqT K H a (xs.map V.str) ∨ SqL K H a (xs.map V.str)) ∧ xs.length < 64 ∧
  ∀ (ys : List Str) (p : Addr), ys.Perm xs → sortedS ys = true → H p = none → Q (.ref p) (upd H p (.lst (ys.map V.str)))
theorem cr_sortU : CallR X (.builtin "sorted") (rSortU X.K) := by
  intro pins s σ H vs us Q I r ⟨a, xs, e, hs, few, q⟩
  subst e
  rw [Vals.ref1 r]
  have hsq : ∃ (its : List Value) (T : String) (o : Obj) (n : Nat), Vals (xs.map V.str) its ∧ (T = "list" ∨ T = "tuple") ∧ s.heap.get? a = some o ∧ o.cls = .type T ∧ o.data = .seq its.toArray n := by
    rcases hs with hs | hs
    · obtain ⟨its, rv, ⟨o, ho, hc, n, hd⟩, _⟩ := I.tuple hs
      exact ⟨its, "tuple", o, n, rv, .inr rfl, ho, hc, hd⟩
    · obtain ⟨its, rv, ⟨o, n, ho, hc, _, hd⟩, _⟩ := I.list hs
      exact ⟨its, "list", o, n, rv, .inl rfl, ho, hc, hd⟩
  obtain ⟨its, T, o, n, rv, hT, ho, hc, hd⟩ := hsq
  have hS : StrsAre its xs := rv.strs
  have hlen : its.length = xs.length := by have e := rv.length; rw [List.length_map] at e; exact e.symm
  have hsz : its.length < 64 := by rw [hlen]; exact few
  have hln : its.length ≤ sizeLine := small64 hsz
  refine Calls.call_function_entry kind_sorted plain_sorted entry_sorted (args_sorted1 _) ?_
  unfold Builtin.«sorted»
  refine wpAny_bind (m := checkCount "sorted" 1 1 _) (wpAny_pure ?_)
  refine wpAny_bind (wpAny_collect_seq a hT ho hc hd (fun h1 kp => ?_) (by rw [List.size_toArray]; exact hln))
  refine wpAny_bind (wpAny_newList ?_ hln)
  have J : Inv X pins σ H { s with heap := h1 } := I.kept (t' := s.toks) kp
  have hnew : (h1.push (seqObj "list" its.toArray 0)).get? h1.objs.size = some (seqObj "list" its.toArray 0) := Heap.get?_push_size _ rfl
  show wpAny _ _ _ _ _ { s with heap := h1.push (seqObj "list" its.toArray 0) }
  refine wpAny_bind (wpAny_holding (wpAny_call_entry slot_list_sort ⟨_, hnew, rfl⟩ entry_list_sort
    (list_sort_treeK strKind_oneLt (s := { s with heap := h1.push (seqObj "list" its.toArray 0) }) hnew hS.keysOf (fun x y l e => keyKind_strs (by rw [← e]; exact hS)) hsz fun st hp ho => ⟨_, rfl, ?_⟩) (args_list_sort _)))
  obtain ⟨ys, g1, g2, g3⟩ := sorted_out_str hS hp ho
  obtain ⟨n', h'⟩ := sortedHeap_at (vs := its) (out := (arrOf st).map (·.2)) hnew
  have hfin : (ys.map V.str).length ≤ sizeLine := by rw [List.length_map, g2.length_eq]; exact small64 few
  refine wpAny_pure ⟨_, rfl, .ref h1.objs.size, upd H h1.objs.size (.lst (ys.map V.str)), J.laid (t' := s.toks) (fun b u e => ?_) (Nat.le_refl _)
    (show ObjOk X.prog X.w _ _ _ (.lst (ys.map V.str)) from ⟨hfin, ((arrOf st).map (·.2)).toList, n', vals_of_strs g1, by rw [Array.toArray_toList]; exact h'⟩), rfl, q ys _ g2 g3 (J.hok.fresh (Nat.le_refl _))⟩
  have hb : b < h1.objs.size := Heap.lt_size e
  rw [sortedHeap_old (Nat.ne_of_lt hb) (by rw [size_push']; exact Nat.lt_succ_of_lt hb)]
  exact Heap.get?_push_of_some _ e
end
end L2
/-! The layer's rules with the written part as a letter of its own (within a comprehension the context's own field is no name). -/
namespace Kv
open PySem L2
section
variable {X : Cx} {K : PySem.W.Frag}
def rLen (K : PySem.W.Frag) : List V → Hp → VK → Prop := fun xs H Q => ∃ p ys, xs = [.ref p] ∧ (SqL K H p ys ∨ SqT K H p ys) ∧ Q (.int ys.length) H
theorem call_len (h : X.K = K) : CallR X (.builtin "len") (rLen K) := by subst h; exact call_len_seq
def rList (K : PySem.W.Frag) : List V → Hp → VK → Prop := fun xs H Q => ∃ p ys, xs = [.ref p] ∧ (SqL K H p ys ∨ SqT K H p ys) ∧ ∀ l, H l = none → Q (.ref l) (upd H l (.lst ys))
theorem call_list (h : X.K = K) : CallR X (.type "list") (rList K) := by subst h; exact call_list_of
def rTuple (K : PySem.W.Frag) : List V → Hp → VK → Prop := fun xs H Q => ∃ p ys, xs = [.ref p] ∧ ((SqL K H p ys ∧ ∀ l, H l = none → Q (.ref l) (upd H l (.tup ys))) ∨ (SqT K H p ys ∧ Q (.ref p) H))
theorem call_tuple (h : X.K = K) : CallR X (.type "tuple") (rTuple K) := by subst h; exact call_tuple_of
theorem call_isi (h : X.K = K) : CallR X (.builtin "isinstance") (rIsi K) := by subst h; exact L2.call_isi
theorem call_sort (h : X.K = K) : CallR X (.builtin "sorted") (rSortU K) := by subst h; exact cr_sortU
theorem call_all (h : X.K = K) (hc : X.calm = true) : CallR X (.builtin "all") (rAll K) := by subst h; exact cr_all hc
theorem call_repr (h : X.K = K) (hG : X.A.guards = some []) (hu : X.A.units + 64 < cLine) : CallR X (.builtin "repr") (rReprD K) := by subst h; exact call_reprD hG hu
theorem ix_list (h : X.K = K) : IxR X (rIxL K) := by subst h; exact L2.ix_list
theorem ix_tup (h : X.K = K) : IxR X (rIxT K) := by subst h; exact L2.ix_tup
theorem ix_seq (h : X.K = K) : IxR X (rIx K) := by subst h; exact L2.ix_seq
theorem op_in (h : X.K = K) : OpR X (compareOp .In) (rIn K false) := by subst h; exact op_in_seq
theorem op_notIn (h : X.K = K) : OpR X (compareOp .NotIn) (rIn K true) := by subst h; exact op_notIn_seq
theorem op_eqD (h : X.K = K) (hu : X.A.units + 64 < cLine) : OpR X (compareOp .Eq) (rEqD K) := by subst h; exact L2.op_eqD hu
theorem op_neD (h : X.K = K) (hu : X.A.units + 64 < cLine) : OpR X (compareOp .NotEq) (rNeD K) := by subst h; exact L2.op_neD hu
theorem sl_list (h : X.K = K) : SlR X (rSlL K) := by subst h; exact L2.sl_list
theorem sl_tup (h : X.K = K) : SlR X (rSlT K) := by subst h; exact L2.sl_tup
variable {e o : Expr} {es : List Expr} {ta to : TE} {t : TA} {pos apos cpos : Pos} {f name : Str} {T id : String} {r : V → List V → Hp → VK → Prop}
theorem pe_fld (h : X.K = K) (he : PE X e ta) (hl : attributeBase e f X.env (eval e X.env) = eval e X.env) : PE X (.Attribute e f pos) (tFld K ta f) := by subst h; exact L2.pe_fld he hl
theorem pe_bm (h : X.K = K) (pa : PlainAttrs T) (slot : Slot T name id) (hty : typeOf (.builtin id) = pure (.type "method_descriptor")) (hm : MtR X id r) (ho : PE X o to) (ha : PA X (e :: es) t) (hb : attributeBase o name X.env (eval o X.env) = eval o X.env := by rfl)
    (hw : ((backTo cpos (starEach (e :: es) X.env)).all (fun x => !x.1) && (backToKw cpos (keywordEach [] X.env)).all (fun x => x.1.isSome) && decide ((e :: es).length + ([] : List Keyword).length + (if ([] : List Keyword).isEmpty then 0 else 1) < 30)) = true := by rfl)
    (hn : (apos.endLine == cpos.line) = true := by rfl) (hs : starEach (e :: es) X.env = (false, eval e X.env) :: starEach es X.env := by rfl) (hp : (backTo cpos (starEach es X.env)).any (·.1) = false := by rfl) :
    PE X (.Call (.Attribute o name apos) (e :: es) [] cpos) (tBM K T r to t) := by subst h; exact L2.pe_bm pa slot hty hm ho ha hb hw hn hs hp
end
end Kv
/-! Own errors under any built-in one, with an __init__ of their own: made, kept, asked. -/
namespace PySem
namespace Kx
open PySem.W PySem.Calls PyProof.Rows PySem.HandSPX Builtin Builtin.ObjectAttr
/-- a built-in error B under which own ones stand: who makes them, who sets them up, the row of classes -/
structure Bs (B newId initId : String) (tl : List Value) : Prop where
  new : ∃ (D i0 : String) (bmD : List Value), ExcBaseFacts D newId i0 bmD ∧ tl.contains (.type D) = true
  nA : tl.contains (.type "AttributeError") = false
  nN : tl.contains (.type "NameError") = false
  ini : PyProof.Rows.ExcClass B newId initId
  has : tl.contains (.type B) = true
  obj : tl.contains (.type "object") = true
  pass : ∀ self : Value, refuseLoop self "__setattr__" tl = pure ()
abbrev tIndex : List Value := [.type "IndexError", .type "LookupError", .type "Exception", .type "BaseException", .type "object"]
abbrev tKey : List Value := [.type "KeyError", .type "LookupError", .type "Exception", .type "BaseException", .type "object"]
abbrev tOver : List Value := [.type "OverflowError", .type "ArithmeticError", .type "Exception", .type "BaseException", .type "object"]
abbrev tLook : List Value := [.type "LookupError", .type "Exception", .type "BaseException", .type "object"]
abbrev tRun : List Value := [.type "RuntimeError", .type "Exception", .type "BaseException", .type "object"]
abbrev tArith : List Value := [.type "ArithmeticError", .type "Exception", .type "BaseException", .type "object"]
theorem bs_Index : Bs "IndexError" "IndexError.__new__" "IndexError.__init__" tIndex := ⟨⟨_, _, _, F.excBase_IndexError, by decide +kernel⟩, by decide +kernel, by decide +kernel, excClass_IndexError, by decide +kernel, by decide +kernel, fun x => by kernel_rfl⟩
theorem bs_Key : Bs "KeyError" "LookupError.__new__" "KeyError.__init__" tKey := ⟨⟨_, _, _, F.excBase_LookupError, by decide +kernel⟩, by decide +kernel, by decide +kernel, excClass_KeyError, by decide +kernel, by decide +kernel, fun x => by kernel_rfl⟩
theorem bs_Over : Bs "OverflowError" "OverflowError.__new__" "OverflowError.__init__" tOver := ⟨⟨_, _, _, F.excBase_OverflowError, by decide +kernel⟩, by decide +kernel, by decide +kernel, excClass_OverflowError, by decide +kernel, by decide +kernel, fun x => by kernel_rfl⟩
theorem bs_Look : Bs "LookupError" "LookupError.__new__" "LookupError.__init__" tLook := ⟨⟨_, _, _, F.excBase_LookupError, by decide +kernel⟩, by decide +kernel, by decide +kernel, excClass_LookupError, by decide +kernel, by decide +kernel, fun x => by kernel_rfl⟩
theorem bs_Run : Bs "RuntimeError" "RuntimeError.__new__" "RuntimeError.__init__" tRun := ⟨⟨_, _, _, F.excBase_RuntimeError, by decide +kernel⟩, by decide +kernel, by decide +kernel, excClass_RuntimeError, by decide +kernel, by decide +kernel, fun x => by kernel_rfl⟩
theorem bs_Arith : Bs "ArithmeticError" "ArithmeticError.__new__" "ArithmeticError.__init__" tArith := ⟨⟨_, _, _, F.excBase_ArithmeticError, by decide +kernel⟩, by decide +kernel, by decide +kernel, excClass_ArithmeticError, by decide +kernel, by decide +kernel, fun x => by kernel_rfl⟩
/-- the written class: over the row tl, made by newId, with a dict -/
def oxB (K : Frag) (C : Addr) (tl : List Value) (newId : String) : Bool :=
  match K.lookup C with
  | some ⟨.type "type", _, .cls c, sl⟩ =>
    match c.mro, sl.toList with
    | .ref C1 :: bm, [_, _, _, _, some (.builtin n), _] => (C1 == C && n == newId) && (!c.hasDel && (c.hasDict && bm == tl))
    | _, _ => false
  | _ => false
theorem ox_obj {K : Frag} {C : Addr} {tl : List Value} {newId : String} (q : oxB K C tl newId = true) :
    ∃ nm qn N bs sn sub ab col dd k0 k1 k2 k3 k5, K.lookup C = some (excClassObj nm qn C N bs tl true sn sub ab col dd k0 k1 k2 k3 k5 newId) := by
  unfold oxB at q
  split at q
  · rename_i dd c sl e
    split at q
    · rename_i C1 bm k0 k1 k2 k3 n k5 em es
      obtain ⟨q1, q2⟩ := Bool.and_eq_true_iff.mp q
      obtain ⟨q3, q4⟩ := Bool.and_eq_true_iff.mp q1
      obtain ⟨q5, q6⟩ := Bool.and_eq_true_iff.mp q2
      obtain ⟨q7, q8⟩ := Bool.and_eq_true_iff.mp q6
      obtain rfl := beq_iff_eq.mp q3
      obtain rfl := beq_iff_eq.mp q4
      obtain rfl := beq_iff_eq.mp q8
      obtain ⟨nm, bs, mr, N, qn, hd, sn, sub, ab, col, dl⟩ := c
      dsimp only at em q5 q7
      subst em
      subst q7
      have q9 : dl = false := by cases dl <;> first | rfl | cases q5
      subst q9
      obtain ⟨l⟩ := sl
      dsimp only at es
      subst es
      exact ⟨nm, qn, N, bs, sn, sub, ab, col, dd, k0, k1, k2, k3, k5, e⟩
    · cases q
  · cases q
section
variable {M : Model} {A : Around} {E : Value → Shared → Prop} {h : Heap} {g : Array GenState} {d : Drawn} {t : Nat} {os : OsState}
variable {nm q : Str} {C N : Addr} {bs tl bmD : List Value} {sn : List Str} {sub : List Value} {ab : Bool} {col : Option Bool} {dd : Option Addr} {k0 k1 k2 k3 k5 : Option Value} {B D newId initId i0 : String}
theorem chk_new (fb : ExcBaseFacts D newId i0 bmD) (hD : tl.contains (.type D) = true) {us : List Value} {Q : Unit → Shared → Prop} (eC : h.get? C = some (excClassObj nm q C N bs tl true sn sub ab col dd k0 k1 k2 k3 k5 newId)) (k : Q () ⟨h, g, d, t, os⟩) :
    wpAny M A (checkBuiltinCall newId ⟨.ref C :: us, []⟩) Q E ⟨h, g, d, t, os⟩ := by
  have cD : (Value.ref C :: tl).contains (.type D) = true := by rw [List.contains_cons, hD, Bool.or_true]
  have ns := fb.noStar
  simp only [checkBuiltinCall, fb.newKind, fb.newSplit, fb.newRow]
  repeat (first | refine wpAny_loadPart_at eC ?_ | (refine wpAny_isSubtype_exc eC ?_; rw [cD]) | refine wpAny_staticBase_exc eC ?_ | refine wpAny_madeBy_exc eC ?_ | simp only [bne_self_eq_false, Bool.false_eq_true, if_false] | wp_step)
  exact k
theorem chk_init (b : Bs B newId initId tl) {x : Addr} {ox : Obj} {us : List Value} {Q : Unit → Shared → Prop} (eC : h.get? C = some (excClassObj nm q C N bs tl true sn sub ab col dd k0 k1 k2 k3 k5 newId)) (ex : h.get? x = some ox) (ec : ox.cls = .ref C)
    (k : Q () ⟨h, g, d, t, os⟩) : wpAny M A (checkBuiltinCall initId ⟨.ref x :: us, []⟩) Q E ⟨h, g, d, t, os⟩ := by
  have cB : (Value.ref C :: tl).contains (.type B) = true := by rw [List.contains_cons, b.has, Bool.or_true]
  have ns := b.ini.notStar
  simp only [checkBuiltinCall, b.ini.initKind, b.ini.initSplit, b.ini.initSig]
  repeat (first | (with_reducible refine wpAny_loadPart_at ex ?_; rw [ec]) | with_reducible refine wpAny_loadPart_at eC ?_ | (with_reducible refine wpAny_isSubtype_exc eC ?_; rw [cB]) | wp_step)
  refine wpAny_onRaise ?_
  rw [show ∀ (a1 a2 : String) (n : Nat), Bind.check ⟨.positional, "*", B, .self, [⟨"args", .varPos, false⟩]⟩ a1 a2 n (List.map (fun z => z.fst) ({ pos := Value.ref x :: us } : Args).kw) = pure () from fun a1 a2 n => check_star_args _ _ _ _ _ _]
  exact wpAny_pure k
end
section
variable {prog : Program} {w : World} {A : Around} {E : Value → Shared → Prop} {R : Result → Shared → Prop} {h : Heap} {g : Array GenState} {d : Drawn} {t : Nat} {os : OsState}
variable {nm q : Str} {C N : Addr} {bs tl bmD : List Value} {sn : List Str} {sub : List Value} {ab : Bool} {col : Option Bool} {dd : Option Addr} {k0 k1 k2 k3 k5 : Option Value} {B D newId initId i0 : String}
theorem the_new (fb : ExcBaseFacts D newId i0 bmD) (hD : tl.contains (.type D) = true) (nA : tl.contains (.type "AttributeError") = false) (nN : tl.contains (.type "NameError") = false) {us : List Value} (eC : h.get? C = some (excClassObj nm q C N bs tl true sn sub ab col dd k0 k1 k2 k3 k5 newId))
    (k : R (.ok (.ret (.ref (h.objs.size + 1)))) ⟨(h.push (kdv_tup us)).push (excO C h.objs.size), g, d, t, os⟩) (hz : us.length ≤ sizeLine) : codeAny (model prog w) A (.builtin newId ⟨.ref C :: us, []⟩) R ⟨h, g, d, t, os⟩ := by
  have he := fb.ends
  have c1 : (Value.ref C :: tl).contains (.type D) = true := by rw [List.contains_cons, hD, Bool.or_true]
  have c2 : (Value.ref C :: tl).contains (.type "AttributeError") = false := by rw [List.contains_cons, nA]; rfl
  have c3 : (Value.ref C :: tl).contains (.type "NameError") = false := by rw [List.contains_cons, nN]; rfl
  refine codeAny_builtinAt fb.entry ?_
  unfold Builtin.«BaseException.__new__»
  refine wpAt_bind ?_
  show wpAt _ _ _ (stack >>= _) _ _ _
  refine wpAt_bind (wpAt_stack fun y1 y2 => wpAt_of_wpAny ?_)
  wp_walk
  refine wpAt_of_wpAny ?_
  rw [fb.owner]
  repeat (first | with_reducible refine wpAny_madeHere_exc fb.canon eC ?_ | with_reducible refine wpAny_loadPart_at eC ?_ | (with_reducible refine wpAny_isSubtype_exc eC ?_; first | rw [c1] | rw [c2] | rw [c3]) | wp_step)
  show R _ _
  rw [Heap.size_push]
  exact k
/-- C(us), C over tl, by its own __init__ at fI -/
theorem the_call (b : Bs B newId initId tl) {us : List Value} {fI : Addr} (eC : h.get? C = some (excClassObj nm q C N bs tl true sn sub ab col dd k0 k1 k2 k3 k5 newId))
    (hi : W.Looks (model prog w) h (typeLookup (.ref C) "__init__") (some (.ref fI))) (hb : ∀ x, W.Looks (model prog w) h (bindSpecial (.ref fI) x) (.ref fI, [x])) (hz : us.length ≤ sizeLine)
    (k : codeAny (model prog w) (A.under (.builtin "type.__call__" ⟨.ref C :: us, []⟩)) (.call (.ref fI) ⟨.ref (h.objs.size + 1) :: us, []⟩) (W.InitBack (h.objs.size + 1) R) ⟨(h.push (W.kdv_tup us)).push (excO C h.objs.size), g, d, t, os⟩) :
    codeAny (model prog w) A (.call (.ref C) ⟨us, []⟩) R ⟨h, g, d, t, os⟩ := by
  obtain ⟨D, i0, bmD, fb, hD⟩ := b.new
  have t1 := tc_lookup
  have t2 := tc_bind (.ref C)
  have tC : (⟨h, g, d, t, os⟩ : Shared).TypeIs (.ref C) "type" := ⟨_, eC, rfl⟩
  refine codeAny_of_tree ?_
  show wpAny _ _ (callAny (.ref C) _) _ _ _
  repeat (any_goals (first | assumption | with_reducible refine wpAny_loadPart_at eC ?_ | wp_step))
  refine ⟨rfl, codeAny_call_builtin_at (Code.quiet_builtin _ (by decide +kernel)) entry_typeCall (wpAny_check_type_call_sub eC ?_)⟩
  show wpAny (model prog w) (A.under (.builtin "type.__call__" ⟨.ref C :: us, []⟩)) (Builtin.«type.__call__» ⟨.ref C :: us, []⟩) _ _ _
  repeat (first | with_reducible refine wpAny_loadPart_at eC ?_ | with_reducible refine wpAny_madeBy_exc eC ?_ | wp_step)
  refine codeAny_call_builtin_code (Code.quiet_builtin _ fb.quiet) (chk_new fb hD eC ?_)
  refine the_new fb hD b.nA b.nN eC ?_ hz
  show wpAny _ _ _ _ _ _
  have kp : ∀ y o, h.get? y = some o → ((h.push (W.kdv_tup us)).push (excO C h.objs.size)).get? y = some o := fun y o z => Heap.get?_push_of_some _ (Heap.get?_push_of_some _ z)
  have eC1 := kp _ _ eC
  have e1 : ((h.push (W.kdv_tup us)).push (excO C h.objs.size)).get? (h.objs.size + 1) = some (excO C h.objs.size) := by heap_get
  have cC : (Value.ref C :: tl).contains (.ref C) = true := by simp
  have j1 := hi.keeps kp
  have j2 := (hb (.ref (h.objs.size + 1))).keeps kp
  unfold isInstance
  repeat (first | with_reducible refine wpAny_loadPart_at e1 ?_ | (with_reducible refine wpAny_isSubtype_exc eC1 ?_; rw [cC]) | wp_step)
  show wpAny _ _ (typeLookup (.ref C) _) _ _ _
  refine j1.at (wpAny_holding (wpAny_bind (j2.at ?_)))
  refine wpAny_bind (wpAny_call (codeAny_mono k fun r s' z => ?_))
  rcases r with e | (v | _ | _ | _) <;> first | exact z | exact z.elim | skip
  obtain ⟨rfl, z⟩ := z
  first
    | exact wpAny_pure (wpAny_pure z)
    | (wp_walk; exact z)
/-- B.__init__(x, ..): the args are laid anew -/
theorem the_init (b : Bs B newId initId tl) {x t0 : Addr} {us : List Value} (eC : h.get? C = some (excClassObj nm q C N bs tl true sn sub ab col dd k0 k1 k2 k3 k5 newId)) (ex : h.get? x = some (excO C t0)) (hz : us.length ≤ sizeLine)
    (k : ∀ h' t1, (∀ y o, y ≠ x → h.get? y = some o → h'.get? y = some o) → h'.get? x = some (excO C t1) → R (.ok (.ret .none)) ⟨h', g, d, t, os⟩) :
    codeAny (model prog w) A (.call (.builtin initId) ⟨.ref x :: us, []⟩) R ⟨h, g, d, t, os⟩ := by
  refine codeAny_call_builtin b.ini.init.plain b.ini.initEntry (chk_init b eC ex rfl ?_)
  wp_walk
  refine k _ h.objs.size (fun y o hy ho => ?_) ?_
  · rw [Heap.get?_update_other _ _ (Ne.symm hy)]
    exact Heap.get?_push_of_some _ ho
  · rw [Heap.get?_update_self _ (Heap.get?_push_of_some _ ex) rfl]
    rfl
end
end Kx
end PySem
namespace PySem
namespace Kx
open PySem.W PySem.Calls PyProof.Rows PySem.HandSPX Builtin Builtin.ObjectAttr
section
variable {prog : Program} {w : World} {A : Around} {E : Value → Shared → Prop} {R : Result → Shared → Prop} {hp : Heap} {g : Array GenState} {d : Drawn} {t : Nat} {os : OsState}
/-- x.name = v, the first name -/
theorem set_first {K : W.Frag} {B newId initId : String} {tl : List Value} {name : Str} {tk : Tok} {v : Value} {x C : Addr} {fv : Array Value} {cd : ClassData} (b : Bs B newId initId tl)
    (X : K.In hp) (ex : hp.get? x = some { cls := .ref C, data := .fields fv }) (ec : W.clsIn K C = some cd) (em : cd.mro = .ref C :: tl) (ed : cd.hasDict = true) (no : W.findIn K (.ref C) name = some none)
    (k : ∀ h' tk' dx, (∀ y o, y ≠ x → hp.get? y = some o → h'.get? y = some o) → hp.objs.size ≤ dx → dx ≠ x → h'.get? x = some { cls := .ref C, dict := some dx, data := .fields fv } →
      h'.Ns1 dx (fun z => if z = name then some v else none) → R (.ok (.ret .none)) ⟨h', g, d, tk', os⟩) :
    codeAny (model prog w) A (.call (.builtin "object.__setattr__") ⟨[.ref x, .str name tk, v], []⟩) R ⟨hp, g, d, t, os⟩ := by
  have I : W.InstAt hp x { cls := .ref C, data := .fields fv } C none := ⟨ex, rfl, rfl, trivial⟩
  have SF := F.store_object
  have ob : cd.mro.contains (.type "object") = true := by rw [em, List.contains_cons, b.obj, Bool.or_true]
  have nx : x ≠ hp.objs.size := Nat.ne_of_lt (Heap.lt_size ex)
  have sb : W.Looks (model prog w) hp (isInstance (.ref x) (.type "object")) true := I.type.andThen (W.looks_mroIn X (by unfold W.mroIn; rw [ec, Option.bind_some, if_neg (by rw [em]; exact Bool.false_ne_true), ob]))
  refine codeAny_call_builtin SF.slot.plain SF.entry (@W.check_slot (model prog w) _ _ ⟨hp, g, d, t, os⟩ "object.__setattr__" "object" "__setattr__" (.ref x) [.str name tk, v] [] _ SF.kind SF.split sb (SF.args (.ref x) (.str name tk) v) ?_)
  have mr : W.Looks (model prog w) hp (mroOf (.ref C)) cd.mro := (W.looks_clsIn X ec).andThen .now
  have l3 : W.Looks (model prog w) hp (storeTaker? none) none := .now
  have lc : W.Looks (model prog w) hp (classData C) cd := W.looks_clsIn X ec
  rw [W.osa_eq, refuse_eq]
  refine wpAny_bind (wpAny_bind (I.type.at (wpAny_bind (mr.at ?_))))
  rw [em, refuseLoop_ref, b.pass]
  refine wpAny_pure (wpAny_bind (I.type.at (wpAny_bind ((W.looks_findIn X no).at (wpAny_bind (l3.at ?_))))))
  show wpAny _ _ (storeInOwnDict (.ref x) (.ref C) (.str name tk) name v false) _ _ _
  obtain ⟨nm, bs, mro, ns, qn, hd, sn, su, ab, col, del⟩ := cd
  dsimp only at ed
  subst ed
  unfold storeInOwnDict ownDictForStores
  repeat (first | with_reducible refine store_in_new ?_ ?_ | with_reducible refine wpAny_loadPart_at ex ?_ | with_reducible refine lc.at ?_ | wp_step)
  · exact ⟨_, #[], _, (Heap.get?_update_ne _ _ _ _ nx.symm).trans (Heap.get?_push_at rfl rfl), rfl, fun z hz => absurd hz (by simp), fun _ => rfl⟩
  · intro h' tk' hn hs
    have ex1 : (hp.push { cls := .type "dict", data := .dict #[] }).get? x = some { cls := .ref C, data := .fields fv } := Heap.get?_push_of_some _ ex
    refine k h' tk' hp.objs.size (fun y o hy ho => ?_) (Nat.le_refl _) nx.symm ?_ hn
    · exact (hs.2 y (Nat.ne_of_lt (Heap.lt_size ho))).trans ((Heap.get?_update_ne _ _ _ _ hy).trans (Heap.get?_push_of_some _ ho))
    · exact (hs.2 x nx).trans (Heap.get?_update_self _ ex1 rfl)
/-- x.name = v, a further one -/
theorem set_more {K : W.Frag} {B newId initId : String} {tl : List Value} {name : Str} {tk : Tok} {v : Value} {x C dx : Addr} {fv : Array Value} {cd : ClassData} {m0 : Str → Option Value} {nl : List Str} (b : Bs B newId initId tl)
    (X : K.In hp) (ex : hp.get? x = some { cls := .ref C, dict := some dx, data := .fields fv }) (ns1 : hp.Ns1 dx m0) (hw : Within m0 nl) (hz : nl.length ≤ 1000) (ec : W.clsIn K C = some cd) (em : cd.mro = .ref C :: tl) (eh : cd.hasDict = true)
    (no : W.findIn K (.ref C) name = some none)
    (k : ∀ h' tk', (∀ y o, y ≠ dx → hp.get? y = some o → h'.get? y = some o) → h'.Ns1 dx (fun z => if z = name then some v else m0 z) → R (.ok (.ret .none)) ⟨h', g, d, tk', os⟩) :
    codeAny (model prog w) A (.call (.builtin "object.__setattr__") ⟨[.ref x, .str name tk, v], []⟩) R ⟨hp, g, d, t, os⟩ := by
  obtain ⟨oD, esD, epD, hoD, hdD, _⟩ := ns1.count hw
  have I : W.InstAt hp x { cls := .ref C, dict := some dx, data := .fields fv } C (some oD) := ⟨ex, rfl, rfl, hoD⟩
  have SF := F.store_object
  have ob : cd.mro.contains (.type "object") = true := by rw [em, List.contains_cons, b.obj, Bool.or_true]
  have sb : W.Looks (model prog w) hp (isInstance (.ref x) (.type "object")) true := I.type.andThen (W.looks_mroIn X (by unfold W.mroIn; rw [ec, Option.bind_some, if_neg (by rw [em]; exact Bool.false_ne_true), ob]))
  refine codeAny_call_builtin SF.slot.plain SF.entry (@W.check_slot (model prog w) _ _ ⟨hp, g, d, t, os⟩ "object.__setattr__" "object" "__setattr__" (.ref x) [.str name tk, v] [] _ SF.kind SF.split sb (SF.args (.ref x) (.str name tk) v) ?_)
  have mr : W.Looks (model prog w) hp (mroOf (.ref C)) cd.mro := (W.looks_clsIn X ec).andThen .now
  have l3 : W.Looks (model prog w) hp (storeTaker? none) none := .now
  have lc : W.Looks (model prog w) hp (classData C) cd := W.looks_clsIn X ec
  rw [W.osa_eq, refuse_eq]
  refine wpAny_bind (wpAny_bind (I.type.at (wpAny_bind (mr.at ?_))))
  rw [em, refuseLoop_ref, b.pass]
  refine wpAny_pure (wpAny_bind (I.type.at (wpAny_bind ((W.looks_findIn X no).at (wpAny_bind (l3.at ?_))))))
  show wpAny _ _ (storeInOwnDict (.ref x) (.ref C) (.str name tk) name v false) _ _ _
  obtain ⟨nm, bs, mro, ns, qn, hd, sn, su, ab, col, del⟩ := cd
  dsimp only at eh
  subst eh
  unfold storeInOwnDict ownDictForStores
  repeat (first | with_reducible refine OEX.store_in_old ns1 hw hz ?_ | with_reducible refine wpAny_loadPart_at ex ?_ | with_reducible refine lc.at ?_ | wp_step)
  intro h' tk' hn hs
  exact k h' tk' (fun y o hy ho => (hs.2 y hy).trans ho) hn
end
end Kx
end PySem
namespace L2
open PySem PySem.Spec PyProof.Rows PySem.Kx
/-- an own error class over B with an __init__ of its own -/
structure OxC (K : PySem.W.Frag) (C : Addr) (B newId initId : String) (tl : List Value) : Prop where
  bs : Bs B newId initId tl
  cls : oxB K C tl newId = true
  sa : PySem.W.findIn K (.ref C) "__setattr__" = some (some (.builtin "object.__setattr__"))
  kC : PySem.W.keepIn K (.ref C) = true
/-- it is such a class, whichever B is -/
def Ox (K : PySem.W.Frag) (C : Addr) : Prop := ∃ B n i tl, OxC K C B n i tl
section
variable {X : Cx} {pins : List (Addr × Obj)} {σ : St} {H : Hp} {s : Shared} {a C dx : Addr} {f : Str} {y : V} {u : Value} {fs : List (Str × V)} {Q : Unit → Shared → Prop} {E : Value → Shared → Prop} {A : Around} {B newId initId : String} {tl : List Value}
theorem ox_cls (T : OxC X.K C B newId initId tl) : ∃ cd, PySem.W.clsIn X.K C = some cd ∧ cd.mro = .ref C :: tl ∧ cd.hasDict = true := by
  obtain ⟨nm, qn, N, bs, sn, sub, ab, col, dd, k0, k1, k2, k3, k5, hC⟩ := ox_obj T.cls
  have z : PySem.W.clsIn X.K C = some { name := nm, bases := bs, mro := .ref C :: tl, ns := N, qualname := qn, hasDict := true, slotNames := sn, subclasses := sub, abstract := ab, collection := col, hasDel := false } := by
    unfold PySem.W.clsIn
    rw [hC] <;> rfl
  exact ⟨_, z, rfl, rfl⟩
theorem ox_new (T : OxC X.K C B newId initId tl) (I : Inv X pins σ H s) (e : H a = some (exo a C none)) (no : PySem.W.findIn X.K (.ref C) f = some none) (ry : RelV y u)
    (h : ∀ dx s', H dx = none → dx ≠ a → Inv X pins σ (upd (upd H dx (exd dx [(f, y)])) a (exo a C (some dx))) s' → Q () s') : wpAny (model X.prog X.w) A (setAttr (.ref a) f u) Q E s := by
  obtain ⟨cd, ec, em, ed⟩ := ox_cls T
  obtain ⟨t1, ho⟩ := exo_at I.hok e
  obtain ⟨hp, g, d, t, os⟩ := s
  refine PySem.W.set_plain I.kIn (ox := { cls := .ref C, dict := none, data := .fields #[.ref t1, .none, .none, .none, .bool false, .none] }) (od := none) ⟨ho, rfl, rfl, trivial⟩ T.sa ?_
  refine set_first T.bs I.kIn ho ec em ed no (fun h' tk' dx k dn dne hx hn => ?_)
  have hnd : H dx = none := I.hok.fresh dn
  have nd : ∀ {b : Addr} {o : Obj}, hp.get? b = some o → b ≠ dx := fun {b o} q => Nat.ne_of_lt (Nat.lt_of_lt_of_le (Heap.lt_size q) dn)
  have na : ∀ {b : Addr}, H b = none → b ≠ a := fun {b} n z => by
    rw [z] at n
    exact absurd (n.symm.trans e) (by intro q; cases q)
  have U1 : Un X.fs [] H (upd (upd H dx (exd dx [(f, y)])) a (exo a C (some dx))) hp h' := {
    keep := fun b o q n _ _ => k b o (na n) q
    slot := fun b o q n _ _ => ⟨o.slots, k b o (na n) q⟩
    free := fun b o q n _ => (upd_ne (na n)).trans ((upd_ne (nd q)).trans n)
    there := fun b o q _ => (Classical.em (b = a)).elim (fun hb => ⟨_, (congrArg h'.get? hb).trans hx⟩) fun hb => ⟨o, k b o hb q⟩
    tups := fun b xs q => (upd_ne (at_ne e q exo_tup)).trans ((upd_ne (ne_of_none q hnd)).trans q)
    frzs := fun b o v q => (upd_ne (at_ne e q exo_frz)).trans ((upd_ne (ne_of_none q hnd)).trans q)
    tbls := fun b ps q => ⟨#[], by rw [upd_ne (at_ne e q exo_tbl), upd_ne (ne_of_none q hnd), q, Array.append_empty]⟩ }
  refine h dx _ hnd dne (I.un (t' := tk') U1 fun b o q => ?_)
  by_cases hb : b = a
  · subst hb
    obtain rfl := Option.some.inj (upd_same.symm.trans q)
    exact exo_ok hx
  · have q := (upd_ne hb).symm.trans q
    by_cases hd : b = dx
    · subst hd
      obtain rfl := Option.some.inj (upd_same.symm.trans q)
      exact exd_ok hn (relO_put (fs := []) ry fun _ => True.intro)
    · have q := (upd_ne hd).symm.trans q
      refine (I.hok b o q).stay (fun c v hc z => k c v ?_ z) (fun c hc => (upd_ne (at_ne e hc exo_own)).trans ((upd_ne (ne_of_none hc hnd)).trans hc)) (fun c xs hc => (upd_ne (at_ne e hc exo_tup)).trans ((upd_ne (ne_of_none hc hnd)).trans hc))
      rcases hc with hc | hc
      · exact fun z => hb (hc ▸ z)
      · exact at_ne e hc exo_own
theorem ox_old (T : OxC X.K C B newId initId tl) (I : Inv X pins σ H s) (e : H a = some (exo a C (some dx))) (ed : H dx = some (exd dx fs)) (hl : fs.length ≤ 900) (no : PySem.W.findIn X.K (.ref C) f = some none) (ry : RelV y u)
    (h : ∀ s', Inv X pins σ (upd H dx (exd dx ((f, y) :: fs))) s' → Q () s') : wpAny (model X.prog X.w) A (setAttr (.ref a) f u) Q E s := by
  obtain ⟨cd, ec, em, eh⟩ := ox_cls T
  obtain ⟨t1, ho⟩ := exo_at I.hok e
  obtain ⟨mA, hns, rel⟩ := exd_at I.hok ed
  have hw := within_of rel
  obtain ⟨hp, g, d, t, os⟩ := s
  obtain ⟨oD, _, _, hoD, _, _⟩ := hns.count hw
  refine PySem.W.set_plain I.kIn (ox := { cls := .ref C, dict := some dx, data := .fields #[.ref t1, .none, .none, .none, .bool false, .none] }) (od := some oD) ⟨ho, rfl, rfl, hoD⟩ T.sa ?_
  refine set_more T.bs I.kIn ho hns hw (by rw [List.length_map]; omega) ec em eh no (fun h' tk' k hn => ?_)
  have hd : ∃ o, h'.get? dx = some o := hn.elim fun o z => z.elim fun _ z => z.elim fun _ z => ⟨o, z.1⟩
  exact h _ (I.write (t' := tk') (x := dx) (e := dx) (o := exd dx ((f, y) :: fs)) (by rw [ed]; exact True.intro) (.inl rfl) k hd (exd_ok hn (relO_put ry rel)))
theorem ox_init {us : List Value} {Q : Value → Shared → Prop} (T : OxC X.K C B newId initId tl) (I : Inv X pins σ H s) (e : H a = some (exo a C none)) (hl : us.length ≤ sizeLine) (h : ∀ s', Inv X pins σ H s' → Q .none s') :
    wpAny (model X.prog X.w) A (call (.builtin initId) (.ref a :: us)) Q E s := by
  obtain ⟨nm, qn, N, bs, sn, sub, ab, col, dd, k0, k1, k2, k3, k5, hC⟩ := ox_obj T.cls
  obtain ⟨t1, ho⟩ := exo_at I.hok e
  obtain ⟨hp, g, d, t, os⟩ := s
  refine wpAny_call (the_init T.bs (I.kIn _ _ hC) ho hl fun h' t2 k hx => ?_)
  have J := I.write (t' := t) (x := a) (e := a) (o := exo a C none) (by rw [e]; exact True.intro) (.inl rfl) k ⟨_, hx⟩ (exo_ok hx)
  have eu : upd H a (exo a C none) = H := funext fun b => (Classical.em (b = a)).elim (fun hb => by rw [hb, upd_same, e]) upd_ne
  exact h _ (eu ▸ J)
end
end L2
namespace L2
open PySem PySem.Spec PyProof.Rows PySem.Kx
/-! own errors as values: made, read, asked -/
/-- B.__init__(self, ..) -/
def tXi (K : PySem.W.Frag) (B newId initId : String) (tl : List Value) (ta : TA) : TE := fun σ H Q => ta σ H fun vs H1 => ∃ (a C : Addr) (ws : List V), vs = .ref a :: ws ∧ ws.length ≤ 1000 ∧ OxC K C B newId initId tl ∧ H1 a = some (exo a C none) ∧ Q .non H1
/-- self.f = e -/
def tXs (K : PySem.W.Frag) (f : Str) (to te : TE) : TS := fun D σ H => te σ H fun y H1 => to σ H1 fun x H2 => ∃ a C : Addr, x = .ref a ∧ Ox K C ∧ PySem.W.findIn K (.ref C) f = some none ∧
  ((H2 a = some (exo a C none) ∧ ∀ dx, H2 dx = none → dx ≠ a → D.nx σ (upd (upd H2 dx (exd dx [(f, y)])) a (exo a C (some dx)))) ∨
    ∃ (dx : Addr) (fs : List (Str × V)), H2 a = some (exo a C (some dx)) ∧ H2 dx = some (exd dx fs) ∧ fs.length ≤ 900 ∧ D.nx σ (upd H2 dx (exd dx ((f, y) :: fs))))
/-- C(e, ..), by its own __init__ -/
def tXm (C : Addr) (sp : Sp) (ta : TA) : TE := fun σ H Q => ta σ H fun vs H1 => vs.length ≤ 1000 ∧ ∀ a, H1 a = none → sp (.ref a :: vs) (upd H1 a (exo a C none)) (fun v H2 => v = .non ∧ Q (.ref a) H2) (fun _ _ _ => False)
/-- an error held at a, of the class at C -/
def ErO (H : Hp) (a C : Addr) : Prop := H a = some (ExO (.ref C) a) ∨ ∃ d fs, H a = some (exo a C (some d)) ∧ H d = some (exd d fs)
def rIsX (K : PySem.W.Frag) : List V → Hp → VK → Prop := fun xs H Q => ∃ (a C : Addr) (c : V) (cv : Value) (b : Bool), xs = [.ref a, c] ∧ ErO H a C ∧ ExcC K C ∧ RelV c cv ∧ (∀ u, RelV c u → u = cv) ∧ PySem.W.kitOne K (.ref C) cv = some b ∧ Q (.bl b) H
/-- o.f -/
def tXg (K : PySem.W.Frag) (f : Str) (te : TE) : TE := fun σ H Q => te σ H fun x H1 => ∃ (a C d : Addr) (fs : List (Str × V)) (v : V), x = .ref a ∧ H1 a = some (exo a C (some d)) ∧ H1 d = some (exd d fs) ∧ XfC K C ∧ PySem.W.findIn K (.ref C) f = some none ∧ fs.lookup f = some v ∧ Q v H1
section
variable {X : Cx} {o e : Expr} {es : List Expr} {to te : TE} {ta : TA} {f : Str} {p p' p1 p2 pos : Pos} {B newId initId : String} {tl : List Value}
theorem pe_xinit {pl : Sem Bool} {x : Str} (hg : Gl X x) (hm : X.mg x = none) (hbt : bootBuiltins x = some (.type B)) (hty : typeOf (.type B) = pure (.type "type")) (hst : Manifest.isStub B = false) (hha : PySem.W.handedIn (.builtin initId) = true)
    (vV : PySem.W.findCls X.K (.type B) (.type "type") "__init__" = some (.val (.builtin initId))) (ha : PA X (e :: es) ta) (hnm : x ≠ "__name__" := by decide) (hdb : (x == ("__debug__" : Str)) = false := by decide)
    (hc : eval (.Call (.Attribute (.Name x p1) "__init__" p2) (e :: es) [] pos) X.env = (do
      let ov ← eval (.Name x p1) X.env
      standAt p2.atName
      let (f, first) ← holding [ov] (getMethod ov "__init__" pl)
      callWith pos f first (backTo pos (starEach (e :: es) X.env)) (backToKw pos (keywordEach [] X.env))) := by rfl)
    (he : starEach (e :: es) X.env = (false, eval e X.env) :: starEach es X.env := by rfl) (hpl : (backTo pos (starEach es X.env)).any (·.1) = false := by rfl) :
    PE X (.Call (.Attribute (.Name x p1) "__init__" p2) (e :: es) [] pos) (tXi X.K B newId initId tl ta) := by
  refine ⟨fun pins s σ H Q I h => ?_⟩
  refine PySem.W.methodCall_KW (ld_blt I hg hm hbt ?_ hnm hdb) hc
  obtain ⟨m, fr⟩ := I.fr
  refine PySem.W.method_type fr I.ok.mod.kin hty hst vV hha ?_
  show wpAny _ _ (callWith pos (Value.builtin initId) [] (backTo pos (starEach (e :: es) X.env)) []) _ _ _
  refine PyProof.Rows.callWith_method1 (thn (ha.run pos pins _ σ H _ (I.tok _) h) fun us s1 ⟨vs, H1, I1, r1, a, C, ws, ev, hl, T, ea, q⟩ => ?_) he hpl
  subst ev
  cases r1 with
  | @cons _ u0 _ ur ra rw' =>
    obtain rfl : u0 = Value.ref a := ra
    have hlen : ur.length ≤ sizeLine := by
      rw [← Paired.length rw', sizeLine_eq]
      omega
    exact ox_init T I1 ea hlen fun s' J => ⟨.non, H1, J, rfl, q⟩
theorem ps_xset (ho : PE X o to) (he : PE X e te) (hs : swapsWith e (some (.Attribute o f p')) pos.line X.env = pure false := by rfl) : PS X (.Assign [.Attribute o f p'] e pos) (tXs X.K f to te) := by
  refine ⟨fun pins s σ H D I h => ?_⟩
  refine plainObj_wpAny_Assign_Attribute (thn (he.run pins s σ H _ I h) fun v s1 ⟨y, H1, I1, r1, q1⟩ => thn (ho.run pins s1 σ H1 _ I1 q1) fun u s2 ⟨x, H2, I2, r2, a, C, ex, T, hno, q⟩ => ?_) hs
  subst ex
  obtain rfl : u = Value.ref a := r2
  obtain ⟨B, n, i, tl, T⟩ := T
  rcases q with ⟨ea, q⟩ | ⟨dx, fs, ea, ed, hl, q⟩
  · exact ox_new T I2 ea hno r1 fun dx s' n ne J => ⟨σ, _, J, q dx n ne⟩
  · exact ox_old T I2 ea ed hl hno r1 fun s' J => ⟨σ, _, J, q⟩
theorem pe_xmake {x : Str} {C fI : Addr} {k : Nat} {fd : FuncData} {ps : List Str} {sp : Sp} (T : OxC X.K C B newId initId tl) (iC : PySem.W.findIn X.K (.ref C) "__init__" = some (some (.ref fI))) (tI : PySem.W.typeIn X.K (.ref fI) = some (.type "function"))
    (F1 : FnOk X.prog X.w X.K X.mg X.base CX0 k fI fd ps sp) (hr : Room (k + 1) X.A) (hb : Binds X.K fd ps []) (hg : Gl X x) (hm : X.mg x = some (.ref C)) (ha : PA X (e :: es) ta)
    (hdb : (x == ("__debug__" : Str)) = false := by decide) (he : starEach (e :: es) X.env = (false, eval e X.env) :: starEach es X.env := by rfl) (hpl : (backTo pos (starEach es X.env)).any (·.1) = false := by rfl) :
    PE X (.Call (.Name x p) (e :: es) [] pos) (tXm C sp ta) := by
  refine ⟨fun pins s σ H Q I h => ?_⟩
  obtain ⟨nm, qn, N, bs, sn, sub, ab, col, dd, k0, k1, k2, k3, k5, hC⟩ := ox_obj T.cls
  refine wpAny_Call_Name_kw (ld_glob I hg hm ?_ hdb)
  refine PySem.W.callWith_K (h₀ := X.base) I.ok.mod.kin T.kC (thn (ha.run pos pins s σ H _ I h) fun us s1 ⟨vs, H1, I1, r1, hz, q1⟩ => ⟨I1.kIn, ?_⟩) he hpl
  show wpAny _ _ (call (.ref C) us) _ _ _
  obtain ⟨hp, g, dr, tk, os⟩ := s1
  have hsz : hp.objs.size ≤ hp.objs.size + 1 := Nat.le_succ _
  have hn : H1 (hp.objs.size + 1) = none := I1.hok.fresh hsz
  have hq := q1 (hp.objs.size + 1) hn
  have kk : ∀ b o, hp.get? b = some o → ((hp.push (PySem.W.kdv_tup us)).push (PySem.HandSPX.excO C hp.objs.size)).get? b = some o := fun b o e => Heap.get?_push_of_some _ (Heap.get?_push_of_some _ e)
  have hget : ((hp.push (PySem.W.kdv_tup us)).push (PySem.HandSPX.excO C hp.objs.size)).get? (hp.objs.size + 1) = some (PySem.HandSPX.excO C hp.objs.size) := by heap_get
  have I2 : Inv X pins σ (upd H1 (hp.objs.size + 1) (exo (hp.objs.size + 1) C none)) ⟨(hp.push (PySem.W.kdv_tup us)).push (PySem.HandSPX.excO C hp.objs.size), g, dr, tk, os⟩ :=
    I1.laid (t' := tk) (a := hp.objs.size + 1) (o := exo (hp.objs.size + 1) C none) (h' := (hp.push (PySem.W.kdv_tup us)).push (PySem.HandSPX.excO C hp.objs.size)) kk hsz (exo_ok hget)
  have r2 : Vals (V.ref (hp.objs.size + 1) :: vs) (Value.ref (hp.objs.size + 1) :: us) := .cons rfl r1
  have hl : (Value.ref (hp.objs.size + 1) :: us).length = ps.length := by
    have e := r2.length
    rw [F1.len _ _ _ _ hq] at e
    exact e.symm
  have hus : us.length ≤ sizeLine := by
    rw [← Paired.length r1, sizeLine_eq]
    omega
  have hbb := hb ⟨(hp.push (PySem.W.kdv_tup us)).push (PySem.HandSPX.excO C hp.objs.size), g, dr, tk, os⟩ (Value.ref (hp.objs.size + 1) :: us) I2.kIn (by rw [List.append_nil]; exact hl)
  rw [List.append_nil] at hbb
  refine wpAny_call (the_call T.bs (I1.kIn _ _ hC) (PySem.W.looks_findIn I1.kIn iC) (fun self => PySem.W.bind_fn I1.kIn self tI) hus
    (codeAny_mono (F1.run _ X.stack _ _ ⟨Value.ref (hp.objs.size + 1) :: us, []⟩ (Value.ref (hp.objs.size + 1) :: us) _ _ (fun _ _ _ => False) (hr.make C us []) (I2.env0.make C us []) hbb r2 hq) fun r s' hq' => ?_))
  cases r with
  | error er => exact False.elim hq'
  | ok fl =>
    cases fl with
    | ret u =>
      obtain ⟨v, H', I3, rv, ev, q3⟩ := I2.after hq'
      subst ev
      exact ⟨rv, ⟨V.ref (hp.objs.size + 1), H', I3, rfl, q3⟩⟩
    | next => exact False.elim hq'
    | brk => exact False.elim hq'
    | cont => exact False.elim hq'
theorem er_at {pins : List (Addr × Obj)} {σ : St} {H : Hp} {s : Shared} {a C : Addr} (I : Inv X pins σ H s) (h : ErO H a C) : ∃ oe od, PySem.W.InstAt s.heap a oe C od := by
  rcases h with h | ⟨d, fs, h1, h2⟩
  · obtain ⟨⟨oe, vs, ho, hz, hd, _⟩, _, _⟩ := I.hok a _ h
    refine ⟨oe, none, ho, hz.1, by unfold PySem.W.notCls; rw [hd] <;> rfl, ?_⟩
    rw [hz.2]
    trivial
  · obtain ⟨t1, ho⟩ := exo_at I.hok h1
    obtain ⟨mA, hns, _⟩ := exd_at I.hok h2
    obtain ⟨od, hod, _⟩ := lookIn_ns hns
    exact ⟨_, some od, ho, rfl, rfl, hod⟩
theorem call_isX : CallR X (.builtin "isinstance") (rIsX X.K) := by
  intro pins s σ H xs us Q I r h
  obtain ⟨a, C, c, cv, b, rfl, er, T, _, hcv, e, q⟩ := h
  cases r with
  | cons rx rr =>
    cases rr with
    | cons rt rr =>
      cases rr
      cases rx
      have ec := hcv _ rt
      subst ec
      obtain ⟨oe, od, J⟩ := er_at I er
      obtain ⟨cdD, hcD, _⟩ := PySem.W.any_some T.hd
      exact PySem.W.kia_one (PySem.W.kitx_exc (by rw [hcD]; rfl) T.hg T.hk T.hs T.ha T.hn T.ht T.hm) I.kIn J e (fun z => nomatch z) fun tk => ⟨.bl b, H, I.kept (t' := tk) fun _ _ z => z, rfl, q⟩
theorem pe_xget (he : PE X e te) (hb : attributeBase e f X.env (eval e X.env) = eval e X.env := by rfl) : PE X (.Attribute e f pos) (tXg X.K f te) := by
  refine ⟨fun pins s σ H Q I h => ?_⟩
  refine attr_of hb (thn (he.run pins s σ H _ I h) fun u s1 hh => ?_)
  obtain ⟨x, H1, I1, rx, a, C, d, fs, v, ex, ea, ed, T, hno, l, q⟩ := hh
  subst ex
  obtain rfl : u = Value.ref a := rx
  obtain ⟨t1, ho⟩ := exo_at I1.hok ea
  obtain ⟨mA, hns, hr⟩ := exd_at I1.hok ed
  obtain ⟨od, hod, hl⟩ := lookIn_ns hns
  obtain ⟨u, hu, ru⟩ := RelO.some_of (v := v) (o := mA f) (by rw [← l]; exact hr f)
  have J : PySem.W.InstAt s1.heap a _ C (some od) := ⟨ho, rfl, rfl, hod⟩
  exact HandSPX.exc_get I1.kIn J T.ga T.gg T.exC (PySem.W.findObj_own T.hdC hno rfl (by rw [hl, hu])) (handed_of ru) ⟨v, H1, I1.tok _, ru, q⟩
end
end L2
namespace L2
open PySem PySem.Spec PyProof.Rows PySem.Kx
/-- an own error class: its name, its row of classes, how it is asked -/
def exB (K : PySem.W.Frag) (D : Addr) (nm : Str) (ml : List Value) : Bool :=
  (match PySem.W.clsIn K D with | some c => decide (c.name = nm) && decide (c.mro = ml) | none => false) && (decide (PySem.W.typeIn K (.ref D) = some (.type "type")) && (xfB K D &&
    (decide (PySem.W.findIn K (.ref D) "__class__" = some (some (.builtin "object.__class__"))) && (decide (PySem.W.specialIn K (.builtin "object.__class__") "__get__" = some (some (.builtin "getset_descriptor.__get__"))) && decide (PySem.W.takesIn K (.builtin "object.__class__") = some true)))))
structure ExB (K : PySem.W.Frag) (D : Addr) (nm : Str) (ml : List Value) : Prop where
  cl : ∃ c, PySem.W.clsIn K D = some c ∧ c.name = nm ∧ c.mro = ml
  ty : PySem.W.typeIn K (.ref D) = some (.type "type")
  xf : XfC K D
  ha : PySem.W.findIn K (.ref D) "__class__" = some (some (.builtin "object.__class__"))
  hn : PySem.W.specialIn K (.builtin "object.__class__") "__get__" = some (some (.builtin "getset_descriptor.__get__"))
  ht : PySem.W.takesIn K (.builtin "object.__class__") = some true
section
variable {K : PySem.W.Frag} {D C : Addr} {nm nm' : Str} {ml ml' : List Value}
theorem exB_ok (h : exB K D nm ml = true) : ExB K D nm ml := by
  obtain ⟨h1, h⟩ := Bool.and_eq_true_iff.mp h
  obtain ⟨h2, h⟩ := Bool.and_eq_true_iff.mp h
  obtain ⟨h3, h⟩ := Bool.and_eq_true_iff.mp h
  obtain ⟨h4, h⟩ := Bool.and_eq_true_iff.mp h
  obtain ⟨h5, h6⟩ := Bool.and_eq_true_iff.mp h
  refine ⟨?_, of_decide_eq_true h2, xfB_ok h3, of_decide_eq_true h4, of_decide_eq_true h5, of_decide_eq_true h6⟩
  split at h1
  · rename_i c e
    obtain ⟨q1, q2⟩ := Bool.and_eq_true_iff.mp h1
    exact ⟨c, e, of_decide_eq_true q1, of_decide_eq_true q2⟩
  · cases h1
theorem ExB.ne (h1 : ExB K D nm ml) (h2 : ExB K C nm' ml') (n : nm ≠ nm') : D ≠ C := fun z => by
  subst z
  obtain ⟨c, e, e1, _⟩ := h1.cl
  obtain ⟨c', e', e1', _⟩ := h2.cl
  cases e.symm.trans e'
  exact n (e1.symm.trans e1')
theorem ExB.sub (h : ExB K D nm ml) (hne : ml ≠ []) (v : Value) : PySem.W.mroIn K D v = some (ml.contains v) := by
  obtain ⟨c, e, _, em⟩ := h.cl
  unfold PySem.W.mroIn
  rw [e, Option.bind_some, em, if_neg]
  intro z
  exact hne (List.isEmpty_iff.mp z)
theorem ExB.exc (h : ExB K D nm ml) (ho : ml.contains (.type "object") = true) : ExcC K D :=
  ⟨h.xf.ga, h.xf.gg, h.xf.exC, h.xf.hdC, h.ha, h.hn, h.ht, by rw [h.sub (fun z => by rw [z] at ho; cases ho), ho]⟩
theorem ExB.kitC (h1 : ExB K D nm ml) (h2 : ExB K C nm' ml') (hne : ml ≠ []) : PySem.W.kitOne K (.ref D) (.ref C) = some (decide (D = C) || ml.contains (.ref C)) := by
  by_cases e : D = C
  · subst e
    show (if (Value.ref D == Value.ref D) = true then some true else _) = _
    rw [if_pos (by simp)]
    simp
  · show (if (Value.ref D == Value.ref C) = true then some true else PySem.W.kitCls K (.ref D) (.ref C)) = _
    rw [if_neg (by simp [e]), decide_eq_false e, Bool.false_or]
    obtain ⟨c, ec, _, _⟩ := h2.cl
    unfold PySem.W.kitCls
    dsimp only
    rw [if_pos (by rw [ec, h2.ty]; simp)]
    exact h1.sub hne _
theorem ExB.kitT (h1 : ExB K D nm ml) (hne : ml ≠ []) {T : String} (hT : PySem.W.kitMeta T = true) : PySem.W.kitOne K (.ref D) (.type T) = some (ml.contains (.type T)) := by
  show (if (Value.ref D == Value.type T) = true then some true else PySem.W.kitCls K (.ref D) (.type T)) = _
  rw [if_neg (by simp)]
  unfold PySem.W.kitCls
  dsimp only
  rw [if_pos hT]
  exact h1.sub hne _
end
end L2
/-! Data with dicts, to be shown (repr). -/
namespace L2
open PySem PySem.Spec PyProof.Rows Evl
def kD : Key → PyData
  | .inl i => .int i
  | .inr x => .str x
mutual
/-- data in the heap; dicts and lists stand elsewhere than the table of modules -/
inductive Th (K : PySem.W.Frag) (H : Hp) : V → PyData → Prop
  | non : Th K H .non .none
  | bl (b : Bool) : Th K H (.bl b) (.bool b)
  | int (i : Int) : Th K H (.int i) (.int i)
  | str (x : Str) : Th K H (.str x) (.str x)
  | lst {a : Addr} {xs : List V} {ds : List PyData} : SqL K H a xs → a ≠ sysModules → ThAll K H xs ds → Th K H (.ref a) (.list ds)
  | tup {a : Addr} {xs : List V} {ds : List PyData} : SqT K H a xs → ThAll K H xs ds → Th K H (.ref a) (.tuple ds)
  | dic {a : Addr} {kvs : List (Key × V)} {ds : List PyData} : H a = some (.dK kvs) → ThAll K H (kvs.map (·.2)) ds → Th K H (.ref a) (.dict ((kvs.map fun p => kD p.1).zip ds))
inductive ThAll (K : PySem.W.Frag) (H : Hp) : List V → List PyData → Prop
  | nil : ThAll K H [] []
  | cons {v : V} {d : PyData} {vs : List V} {ds : List PyData} : Th K H v d → ThAll K H vs ds → ThAll K H (v :: vs) (d :: ds)
end
theorem ThAll.length {K : PySem.W.Frag} {H : Hp} : ∀ {vs : List V} {ds : List PyData}, ThAll K H vs ds → vs.length = ds.length
  | _, _, .nil => rfl
  | _, _, .cons _ h => by simp [h.length]
mutual
theorem th_ex {K : PySem.W.Frag} {H H' : Hp} (x : Ex H H') : ∀ {v : V} {d : PyData}, Th K H v d → Th K H' v d
  | _, _, .non => .non
  | _, _, .bl b => .bl b
  | _, _, .int i => .int i
  | _, _, .str s => .str s
  | _, _, .lst h n a => .lst (ex_l x h) n (thAll_ex x a)
  | _, _, .tup h a => .tup (ex_t x h) (thAll_ex x a)
  | _, _, .dic h a => .dic (x _ _ h) (thAll_ex x a)
theorem thAll_ex {K : PySem.W.Frag} {H H' : Hp} (x : Ex H H') : ∀ {vs : List V} {ds : List PyData}, ThAll K H vs ds → ThAll K H' vs ds
  | _, _, .nil => .nil
  | _, _, .cons h a => .cons (th_ex x h) (thAll_ex x a)
end
section
variable {X : Cx} {pins : List (Addr × Obj)} {σ : St} {H : Hp} {s : Shared}
theorem pairs_keys {P : Program} {w : World} {h : Heap} : ∀ {es : List DictEntry} {kvs : List (Key × V)} {vs : List (Key × Value)}, Pairs (mixKind P w) es vs → KV kvs vs → ReadsAll h (es.map (·.key)) (kvs.map fun p => kD p.1) []
  | _, _, _, .nil, .nil => .nil
  | _, _, _, .cons (e := e) h1 h2 h3, .cons (a := x) r1 r2 => by
    have ih := pairs_keys (h := h) h3 r2
    rcases keyIs_shape h1 with ⟨i, t, e1, e2⟩ | ⟨z, t, e1, e2⟩
    · have e3 : kD x.1 = .int i := by rw [r1.1, e1]; rfl
      show ReadsAll h (e.key :: _) (kD x.1 :: _) ([] ++ [])
      rw [e2, e3]
      exact .cons (.int i t) ih
    · have e3 : kD x.1 = .str z := by rw [r1.1, e1]; rfl
      show ReadsAll h (e.key :: _) (kD x.1 :: _) ([] ++ [])
      rw [e2, e3]
      exact .cons (.str z t) ih
theorem pairs_vals {P : Program} {w : World} : ∀ {es : List DictEntry} {kvs : List (Key × V)} {vs : List (Key × Value)}, Pairs (mixKind P w) es vs → KV kvs vs → Vals (kvs.map (·.2)) (es.map (·.val))
  | _, _, _, .nil, .nil => .nil
  | _, _, _, .cons h1 h2 h3, .cons r1 r2 => .cons (by dsimp only; rw [h2]; exact r1.2) (pairs_vals h3 r2)
mutual
theorem Th.reads (I : Inv X pins σ H s) : ∀ {v : V} {d : PyData} {u : Value}, Th X.K H v d → RelV v u → ∃ as, Reads s.heap u d as ∧ sysModules ∉ as
  | _, _, _, .non, r => by cases r; exact ⟨_, .none, by simp⟩
  | _, _, _, .bl b, r => by cases r; exact ⟨_, .bool b, by simp⟩
  | _, _, _, .int i, r => by obtain ⟨t, rfl⟩ := r; exact ⟨_, .int i t, by simp⟩
  | _, _, _, .str x, r => by obtain ⟨t, rfl⟩ := r; exact ⟨_, .str x t, by simp⟩
  | _, _, _, .lst hs hn ha, r => by
    cases r
    obtain ⟨its, rv, ⟨o, n, ho, hc, _, hd⟩, _⟩ := I.list hs
    obtain ⟨as, hr, hm⟩ := ThAll.reads I ha rv
    refine ⟨_, Reads.list ho hc hd hr, ?_⟩
    simp only [List.mem_cons, not_or]
    exact ⟨fun z => hn z.symm, hm⟩
  | _, _, _, .tup hs ha, r => by
    cases r
    obtain ⟨its, rv, ⟨o, ho, hc, n, hd⟩, _⟩ := I.tuple hs
    obtain ⟨as, hr, hm⟩ := ThAll.reads I ha rv
    exact ⟨_, Reads.tuple ho hc hd hr, hm⟩
  | _, _, _, .dic (kvs := kvs) (ds := ds) he ha, r => by
    cases r
    obtain ⟨_, hsm, vs, rel, o, es, ep, ho, hx, hd, _, hp, _⟩ := dk_of I.hok he
    have hv := pairs_vals hp rel
    obtain ⟨as, hr, hm⟩ := ThAll.reads I ha hv
    have hl := ha.length
    rw [List.length_map] at hl
    refine ⟨_, Reads.dict (kvs := (kvs.map fun p => kD p.1).zip ds) ho hx.1 hd (as := []) (bs := as) ?_ ?_, ?_⟩
    · rw [List.map_fst_zip (by rw [List.length_map]; omega)]
      exact pairs_keys hp rel
    · rw [List.map_snd_zip (by rw [List.length_map]; omega)]
      exact hr
    · have hsm' := ne_of_beq_false hsm
      simp only [List.append_nil, List.cons_append, List.nil_append, List.mem_cons, not_or]
      exact ⟨fun z => hsm' z.symm, hm⟩
theorem ThAll.reads (I : Inv X pins σ H s) : ∀ {vs : List V} {ds : List PyData} {us : List Value}, ThAll X.K H vs ds → Vals vs us → ∃ as, ReadsAll s.heap us ds as ∧ sysModules ∉ as
  | _, _, _, .nil, r => by cases r; exact ⟨_, .nil, by simp⟩
  | _, _, _, .cons h a, r => by
    cases r with
    | cons r1 r2 =>
      obtain ⟨as, q1, n1⟩ := Th.reads I h r1
      obtain ⟨bs, q2, n2⟩ := ThAll.reads I a r2
      exact ⟨_, .cons q1 q2, by simp only [List.mem_append, not_or]; exact ⟨n1, n2⟩⟩
end
/-- repr(x), x a list -/
def rReprT (K : PySem.W.Frag) : List V → Hp → VK → Prop := fun xs H Q => ∃ a ds, xs = [.ref a] ∧ Th K H (.ref a) (.list ds) ∧ PyData.showable (.list ds) = true ∧ (PyData.list ds).depth ≤ 40 ∧ (PyData.list ds).shown.length ≤ sizeLine ∧ Q (.str (PyData.list ds).shown) H
theorem call_reprT (hG : X.A.guards = some []) (hu : X.A.units + 64 < cLine) : CallR X (.builtin "repr") (rReprT X.K) := by
  intro pins s σ H xs us Q I r ⟨a, ds, ex, hd, hs, hdp, hz, q⟩
  subst ex
  obtain ⟨u, rfl, ru⟩ := r.one
  obtain ⟨as, hr, hm⟩ := Th.reads I hd ru
  cases ru
  exact repr_of_reads' hr hs (fun _ => hm) hG (by omega) (fun _ _ z => z) (fun h' t tk k => ⟨.str (PyData.list ds).shown, H, I.kept (t' := tk) k, ⟨t, rfl⟩, q⟩) hz
/-- [..], elsewhere than the table of modules -/
def tLstN (t : TA) : TE := fun σ H Q => t σ H fun xs H1 => xs.length ≤ sizeLine ∧ ∀ p, H1 p = none → p ≠ sysModules → Q (.ref p) (upd H1 p (.lst xs))
theorem pe_lstN {es : List Expr} {t : TA} {pos : Pos} (h : PA X es t) : PE X (.List es pos) (tLstN t) := by
  refine ⟨fun pins s σ H Q I hq => ?_⟩
  refine wpAny_List_spliced (thn (h.run pos pins s σ H _ I hq) fun us s1 ⟨xs, H1, I1, r, z, q⟩ => ⟨by rw [← r.length]; exact z, ?_⟩)
  have hf : H1 s1.heap.objs.size = none := I1.hok.fresh (Nat.le_refl _)
  refine ⟨.ref s1.heap.objs.size, upd H1 s1.heap.objs.size (.lst xs), I1.laid (t' := s1.toks) (fun b u e => Heap.get?_push_of_some _ e) (Nat.le_refl _) ?_, rfl, q _ hf (Nat.ne_of_gt I1.big)⟩
  exact ⟨z, us, 0, r, Heap.get?_push_size _ rfl⟩
end
end L2
namespace L2
open PySem PySem.Spec PyProof.Rows
/-- what is known of the heap at the law's entry: the script alone, or nothing -/
structure AtEntry (P : Program) (w : World) (K : PySem.W.Frag) (h : Heap) (a : Addr) (ns : List Int) (H : Hp) : Prop where
  only : Only H
  sq : SqL K H a (ns.map V.int)
  ok : HOk P w H h
  here : ∀ b, H b ≠ none → b = a
  out : H a ≠ none → K.lookup a = none
theorem atEntry {P : Program} {w : World} {K : PySem.W.Frag} {h : Heap} {a : Addr} {vs : List Value} {ns : List Int} (KX : K.In h) (ha : h.get? a = some { cls := .type "list", data := .seq vs.toArray }) (hi : IntsAre vs ns) (hl : ns.length ≤ sizeLine) :
    ∃ H, AtEntry P w K h a ns H := by
  have rv := vals_ints hi
  cases hk : K.lookup a with
  | some o =>
    have e := (KX a o hk).symm.trans ha
    cases e
    refine ⟨fun _ => none, fun _ => .inl rfl, .inr ⟨_, vs.toArray, _, hk, rfl, rfl, rfl, ?_, by simpa using rv⟩, fun b u z => ?_, fun b z => absurd rfl z, fun z => absurd rfl z⟩
    · have n1 := hi.length
      rw [List.size_toArray]
      omega
    · have z1 : (none : Option HO) = some u := z
      cases z1
  | none =>
    have at_ : ∀ b u, (if b = a then some (HO.frz { cls := .type "list", data := .seq vs.toArray } (.lst (ns.map V.int))) else none) = some u → b = a ∧ u = .frz { cls := .type "list", data := .seq vs.toArray } (.lst (ns.map V.int)) := by
      intro b u z
      by_cases hb : b = a
      · rw [if_pos hb] at z; exact ⟨hb, (Option.some.inj z).symm⟩
      · rw [if_neg hb] at z; cases z
    refine ⟨fun b => if b = a then some (.frz { cls := .type "list", data := .seq vs.toArray } (.lst (ns.map V.int))) else none, fun b => ?_, .inl (.inr ⟨_, if_pos rfl⟩), fun b u z => ?_, fun b z => ?_, fun _ => hk⟩
    · by_cases hb : b = a
      · exact .inr ⟨_, _, if_pos hb⟩
      · exact .inl (if_neg hb)
    · obtain ⟨e1, e2⟩ := at_ b u z
      subst e1 e2
      exact ⟨ha, by rw [List.length_map]; exact hl, vs, _, rv, ha⟩
    · by_cases hb : b = a
      · exact hb
      · exact absurd (if_neg hb) z
theorem walk_ofG {l : PySem.W.OpenLaw} {n k : Nat} {q : Program} {loose : List Str} {XP : (Str → Option Value) → Heap → Prop} {YP : World → Heap → Prop} {d : DefRec} {K : Params → PySem.W.Frag} {sp : World → Sp} {x : Str}
    (hn : l.most = some n) (hn2 : n ≤ sizeLine) (hdf : d.params.defaults = []) (hr : Room k callerA) (hY : ∀ (w : World) (h : Heap), YP w h → (K w.params).In h)
    (F : ∀ (w : World) (mg : Str → Option Value) (fa : Addr) (h : Heap), (K w.params).In h → h.Ns mainGlobals mg → mg d.name = some (.ref fa) →
      ∃ fd : FuncData, (∀ (s : Shared) (u : Value), BindsTo s fd ⟨[u], []⟩ [(x, u)]) ∧ ∀ base : Heap, (K w.params).In base → base.Ns mainGlobals mg → FnG l.prog w (K w.params) mg base k fa fd [x] (sp w))
    (hsp : ∀ (w : World) (H : Hp) (a : Addr) (ns : List Int), ns.length ≤ n → SqL (K w.params) H a (ns.map V.int) → sp w [.ref a] H (fun v _ => v = .bl true) fun _ _ _ => False) :
    PySem.W.WalkO q loose XP YP l.row.toRowW d [] (fun f vs => PySem.call f vs) := by
  refine Att.attach_call hn hdf fun w s₀ s₁ mg mb fa o pm cd doc a vs ns G Y ho hd hcd hmg hobj hints hlen hg => ?_
  have kin := hY w _ Y
  obtain ⟨fd, hbind, hF⟩ := F w mg fa _ kin G.T.g hmg
  obtain ⟨H, S⟩ := atEntry (P := l.prog) (w := w) (K := K w.params) kin hobj hints (Nat.le_trans hlen hn2)
  -- no dict is tracked
  have noD : ∀ {b : Addr} {u : Obj} {es : Array DictEntry} {ep : Nat}, s₁.heap.get? b = some u → u.data = .dict es ep → H b = none := by
    intro b u es ep e1 e2
    cases z : H b with
    | none => rfl
    | some y =>
      have e3 : b = a := S.here b (by rw [z]; exact fun q => nomatch q)
      rw [e3, hobj] at e1
      cases e1
      cases e2
  have ns_ : ∀ {b : Addr} {m : Str → Option Value}, s₁.heap.Ns b m → (hidT s₁.heap H).Ns b m := by
    intro b m ⟨u, es, ep, e1, e2, e3⟩
    exact ⟨u, es, ep, hidT_get e1 (noD e1 e2), e2, e3⟩
  have kb : (K w.params).In (hidT s₁.heap H) := by
    intro b u e
    refine hidT_get (kin b u e) ?_
    cases z : H b with
    | none => rfl
    | some y =>
      have e3 : b = a := S.here b (by rw [z]; exact fun q => nomatch q)
      have e4 := S.out (by rw [← e3, z]; exact fun q => nomatch q)
      rw [e3, e4] at e
      cases e
  have md : Mod (K w.params) mg (hidT s₁.heap H) := ⟨kb, ns_ G.T.g, ⟨mb, ns_ G.T.b, G.T.builtins⟩, G.T.nolimit.elim fun c z => ⟨c, ns_ z.1, z.2⟩⟩
  have en : Env0 l.prog w (K w.params) mg (hidT s₁.heap H) callerA [] s₁ H := by
    refine ⟨rfl, md, fun b u e => of_hidT e, Nat.le_of_eq (hidT_size _ _), trivial, fun b hb => ?_, S.ok, .of_eq hg⟩
    have hb' : b ∈ ([] : List Addr) := hb
    cases hb'
  refine codeAny_mono ((hF _ kb (ns_ G.T.g)).run callerA [] s₁ H ⟨[.ref a], []⟩ [.ref a] [.ref a] _ _ rfl hr en (hbind s₁ (.ref a)) (.cons rfl .nil) (hsp w H a ns hlen S.sq)) fun r s' h => ?_
  cases r with
  | error e => exact h.elim
  | ok fl =>
    cases fl with
    | next => exact h.elim
    | brk => exact h.elim
    | cont => exact h.elim
    | ret u =>
      obtain ⟨v, H', os, bare, un, ok', rv, ev⟩ := h
      have ev' : v = .bl true := ev
      subst ev'
      cases rv
      refine ⟨rfl, OldK.of_keep fun b y e => ?_, os, bare⟩
      rcases S.only b with z | ⟨ob, xs, z⟩
      · exact un.keep b y e z (fun m => nomatch (show b ∈ ([] : List Addr) from m)) (fun m => nomatch m)
      · obtain ⟨e1, _⟩ := S.ok b _ z
        obtain ⟨e2, _⟩ := ok' b _ (un.frzs b ob _ z)
        exact e2.trans (e1.symm.trans e)
end L2
namespace K0
open PySem L2 Kd
abbrev tVal : List Value := [.type "ValueError", .type "Exception", .type "BaseException", .type "object"]
def top (i : Nat) : Stmt := PySem.Challenge.pw_keptshapes_k00_errors_and_their_kinds.main.body.getD i (.Pass ⟨0, 0, 0, 0⟩)
abbrev s_InvalidNumber_init : Stmt := inClass (top 12) 0
abbrev N_InvalidNumber_init : List Str := ["self", "value"]
theorem sc_InvalidNumber_init : FnScope N_InvalidNumber_init ["self", "value"] (defScope s_InvalidNumber_init) := ⟨rfl, rfl, rfl, by decide +kernel, rfl, by decide +kernel, by decide +kernel⟩
abbrev s_UnknownName_init : Stmt := inClass (top 13) 0
abbrev N_UnknownName_init : List Str := ["self", "name"]
theorem sc_UnknownName_init : FnScope N_UnknownName_init ["self", "name"] (defScope s_UnknownName_init) := ⟨rfl, rfl, rfl, by decide +kernel, rfl, by decide +kernel, by decide +kernel⟩
abbrev s_TooMany_init : Stmt := inClass (top 14) 0
abbrev N_TooMany_init : List Str := ["self", "limit"]
theorem sc_TooMany_init : FnScope N_TooMany_init ["self", "limit"] (defScope s_TooMany_init) := ⟨rfl, rfl, rfl, by decide +kernel, rfl, by decide +kernel, by decide +kernel⟩
abbrev s_NoPlace_init : Stmt := inClass (top 15) 0
abbrev N_NoPlace_init : List Str := ["self", "place"]
theorem sc_NoPlace_init : FnScope N_NoPlace_init ["self", "place"] (defScope s_NoPlace_init) := ⟨rfl, rfl, rfl, by decide +kernel, rfl, by decide +kernel, by decide +kernel⟩
abbrev s_Banned_init : Stmt := inClass (top 16) 0
abbrev N_Banned_init : List Str := ["self", "index", "place"]
theorem sc_Banned_init : FnScope N_Banned_init ["self", "index", "place"] (defScope s_Banned_init) := ⟨rfl, rfl, rfl, by decide +kernel, rfl, by decide +kernel, by decide +kernel⟩
abbrev s_NothingToUndo_init : Stmt := inClass (top 17) 0
abbrev N_NothingToUndo_init : List Str := ["self", "many"]
theorem sc_NothingToUndo_init : FnScope N_NothingToUndo_init ["self", "many"] (defScope s_NothingToUndo_init) := ⟨rfl, rfl, rfl, by decide +kernel, rfl, by decide +kernel, by decide +kernel⟩
abbrev s_law_dice : Stmt := top 19
abbrev N_law_dice : List Str := ["_law_script", "_law_at", "_law_cell", "_law_great", "_law_mixed"]
theorem sc_law_dice : FnScope N_law_dice ["_law_script", "_law_at"] (defScope s_law_dice) := ⟨rfl, rfl, rfl, by decide +kernel, rfl, by decide +kernel, by decide +kernel⟩
abbrev s_law_roll : Stmt := top 20
abbrev N_law_roll : List Str := ["_law_dice_here", "_law_total", "_law_one", "_law_two", "_law_found"]
theorem sc_law_roll : FnScope N_law_roll ["_law_dice_here", "_law_total"] (defScope s_law_roll) := ⟨rfl, rfl, rfl, by decide +kernel, rfl, by decide +kernel, by decide +kernel⟩
abbrev s_law_one_of : Stmt := top 21
abbrev N_law_one_of : List Str := ["_law_dice_here", "_law_items"]
theorem sc_law_one_of : FnScope N_law_one_of ["_law_dice_here", "_law_items"] (defScope s_law_one_of) := ⟨rfl, rfl, rfl, by decide +kernel, rfl, by decide +kernel, by decide +kernel⟩
abbrev s_law_thing : Stmt := top 22
abbrev N_law_thing : List Str := ["_law_dice_here", "_law_number", "_law_texts", "_law_things"]
theorem sc_law_thing : FnScope N_law_thing ["_law_dice_here", "_law_number"] (defScope s_law_thing) := ⟨rfl, rfl, rfl, by decide +kernel, rfl, by decide +kernel, by decide +kernel⟩
abbrev s_law_error : Stmt := top 23
abbrev N_law_error : List Str := ["_law_number", "_law_thing_here", "_law_other"]
theorem sc_law_error : FnScope N_law_error ["_law_number", "_law_thing_here", "_law_other"] (defScope s_law_error) := ⟨rfl, rfl, rfl, by decide +kernel, rfl, by decide +kernel, by decide +kernel⟩
abbrev s_law_classes : Stmt := top 24
abbrev N_law_classes : List Str := ["_law_one", "_law_some"]
theorem sc_law_classes : FnScope N_law_classes ["_law_one"] (defScope s_law_classes) := ⟨rfl, rfl, rfl, by decide +kernel, rfl, by decide +kernel, by decide +kernel⟩
abbrev s_law_kinds : Stmt := top 25
abbrev N_law_kinds : List Str := ["_law_one", "_law_some"]
theorem sc_law_kinds : FnScope N_law_kinds ["_law_one"] (defScope s_law_kinds) := ⟨rfl, rfl, rfl, by decide +kernel, rfl, by decide +kernel, by decide +kernel⟩
abbrev s_law_due_kinds : Stmt := top 26
abbrev N_law_due_kinds : List Str := ["_law_number", "_law_at", "_law_place"]
theorem sc_law_due_kinds : FnScope N_law_due_kinds ["_law_number"] (defScope s_law_due_kinds) := ⟨rfl, rfl, rfl, by decide +kernel, rfl, by decide +kernel, by decide +kernel⟩
abbrev s_law_kept : Stmt := top 27
abbrev N_law_kept : List Str := ["_law_number", "_law_one"]
theorem sc_law_kept : FnScope N_law_kept ["_law_number", "_law_one"] (defScope s_law_kept) := ⟨rfl, rfl, rfl, by decide +kernel, rfl, by decide +kernel, by decide +kernel⟩
abbrev s_law : Stmt := top 28
abbrev N_law : List Str := ["_law_script", "_law_at", "_law_dice_here", "_law_number", "_law_one", "_law_due", "_law_thing_here", "_law_other", "_law_place"]
theorem sc_law : FnScope N_law ["_law_script"] (defScope s_law) := ⟨rfl, rfl, rfl, by decide +kernel, rfl, by decide +kernel, by decide +kernel⟩
structure Ads where
  a_InvalidNumber_init : Addr
  d_InvalidNumber_init : FuncData
  a_UnknownName_init : Addr
  d_UnknownName_init : FuncData
  a_TooMany_init : Addr
  d_TooMany_init : FuncData
  a_NoPlace_init : Addr
  d_NoPlace_init : FuncData
  a_Banned_init : Addr
  d_Banned_init : FuncData
  a_NothingToUndo_init : Addr
  d_NothingToUndo_init : FuncData
  a_law_dice : Addr
  d_law_dice : FuncData
  a_law_roll : Addr
  d_law_roll : FuncData
  a_law_one_of : Addr
  d_law_one_of : FuncData
  a_law_thing : Addr
  d_law_thing : FuncData
  a_law_error : Addr
  d_law_error : FuncData
  a_law_classes : Addr
  d_law_classes : FuncData
  a_law_kinds : Addr
  d_law_kinds : FuncData
  a_law_due_kinds : Addr
  d_law_due_kinds : FuncData
  a_law_kept : Addr
  d_law_kept : FuncData
  a_law : Addr
  d_law : FuncData
  C_ShapeError : Addr
  C_InvalidSheet : Addr
  C_InvalidWeb : Addr
  C_InvalidShape : Addr
  C_InvalidSketch : Addr
  C_InvalidRule : Addr
  C_InvalidBans : Addr
  C_InvalidProgram : Addr
  C_InvalidOperation : Addr
  C_InvalidDeed : Addr
  C_ParseError : Addr
  C_InvalidNumber : Addr
  C_UnknownName : Addr
  C_TooMany : Addr
  C_NoPlace : Addr
  C_Banned : Addr
  C_NothingToUndo : Addr
structure Txt (K : PySem.W.Frag) (mg : Str → Option Value) (A : Ads) : Prop where
  F_InvalidNumber_init : Fun K "__init__" "InvalidNumber.__init__" s_InvalidNumber_init A.a_InvalidNumber_init A.d_InvalidNumber_init
  b_InvalidNumber_init : Binds K A.d_InvalidNumber_init ["self", "value"] []
  F_UnknownName_init : Fun K "__init__" "UnknownName.__init__" s_UnknownName_init A.a_UnknownName_init A.d_UnknownName_init
  b_UnknownName_init : Binds K A.d_UnknownName_init ["self", "name"] []
  F_TooMany_init : Fun K "__init__" "TooMany.__init__" s_TooMany_init A.a_TooMany_init A.d_TooMany_init
  b_TooMany_init : Binds K A.d_TooMany_init ["self", "limit"] []
  F_NoPlace_init : Fun K "__init__" "NoPlace.__init__" s_NoPlace_init A.a_NoPlace_init A.d_NoPlace_init
  b_NoPlace_init : Binds K A.d_NoPlace_init ["self", "place"] []
  F_Banned_init : Fun K "__init__" "Banned.__init__" s_Banned_init A.a_Banned_init A.d_Banned_init
  b_Banned_init : Binds K A.d_Banned_init ["self", "index", "place"] []
  F_NothingToUndo_init : Fun K "__init__" "NothingToUndo.__init__" s_NothingToUndo_init A.a_NothingToUndo_init A.d_NothingToUndo_init
  b_NothingToUndo_init : Binds K A.d_NothingToUndo_init ["self", "many"] []
  F_law_dice : Fun K "_law_dice" "_law_dice" s_law_dice A.a_law_dice A.d_law_dice
  b_law_dice : Binds K A.d_law_dice ["_law_script", "_law_at"] []
  g_law_dice : mg "_law_dice" = some (.ref A.a_law_dice)
  k_law_dice : PySem.W.keepIn K (.ref A.a_law_dice) = true
  F_law_roll : Fun K "_law_roll" "_law_roll" s_law_roll A.a_law_roll A.d_law_roll
  b_law_roll : Binds K A.d_law_roll ["_law_dice_here", "_law_total"] []
  g_law_roll : mg "_law_roll" = some (.ref A.a_law_roll)
  k_law_roll : PySem.W.keepIn K (.ref A.a_law_roll) = true
  F_law_one_of : Fun K "_law_one_of" "_law_one_of" s_law_one_of A.a_law_one_of A.d_law_one_of
  b_law_one_of : Binds K A.d_law_one_of ["_law_dice_here", "_law_items"] []
  g_law_one_of : mg "_law_one_of" = some (.ref A.a_law_one_of)
  k_law_one_of : PySem.W.keepIn K (.ref A.a_law_one_of) = true
  F_law_thing : Fun K "_law_thing" "_law_thing" s_law_thing A.a_law_thing A.d_law_thing
  b_law_thing : Binds K A.d_law_thing ["_law_dice_here", "_law_number"] []
  g_law_thing : mg "_law_thing" = some (.ref A.a_law_thing)
  k_law_thing : PySem.W.keepIn K (.ref A.a_law_thing) = true
  F_law_error : Fun K "_law_error" "_law_error" s_law_error A.a_law_error A.d_law_error
  b_law_error : Binds K A.d_law_error ["_law_number", "_law_thing_here", "_law_other"] []
  g_law_error : mg "_law_error" = some (.ref A.a_law_error)
  k_law_error : PySem.W.keepIn K (.ref A.a_law_error) = true
  F_law_classes : Fun K "_law_classes" "_law_classes" s_law_classes A.a_law_classes A.d_law_classes
  b_law_classes : Binds K A.d_law_classes ["_law_one"] []
  g_law_classes : mg "_law_classes" = some (.ref A.a_law_classes)
  k_law_classes : PySem.W.keepIn K (.ref A.a_law_classes) = true
  F_law_kinds : Fun K "_law_kinds" "_law_kinds" s_law_kinds A.a_law_kinds A.d_law_kinds
  b_law_kinds : Binds K A.d_law_kinds ["_law_one"] []
  g_law_kinds : mg "_law_kinds" = some (.ref A.a_law_kinds)
  k_law_kinds : PySem.W.keepIn K (.ref A.a_law_kinds) = true
  F_law_due_kinds : Fun K "_law_due_kinds" "_law_due_kinds" s_law_due_kinds A.a_law_due_kinds A.d_law_due_kinds
  b_law_due_kinds : Binds K A.d_law_due_kinds ["_law_number"] []
  g_law_due_kinds : mg "_law_due_kinds" = some (.ref A.a_law_due_kinds)
  k_law_due_kinds : PySem.W.keepIn K (.ref A.a_law_due_kinds) = true
  F_law_kept : Fun K "_law_kept" "_law_kept" s_law_kept A.a_law_kept A.d_law_kept
  b_law_kept : Binds K A.d_law_kept ["_law_number", "_law_one"] []
  g_law_kept : mg "_law_kept" = some (.ref A.a_law_kept)
  k_law_kept : PySem.W.keepIn K (.ref A.a_law_kept) = true
  F_law : Fun K "law" "law" s_law A.a_law A.d_law
  b_law : Binds K A.d_law ["_law_script"] []
  g_law : mg "law" = some (.ref A.a_law)
  k_law : PySem.W.keepIn K (.ref A.a_law) = true
  g_ShapeError : mg "ShapeError" = some (.ref A.C_ShapeError)
  x_ShapeError : PySem.W.excIn K A.C_ShapeError [.type "ValueError", .type "Exception", .type "BaseException", .type "object"] "ValueError.__new__" = true
  k_ShapeError : PySem.W.keepIn K (.ref A.C_ShapeError) = true
  s_ShapeError : PySem.W.subIn K (.ref A.C_ShapeError) (.type "BaseException") = some true
  t_ShapeError : PySem.W.typeIn K (.ref A.C_ShapeError) = some (.type "type")
  e_ShapeError : PySem.W.exmOne K (.ref A.C_ShapeError) (.ref A.C_ShapeError) = some true
  g_InvalidSheet : mg "InvalidSheet" = some (.ref A.C_InvalidSheet)
  x_InvalidSheet : PySem.W.excIn K A.C_InvalidSheet [.type "ValueError", .type "Exception", .type "BaseException", .type "object"] "ValueError.__new__" = true
  k_InvalidSheet : PySem.W.keepIn K (.ref A.C_InvalidSheet) = true
  s_InvalidSheet : PySem.W.subIn K (.ref A.C_InvalidSheet) (.type "BaseException") = some true
  t_InvalidSheet : PySem.W.typeIn K (.ref A.C_InvalidSheet) = some (.type "type")
  e_InvalidSheet : PySem.W.exmOne K (.ref A.C_InvalidSheet) (.ref A.C_InvalidSheet) = some true
  g_InvalidWeb : mg "InvalidWeb" = some (.ref A.C_InvalidWeb)
  x_InvalidWeb : PySem.W.excIn K A.C_InvalidWeb [.type "ValueError", .type "Exception", .type "BaseException", .type "object"] "ValueError.__new__" = true
  k_InvalidWeb : PySem.W.keepIn K (.ref A.C_InvalidWeb) = true
  s_InvalidWeb : PySem.W.subIn K (.ref A.C_InvalidWeb) (.type "BaseException") = some true
  t_InvalidWeb : PySem.W.typeIn K (.ref A.C_InvalidWeb) = some (.type "type")
  e_InvalidWeb : PySem.W.exmOne K (.ref A.C_InvalidWeb) (.ref A.C_InvalidWeb) = some true
  g_InvalidShape : mg "InvalidShape" = some (.ref A.C_InvalidShape)
  x_InvalidShape : PySem.W.excIn K A.C_InvalidShape [.type "ValueError", .type "Exception", .type "BaseException", .type "object"] "ValueError.__new__" = true
  k_InvalidShape : PySem.W.keepIn K (.ref A.C_InvalidShape) = true
  s_InvalidShape : PySem.W.subIn K (.ref A.C_InvalidShape) (.type "BaseException") = some true
  t_InvalidShape : PySem.W.typeIn K (.ref A.C_InvalidShape) = some (.type "type")
  e_InvalidShape : PySem.W.exmOne K (.ref A.C_InvalidShape) (.ref A.C_InvalidShape) = some true
  g_InvalidSketch : mg "InvalidSketch" = some (.ref A.C_InvalidSketch)
  x_InvalidSketch : PySem.W.excIn K A.C_InvalidSketch [.type "ValueError", .type "Exception", .type "BaseException", .type "object"] "ValueError.__new__" = true
  k_InvalidSketch : PySem.W.keepIn K (.ref A.C_InvalidSketch) = true
  s_InvalidSketch : PySem.W.subIn K (.ref A.C_InvalidSketch) (.type "BaseException") = some true
  t_InvalidSketch : PySem.W.typeIn K (.ref A.C_InvalidSketch) = some (.type "type")
  e_InvalidSketch : PySem.W.exmOne K (.ref A.C_InvalidSketch) (.ref A.C_InvalidSketch) = some true
  g_InvalidRule : mg "InvalidRule" = some (.ref A.C_InvalidRule)
  x_InvalidRule : PySem.W.excIn K A.C_InvalidRule [.type "ValueError", .type "Exception", .type "BaseException", .type "object"] "ValueError.__new__" = true
  k_InvalidRule : PySem.W.keepIn K (.ref A.C_InvalidRule) = true
  s_InvalidRule : PySem.W.subIn K (.ref A.C_InvalidRule) (.type "BaseException") = some true
  t_InvalidRule : PySem.W.typeIn K (.ref A.C_InvalidRule) = some (.type "type")
  e_InvalidRule : PySem.W.exmOne K (.ref A.C_InvalidRule) (.ref A.C_InvalidRule) = some true
  g_InvalidBans : mg "InvalidBans" = some (.ref A.C_InvalidBans)
  x_InvalidBans : PySem.W.excIn K A.C_InvalidBans [.type "ValueError", .type "Exception", .type "BaseException", .type "object"] "ValueError.__new__" = true
  k_InvalidBans : PySem.W.keepIn K (.ref A.C_InvalidBans) = true
  s_InvalidBans : PySem.W.subIn K (.ref A.C_InvalidBans) (.type "BaseException") = some true
  t_InvalidBans : PySem.W.typeIn K (.ref A.C_InvalidBans) = some (.type "type")
  e_InvalidBans : PySem.W.exmOne K (.ref A.C_InvalidBans) (.ref A.C_InvalidBans) = some true
  g_InvalidProgram : mg "InvalidProgram" = some (.ref A.C_InvalidProgram)
  x_InvalidProgram : PySem.W.excIn K A.C_InvalidProgram [.type "ValueError", .type "Exception", .type "BaseException", .type "object"] "ValueError.__new__" = true
  k_InvalidProgram : PySem.W.keepIn K (.ref A.C_InvalidProgram) = true
  s_InvalidProgram : PySem.W.subIn K (.ref A.C_InvalidProgram) (.type "BaseException") = some true
  t_InvalidProgram : PySem.W.typeIn K (.ref A.C_InvalidProgram) = some (.type "type")
  e_InvalidProgram : PySem.W.exmOne K (.ref A.C_InvalidProgram) (.ref A.C_InvalidProgram) = some true
  g_InvalidOperation : mg "InvalidOperation" = some (.ref A.C_InvalidOperation)
  x_InvalidOperation : PySem.W.excIn K A.C_InvalidOperation [.type "ValueError", .type "Exception", .type "BaseException", .type "object"] "ValueError.__new__" = true
  k_InvalidOperation : PySem.W.keepIn K (.ref A.C_InvalidOperation) = true
  s_InvalidOperation : PySem.W.subIn K (.ref A.C_InvalidOperation) (.type "BaseException") = some true
  t_InvalidOperation : PySem.W.typeIn K (.ref A.C_InvalidOperation) = some (.type "type")
  e_InvalidOperation : PySem.W.exmOne K (.ref A.C_InvalidOperation) (.ref A.C_InvalidOperation) = some true
  g_InvalidDeed : mg "InvalidDeed" = some (.ref A.C_InvalidDeed)
  x_InvalidDeed : PySem.W.excIn K A.C_InvalidDeed [.type "ValueError", .type "Exception", .type "BaseException", .type "object"] "ValueError.__new__" = true
  k_InvalidDeed : PySem.W.keepIn K (.ref A.C_InvalidDeed) = true
  s_InvalidDeed : PySem.W.subIn K (.ref A.C_InvalidDeed) (.type "BaseException") = some true
  t_InvalidDeed : PySem.W.typeIn K (.ref A.C_InvalidDeed) = some (.type "type")
  e_InvalidDeed : PySem.W.exmOne K (.ref A.C_InvalidDeed) (.ref A.C_InvalidDeed) = some true
  g_ParseError : mg "ParseError" = some (.ref A.C_ParseError)
  x_ParseError : PySem.W.excIn K A.C_ParseError [.type "ValueError", .type "Exception", .type "BaseException", .type "object"] "ValueError.__new__" = true
  k_ParseError : PySem.W.keepIn K (.ref A.C_ParseError) = true
  s_ParseError : PySem.W.subIn K (.ref A.C_ParseError) (.type "BaseException") = some true
  t_ParseError : PySem.W.typeIn K (.ref A.C_ParseError) = some (.type "type")
  e_ParseError : PySem.W.exmOne K (.ref A.C_ParseError) (.ref A.C_ParseError) = some true
  g_InvalidNumber : mg "InvalidNumber" = some (.ref A.C_InvalidNumber)
  m_InvalidNumber_init : Meth K A.C_InvalidNumber "__init__" A.a_InvalidNumber_init
  n_InvalidNumber_value : PySem.W.findIn K (.ref A.C_InvalidNumber) "value" = some none
  k_InvalidNumber : PySem.W.keepIn K (.ref A.C_InvalidNumber) = true
  s_InvalidNumber : PySem.W.subIn K (.ref A.C_InvalidNumber) (.type "BaseException") = some true
  t_InvalidNumber : PySem.W.typeIn K (.ref A.C_InvalidNumber) = some (.type "type")
  e_InvalidNumber : PySem.W.exmOne K (.ref A.C_InvalidNumber) (.ref A.C_InvalidNumber) = some true
  g_UnknownName : mg "UnknownName" = some (.ref A.C_UnknownName)
  m_UnknownName_init : Meth K A.C_UnknownName "__init__" A.a_UnknownName_init
  n_UnknownName_name : PySem.W.findIn K (.ref A.C_UnknownName) "name" = some none
  k_UnknownName : PySem.W.keepIn K (.ref A.C_UnknownName) = true
  s_UnknownName : PySem.W.subIn K (.ref A.C_UnknownName) (.type "BaseException") = some true
  t_UnknownName : PySem.W.typeIn K (.ref A.C_UnknownName) = some (.type "type")
  e_UnknownName : PySem.W.exmOne K (.ref A.C_UnknownName) (.ref A.C_UnknownName) = some true
  g_TooMany : mg "TooMany" = some (.ref A.C_TooMany)
  m_TooMany_init : Meth K A.C_TooMany "__init__" A.a_TooMany_init
  n_TooMany_limit : PySem.W.findIn K (.ref A.C_TooMany) "limit" = some none
  k_TooMany : PySem.W.keepIn K (.ref A.C_TooMany) = true
  s_TooMany : PySem.W.subIn K (.ref A.C_TooMany) (.type "BaseException") = some true
  t_TooMany : PySem.W.typeIn K (.ref A.C_TooMany) = some (.type "type")
  e_TooMany : PySem.W.exmOne K (.ref A.C_TooMany) (.ref A.C_TooMany) = some true
  g_NoPlace : mg "NoPlace" = some (.ref A.C_NoPlace)
  m_NoPlace_init : Meth K A.C_NoPlace "__init__" A.a_NoPlace_init
  n_NoPlace_place : PySem.W.findIn K (.ref A.C_NoPlace) "place" = some none
  k_NoPlace : PySem.W.keepIn K (.ref A.C_NoPlace) = true
  s_NoPlace : PySem.W.subIn K (.ref A.C_NoPlace) (.type "BaseException") = some true
  t_NoPlace : PySem.W.typeIn K (.ref A.C_NoPlace) = some (.type "type")
  e_NoPlace : PySem.W.exmOne K (.ref A.C_NoPlace) (.ref A.C_NoPlace) = some true
  g_Banned : mg "Banned" = some (.ref A.C_Banned)
  m_Banned_init : Meth K A.C_Banned "__init__" A.a_Banned_init
  n_Banned_index : PySem.W.findIn K (.ref A.C_Banned) "index" = some none
  n_Banned_place : PySem.W.findIn K (.ref A.C_Banned) "place" = some none
  k_Banned : PySem.W.keepIn K (.ref A.C_Banned) = true
  s_Banned : PySem.W.subIn K (.ref A.C_Banned) (.type "BaseException") = some true
  t_Banned : PySem.W.typeIn K (.ref A.C_Banned) = some (.type "type")
  e_Banned : PySem.W.exmOne K (.ref A.C_Banned) (.ref A.C_Banned) = some true
  g_NothingToUndo : mg "NothingToUndo" = some (.ref A.C_NothingToUndo)
  m_NothingToUndo_init : Meth K A.C_NothingToUndo "__init__" A.a_NothingToUndo_init
  n_NothingToUndo_many : PySem.W.findIn K (.ref A.C_NothingToUndo) "many" = some none
  k_NothingToUndo : PySem.W.keepIn K (.ref A.C_NothingToUndo) = true
  s_NothingToUndo : PySem.W.subIn K (.ref A.C_NothingToUndo) (.type "BaseException") = some true
  t_NothingToUndo : PySem.W.typeIn K (.ref A.C_NothingToUndo) = some (.type "type")
  e_NothingToUndo : PySem.W.exmOne K (.ref A.C_NothingToUndo) (.ref A.C_NothingToUndo) = some true
  n_ArithmeticError : mg "ArithmeticError" = none
  n_IndexError : mg "IndexError" = none
  n_KeyError : mg "KeyError" = none
  n_LookupError : mg "LookupError" = none
  n_OverflowError : mg "OverflowError" = none
  n_RuntimeError : mg "RuntimeError" = none
  n_ValueError : mg "ValueError" = none
  n_abs : mg "abs" = none
  n_int : mg "int" = none
  n_isinstance : mg "isinstance" = none
  n_len : mg "len" = none
  n_max : mg "max" = none
  n_min : mg "min" = none
  n_range : mg "range" = none
  n_repr : mg "repr" = none
  X_ShapeError : L2.exB K A.C_ShapeError "ShapeError" (.ref A.C_ShapeError :: tVal) = true
  X_InvalidSheet : L2.exB K A.C_InvalidSheet "InvalidSheet" (.ref A.C_InvalidSheet :: .ref A.C_ShapeError :: tVal) = true
  X_InvalidWeb : L2.exB K A.C_InvalidWeb "InvalidWeb" (.ref A.C_InvalidWeb :: .ref A.C_ShapeError :: tVal) = true
  X_InvalidShape : L2.exB K A.C_InvalidShape "InvalidShape" (.ref A.C_InvalidShape :: .ref A.C_ShapeError :: tVal) = true
  X_InvalidSketch : L2.exB K A.C_InvalidSketch "InvalidSketch" (.ref A.C_InvalidSketch :: .ref A.C_ShapeError :: tVal) = true
  X_InvalidRule : L2.exB K A.C_InvalidRule "InvalidRule" (.ref A.C_InvalidRule :: .ref A.C_ShapeError :: tVal) = true
  X_InvalidBans : L2.exB K A.C_InvalidBans "InvalidBans" (.ref A.C_InvalidBans :: .ref A.C_ShapeError :: tVal) = true
  X_InvalidProgram : L2.exB K A.C_InvalidProgram "InvalidProgram" (.ref A.C_InvalidProgram :: .ref A.C_ShapeError :: tVal) = true
  X_InvalidOperation : L2.exB K A.C_InvalidOperation "InvalidOperation" (.ref A.C_InvalidOperation :: .ref A.C_ShapeError :: tVal) = true
  X_InvalidDeed : L2.exB K A.C_InvalidDeed "InvalidDeed" (.ref A.C_InvalidDeed :: .ref A.C_ShapeError :: tVal) = true
  X_ParseError : L2.exB K A.C_ParseError "ParseError" (.ref A.C_ParseError :: .ref A.C_ShapeError :: tVal) = true
  X_InvalidNumber : L2.exB K A.C_InvalidNumber "InvalidNumber" (.ref A.C_InvalidNumber :: PySem.Kx.tIndex) = true
  o_InvalidNumber : PySem.Kx.oxB K A.C_InvalidNumber PySem.Kx.tIndex "IndexError.__new__" = true
  sa_InvalidNumber : PySem.W.findIn K (.ref A.C_InvalidNumber) "__setattr__" = some (some (.builtin "object.__setattr__"))
  v_IndexError : PySem.W.findCls K (.type "IndexError") (.type "type") "__init__" = some (.val (.builtin "IndexError.__init__"))
  X_UnknownName : L2.exB K A.C_UnknownName "UnknownName" (.ref A.C_UnknownName :: PySem.Kx.tKey) = true
  o_UnknownName : PySem.Kx.oxB K A.C_UnknownName PySem.Kx.tKey "LookupError.__new__" = true
  sa_UnknownName : PySem.W.findIn K (.ref A.C_UnknownName) "__setattr__" = some (some (.builtin "object.__setattr__"))
  v_KeyError : PySem.W.findCls K (.type "KeyError") (.type "type") "__init__" = some (.val (.builtin "KeyError.__init__"))
  X_TooMany : L2.exB K A.C_TooMany "TooMany" (.ref A.C_TooMany :: PySem.Kx.tOver) = true
  o_TooMany : PySem.Kx.oxB K A.C_TooMany PySem.Kx.tOver "OverflowError.__new__" = true
  sa_TooMany : PySem.W.findIn K (.ref A.C_TooMany) "__setattr__" = some (some (.builtin "object.__setattr__"))
  v_OverflowError : PySem.W.findCls K (.type "OverflowError") (.type "type") "__init__" = some (.val (.builtin "OverflowError.__init__"))
  X_NoPlace : L2.exB K A.C_NoPlace "NoPlace" (.ref A.C_NoPlace :: PySem.Kx.tLook) = true
  o_NoPlace : PySem.Kx.oxB K A.C_NoPlace PySem.Kx.tLook "LookupError.__new__" = true
  sa_NoPlace : PySem.W.findIn K (.ref A.C_NoPlace) "__setattr__" = some (some (.builtin "object.__setattr__"))
  v_LookupError : PySem.W.findCls K (.type "LookupError") (.type "type") "__init__" = some (.val (.builtin "LookupError.__init__"))
  X_Banned : L2.exB K A.C_Banned "Banned" (.ref A.C_Banned :: PySem.Kx.tRun) = true
  o_Banned : PySem.Kx.oxB K A.C_Banned PySem.Kx.tRun "RuntimeError.__new__" = true
  sa_Banned : PySem.W.findIn K (.ref A.C_Banned) "__setattr__" = some (some (.builtin "object.__setattr__"))
  v_RuntimeError : PySem.W.findCls K (.type "RuntimeError") (.type "type") "__init__" = some (.val (.builtin "RuntimeError.__init__"))
  X_NothingToUndo : L2.exB K A.C_NothingToUndo "NothingToUndo" (.ref A.C_NothingToUndo :: PySem.Kx.tArith) = true
  o_NothingToUndo : PySem.Kx.oxB K A.C_NothingToUndo PySem.Kx.tArith "ArithmeticError.__new__" = true
  sa_NothingToUndo : PySem.W.findIn K (.ref A.C_NothingToUndo) "__setattr__" = some (some (.builtin "object.__setattr__"))
  v_ArithmeticError : PySem.W.findCls K (.type "ArithmeticError") (.type "type") "__init__" = some (.val (.builtin "ArithmeticError.__init__"))
end K0
namespace K0
open PySem L2 Kd Evl
theorem hu64 {k : Nat} {A : Around} (r : Room k A) : A.units + 64 < cLine := by have := r.un; omega
def cA (A : Ads) : Nat → Addr
  | 0 => A.C_InvalidSheet
  | 1 => A.C_InvalidWeb
  | 2 => A.C_InvalidShape
  | 3 => A.C_InvalidSketch
  | 4 => A.C_InvalidRule
  | 5 => A.C_InvalidBans
  | 6 => A.C_InvalidProgram
  | 7 => A.C_InvalidOperation
  | 8 => A.C_InvalidDeed
  | 9 => A.C_ParseError
  | 10 => A.C_InvalidNumber
  | 11 => A.C_UnknownName
  | 12 => A.C_TooMany
  | 13 => A.C_NoPlace
  | 14 => A.C_Banned
  | 15 => A.C_NothingToUndo
  | _ => A.C_ShapeError
def nmO : Nat → Str
  | 0 => "InvalidSheet"
  | 1 => "InvalidWeb"
  | 2 => "InvalidShape"
  | 3 => "InvalidSketch"
  | 4 => "InvalidRule"
  | 5 => "InvalidBans"
  | 6 => "InvalidProgram"
  | 7 => "InvalidOperation"
  | 8 => "InvalidDeed"
  | 9 => "ParseError"
  | 10 => "InvalidNumber"
  | 11 => "UnknownName"
  | 12 => "TooMany"
  | 13 => "NoPlace"
  | 14 => "Banned"
  | 15 => "NothingToUndo"
  | _ => "ShapeError"
def tlO : Nat → List Value
  | 10 => PySem.Kx.tIndex
  | 11 => PySem.Kx.tKey
  | 12 => PySem.Kx.tOver
  | 13 => PySem.Kx.tLook
  | 14 => PySem.Kx.tRun
  | 15 => PySem.Kx.tArith
  | _ => tVal
def mlO (A : Ads) (n : Nat) : List Value := .ref (cA A n) :: ((if n < 10 then [.ref A.C_ShapeError] else []) ++ tlO n)
theorem nm_inj : ∀ i, i < 16 → ∀ n, n < 16 → nmO i = nmO n → i = n := by decide +kernel
theorem nm_S : ∀ i, i < 16 → nmO i ≠ "ShapeError" := by decide +kernel
theorem tl_ref : ∀ n, n < 16 → ∀ a : Addr, (tlO n).contains (.ref a) = false := by
  intro n hn a
  have h : ∀ v ∈ tlO n, v ≠ .ref a := by
    intro v hv
    have : ∀ n, n < 16 → ∀ v ∈ tlO n, (match v with | .type _ => true | _ => false) = true := by decide +kernel
    have := this n hn v hv
    intro z
    subst z
    cases this
  cases e : (tlO n).contains (Value.ref a) with
  | false => rfl
  | true => exact absurd rfl (h _ (by simpa using e))
theorem tl_obj : ∀ n, n < 16 → (tlO n).contains (.type "object") = true := by decide +kernel
section
variable {P : Program} {w : World} {K : PySem.W.Frag} {mg : Str → Option Value} {base : Heap} {AA : Ads}
theorem exS (T : Txt K mg AA) : ExB K AA.C_ShapeError "ShapeError" (.ref AA.C_ShapeError :: tVal) := exB_ok T.X_ShapeError
theorem exA (T : Txt K mg AA) : ∀ n, n < 16 → ExB K (cA AA n) (nmO n) (mlO AA n)
  | 0, _ => exB_ok T.X_InvalidSheet
  | 1, _ => exB_ok T.X_InvalidWeb
  | 2, _ => exB_ok T.X_InvalidShape
  | 3, _ => exB_ok T.X_InvalidSketch
  | 4, _ => exB_ok T.X_InvalidRule
  | 5, _ => exB_ok T.X_InvalidBans
  | 6, _ => exB_ok T.X_InvalidProgram
  | 7, _ => exB_ok T.X_InvalidOperation
  | 8, _ => exB_ok T.X_InvalidDeed
  | 9, _ => exB_ok T.X_ParseError
  | 10, _ => exB_ok T.X_InvalidNumber
  | 11, _ => exB_ok T.X_UnknownName
  | 12, _ => exB_ok T.X_TooMany
  | 13, _ => exB_ok T.X_NoPlace
  | 14, _ => exB_ok T.X_Banned
  | 15, _ => exB_ok T.X_NothingToUndo
  | n + 16, h => absurd h (by omega)
theorem ml_ne (n : Nat) : mlO AA n ≠ [] := fun z => nomatch z
theorem ml_obj (n : Nat) (h : n < 16) : (mlO AA n).contains (.type "object") = true := by
  have := tl_obj n h
  unfold mlO
  simp only [List.contains_cons, List.contains_append, this, Bool.or_true]
theorem exC (T : Txt K mg AA) (n : Nat) (h : n < 16) : ExcC K (cA AA n) := (exA T n h).exc (ml_obj n h)
theorem is_cls (T : Txt K mg AA) (n i : Nat) (hn : n < 16) (hi : i < 16) : PySem.W.kitOne K (.ref (cA AA n)) (.ref (cA AA i)) = some (decide (i = n)) := by
  rw [(exA T n hn).kitC (exA T i hi) (ml_ne n)]
  by_cases e : i = n
  · subst e
    simp
  · have ne := (exA T n hn).ne (exA T i hi) (fun z => e (nm_inj i hi n hn z.symm))
    have ns := (exS T).ne (exA T i hi) (fun z => nm_S i hi z.symm)
    have tl : ¬ Value.ref (cA AA i) ∈ tlO n := by simpa using tl_ref n hn (cA AA i)
    rw [decide_eq_false ne, decide_eq_false e]
    unfold mlO
    split <;> simp [tl, ne, ns, Ne.symm ne, Ne.symm ns]
theorem is_shape (T : Txt K mg AA) (n : Nat) (hn : n < 16) : PySem.W.kitOne K (.ref (cA AA n)) (.ref AA.C_ShapeError) = some (decide (n < 10)) := by
  rw [(exA T n hn).kitC (exS T) (ml_ne n)]
  have ne := (exA T n hn).ne (exS T) (nm_S n hn)
  have tl : ¬ Value.ref AA.C_ShapeError ∈ tlO n := by simpa using tl_ref n hn AA.C_ShapeError
  rw [decide_eq_false ne]
  unfold mlO
  by_cases c : n < 10
  · rw [if_pos c]
    simp [c]
  · rw [if_neg c]
    simp [c, tl, ne, Ne.symm ne]
theorem is_type (T : Txt K mg AA) (n : Nat) (hn : n < 16) {t : String} (ht : PySem.W.kitMeta t = true) : PySem.W.kitOne K (.ref (cA AA n)) (.type t) = some ((tlO n).contains (.type t)) := by
  rw [(exA T n hn).kitT (ml_ne n) ht]
  unfold mlO
  split <;> simp
theorem ox_InvalidNumber (T : Txt K mg AA) : OxC K AA.C_InvalidNumber "IndexError" "IndexError.__new__" "IndexError.__init__" PySem.Kx.tIndex := ⟨PySem.Kx.bs_Index, T.o_InvalidNumber, T.sa_InvalidNumber, T.k_InvalidNumber⟩
theorem ox_UnknownName (T : Txt K mg AA) : OxC K AA.C_UnknownName "KeyError" "LookupError.__new__" "KeyError.__init__" PySem.Kx.tKey := ⟨PySem.Kx.bs_Key, T.o_UnknownName, T.sa_UnknownName, T.k_UnknownName⟩
theorem ox_TooMany (T : Txt K mg AA) : OxC K AA.C_TooMany "OverflowError" "OverflowError.__new__" "OverflowError.__init__" PySem.Kx.tOver := ⟨PySem.Kx.bs_Over, T.o_TooMany, T.sa_TooMany, T.k_TooMany⟩
theorem ox_NoPlace (T : Txt K mg AA) : OxC K AA.C_NoPlace "LookupError" "LookupError.__new__" "LookupError.__init__" PySem.Kx.tLook := ⟨PySem.Kx.bs_Look, T.o_NoPlace, T.sa_NoPlace, T.k_NoPlace⟩
theorem ox_Banned (T : Txt K mg AA) : OxC K AA.C_Banned "RuntimeError" "RuntimeError.__new__" "RuntimeError.__init__" PySem.Kx.tRun := ⟨PySem.Kx.bs_Run, T.o_Banned, T.sa_Banned, T.k_Banned⟩
theorem ox_NothingToUndo (T : Txt K mg AA) : OxC K AA.C_NothingToUndo "ArithmeticError" "ArithmeticError.__new__" "ArithmeticError.__init__" PySem.Kx.tArith := ⟨PySem.Kx.bs_Arith, T.o_NothingToUndo, T.sa_NothingToUndo, T.k_NothingToUndo⟩
def spIni (f : Str) (C : Addr) : Sp := fun vs H Q _ => ∃ (a : Addr) (v : V), vs = [.ref a, v] ∧ H a = some (exo a C none) ∧ ∀ d, H d = none → d ≠ a → Q .non (upd (upd H d (exd d [(f, v)])) a (exo a C (some d)))
def spIni2 (f g : Str) (C : Addr) : Sp := fun vs H Q _ => ∃ (a : Addr) (v u : V), vs = [.ref a, v, u] ∧ H a = some (exo a C none) ∧ ∀ d, H d = none → d ≠ a → Q .non (upd (upd (upd H d (exd d [(f, v)])) a (exo a C (some d))) d (exd d [(g, u), (f, v)]))
theorem ok_InvalidNumber_init (T : Txt K mg AA) : FnOk P w K mg base CX0 1 AA.a_InvalidNumber_init AA.d_InvalidNumber_init ["self", "value"] (spIni "value" AA.C_InvalidNumber) := by
  refine T.F_InvalidNumber_init.ok sc_InvalidNumber_init (fun vs H Q E h => ?_) (fun cdv A outer s H vs Q E hr h => ?_)
  · obtain ⟨a, v, rfl, _⟩ := h
    rfl
  · obtain ⟨a, v, rfl, ha, q⟩ := h
    refine ⟨_, (pss_cons (ps_expr (pe_xinit (B := "IndexError") (newId := "IndexError.__new__") (initId := "IndexError.__init__") (tl := PySem.Kx.tIndex) (by rfl) T.n_IndexError PyProof.Rows.Boot.«IndexError» (by kernel_rfl) (by decide +kernel) (by decide +kernel) T.v_IndexError (pa_cons (pv 0) (pa_cons pe_str pa_nil))))
    (pss_one (ps_xset (pv 0) (pv 1)))), ?_⟩
    refine ⟨_, rfl, a, AA.C_InvalidNumber, _, rfl, (by show 1 ≤ 1000; decide), ox_InvalidNumber T, ha, ?_⟩
    exact ⟨_, rfl, _, rfl, a, AA.C_InvalidNumber, rfl, ⟨_, _, _, _, ox_InvalidNumber T⟩, T.n_InvalidNumber_value, .inl ⟨ha, fun d hd ne => q d hd ne⟩⟩
theorem ok_UnknownName_init (T : Txt K mg AA) : FnOk P w K mg base CX0 1 AA.a_UnknownName_init AA.d_UnknownName_init ["self", "name"] (spIni "name" AA.C_UnknownName) := by
  refine T.F_UnknownName_init.ok sc_UnknownName_init (fun vs H Q E h => ?_) (fun cdv A outer s H vs Q E hr h => ?_)
  · obtain ⟨a, v, rfl, _⟩ := h
    rfl
  · obtain ⟨a, v, rfl, ha, q⟩ := h
    refine ⟨_, (pss_cons (ps_expr (pe_xinit (B := "KeyError") (newId := "LookupError.__new__") (initId := "KeyError.__init__") (tl := PySem.Kx.tKey) (by rfl) T.n_KeyError PyProof.Rows.Boot.«KeyError» (by kernel_rfl) (by decide +kernel) (by decide +kernel) T.v_KeyError (pa_cons (pv 0) (pa_cons pe_str pa_nil))))
    (pss_one (ps_xset (pv 0) (pv 1)))), ?_⟩
    refine ⟨_, rfl, a, AA.C_UnknownName, _, rfl, (by show 1 ≤ 1000; decide), ox_UnknownName T, ha, ?_⟩
    exact ⟨_, rfl, _, rfl, a, AA.C_UnknownName, rfl, ⟨_, _, _, _, ox_UnknownName T⟩, T.n_UnknownName_name, .inl ⟨ha, fun d hd ne => q d hd ne⟩⟩
theorem ok_TooMany_init (T : Txt K mg AA) : FnOk P w K mg base CX0 1 AA.a_TooMany_init AA.d_TooMany_init ["self", "limit"] (spIni "limit" AA.C_TooMany) := by
  refine T.F_TooMany_init.ok sc_TooMany_init (fun vs H Q E h => ?_) (fun cdv A outer s H vs Q E hr h => ?_)
  · obtain ⟨a, v, rfl, _⟩ := h
    rfl
  · obtain ⟨a, v, rfl, ha, q⟩ := h
    refine ⟨_, (pss_cons (ps_expr (pe_xinit (B := "OverflowError") (newId := "OverflowError.__new__") (initId := "OverflowError.__init__") (tl := PySem.Kx.tOver) (by rfl) T.n_OverflowError PyProof.Rows.Boot.«OverflowError» (by kernel_rfl) (by decide +kernel) (by decide +kernel) T.v_OverflowError (pa_cons (pv 0) (pa_cons pe_str pa_nil))))
    (pss_one (ps_xset (pv 0) (pv 1)))), ?_⟩
    refine ⟨_, rfl, a, AA.C_TooMany, _, rfl, (by show 1 ≤ 1000; decide), ox_TooMany T, ha, ?_⟩
    exact ⟨_, rfl, _, rfl, a, AA.C_TooMany, rfl, ⟨_, _, _, _, ox_TooMany T⟩, T.n_TooMany_limit, .inl ⟨ha, fun d hd ne => q d hd ne⟩⟩
theorem ok_NoPlace_init (T : Txt K mg AA) : FnOk P w K mg base CX0 1 AA.a_NoPlace_init AA.d_NoPlace_init ["self", "place"] (spIni "place" AA.C_NoPlace) := by
  refine T.F_NoPlace_init.ok sc_NoPlace_init (fun vs H Q E h => ?_) (fun cdv A outer s H vs Q E hr h => ?_)
  · obtain ⟨a, v, rfl, _⟩ := h
    rfl
  · obtain ⟨a, v, rfl, ha, q⟩ := h
    refine ⟨_, (pss_cons (ps_expr (pe_xinit (B := "LookupError") (newId := "LookupError.__new__") (initId := "LookupError.__init__") (tl := PySem.Kx.tLook) (by rfl) T.n_LookupError PyProof.Rows.Boot.«LookupError» (by kernel_rfl) (by decide +kernel) (by decide +kernel) T.v_LookupError (pa_cons (pv 0) (pa_cons pe_str pa_nil))))
    (pss_one (ps_xset (pv 0) (pv 1)))), ?_⟩
    refine ⟨_, rfl, a, AA.C_NoPlace, _, rfl, (by show 1 ≤ 1000; decide), ox_NoPlace T, ha, ?_⟩
    exact ⟨_, rfl, _, rfl, a, AA.C_NoPlace, rfl, ⟨_, _, _, _, ox_NoPlace T⟩, T.n_NoPlace_place, .inl ⟨ha, fun d hd ne => q d hd ne⟩⟩
theorem ok_Banned_init (T : Txt K mg AA) : FnOk P w K mg base CX0 1 AA.a_Banned_init AA.d_Banned_init ["self", "index", "place"] (spIni2 "index" "place" AA.C_Banned) := by
  refine T.F_Banned_init.ok sc_Banned_init (fun vs H Q E h => ?_) (fun cdv A outer s H vs Q E hr h => ?_)
  · obtain ⟨a, v, u, rfl, _⟩ := h
    rfl
  · obtain ⟨a, v, u, rfl, ha, q⟩ := h
    refine ⟨_, (pss_cons (ps_expr (pe_xinit (B := "RuntimeError") (newId := "RuntimeError.__new__") (initId := "RuntimeError.__init__") (tl := PySem.Kx.tRun) (by rfl) T.n_RuntimeError PyProof.Rows.Boot.«RuntimeError» (by kernel_rfl) (by decide +kernel) (by decide +kernel) T.v_RuntimeError (pa_cons (pv 0) (pa_cons pe_str pa_nil))))
    (pss_cons (ps_xset (pv 0) (pv 1))
    (pss_one (ps_xset (pv 0) (pv 2))))), ?_⟩
    refine ⟨_, rfl, a, AA.C_Banned, _, rfl, (by show 1 ≤ 1000; decide), ox_Banned T, ha, ?_⟩
    refine ⟨_, rfl, _, rfl, a, AA.C_Banned, rfl, ⟨_, _, _, _, ox_Banned T⟩, T.n_Banned_index, .inl ⟨ha, fun d hd ne => ?_⟩⟩
    refine ⟨_, rfl, _, rfl, a, AA.C_Banned, rfl, ⟨_, _, _, _, ox_Banned T⟩, T.n_Banned_place, .inr ⟨d, _, upd_same, (by rw [upd_ne ne]; exact upd_same), (by show 1 ≤ 900; decide), q d hd ne⟩⟩
theorem ok_NothingToUndo_init (T : Txt K mg AA) : FnOk P w K mg base CX0 1 AA.a_NothingToUndo_init AA.d_NothingToUndo_init ["self", "many"] (spIni "many" AA.C_NothingToUndo) := by
  refine T.F_NothingToUndo_init.ok sc_NothingToUndo_init (fun vs H Q E h => ?_) (fun cdv A outer s H vs Q E hr h => ?_)
  · obtain ⟨a, v, rfl, _⟩ := h
    rfl
  · obtain ⟨a, v, rfl, ha, q⟩ := h
    refine ⟨_, (pss_cons (ps_expr (pe_xinit (B := "ArithmeticError") (newId := "ArithmeticError.__new__") (initId := "ArithmeticError.__init__") (tl := PySem.Kx.tArith) (by rfl) T.n_ArithmeticError PyProof.Rows.Boot.«ArithmeticError» (by kernel_rfl) (by decide +kernel) (by decide +kernel) T.v_ArithmeticError (pa_cons (pv 0) (pa_cons pe_str pa_nil))))
    (pss_one (ps_xset (pv 0) (pv 1)))), ?_⟩
    refine ⟨_, rfl, a, AA.C_NothingToUndo, _, rfl, (by show 1 ≤ 1000; decide), ox_NothingToUndo T, ha, ?_⟩
    exact ⟨_, rfl, _, rfl, a, AA.C_NothingToUndo, rfl, ⟨_, _, _, _, ox_NothingToUndo T⟩, T.n_NothingToUndo_many, .inl ⟨ha, fun d hd ne => q d hd ne⟩⟩
end
end K0
namespace K0
open PySem L2 Kd Evl
def spDice (K : PySem.W.Frag) : Sp := fun vs H Q _ => ∃ (a : Addr) (ns : List Int) (k : Int), vs = [.ref a, .int k] ∧ SqL K H a (ns.map V.int) ∧ 0 ≤ k ∧ ∀ p, H p = none → Q (.ref p) (upd H p (diceO p))
def spRoll : Sp := fun vs H Q _ => ∃ (a : Addr) (n : Int), vs = [.ref a, .int n] ∧ H a = some (diceO a) ∧ 0 < n ∧ n < 2 ^ 30 ∧ ∀ i : Int, 0 ≤ i → i < n → Q (.int i) H
theorem small_mul {i j : Int} (h0 : 0 ≤ i) (h1 : i < 2 ^ 64) : (-(2 ^ 64) < i ∧ i < 2 ^ 64) ∨ (-(2 ^ 64) < j ∧ j < 2 ^ 64) := .inl ⟨by omega, h1⟩
theorem divW {i n : Int} (h0 : 0 < n) (h1 : n < 2 ^ 30) : CDivW i n := wide_div (b := 30) h0 (by omega) (by decide) (by decide)
def txD : List PyData := [.str "", .str "a web is expected", .str "{0}", .str "no"]
def thD : List PyData := [.int 0, .int (-1), .int 40, .int ((10 : Int) ^ (39 : Int).toNat), .none, .bool true, .str "a", .tuple [], .tuple [.str "a", .int 1], .dict [(.str "a", .int 0), (.str "b", .int 2)], .list [.int 1, .list [.int 2]], .dict []]
def spOne (K : PySem.W.Frag) : Sp := fun vs H Q _ => ∃ (a l : Addr) (xs : List V), vs = [.ref a, .ref l] ∧ H a = some (diceO a) ∧ SqL K H l xs ∧ 0 < xs.length ∧ xs.length ≤ 1000 ∧ ∀ x ∈ xs, Q x H
def spThing (K : PySem.W.Frag) : Sp := fun vs H Q _ => ∃ (a : Addr) (n : Int), vs = [.ref a, .int n] ∧ H a = some (diceO a) ∧ ∀ H' v d, Ex H H' → d ∈ txD ++ thD → Th K H' v d → Q v H'
theorem thAll_mem {K : PySem.W.Frag} {H : Hp} : ∀ {vs : List V} {ds : List PyData}, ThAll K H vs ds → ∀ v ∈ vs, ∃ d ∈ ds, Th K H v d
  | _, _, .nil, v, h => nomatch h
  | _, _, .cons h a, v, hm => by
    rcases List.mem_cons.mp hm with rfl | hm
    · exact ⟨_, List.mem_cons_self, h⟩
    · obtain ⟨d, h1, h2⟩ := thAll_mem a v hm
      exact ⟨d, List.mem_cons_of_mem _ h1, h2⟩
section
variable {P : Program} {w : World} {K : PySem.W.Frag} {mg : Str → Option Value} {base : Heap} {AA : Ads}
theorem ok_law_roll (T : Txt K mg AA) : FnOk P w K mg base CX0 1 AA.a_law_roll AA.d_law_roll ["_law_dice_here", "_law_total"] spRoll := by
  refine T.F_law_roll.ok sc_law_roll (fun vs H Q E h => ?_) (fun cdv A outer s H vs Q E hr h => ?_)
  · obtain ⟨a, n, rfl, _⟩ := h
    rfl
  · obtain ⟨a, n, rfl, ha, h0, h1, k⟩ := h
    refine ⟨_, (pss_cons (ps_if (pt_cmpR op_gt (pe_ix ix_dice (pv 0) pe_int (fun _ _ => rfl)) pe_int (nomark _)) (pss_cons (ps_set (i := 4) sc_law_roll.nd rfl (Or.inl rfl) (pe_op op_mod (pe_callTy call_int1 (by rfl) T.n_int (by decide +kernel) (pa_cons (pe_ix ix_dice (pv 0) pe_int (fun _ _ => rfl)) pa_nil)) (pv 1)))
    (pss_cons (ps_asg (pe_op op_fdivW (pe_ix ix_dice (pv 0) pe_int (fun _ _ => rfl)) (pv 1)) (pg_sub (pv 0) pe_int set_dice))
    (pss_one (ps_ret (pv 4))))) pss_nil)
    (pss_cons (ps_asg (pe_op op_add (pe_ix ix_dice (pv 0) pe_int (fun _ _ => rfl)) pe_int) (pg_sub (pv 0) pe_int set_dice))
    (pss_cons (ps_set (i := 2) sc_law_roll.nd rfl (Or.inl rfl) (pe_op op_mod (pe_callTy call_int1 (by rfl) T.n_int (by decide +kernel) (pa_cons (pe_op op_add (pe_ix ix_dice (pv 0) pe_int (fun _ _ => rfl)) (pe_op op_mul pe_int (pe_ix ix_dice (pv 0) pe_int (fun _ _ => rfl)))) pa_nil)) pe_int))
    (pss_cons (ps_set (i := 3) sc_law_roll.nd rfl (Or.inl rfl) (pe_op op_add (pe_op op_mul (pe_op op_mod (pe_callTy call_int1 (by rfl) T.n_int (by decide +kernel) (pa_cons (pe_op op_mul (pv 2) (pv 2)) pa_nil)) pe_int) (pv 2)) (pe_op op_mul pe_int (pe_ix ix_dice (pv 0) pe_int (fun _ _ => rfl)))))
    (pss_cons (ps_set (i := 3) sc_law_roll.nd rfl (Or.inl rfl) (pe_op op_mod (pe_callTy call_int1 (by rfl) T.n_int (by decide +kernel) (pa_cons (pv 3) pa_nil)) pe_int))
    (pss_one (ps_ret (pe_op op_mod (pe_callTy call_int1 (by rfl) T.n_int (by decide +kernel) (pa_cons (pe_op op_fdivW (pv 3) pe_int) pa_nil)) (pv 1))))))))), ?_⟩
    refine ⟨_, rfl, a, 0, rfl, rfl, ha, .inl rfl, fun x0 => ⟨_, _, rfl, rfl, _, rfl, ?_⟩⟩
    by_cases c : 0 < x0
    · refine if_t (decide_eq_true c) ?_
      refine ⟨_, rfl, a, 0, rfl, rfl, ha, .inl rfl, fun x1 => .inl ⟨_, rfl, _, rfl, _, _, rfl, rfl, h0, ?_⟩⟩
      refine ⟨_, rfl, a, 0, rfl, rfl, ha, .inl rfl, fun x2 => ⟨_, rfl, _, _, rfl, rfl, divW h0 h1, _, rfl, a, 0, _, rfl, rfl, rfl, ha, .inl rfl, ?_⟩⟩
      exact ⟨_, rfl, k _ (Int.emod_nonneg _ (by omega)) (Int.emod_lt_of_pos _ h0)⟩
    · refine if_f (decide_eq_false c) ?_
      refine ⟨_, rfl, a, 2, rfl, rfl, ha, .inr (.inr rfl), fun x1 => ⟨_, _, rfl, rfl, _, rfl, a, 2, _, rfl, rfl, rfl, ha, .inr (.inr rfl), ?_⟩⟩
      refine ⟨_, rfl, a, 1, rfl, rfl, ha, .inr (.inl rfl), fun x2 => ⟨_, rfl, a, 2, rfl, rfl, ha, .inr (.inr rfl), fun x3 => ⟨_, _, rfl, rfl, .inl (by decide), _, _, rfl, rfl, .inl ⟨_, rfl, _, _, rfl, rfl, (by dsimp only; omega), ?_⟩⟩⟩⟩
      have y0 : 0 ≤ (x2 + 1000193 * x3) % 2305843009213693951 := Int.emod_nonneg _ (by decide)
      have y1 : (x2 + 1000193 * x3) % 2305843009213693951 < 2305843009213693951 := Int.emod_lt_of_pos _ (by decide)
      refine ⟨_, rfl, _, rfl, _, _, rfl, rfl, small_mul y0 (by omega), .inl ⟨_, rfl, _, _, rfl, rfl, (by dsimp only; omega), _, rfl, _, _, rfl, rfl, ?_, _, rfl, a, 2, rfl, rfl, ha, .inr (.inr rfl), fun x4 => ⟨_, _, rfl, rfl, .inl (by decide), _, _, rfl, rfl, ?_⟩⟩⟩
      · exact .inr ⟨by omega, by omega⟩
      refine ⟨_, rfl, .inl ⟨_, rfl, _, _, rfl, rfl, (by dsimp only; omega), ?_⟩⟩
      refine ⟨_, rfl, _, _, rfl, rfl, divW (by decide) (by decide), .inl ⟨_, rfl, _, rfl, _, _, rfl, rfl, h0, k _ (Int.emod_nonneg _ (by omega)) (Int.emod_lt_of_pos _ h0)⟩⟩
theorem ok_law_dice (T : Txt K mg AA) : FnOk P w K mg base CX0 1 AA.a_law_dice AA.d_law_dice ["_law_script", "_law_at"] (spDice K) := by
  refine T.F_law_dice.ok sc_law_dice (fun vs H Q E h => ?_) (fun cdv A outer s H vs Q E hr h => ?_)
  · obtain ⟨a, ns, k, rfl, _⟩ := h
    rfl
  · obtain ⟨a, ns, k, rfl, ha, h0, q⟩ := h
    refine ⟨_, (pss_cons (ps_set (i := 2) sc_law_dice.nd rfl (Or.inl rfl) (pe_op op_add (pe_op op_mul pe_int (pv 1)) pe_int))
    (pss_cons (ps_if (pt_cmpR op_lt (pv 1) (pe_callB call_len_seq (by rfl) T.n_len (by decide +kernel) (pa_cons (pv 0) pa_nil)) (nomark _)) (pss_one (ps_set (i := 2) sc_law_dice.nd rfl (Or.inl rfl) (pe_ix ix_list (pv 0) (pv 1) (fun _ _ => rfl)))) pss_nil)
    (pss_cons (ps_set (i := 3) sc_law_dice.nd rfl (Or.inl rfl) (pe_op op_mod (pe_callTy call_int1 (by rfl) T.n_int (by decide +kernel) (pa_cons (pe_callB call_abs (by rfl) T.n_abs (by decide +kernel) (pa_cons (pv 2) pa_nil)) pa_nil)) (pe_op op_powW (pe_op op_pow pe_int pe_int) pe_int)))
    (pss_cons (ps_set (i := 4) sc_law_dice.nd rfl (Or.inl rfl) (pe_op op_add (pe_op op_add (pe_op op_add (pe_op op_mul (pe_op op_mod (pe_callTy call_int1 (by rfl) T.n_int (by decide +kernel) (pa_cons (pv 3) pa_nil)) pe_int) pe_int) (pe_op op_mul pe_int (pv 1))) (pe_op op_mul pe_int (pe_callTy call_int1 (by rfl) T.n_int (by decide +kernel) (pa_cons (pe_cmpR op_lt (pv 2) pe_int (nomark _)) pa_nil)))) pe_int))
    (pss_one (ps_ret (pe_shut (pe_lst (pa_cons (pe_callB (call_max2 rfl) (by rfl) T.n_max (by decide +kernel) (pa_cons pe_int (pa_cons (pe_op op_sub (pv 3) (pe_op op_pow pe_int pe_int)) pa_nil))) (pa_cons (pe_op op_mod (pe_callTy call_int1 (by rfl) T.n_int (by decide +kernel) (pa_cons (pv 4) pa_nil)) pe_int) (pa_cons pe_int pa_nil))))))))))), ?_⟩
    refine ⟨_, rfl, _, _, rfl, rfl, .inl (by decide), _, _, rfl, rfl, ?_⟩
    refine ⟨_, rfl, _, rfl, a, _, rfl, .inl ha, _, _, rfl, rfl, _, rfl, ?_⟩
    have hlow : ∀ x : Int, 0 ≤ x % 2147483549 ∧ x % 2147483549 < 2147483549 := fun x => ⟨Int.emod_nonneg _ (by decide), Int.emod_lt_of_pos _ (by decide)⟩
    have hpow : CPowW ((10 : Int) ^ (60 : Int).toNat) 10 := ⟨by decide, by decide +kernel⟩
    have hpos : (0 : Int) < ((10 : Int) ^ (60 : Int).toNat) ^ (10 : Int).toNat := by decide +kernel
    by_cases c : k < ((ns.map V.int).length : Int)
    · refine if_t (decide_eq_true c) ?_
      rw [List.length_map] at c
      obtain ⟨j, ej⟩ : ∃ j : Nat, k = (j : Int) := ⟨k.toNat, by omega⟩
      obtain ⟨x, hx⟩ : ∃ x, ns[j]? = some x := ⟨ns[j]'(by omega), List.getElem?_eq_getElem _⟩
      refine ⟨_, rfl, _, rfl, a, _, _, _, rfl, rfl, ha, at_of (j := j) (v := V.int x) ej (by rw [List.getElem?_map, hx]; rfl), ?_⟩
      refine ⟨_, rfl, _, rfl, .inl ⟨_, rfl, _, _, rfl, rfl, ⟨by decide, by decide, by decide⟩, _, _, rfl, rfl, hpow, _, _, rfl, rfl, hpos, ?_⟩⟩
      refine ⟨_, rfl, .inl ⟨_, rfl, _, _, rfl, rfl, (by dsimp only; omega), _, _, rfl, rfl, .inr (by decide), _, rfl, _, _, rfl, rfl, .inl (by decide), _, _, rfl, rfl, _, rfl, _, _, rfl, rfl, .inr ⟨_, rfl, _, _, rfl, rfl, .inl (by decide), _, _, rfl, rfl, _, _, rfl, rfl, ?_⟩⟩⟩
      refine ⟨_, rfl, _, _, rfl, rfl, ⟨by decide, by decide, by decide⟩, _, _, rfl, rfl, _, _, rfl, _, rfl, .inl ⟨_, rfl, _, _, rfl, rfl, (by dsimp only; omega), (by show 3 ≤ sizeLine; decide), fun p hp => ⟨p, _, _, _, rfl, upd_same, ?_⟩⟩⟩
      rw [upd_upd]
      exact q p hp
    · refine if_f (decide_eq_false c) ?_
      refine ⟨_, rfl, _, rfl, .inl ⟨_, rfl, _, _, rfl, rfl, ⟨by decide, by decide, by decide⟩, _, _, rfl, rfl, hpow, _, _, rfl, rfl, hpos, ?_⟩⟩
      refine ⟨_, rfl, .inl ⟨_, rfl, _, _, rfl, rfl, (by dsimp only; omega), _, _, rfl, rfl, .inr (by decide), _, rfl, _, _, rfl, rfl, .inl (by decide), _, _, rfl, rfl, _, rfl, _, _, rfl, rfl, .inr ⟨_, rfl, _, _, rfl, rfl, .inl (by decide), _, _, rfl, rfl, _, _, rfl, rfl, ?_⟩⟩⟩
      refine ⟨_, rfl, _, _, rfl, rfl, ⟨by decide, by decide, by decide⟩, _, _, rfl, rfl, _, _, rfl, _, rfl, .inl ⟨_, rfl, _, _, rfl, rfl, (by dsimp only; omega), (by show 3 ≤ sizeLine; decide), fun p hp => ⟨p, _, _, _, rfl, upd_same, ?_⟩⟩⟩
      rw [upd_upd]
      exact q p hp
theorem ok_law_one_of (T : Txt K mg AA) : FnOk P w K mg base CX0 2 AA.a_law_one_of AA.d_law_one_of ["_law_dice_here", "_law_items"] (spOne K) := by
  have G_law_roll : FnOk P w K mg base CX0 1 AA.a_law_roll AA.d_law_roll ["_law_dice_here", "_law_total"] spRoll := ok_law_roll T
  refine T.F_law_one_of.ok sc_law_one_of (fun vs H Q E h => ?_) (fun cdv A outer s H vs Q E hr h => ?_)
  · obtain ⟨a, l, xs, rfl, _⟩ := h
    rfl
  · obtain ⟨a, l, xs, rfl, ha, hl, h0, h1, q⟩ := h
    refine ⟨_, (pss_one (ps_ret (pe_ix ix_list (pv 1) (pe_call G_law_roll (hr.mono (by decide)) (by rfl) T.g_law_roll T.k_law_roll T.b_law_roll .nil pass0 (pa_cons (pv 0) (pa_cons (pe_callB call_len_seq (by rfl) T.n_len (by decide +kernel) (pa_cons (pv 1) pa_nil)) pa_nil))) (fun _ _ => rfl)))), ?_⟩
    refine ⟨_, rfl, _, rfl, _, rfl, l, xs, rfl, .inl hl, a, _, rfl, ha, by omega, by omega, fun i i0 i1 => ?_⟩
    obtain ⟨j, ej⟩ : ∃ j : Nat, i = (j : Int) := ⟨i.toNat, by omega⟩
    obtain ⟨x, hx⟩ : ∃ x, xs[j]? = some x := ⟨xs[j]'(by omega), List.getElem?_eq_getElem _⟩
    exact ⟨l, xs, i, x, rfl, rfl, hl, at_of (j := j) ej hx, q x (List.mem_of_getElem? hx)⟩
theorem ok_law_thing (T : Txt K mg AA) : FnOk P w K mg base CX0 3 AA.a_law_thing AA.d_law_thing ["_law_dice_here", "_law_number"] (spThing K) := by
  have G_law_one_of : FnOk P w K mg base CX0 2 AA.a_law_one_of AA.d_law_one_of ["_law_dice_here", "_law_items"] (spOne K) := ok_law_one_of T
  refine T.F_law_thing.ok sc_law_thing (fun vs H Q E h => ?_) (fun cdv A outer s H vs Q E hr h => ?_)
  · obtain ⟨a, n, rfl, _⟩ := h
    rfl
  · obtain ⟨a, n, rfl, ha, q⟩ := h
    refine ⟨_, (pss_cons (ps_set (i := 2) sc_law_thing.nd rfl (Or.inl rfl) (pe_lstN (pa_cons pe_str (pa_cons pe_str (pa_cons pe_str (pa_cons pe_str pa_nil))))))
    (pss_cons (ps_set (i := 3) sc_law_thing.nd rfl (Or.inl rfl) (pe_lstN (pa_cons pe_int (pa_cons (pe_un un_neg pe_int) (pa_cons pe_int (pa_cons (pe_op op_pow pe_int pe_int) (pa_cons pe_non (pa_cons pe_bl (pa_cons pe_str (pa_cons (pe_tup pa_nil) (pa_cons (pe_tup (pa_cons pe_str (pa_cons pe_int pa_nil))) (pa_cons (pe_disp (pps_cons pe_str pe_int (pps_cons pe_str pe_int pps_nil)) rfl rfl (by intro q; cases q) (by decide)) (pa_cons (pe_lstN (pa_cons pe_int (pa_cons (pe_lstN (pa_cons pe_int pa_nil)) pa_nil))) (pa_cons pe_dnewK pa_nil))))))))))))))
    (pss_one (ps_ret (pe_call G_law_one_of (hr.mono (by decide)) (by rfl) T.g_law_one_of T.k_law_one_of T.b_law_one_of .nil pass0 (pa_cons (pv 0) (pa_cons (pe_ifExp (pt_cmpR op_lt (pv 1) pe_int (nomark _)) (pv 2) (pv 3)) pa_nil))))))), ?_⟩
    refine ⟨(by show 4 ≤ sizeLine; decide), fun l1 n1 m1 => ?_⟩
    generalize hA1 : upd H l1 _ = A1 at *
    have x1 : Ex H A1 := by rw [← hA1]; exact Ex.new n1
    have g1 : A1 l1 = some (.lst [.str "", .str "a web is expected", .str "{0}", .str "no"]) := by rw [← hA1]; exact upd_same
    refine ⟨_, rfl, _, _, rfl, rfl, ⟨by decide, by decide, by decide⟩, (by show 0 ≤ sizeLine; decide), fun t0 k0 => ⟨(by show 2 ≤ sizeLine; decide), fun t1 k1 => ?_⟩⟩
    generalize hA2 : upd A1 t0 _ = A2 at *
    have x2 : Ex A1 A2 := by rw [← hA2]; exact Ex.new k0
    have g2 : A2 t0 = some (.tup []) := by rw [← hA2]; exact upd_same
    generalize hA3 : upd A2 t1 _ = A3 at *
    have x3 : Ex A2 A3 := by rw [← hA3]; exact Ex.new k1
    have g3 : A3 t1 = some (.tup [.str "a", .int 1]) := by rw [← hA3]; exact upd_same
    refine fun p np => ⟨upd_same, [(.inr "a", .int 0), (.inr "b", .int 2)], rfl, by decide, ?_⟩
    rw [upd_upd]
    refine ⟨(by show 1 ≤ sizeLine; decide), fun u0 ku0 mu0 => ⟨(by show 2 ≤ sizeLine; decide), fun u1 ku1 mu1 => ?_⟩⟩
    generalize hA4 : upd A3 p _ = A4 at *
    have x4 : Ex A3 A4 := by rw [← hA4]; exact Ex.new np
    have g4 : A4 p = some (.dK [(.inr "a", .int 0), (.inr "b", .int 2)]) := by rw [← hA4]; exact upd_same
    generalize hA5 : upd A4 u0 _ = A5 at *
    have x5 : Ex A4 A5 := by rw [← hA5]; exact Ex.new ku0
    have g5 : A5 u0 = some (.lst [.int 2]) := by rw [← hA5]; exact upd_same
    generalize hA6 : upd A5 u1 _ = A6 at *
    have x6 : Ex A5 A6 := by rw [← hA6]; exact Ex.new ku1
    have g6 : A6 u1 = some (.lst [.int 1, .ref u0]) := by rw [← hA6]; exact upd_same
    refine fun e ke => ⟨(by show 12 ≤ sizeLine; decide), fun l2 n2 m2 => ?_⟩
    generalize hA7 : upd A6 e _ = A7 at *
    have x7 : Ex A6 A7 := by rw [← hA7]; exact Ex.new ke
    have g7 : A7 e = some (.dK []) := by rw [← hA7]; exact upd_same
    generalize hA8 : upd A7 l2 _ = A8 at *
    have x8 : Ex A7 A8 := by rw [← hA8]; exact Ex.new n2
    have g8 : A8 l2 = some (.lst [.int 0, .int (-1), .int 40, .int ((10 : Int) ^ (39 : Int).toNat), .non, .bl true, .str "a", .ref t0, .ref t1, .ref p, .ref u1, .ref e]) := by rw [← hA8]; exact upd_same
    have z7 : Ex A6 A8 := x7.trans x8
    have z6 : Ex A5 A8 := x6.trans z7
    have z5 : Ex A4 A8 := x5.trans z6
    have z4 : Ex A3 A8 := x4.trans z5
    have z3 : Ex A2 A8 := x3.trans z4
    have z2 : Ex A1 A8 := x2.trans z3
    have z1 : Ex H A8 := x1.trans z2
    have th2 : ThAll K A8 [.int 0, .int (-1), .int 40, .int ((10 : Int) ^ (39 : Int).toNat), .non, .bl true, .str "a", .ref t0, .ref t1, .ref p, .ref u1, .ref e] thD :=
      .cons (.int _) (.cons (.int _) (.cons (.int _) (.cons (.int _) (.cons .non (.cons (.bl _) (.cons (.str _) (.cons (.tup (SqT.of (z3 _ _ g2)) .nil) (.cons (.tup (SqT.of (z4 _ _ g3)) (.cons (.str _) (.cons (.int _) .nil)))
        (.cons (.dic (ds := [.int 0, .int 2]) (z5 _ _ g4) (.cons (.int _) (.cons (.int _) .nil))) (.cons (.lst (SqL.of (z7 _ _ g6)) mu1 (.cons (.int _) (.cons (.lst (SqL.of (z6 _ _ g5)) mu0 (.cons (.int _) .nil)) .nil))) (.cons (.dic (ds := []) (x8 _ _ g7) .nil) .nil)))))))))))
    have th1 : ThAll K A8 [.str "", .str "a web is expected", .str "{0}", .str "no"] txD := .cons (.str _) (.cons (.str _) (.cons (.str _) (.cons (.str _) .nil)))
    refine ⟨_, rfl, _, rfl, _, _, rfl, rfl, _, rfl, ?_⟩
    by_cases c : n < 10
    · refine if_t (decide_eq_true c) ?_
      refine ⟨_, rfl, a, l1, _, rfl, z1 _ _ ha, SqL.of (z2 _ _ g1), by decide, by decide, fun x hx => ?_⟩
      obtain ⟨d, hd, ht⟩ := thAll_mem th1 x hx
      exact q A8 x d z1 (List.mem_append.mpr (.inl hd)) ht
    · refine if_f (decide_eq_false c) ?_
      refine ⟨_, rfl, a, l2, _, rfl, z1 _ _ ha, SqL.of g8, (by show 0 < 12; decide), (by show 12 ≤ 1000; decide), fun x hx => ?_⟩
      obtain ⟨d, hd, ht⟩ := thAll_mem th2 x hx
      exact q A8 x d z1 (List.mem_append.mpr (.inr hd)) ht
end
end K0
namespace K0
open PySem L2 Kd Evl
def keptF : Nat → V → V → List (Str × V)
  | 10, v, _ => [("value", v)]
  | 11, v, _ => [("name", v)]
  | 12, v, _ => [("limit", v)]
  | 13, v, _ => [("place", v)]
  | 14, v, o => [("place", v), ("index", o)]
  | _, v, _ => [("many", v)]
/-- an error with a number, as it is kept -/
def ErK (H : Hp) (A : Ads) (p : Addr) (n : Nat) (v o : V) : Prop := (n < 10 ∧ H p = some (ExO (.ref (cA A n)) p)) ∨ (10 ≤ n ∧ ∃ d, H p = some (exo p (cA A n) (some d)) ∧ H d = some (exd d (keptF n v o)))
theorem ErK.ex {H H' : Hp} {A : Ads} {p : Addr} {n : Nat} {v o : V} (h : ErK H A p n v o) (x : Ex H H') : ErK H' A p n v o := by
  rcases h with ⟨h1, h2⟩ | ⟨h1, d, h2, h3⟩
  · exact .inl ⟨h1, x _ _ h2⟩
  · exact .inr ⟨h1, d, x _ _ h2, x _ _ h3⟩
theorem ErK.er {H : Hp} {A : Ads} {p : Addr} {n : Nat} {v o : V} (h : ErK H A p n v o) : ErO H p (cA A n) := by
  rcases h with ⟨_, h2⟩ | ⟨_, d, h2, h3⟩
  · exact .inl h2
  · exact .inr ⟨d, _, h2, h3⟩
def spErr (A : Ads) : Sp := fun vs H Q _ => ∃ (n : Nat) (v o : V), vs = [.int n, v, o] ∧ n < 16 ∧ ∀ H' p, Ex H H' → ErK H' A p n v o → Q (.ref p) H'
theorem ex_xm {H : Hp} {e d : Addr} {o1 o2 o3 : HO} (ke : H e = none) (kd : upd H e o1 d = none) : Ex H (upd (upd (upd H e o1) d o2) e o3) := Ex.mut ((Ex.new ke).trans (Ex.new kd)) ke
section
variable {P : Program} {w : World} {K : PySem.W.Frag} {mg : Str → Option Value} {base : Heap} {AA : Ads}
theorem ok_law_error (T : Txt K mg AA) : FnOk P w K mg base CX0 3 AA.a_law_error AA.d_law_error ["_law_number", "_law_thing_here", "_law_other"] (spErr AA) := by
  have G_InvalidNumber_init : FnOk P w K mg base CX0 1 AA.a_InvalidNumber_init AA.d_InvalidNumber_init ["self", "value"] (spIni "value" AA.C_InvalidNumber) := ok_InvalidNumber_init T
  have G_UnknownName_init : FnOk P w K mg base CX0 1 AA.a_UnknownName_init AA.d_UnknownName_init ["self", "name"] (spIni "name" AA.C_UnknownName) := ok_UnknownName_init T
  have G_TooMany_init : FnOk P w K mg base CX0 1 AA.a_TooMany_init AA.d_TooMany_init ["self", "limit"] (spIni "limit" AA.C_TooMany) := ok_TooMany_init T
  have G_NoPlace_init : FnOk P w K mg base CX0 1 AA.a_NoPlace_init AA.d_NoPlace_init ["self", "place"] (spIni "place" AA.C_NoPlace) := ok_NoPlace_init T
  have G_Banned_init : FnOk P w K mg base CX0 1 AA.a_Banned_init AA.d_Banned_init ["self", "index", "place"] (spIni2 "index" "place" AA.C_Banned) := ok_Banned_init T
  have G_NothingToUndo_init : FnOk P w K mg base CX0 1 AA.a_NothingToUndo_init AA.d_NothingToUndo_init ["self", "many"] (spIni "many" AA.C_NothingToUndo) := ok_NothingToUndo_init T
  refine T.F_law_error.ok sc_law_error (fun vs H Q E h => ?_) (fun cdv A outer s H vs Q E hr h => ?_)
  · obtain ⟨n, v, o, rfl, _⟩ := h
    rfl
  · obtain ⟨n, v, o, rfl, hn, q⟩ := h
    refine ⟨_, (pss_cons (ps_if (pt_cmpR op_lt (pv 0) pe_int (nomark _)) (pss_one (ps_ret (pe_ix ix_list (pe_lst (pa_cons (pe_exc1 PySem.F.excBase_ValueError T.x_InvalidSheet T.g_InvalidSheet T.k_InvalidSheet (by rfl) (pv 1)) (pa_cons (pe_exc1 PySem.F.excBase_ValueError T.x_InvalidWeb T.g_InvalidWeb T.k_InvalidWeb (by rfl) (pv 1)) (pa_cons (pe_exc1 PySem.F.excBase_ValueError T.x_InvalidShape T.g_InvalidShape T.k_InvalidShape (by rfl) (pv 1)) (pa_cons (pe_exc1 PySem.F.excBase_ValueError T.x_InvalidSketch T.g_InvalidSketch T.k_InvalidSketch (by rfl) (pv 1)) (pa_cons (pe_exc1 PySem.F.excBase_ValueError T.x_InvalidRule T.g_InvalidRule T.k_InvalidRule (by rfl) (pv 1)) pa_nil)))))) (pv 0) (fun _ _ => rfl)))) pss_nil)
    (pss_cons (ps_if (pt_cmpR op_lt (pv 0) pe_int (nomark _)) (pss_one (ps_ret (pe_ix ix_list (pe_lst (pa_cons (pe_exc1 PySem.F.excBase_ValueError T.x_InvalidBans T.g_InvalidBans T.k_InvalidBans (by rfl) (pv 1)) (pa_cons (pe_exc1 PySem.F.excBase_ValueError T.x_InvalidProgram T.g_InvalidProgram T.k_InvalidProgram (by rfl) (pv 1)) (pa_cons (pe_exc1 PySem.F.excBase_ValueError T.x_InvalidOperation T.g_InvalidOperation T.k_InvalidOperation (by rfl) (pv 1)) (pa_cons (pe_exc1 PySem.F.excBase_ValueError T.x_InvalidDeed T.g_InvalidDeed T.k_InvalidDeed (by rfl) (pv 1)) (pa_cons (pe_exc1 PySem.F.excBase_ValueError T.x_ParseError T.g_ParseError T.k_ParseError (by rfl) (pv 1)) pa_nil)))))) (pe_op op_sub (pv 0) pe_int) (fun _ _ => rfl)))) pss_nil)
    (pss_cons (ps_if (pt_cmpR op_eq (pv 0) pe_int (nomark _)) (pss_one (ps_ret (pe_xmake (ox_InvalidNumber T) T.m_InvalidNumber_init.at_ (beq_iff_eq.mp T.m_InvalidNumber_init.fn) G_InvalidNumber_init (hr.mono (by decide)) T.b_InvalidNumber_init (by rfl) T.g_InvalidNumber (pa_cons (pv 1) pa_nil)))) pss_nil)
    (pss_cons (ps_if (pt_cmpR op_eq (pv 0) pe_int (nomark _)) (pss_one (ps_ret (pe_xmake (ox_UnknownName T) T.m_UnknownName_init.at_ (beq_iff_eq.mp T.m_UnknownName_init.fn) G_UnknownName_init (hr.mono (by decide)) T.b_UnknownName_init (by rfl) T.g_UnknownName (pa_cons (pv 1) pa_nil)))) pss_nil)
    (pss_cons (ps_if (pt_cmpR op_eq (pv 0) pe_int (nomark _)) (pss_one (ps_ret (pe_xmake (ox_TooMany T) T.m_TooMany_init.at_ (beq_iff_eq.mp T.m_TooMany_init.fn) G_TooMany_init (hr.mono (by decide)) T.b_TooMany_init (by rfl) T.g_TooMany (pa_cons (pv 1) pa_nil)))) pss_nil)
    (pss_cons (ps_if (pt_cmpR op_eq (pv 0) pe_int (nomark _)) (pss_one (ps_ret (pe_xmake (ox_NoPlace T) T.m_NoPlace_init.at_ (beq_iff_eq.mp T.m_NoPlace_init.fn) G_NoPlace_init (hr.mono (by decide)) T.b_NoPlace_init (by rfl) T.g_NoPlace (pa_cons (pv 1) pa_nil)))) pss_nil)
    (pss_one (ps_ret (pe_ifExp (pt_cmpR op_eq (pv 0) pe_int (nomark _)) (pe_xmake (ox_Banned T) T.m_Banned_init.at_ (beq_iff_eq.mp T.m_Banned_init.fn) G_Banned_init (hr.mono (by decide)) T.b_Banned_init (by rfl) T.g_Banned (pa_cons (pv 2) (pa_cons (pv 1) pa_nil))) (pe_xmake (ox_NothingToUndo T) T.m_NothingToUndo_init.at_ (beq_iff_eq.mp T.m_NothingToUndo_init.fn) G_NothingToUndo_init (hr.mono (by decide)) T.b_NothingToUndo_init (by rfl) T.g_NothingToUndo (pa_cons (pv 1) pa_nil))))))))))), ?_⟩
    refine ⟨_, rfl, _, _, rfl, rfl, _, rfl, ?_⟩
    by_cases c : (n : Int) < 5
    · refine if_t (decide_eq_true c) ?_
      refine ⟨_, rfl, fun e0 k0 => ⟨_, rfl, fun e1 k1 => ⟨_, rfl, fun e2 k2 => ⟨_, rfl, fun e3 k3 => ⟨_, rfl, fun e4 k4 => ⟨(by show 5 ≤ sizeLine; decide), fun l nl => ?_⟩⟩⟩⟩⟩⟩
      generalize hA0 : upd H e0 _ = A0 at *
      have x0 : Ex H A0 := by rw [← hA0]; exact Ex.new k0
      have g0 : A0 e0 = some (ExO (.ref (cA AA 0)) e0) := by rw [← hA0]; exact upd_same
      generalize hA1 : upd A0 e1 _ = A1 at *
      have x1 : Ex A0 A1 := by rw [← hA1]; exact Ex.new k1
      have g1 : A1 e1 = some (ExO (.ref (cA AA 1)) e1) := by rw [← hA1]; exact upd_same
      generalize hA2 : upd A1 e2 _ = A2 at *
      have x2 : Ex A1 A2 := by rw [← hA2]; exact Ex.new k2
      have g2 : A2 e2 = some (ExO (.ref (cA AA 2)) e2) := by rw [← hA2]; exact upd_same
      generalize hA3 : upd A2 e3 _ = A3 at *
      have x3 : Ex A2 A3 := by rw [← hA3]; exact Ex.new k3
      have g3 : A3 e3 = some (ExO (.ref (cA AA 3)) e3) := by rw [← hA3]; exact upd_same
      generalize hA4 : upd A3 e4 _ = A4 at *
      have x4 : Ex A3 A4 := by rw [← hA4]; exact Ex.new k4
      have g4 : A4 e4 = some (ExO (.ref (cA AA 4)) e4) := by rw [← hA4]; exact upd_same
      generalize hA5 : upd A4 l _ = A5 at *
      have x5 : Ex A4 A5 := by rw [← hA5]; exact Ex.new nl
      have g5 : A5 l = some (.lst [.ref e0, .ref e1, .ref e2, .ref e3, .ref e4]) := by rw [← hA5]; exact upd_same
      have z4 : Ex A4 A5 := x5
      have z3 : Ex A3 A5 := x4.trans z4
      have z2 : Ex A2 A5 := x3.trans z3
      have z1 : Ex A1 A5 := x2.trans z2
      have z0 : Ex A0 A5 := x1.trans z1
      have zH : Ex H A5 := x0.trans z0
      obtain rfl | rfl | rfl | rfl | rfl : n = 0 ∨ n = 1 ∨ n = 2 ∨ n = 3 ∨ n = 4 := by omega
      · exact ⟨_, rfl, l, _, _, _, rfl, rfl, SqL.of g5, at_of (j := 0) rfl rfl, q A5 e0 zH (.inl ⟨by decide, z0 _ _ g0⟩)⟩
      · exact ⟨_, rfl, l, _, _, _, rfl, rfl, SqL.of g5, at_of (j := 1) rfl rfl, q A5 e1 zH (.inl ⟨by decide, z1 _ _ g1⟩)⟩
      · exact ⟨_, rfl, l, _, _, _, rfl, rfl, SqL.of g5, at_of (j := 2) rfl rfl, q A5 e2 zH (.inl ⟨by decide, z2 _ _ g2⟩)⟩
      · exact ⟨_, rfl, l, _, _, _, rfl, rfl, SqL.of g5, at_of (j := 3) rfl rfl, q A5 e3 zH (.inl ⟨by decide, z3 _ _ g3⟩)⟩
      · exact ⟨_, rfl, l, _, _, _, rfl, rfl, SqL.of g5, at_of (j := 4) rfl rfl, q A5 e4 zH (.inl ⟨by decide, z4 _ _ g4⟩)⟩
    refine if_f (decide_eq_false c) ?_
    refine ⟨_, rfl, _, _, rfl, rfl, _, rfl, ?_⟩
    by_cases c2 : (n : Int) < 10
    · refine if_t (decide_eq_true c2) ?_
      refine ⟨_, rfl, fun e0 k0 => ⟨_, rfl, fun e1 k1 => ⟨_, rfl, fun e2 k2 => ⟨_, rfl, fun e3 k3 => ⟨_, rfl, fun e4 k4 => ⟨(by show 5 ≤ sizeLine; decide), fun l nl => ?_⟩⟩⟩⟩⟩⟩
      generalize hA0 : upd H e0 _ = A0 at *
      have x0 : Ex H A0 := by rw [← hA0]; exact Ex.new k0
      have g0 : A0 e0 = some (ExO (.ref (cA AA 5)) e0) := by rw [← hA0]; exact upd_same
      generalize hA1 : upd A0 e1 _ = A1 at *
      have x1 : Ex A0 A1 := by rw [← hA1]; exact Ex.new k1
      have g1 : A1 e1 = some (ExO (.ref (cA AA 6)) e1) := by rw [← hA1]; exact upd_same
      generalize hA2 : upd A1 e2 _ = A2 at *
      have x2 : Ex A1 A2 := by rw [← hA2]; exact Ex.new k2
      have g2 : A2 e2 = some (ExO (.ref (cA AA 7)) e2) := by rw [← hA2]; exact upd_same
      generalize hA3 : upd A2 e3 _ = A3 at *
      have x3 : Ex A2 A3 := by rw [← hA3]; exact Ex.new k3
      have g3 : A3 e3 = some (ExO (.ref (cA AA 8)) e3) := by rw [← hA3]; exact upd_same
      generalize hA4 : upd A3 e4 _ = A4 at *
      have x4 : Ex A3 A4 := by rw [← hA4]; exact Ex.new k4
      have g4 : A4 e4 = some (ExO (.ref (cA AA 9)) e4) := by rw [← hA4]; exact upd_same
      generalize hA5 : upd A4 l _ = A5 at *
      have x5 : Ex A4 A5 := by rw [← hA5]; exact Ex.new nl
      have g5 : A5 l = some (.lst [.ref e0, .ref e1, .ref e2, .ref e3, .ref e4]) := by rw [← hA5]; exact upd_same
      have z4 : Ex A4 A5 := x5
      have z3 : Ex A3 A5 := x4.trans z4
      have z2 : Ex A2 A5 := x3.trans z3
      have z1 : Ex A1 A5 := x2.trans z2
      have z0 : Ex A0 A5 := x1.trans z1
      have zH : Ex H A5 := x0.trans z0
      obtain rfl | rfl | rfl | rfl | rfl : n = 5 ∨ n = 6 ∨ n = 7 ∨ n = 8 ∨ n = 9 := by omega
      · exact ⟨_, rfl, _, _, rfl, rfl, l, _, _, _, rfl, rfl, SqL.of g5, at_of (j := 0) rfl rfl, q A5 e0 zH (.inl ⟨by decide, z0 _ _ g0⟩)⟩
      · exact ⟨_, rfl, _, _, rfl, rfl, l, _, _, _, rfl, rfl, SqL.of g5, at_of (j := 1) rfl rfl, q A5 e1 zH (.inl ⟨by decide, z1 _ _ g1⟩)⟩
      · exact ⟨_, rfl, _, _, rfl, rfl, l, _, _, _, rfl, rfl, SqL.of g5, at_of (j := 2) rfl rfl, q A5 e2 zH (.inl ⟨by decide, z2 _ _ g2⟩)⟩
      · exact ⟨_, rfl, _, _, rfl, rfl, l, _, _, _, rfl, rfl, SqL.of g5, at_of (j := 3) rfl rfl, q A5 e3 zH (.inl ⟨by decide, z3 _ _ g3⟩)⟩
      · exact ⟨_, rfl, _, _, rfl, rfl, l, _, _, _, rfl, rfl, SqL.of g5, at_of (j := 4) rfl rfl, q A5 e4 zH (.inl ⟨by decide, z4 _ _ g4⟩)⟩
    refine if_f (decide_eq_false c2) ?_
    obtain rfl | rfl | rfl | rfl | rfl | rfl : n = 10 ∨ n = 11 ∨ n = 12 ∨ n = 13 ∨ n = 14 ∨ n = 15 := by omega
    · exact ⟨_, rfl, rfl, _, rfl, if_t (by decide) ⟨_, rfl, (by show 1 ≤ 1000; decide), fun e ke => ⟨e, _, rfl, upd_same, fun d kd ne => ⟨rfl, q _ e (ex_xm ke kd) (.inr ⟨by decide, d, upd_same, (by rw [upd_ne ne]; exact upd_same)⟩)⟩⟩⟩⟩
    · exact ⟨_, rfl, rfl, _, rfl, if_f (by decide) ⟨_, rfl, rfl, _, rfl, if_t (by decide) ⟨_, rfl, (by show 1 ≤ 1000; decide), fun e ke => ⟨e, _, rfl, upd_same, fun d kd ne => ⟨rfl, q _ e (ex_xm ke kd) (.inr ⟨by decide, d, upd_same, (by rw [upd_ne ne]; exact upd_same)⟩)⟩⟩⟩⟩⟩
    · exact ⟨_, rfl, rfl, _, rfl, if_f (by decide) ⟨_, rfl, rfl, _, rfl, if_f (by decide) ⟨_, rfl, rfl, _, rfl, if_t (by decide) ⟨_, rfl, (by show 1 ≤ 1000; decide), fun e ke => ⟨e, _, rfl, upd_same, fun d kd ne => ⟨rfl, q _ e (ex_xm ke kd) (.inr ⟨by decide, d, upd_same, (by rw [upd_ne ne]; exact upd_same)⟩)⟩⟩⟩⟩⟩⟩
    · exact ⟨_, rfl, rfl, _, rfl, if_f (by decide) ⟨_, rfl, rfl, _, rfl, if_f (by decide) ⟨_, rfl, rfl, _, rfl, if_f (by decide) ⟨_, rfl, rfl, _, rfl, if_t (by decide) ⟨_, rfl, (by show 1 ≤ 1000; decide), fun e ke => ⟨e, _, rfl, upd_same, fun d kd ne => ⟨rfl, q _ e (ex_xm ke kd) (.inr ⟨by decide, d, upd_same, (by rw [upd_ne ne]; exact upd_same)⟩)⟩⟩⟩⟩⟩⟩⟩
    · refine ⟨_, rfl, rfl, _, rfl, if_f (by decide) ⟨_, rfl, rfl, _, rfl, if_f (by decide) ⟨_, rfl, rfl, _, rfl, if_f (by decide) ⟨_, rfl, rfl, _, rfl, if_f (by decide) ⟨_, rfl, rfl, _, rfl, if_t (by decide) ⟨_, rfl, _, rfl, (by show 2 ≤ 1000; decide), fun e ke => ⟨e, _, _, rfl, upd_same, fun d kd ne => ⟨rfl, ?_⟩⟩⟩⟩⟩⟩⟩⟩
      have hd : H d = none := by rw [upd_ne ne] at kd; exact kd
      exact q _ e (Ex.mut (ex_xm ke kd) hd) (.inr ⟨by decide, d, (by rw [upd_ne (Ne.symm ne)]; exact upd_same), upd_same⟩)
    · exact ⟨_, rfl, rfl, _, rfl, if_f (by decide) ⟨_, rfl, rfl, _, rfl, if_f (by decide) ⟨_, rfl, rfl, _, rfl, if_f (by decide) ⟨_, rfl, rfl, _, rfl, if_f (by decide) ⟨_, rfl, rfl, _, rfl, if_f (by decide) ⟨_, rfl, (by show 1 ≤ 1000; decide), fun e ke => ⟨e, _, rfl, upd_same, fun d kd ne => ⟨rfl, q _ e (ex_xm ke kd) (.inr ⟨by decide, d, upd_same, (by rw [upd_ne ne]; exact upd_same)⟩)⟩⟩⟩⟩⟩⟩⟩⟩
end
end K0
namespace K0
open PySem L2 Kd Evl
def clsL (n : Nat) : List Bool := [decide (0 = n), decide (1 = n), decide (2 = n), decide (3 = n), decide (4 = n), decide (5 = n), decide (6 = n), decide (7 = n), decide (8 = n), decide (9 = n), decide (10 = n), decide (11 = n), decide (12 = n), decide (13 = n), decide (14 = n), decide (15 = n)]
def kindL (n : Nat) : List Bool := [decide (n < 10), (tlO n).contains (.type "ValueError"), (tlO n).contains (.type "IndexError"), (tlO n).contains (.type "KeyError"), (tlO n).contains (.type "LookupError"), (tlO n).contains (.type "OverflowError"), (tlO n).contains (.type "ArithmeticError"), (tlO n).contains (.type "RuntimeError")]
def dueI : Nat → List Int
  | 10 => [2, 4]
  | 11 => [3, 4]
  | 12 => [5, 6]
  | 13 => [4]
  | 14 => [7]
  | 15 => [6]
  | _ => [0, 1]
def dueL (n : Nat) : List Bool := (List.range 8).map fun i => inV (.int (0 + (i : Nat))) ((dueI n).map V.int)
theorem due_kind : ∀ n, n < 16 → kindL n = dueL n := by decide +kernel
theorem cls_due : ∀ n, n < 16 → clsL n = (List.range 16).map fun i => decide (V.int (0 + (i : Nat)) = V.int (n : Nat)) := by decide +kernel
theorem er_ex {H H' : Hp} {p C : Addr} (h : ErO H p C) (x : Ex H H') : ErO H' p C := by
  rcases h with h | ⟨d, fs, h1, h2⟩
  · exact .inl (x _ _ h)
  · exact .inr ⟨d, fs, x _ _ h1, x _ _ h2⟩
theorem lcN {i n : Nat} {te : TE} {σ : L2.St} {H1 : Hp} {D : Addr} {Qd : Hp → Prop} (hD : H1 D = none) (hz : n < sizeLine) (f : Nat → V) (hw : ∀ v, wipe ((wipe σ [i]).set i v) [i] = wipe σ [i])
    (he : ∀ (k : Nat) H, k < n → Ex H1 H → Ev te ((wipe σ [i]).set i (some (.int (0 + (k : Nat))))) H (f k)) (hq : ∀ H, Ex H1 H → H D = some (.lst ((List.range n).map f)) → Qd H) :
    ∃ W : Nat → Nat → Hp → Prop, (∃ m, W 0 m (upd H1 D (.lst []))) ∧ ∀ k m H, W k m H →
      ((Itr 0 n).stop k H ∧ Qd H) ∨ ((Itr 0 n).go k H ∧ ∃ Nx : Hp → Prop, (∀ H', Nx H' → ∃ m', m' < m ∧ W (k + 1) m' H') ∧ ∀ x H', (Itr 0 n).yld k H x H' → gName i x (wipe σ [i]) H' fun σ2 H2 => wipe σ2 [i] = wipe σ [i] ∧ tYes σ2 H2 fun b H3 =>
        if b = true then te σ2 H3 fun y H4 => ∃ acc, H4 D = some (.lst acc) ∧ acc.length < sizeLine ∧ Nx (upd H4 D (.lst (acc ++ [y]))) else Nx H3) := by
  refine lc_range (fun k H => Ex H1 H ∧ H D = some (.lst ((List.range k).map f))) ⟨Ex.mut (Ex.refl H1) hD, upd_same⟩ ?_ (fun H h => hq H h.1 h.2)
  rintro k H hk ⟨e, hd⟩
  refine ⟨hw _, ?_⟩
  unfold tYes
  dsimp only
  rw [if_pos rfl]
  refine he k H hk e H (Ex.refl _) _ fun H4 e4 => ⟨_, e4 _ _ hd, ?_, Ex.mut (e.trans e4) hD, ?_⟩
  · rw [List.length_map, List.length_range]
    omega
  · rw [upd_same, List.range_succ, List.map_append]
    rfl
def spBools (A : Ads) (L : Nat → List Bool) : Sp := fun vs H Q _ => ∃ (n : Nat) (p : Addr), vs = [.ref p] ∧ n < 16 ∧ ErO H p (cA A n) ∧ ∀ H' l, Ex H H' → H' l = some (.lst ((L n).map V.bl)) → Q (.ref l) H'
def spDue : Sp := fun vs H Q _ => ∃ (n : Nat), vs = [.int n] ∧ n < 16 ∧ ∀ H' l, Ex H H' → H' l = some (.lst ((dueL n).map V.bl)) → Q (.ref l) H'
def keptV (n : Nat) (v o : V) : List V := if n = 14 then [o, v] else [v]
def spKept (A : Ads) : Sp := fun vs H Q _ => ∃ (n : Nat) (p : Addr) (v o : V), vs = [.int n, .ref p] ∧ 10 ≤ n ∧ n < 16 ∧ ErK H A p n v o ∧ ∀ H' l, Ex H H' → l ≠ sysModules → H' l = some (.lst (keptV n v o)) → Q (.ref l) H'
section
variable {P : Program} {w : World} {K : PySem.W.Frag} {mg : Str → Option Value} {base : Heap} {AA : Ads}
theorem ok_law_classes (T : Txt K mg AA) : FnOk P w K mg base CX0 1 AA.a_law_classes AA.d_law_classes ["_law_one"] (spBools AA clsL) := by
  refine T.F_law_classes.ok sc_law_classes (fun vs H Q E h => ?_) (fun cdv A outer s H vs Q E hr h => ?_)
  · obtain ⟨n, p, rfl, _⟩ := h
    rfl
  · obtain ⟨n, p, rfl, hn, er, q⟩ := h
    refine ⟨_, (pss_cons (ps_set (i := 1) sc_law_classes.nd rfl (Or.inl rfl) (pe_lst (pa_cons (pe_callB call_isX (by rfl) T.n_isinstance (by decide +kernel) (pa_cons (pv 0) (pa_cons (pe_glob (v := .ref AA.C_InvalidSheet) (by rfl) T.g_InvalidSheet rfl) pa_nil))) (pa_cons (pe_callB call_isX (by rfl) T.n_isinstance (by decide +kernel) (pa_cons (pv 0) (pa_cons (pe_glob (v := .ref AA.C_InvalidWeb) (by rfl) T.g_InvalidWeb rfl) pa_nil))) (pa_cons (pe_callB call_isX (by rfl) T.n_isinstance (by decide +kernel) (pa_cons (pv 0) (pa_cons (pe_glob (v := .ref AA.C_InvalidShape) (by rfl) T.g_InvalidShape rfl) pa_nil))) pa_nil)))))
    (pss_cons (ps_set (i := 1) sc_law_classes.nd rfl (Or.inl rfl) (pe_op op_cat (pv 1) (pe_lst (pa_cons (pe_callB call_isX (by rfl) T.n_isinstance (by decide +kernel) (pa_cons (pv 0) (pa_cons (pe_glob (v := .ref AA.C_InvalidSketch) (by rfl) T.g_InvalidSketch rfl) pa_nil))) (pa_cons (pe_callB call_isX (by rfl) T.n_isinstance (by decide +kernel) (pa_cons (pv 0) (pa_cons (pe_glob (v := .ref AA.C_InvalidRule) (by rfl) T.g_InvalidRule rfl) pa_nil))) (pa_cons (pe_callB call_isX (by rfl) T.n_isinstance (by decide +kernel) (pa_cons (pv 0) (pa_cons (pe_glob (v := .ref AA.C_InvalidBans) (by rfl) T.g_InvalidBans rfl) pa_nil))) pa_nil))))))
    (pss_cons (ps_set (i := 1) sc_law_classes.nd rfl (Or.inl rfl) (pe_op op_cat (pv 1) (pe_lst (pa_cons (pe_callB call_isX (by rfl) T.n_isinstance (by decide +kernel) (pa_cons (pv 0) (pa_cons (pe_glob (v := .ref AA.C_InvalidProgram) (by rfl) T.g_InvalidProgram rfl) pa_nil))) (pa_cons (pe_callB call_isX (by rfl) T.n_isinstance (by decide +kernel) (pa_cons (pv 0) (pa_cons (pe_glob (v := .ref AA.C_InvalidOperation) (by rfl) T.g_InvalidOperation rfl) pa_nil))) (pa_cons (pe_callB call_isX (by rfl) T.n_isinstance (by decide +kernel) (pa_cons (pv 0) (pa_cons (pe_glob (v := .ref AA.C_InvalidDeed) (by rfl) T.g_InvalidDeed rfl) pa_nil))) pa_nil))))))
    (pss_cons (ps_set (i := 1) sc_law_classes.nd rfl (Or.inl rfl) (pe_op op_cat (pv 1) (pe_lst (pa_cons (pe_callB call_isX (by rfl) T.n_isinstance (by decide +kernel) (pa_cons (pv 0) (pa_cons (pe_glob (v := .ref AA.C_ParseError) (by rfl) T.g_ParseError rfl) pa_nil))) (pa_cons (pe_callB call_isX (by rfl) T.n_isinstance (by decide +kernel) (pa_cons (pv 0) (pa_cons (pe_glob (v := .ref AA.C_InvalidNumber) (by rfl) T.g_InvalidNumber rfl) pa_nil))) (pa_cons (pe_callB call_isX (by rfl) T.n_isinstance (by decide +kernel) (pa_cons (pv 0) (pa_cons (pe_glob (v := .ref AA.C_UnknownName) (by rfl) T.g_UnknownName rfl) pa_nil))) pa_nil))))))
    (pss_cons (ps_set (i := 1) sc_law_classes.nd rfl (Or.inl rfl) (pe_op op_cat (pv 1) (pe_lst (pa_cons (pe_callB call_isX (by rfl) T.n_isinstance (by decide +kernel) (pa_cons (pv 0) (pa_cons (pe_glob (v := .ref AA.C_TooMany) (by rfl) T.g_TooMany rfl) pa_nil))) (pa_cons (pe_callB call_isX (by rfl) T.n_isinstance (by decide +kernel) (pa_cons (pv 0) (pa_cons (pe_glob (v := .ref AA.C_NoPlace) (by rfl) T.g_NoPlace rfl) pa_nil))) (pa_cons (pe_callB call_isX (by rfl) T.n_isinstance (by decide +kernel) (pa_cons (pv 0) (pa_cons (pe_glob (v := .ref AA.C_Banned) (by rfl) T.g_Banned rfl) pa_nil))) pa_nil))))))
    (pss_one (ps_ret (pe_op op_cat (pv 1) (pe_lst (pa_cons (pe_callB call_isX (by rfl) T.n_isinstance (by decide +kernel) (pa_cons (pv 0) (pa_cons (pe_glob (v := .ref AA.C_NothingToUndo) (by rfl) T.g_NothingToUndo rfl) pa_nil))) pa_nil)))))))))), ?_⟩
    refine ⟨_, rfl, p, cA AA n, _, _, _, rfl, er, exC T n hn, rfl, (fun _ z => z), is_cls T n 0 hn (by decide), _, rfl, p, cA AA n, _, _, _, rfl, er, exC T n hn, rfl, (fun _ z => z), is_cls T n 1 hn (by decide), _, rfl, p, cA AA n, _, _, _, rfl, er, exC T n hn, rfl, (fun _ z => z), is_cls T n 2 hn (by decide), (by show 3 ≤ sizeLine; decide), fun l0 n0 => ?_⟩
    generalize hA0 : upd H l0 _ = A0 at *
    have x0 : Ex H A0 := by rw [← hA0]; exact Ex.new n0
    have g0 : A0 l0 = some (.lst (((clsL n).take 3).map V.bl)) := by rw [← hA0]; exact upd_same
    replace er := er_ex er x0
    refine ⟨_, rfl, _, rfl, p, cA AA n, _, _, _, rfl, er, exC T n hn, rfl, (fun _ z => z), is_cls T n 3 hn (by decide), _, rfl, p, cA AA n, _, _, _, rfl, er, exC T n hn, rfl, (fun _ z => z), is_cls T n 4 hn (by decide), _, rfl, p, cA AA n, _, _, _, rfl, er, exC T n hn, rfl, (fun _ z => z), is_cls T n 5 hn (by decide), (by show 3 ≤ sizeLine; decide), fun m1 k1 => ?_⟩
    generalize hB1 : upd A0 m1 _ = B1 at *
    have y1 : Ex A0 B1 := by rw [← hB1]; exact Ex.new k1
    have f1 : B1 m1 = some (.lst ((((clsL n).drop 3).take 3).map V.bl)) := by rw [← hB1]; exact upd_same
    refine ⟨l0, m1, _, _, rfl, rfl, y1 _ _ g0, f1, (by show 3 + 3 ≤ sizeLine; decide), fun l1 n1 => ?_⟩
    generalize hA1 : upd B1 l1 _ = A1 at *
    have x1 : Ex B1 A1 := by rw [← hA1]; exact Ex.new n1
    have g1 : A1 l1 = some (.lst (((clsL n).take 6).map V.bl)) := by rw [← hA1]; exact upd_same
    replace er := er_ex er (y1.trans x1)
    have w1 : Ex H A1 := x0.trans (y1.trans x1)
    refine ⟨_, rfl, _, rfl, p, cA AA n, _, _, _, rfl, er, exC T n hn, rfl, (fun _ z => z), is_cls T n 6 hn (by decide), _, rfl, p, cA AA n, _, _, _, rfl, er, exC T n hn, rfl, (fun _ z => z), is_cls T n 7 hn (by decide), _, rfl, p, cA AA n, _, _, _, rfl, er, exC T n hn, rfl, (fun _ z => z), is_cls T n 8 hn (by decide), (by show 3 ≤ sizeLine; decide), fun m2 k2 => ?_⟩
    generalize hB2 : upd A1 m2 _ = B2 at *
    have y2 : Ex A1 B2 := by rw [← hB2]; exact Ex.new k2
    have f2 : B2 m2 = some (.lst ((((clsL n).drop 6).take 3).map V.bl)) := by rw [← hB2]; exact upd_same
    refine ⟨l1, m2, _, _, rfl, rfl, y2 _ _ g1, f2, (by show 6 + 3 ≤ sizeLine; decide), fun l2 n2 => ?_⟩
    generalize hA2 : upd B2 l2 _ = A2 at *
    have x2 : Ex B2 A2 := by rw [← hA2]; exact Ex.new n2
    have g2 : A2 l2 = some (.lst (((clsL n).take 9).map V.bl)) := by rw [← hA2]; exact upd_same
    replace er := er_ex er (y2.trans x2)
    have w2 : Ex H A2 := w1.trans (y2.trans x2)
    refine ⟨_, rfl, _, rfl, p, cA AA n, _, _, _, rfl, er, exC T n hn, rfl, (fun _ z => z), is_cls T n 9 hn (by decide), _, rfl, p, cA AA n, _, _, _, rfl, er, exC T n hn, rfl, (fun _ z => z), is_cls T n 10 hn (by decide), _, rfl, p, cA AA n, _, _, _, rfl, er, exC T n hn, rfl, (fun _ z => z), is_cls T n 11 hn (by decide), (by show 3 ≤ sizeLine; decide), fun m3 k3 => ?_⟩
    generalize hB3 : upd A2 m3 _ = B3 at *
    have y3 : Ex A2 B3 := by rw [← hB3]; exact Ex.new k3
    have f3 : B3 m3 = some (.lst ((((clsL n).drop 9).take 3).map V.bl)) := by rw [← hB3]; exact upd_same
    refine ⟨l2, m3, _, _, rfl, rfl, y3 _ _ g2, f3, (by show 9 + 3 ≤ sizeLine; decide), fun l3 n3 => ?_⟩
    generalize hA3 : upd B3 l3 _ = A3 at *
    have x3 : Ex B3 A3 := by rw [← hA3]; exact Ex.new n3
    have g3 : A3 l3 = some (.lst (((clsL n).take 12).map V.bl)) := by rw [← hA3]; exact upd_same
    replace er := er_ex er (y3.trans x3)
    have w3 : Ex H A3 := w2.trans (y3.trans x3)
    refine ⟨_, rfl, _, rfl, p, cA AA n, _, _, _, rfl, er, exC T n hn, rfl, (fun _ z => z), is_cls T n 12 hn (by decide), _, rfl, p, cA AA n, _, _, _, rfl, er, exC T n hn, rfl, (fun _ z => z), is_cls T n 13 hn (by decide), _, rfl, p, cA AA n, _, _, _, rfl, er, exC T n hn, rfl, (fun _ z => z), is_cls T n 14 hn (by decide), (by show 3 ≤ sizeLine; decide), fun m4 k4 => ?_⟩
    generalize hB4 : upd A3 m4 _ = B4 at *
    have y4 : Ex A3 B4 := by rw [← hB4]; exact Ex.new k4
    have f4 : B4 m4 = some (.lst ((((clsL n).drop 12).take 3).map V.bl)) := by rw [← hB4]; exact upd_same
    refine ⟨l3, m4, _, _, rfl, rfl, y4 _ _ g3, f4, (by show 12 + 3 ≤ sizeLine; decide), fun l4 n4 => ?_⟩
    generalize hA4 : upd B4 l4 _ = A4 at *
    have x4 : Ex B4 A4 := by rw [← hA4]; exact Ex.new n4
    have g4 : A4 l4 = some (.lst (((clsL n).take 15).map V.bl)) := by rw [← hA4]; exact upd_same
    replace er := er_ex er (y4.trans x4)
    have w4 : Ex H A4 := w3.trans (y4.trans x4)
    refine ⟨_, rfl, _, rfl, p, cA AA n, _, _, _, rfl, er, exC T n hn, rfl, (fun _ z => z), is_cls T n 15 hn (by decide), (by show 1 ≤ sizeLine; decide), fun m5 k5 => ?_⟩
    generalize hB5 : upd A4 m5 _ = B5 at *
    have y5 : Ex A4 B5 := by rw [← hB5]; exact Ex.new k5
    have f5 : B5 m5 = some (.lst ((((clsL n).drop 15).take 1).map V.bl)) := by rw [← hB5]; exact upd_same
    refine ⟨l4, m5, _, _, rfl, rfl, y5 _ _ g4, f5, (by show 15 + 1 ≤ sizeLine; decide), fun l5 n5 => ?_⟩
    generalize hA5 : upd B5 l5 _ = A5 at *
    have x5 : Ex B5 A5 := by rw [← hA5]; exact Ex.new n5
    have g5 : A5 l5 = some (.lst (((clsL n).take 16).map V.bl)) := by rw [← hA5]; exact upd_same
    replace er := er_ex er (y5.trans x5)
    have w5 : Ex H A5 := w4.trans (y5.trans x5)
    exact q A5 l5 w5 g5
theorem ok_law_kinds (T : Txt K mg AA) : FnOk P w K mg base CX0 1 AA.a_law_kinds AA.d_law_kinds ["_law_one"] (spBools AA kindL) := by
  refine T.F_law_kinds.ok sc_law_kinds (fun vs H Q E h => ?_) (fun cdv A outer s H vs Q E hr h => ?_)
  · obtain ⟨n, p, rfl, _⟩ := h
    rfl
  · obtain ⟨n, p, rfl, hn, er, q⟩ := h
    refine ⟨_, (pss_cons (ps_set (i := 1) sc_law_kinds.nd rfl (Or.inl rfl) (pe_lst (pa_cons (pe_callB call_isX (by rfl) T.n_isinstance (by decide +kernel) (pa_cons (pv 0) (pa_cons (pe_glob (v := .ref AA.C_ShapeError) (by rfl) T.g_ShapeError rfl) pa_nil))) (pa_cons (pe_callB call_isX (by rfl) T.n_isinstance (by decide +kernel) (pa_cons (pv 0) (pa_cons (pe_bltn (v := .ty "ValueError") (u := .type "ValueError") (by rfl) T.n_ValueError (by decide +kernel) rfl) pa_nil))) (pa_cons (pe_callB call_isX (by rfl) T.n_isinstance (by decide +kernel) (pa_cons (pv 0) (pa_cons (pe_bltn (v := .ty "IndexError") (u := .type "IndexError") (by rfl) T.n_IndexError (by decide +kernel) rfl) pa_nil))) pa_nil)))))
    (pss_cons (ps_set (i := 1) sc_law_kinds.nd rfl (Or.inl rfl) (pe_op op_cat (pv 1) (pe_lst (pa_cons (pe_callB call_isX (by rfl) T.n_isinstance (by decide +kernel) (pa_cons (pv 0) (pa_cons (pe_bltn (v := .ty "KeyError") (u := .type "KeyError") (by rfl) T.n_KeyError (by decide +kernel) rfl) pa_nil))) (pa_cons (pe_callB call_isX (by rfl) T.n_isinstance (by decide +kernel) (pa_cons (pv 0) (pa_cons (pe_bltn (v := .ty "LookupError") (u := .type "LookupError") (by rfl) T.n_LookupError (by decide +kernel) rfl) pa_nil))) (pa_cons (pe_callB call_isX (by rfl) T.n_isinstance (by decide +kernel) (pa_cons (pv 0) (pa_cons (pe_bltn (v := .ty "OverflowError") (u := .type "OverflowError") (by rfl) T.n_OverflowError (by decide +kernel) rfl) pa_nil))) pa_nil))))))
    (pss_one (ps_ret (pe_op op_cat (pv 1) (pe_lst (pa_cons (pe_callB call_isX (by rfl) T.n_isinstance (by decide +kernel) (pa_cons (pv 0) (pa_cons (pe_bltn (v := .ty "ArithmeticError") (u := .type "ArithmeticError") (by rfl) T.n_ArithmeticError (by decide +kernel) rfl) pa_nil))) (pa_cons (pe_callB call_isX (by rfl) T.n_isinstance (by decide +kernel) (pa_cons (pv 0) (pa_cons (pe_bltn (v := .ty "RuntimeError") (u := .type "RuntimeError") (by rfl) T.n_RuntimeError (by decide +kernel) rfl) pa_nil))) pa_nil)))))))), ?_⟩
    refine ⟨_, rfl, p, cA AA n, _, _, _, rfl, er, exC T n hn, rfl, (fun _ z => z), is_shape T n hn, _, rfl, p, cA AA n, _, _, _, rfl, er, exC T n hn, rfl, (fun _ z => z), is_type T n hn (t := "ValueError") (by decide +kernel), _, rfl, p, cA AA n, _, _, _, rfl, er, exC T n hn, rfl, (fun _ z => z), is_type T n hn (t := "IndexError") (by decide +kernel), (by show 3 ≤ sizeLine; decide), fun l0 n0 => ?_⟩
    generalize hA0 : upd H l0 _ = A0 at *
    have x0 : Ex H A0 := by rw [← hA0]; exact Ex.new n0
    have g0 : A0 l0 = some (.lst (((kindL n).take 3).map V.bl)) := by rw [← hA0]; exact upd_same
    replace er := er_ex er x0
    refine ⟨_, rfl, _, rfl, p, cA AA n, _, _, _, rfl, er, exC T n hn, rfl, (fun _ z => z), is_type T n hn (t := "KeyError") (by decide +kernel), _, rfl, p, cA AA n, _, _, _, rfl, er, exC T n hn, rfl, (fun _ z => z), is_type T n hn (t := "LookupError") (by decide +kernel), _, rfl, p, cA AA n, _, _, _, rfl, er, exC T n hn, rfl, (fun _ z => z), is_type T n hn (t := "OverflowError") (by decide +kernel), (by show 3 ≤ sizeLine; decide), fun m1 k1 => ?_⟩
    generalize hB1 : upd A0 m1 _ = B1 at *
    have y1 : Ex A0 B1 := by rw [← hB1]; exact Ex.new k1
    have f1 : B1 m1 = some (.lst ((((kindL n).drop 3).take 3).map V.bl)) := by rw [← hB1]; exact upd_same
    refine ⟨l0, m1, _, _, rfl, rfl, y1 _ _ g0, f1, (by show 3 + 3 ≤ sizeLine; decide), fun l1 n1 => ?_⟩
    generalize hA1 : upd B1 l1 _ = A1 at *
    have x1 : Ex B1 A1 := by rw [← hA1]; exact Ex.new n1
    have g1 : A1 l1 = some (.lst (((kindL n).take 6).map V.bl)) := by rw [← hA1]; exact upd_same
    replace er := er_ex er (y1.trans x1)
    have w1 : Ex H A1 := x0.trans (y1.trans x1)
    refine ⟨_, rfl, _, rfl, p, cA AA n, _, _, _, rfl, er, exC T n hn, rfl, (fun _ z => z), is_type T n hn (t := "ArithmeticError") (by decide +kernel), _, rfl, p, cA AA n, _, _, _, rfl, er, exC T n hn, rfl, (fun _ z => z), is_type T n hn (t := "RuntimeError") (by decide +kernel), (by show 2 ≤ sizeLine; decide), fun m2 k2 => ?_⟩
    generalize hB2 : upd A1 m2 _ = B2 at *
    have y2 : Ex A1 B2 := by rw [← hB2]; exact Ex.new k2
    have f2 : B2 m2 = some (.lst ((((kindL n).drop 6).take 2).map V.bl)) := by rw [← hB2]; exact upd_same
    refine ⟨l1, m2, _, _, rfl, rfl, y2 _ _ g1, f2, (by show 6 + 2 ≤ sizeLine; decide), fun l2 n2 => ?_⟩
    generalize hA2 : upd B2 l2 _ = A2 at *
    have x2 : Ex B2 A2 := by rw [← hA2]; exact Ex.new n2
    have g2 : A2 l2 = some (.lst (((kindL n).take 8).map V.bl)) := by rw [← hA2]; exact upd_same
    replace er := er_ex er (y2.trans x2)
    have w2 : Ex H A2 := w1.trans (y2.trans x2)
    exact q A2 l2 w2 g2
theorem ok_law_due_kinds (T : Txt K mg AA) : FnOk P w K mg base CX0 1 AA.a_law_due_kinds AA.d_law_due_kinds ["_law_number"] spDue := by
  refine T.F_law_due_kinds.ok sc_law_due_kinds (fun vs H Q E h => ?_) (fun cdv A outer s H vs Q E hr h => ?_)
  · obtain ⟨n, rfl, _⟩ := h
    rfl
  · obtain ⟨n, rfl, hn, q⟩ := h
    have key : ∀ (σ : L2.St) (Z : Hp → Prop), True := fun _ _ => trivial
    refine ⟨_, (pss_cons (ps_set (i := 1) sc_law_due_kinds.nd rfl (Or.inr rfl) (pe_ifExp (pt_cmpR op_lt (pv 0) pe_int (nomark _)) (pe_lst (pa_cons pe_int (pa_cons pe_int pa_nil))) (pe_ix ix_list (pe_lst (pa_cons (pe_lst (pa_cons pe_int (pa_cons pe_int pa_nil))) (pa_cons (pe_lst (pa_cons pe_int (pa_cons pe_int pa_nil))) (pa_cons (pe_lst (pa_cons pe_int (pa_cons pe_int pa_nil))) (pa_cons (pe_lst (pa_cons pe_int pa_nil)) (pa_cons (pe_lst (pa_cons pe_int pa_nil)) (pa_cons (pe_lst (pa_cons pe_int pa_nil)) pa_nil))))))) (pe_op op_sub (pv 0) pe_int) (fun _ _ => rfl))))
    (pss_one (ps_ret (pe_lc (own := [("_law_place", 2)]) (g := gName 2) rfl sc_law_due_kinds.nd (pi_range1 rfl T.n_range (pa_cons pe_int pa_nil)) (blkOk_by (N := N_law_due_kinds) (sc := defScope s_law_due_kinds) (by decide +kernel)) (fun _ _ _ _ _ => (pg_name (i := 2) sc_law_due_kinds.nd rfl (Or.inl rfl))) (fun _ _ _ _ _ => pts_nil) (fun _ _ _ _ _ => by exact (pe_cmpR (Kv.op_in (K := K) rfl) (pv 2) (pv 1) rfl)))))), ?_⟩
    refine ⟨_, rfl, _, _, rfl, rfl, _, rfl, ?_⟩
    have fin : ∀ (J : Hp) (l : Addr), Ex H J → J l = some (.lst ((dueI n).map V.int)) → True := fun _ _ _ _ => trivial
    by_cases c : (n : Int) < 10
    · refine if_t (decide_eq_true c) ⟨(by show 2 ≤ sizeLine; decide), fun l nl => ?_⟩
      have hI : dueI n = [0, 1] := by
        have : ∀ n, n < 10 → dueI n = [0, 1] := by decide +kernel
        exact this n (by omega)
      have e0 : Ex H (upd H l (.lst [.int 0, .int 1])) := Ex.new nl
      refine ⟨8, rfl, by decide, by decide, fun D hD => lcN hD (by show 8 < sizeLine; decide) (fun i => V.bl (inV (.int (0 + (i : Nat))) ((dueI n).map V.int))) (fun _ => rfl) ?_ ?_⟩
      · intro k J hk e J1 e1 Q' hQ
        exact ⟨_, rfl, _, rfl, l, (dueI n).map V.int, rfl, .inl (SqL.of (e1 _ _ (e _ _ (by rw [hI]; exact upd_same)))), rfl, (by rw [hI]; rfl), hQ _ (Ex.refl _)⟩
      · intro J e hJ
        refine q J D (e0.trans e) ?_
        rw [hJ, dueL, List.map_map]
        rfl
    · refine if_f (decide_eq_false c) ?_
      refine ⟨(by show 2 ≤ sizeLine; decide), fun e0 k0 => ⟨(by show 2 ≤ sizeLine; decide), fun e1 k1 => ⟨(by show 2 ≤ sizeLine; decide), fun e2 k2 => ⟨(by show 1 ≤ sizeLine; decide), fun e3 k3 => ⟨(by show 1 ≤ sizeLine; decide), fun e4 k4 => ⟨(by show 1 ≤ sizeLine; decide), fun e5 k5 => ⟨(by show 6 ≤ sizeLine; decide), fun l nl => ?_⟩⟩⟩⟩⟩⟩⟩
      generalize hA0 : upd H e0 _ = A0 at *
      have x0 : Ex H A0 := by rw [← hA0]; exact Ex.new k0
      have g0 : A0 e0 = some (.lst [.int 2, .int 4]) := by rw [← hA0]; exact upd_same
      generalize hA1 : upd A0 e1 _ = A1 at *
      have x1 : Ex A0 A1 := by rw [← hA1]; exact Ex.new k1
      have g1 : A1 e1 = some (.lst [.int 3, .int 4]) := by rw [← hA1]; exact upd_same
      generalize hA2 : upd A1 e2 _ = A2 at *
      have x2 : Ex A1 A2 := by rw [← hA2]; exact Ex.new k2
      have g2 : A2 e2 = some (.lst [.int 5, .int 6]) := by rw [← hA2]; exact upd_same
      generalize hA3 : upd A2 e3 _ = A3 at *
      have x3 : Ex A2 A3 := by rw [← hA3]; exact Ex.new k3
      have g3 : A3 e3 = some (.lst [.int 4]) := by rw [← hA3]; exact upd_same
      generalize hA4 : upd A3 e4 _ = A4 at *
      have x4 : Ex A3 A4 := by rw [← hA4]; exact Ex.new k4
      have g4 : A4 e4 = some (.lst [.int 7]) := by rw [← hA4]; exact upd_same
      generalize hA5 : upd A4 e5 _ = A5 at *
      have x5 : Ex A4 A5 := by rw [← hA5]; exact Ex.new k5
      have g5 : A5 e5 = some (.lst [.int 6]) := by rw [← hA5]; exact upd_same
      generalize hA6 : upd A5 l _ = A6 at *
      have z5 : Ex A5 A6 := by rw [← hA6]; exact Ex.new nl
      have g6 : A6 l = some (.lst [.ref e0, .ref e1, .ref e2, .ref e3, .ref e4, .ref e5]) := by rw [← hA6]; exact upd_same
      have z4 : Ex A4 A6 := x5.trans z5
      have z3 : Ex A3 A6 := x4.trans z4
      have z2 : Ex A2 A6 := x3.trans z3
      have z1 : Ex A1 A6 := x2.trans z2
      have z0 : Ex A0 A6 := x1.trans z1
      have zH : Ex H A6 := x0.trans z0
      have go : ∃ (j : Nat) (e : Addr), (n : Int) - 10 = (j : Int) ∧ [V.ref e0, .ref e1, .ref e2, .ref e3, .ref e4, .ref e5][j]? = some (.ref e) ∧ A6 e = some (.lst ((dueI n).map V.int)) := by
        obtain rfl | rfl | rfl | rfl | rfl | rfl : n = 10 ∨ n = 11 ∨ n = 12 ∨ n = 13 ∨ n = 14 ∨ n = 15 := by omega
        · exact ⟨0, e0, rfl, rfl, z0 _ _ g0⟩
        · exact ⟨1, e1, rfl, rfl, z1 _ _ g1⟩
        · exact ⟨2, e2, rfl, rfl, z2 _ _ g2⟩
        · exact ⟨3, e3, rfl, rfl, z3 _ _ g3⟩
        · exact ⟨4, e4, rfl, rfl, z4 _ _ g4⟩
        · exact ⟨5, e5, rfl, rfl, z5 _ _ g5⟩
      obtain ⟨j, e, hj, hje, he⟩ := go
      have hfl : ((dueI n).map V.int).all flatV = true := by
        have : ∀ n, n < 16 → ((dueI n).map V.int).all flatV = true := by decide +kernel
        exact this n hn
      refine ⟨_, rfl, _, _, rfl, rfl, l, _, _, _, rfl, rfl, SqL.of g6, at_of (j := j) hj hje, ?_⟩
      refine ⟨8, rfl, by decide, by decide, fun D hD => lcN hD (by show 8 < sizeLine; decide) (fun i => V.bl (inV (.int (0 + (i : Nat))) ((dueI n).map V.int))) (fun _ => rfl) ?_ ?_⟩
      · intro k J hk x J1 y Q' hQ
        exact ⟨_, rfl, _, rfl, e, (dueI n).map V.int, rfl, .inl (SqL.of (y _ _ (x _ _ he))), rfl, hfl, hQ _ (Ex.refl _)⟩
      · intro J x hJ
        refine q J D (zH.trans x) ?_
        rw [hJ, dueL, List.map_map]
        rfl
theorem ok_law_kept (T : Txt K mg AA) : FnOk P w K mg base CX0 1 AA.a_law_kept AA.d_law_kept ["_law_number", "_law_one"] (spKept AA) := by
  refine T.F_law_kept.ok sc_law_kept (fun vs H Q E h => ?_) (fun cdv A outer s H vs Q E hr h => ?_)
  · obtain ⟨n, p, v, o, rfl, _⟩ := h
    rfl
  · obtain ⟨n, p, v, o, rfl, h10, hn, er, q⟩ := h
    rcases er with ⟨z, _⟩ | ⟨_, d, e1, e2⟩
    · omega
    have xf := (exA T n hn).xf
    refine ⟨_, (pss_cons (ps_if (pt_cmpR op_eq (pv 0) pe_int (nomark _)) (pss_one (ps_ret (pe_lstN (pa_cons (pe_xget (pv 1)) pa_nil)))) pss_nil)
    (pss_cons (ps_if (pt_cmpR op_eq (pv 0) pe_int (nomark _)) (pss_one (ps_ret (pe_lstN (pa_cons (pe_xget (pv 1)) pa_nil)))) pss_nil)
    (pss_cons (ps_if (pt_cmpR op_eq (pv 0) pe_int (nomark _)) (pss_one (ps_ret (pe_lstN (pa_cons (pe_xget (pv 1)) pa_nil)))) pss_nil)
    (pss_cons (ps_if (pt_cmpR op_eq (pv 0) pe_int (nomark _)) (pss_one (ps_ret (pe_lstN (pa_cons (pe_xget (pv 1)) pa_nil)))) pss_nil)
    (pss_one (ps_ret (pe_ifExp (pt_cmpR op_eq (pv 0) pe_int (nomark _)) (pe_lstN (pa_cons (pe_xget (pv 1)) (pa_cons (pe_xget (pv 1)) pa_nil))) (pe_lstN (pa_cons (pe_xget (pv 1)) pa_nil))))))))), ?_⟩
    obtain rfl | rfl | rfl | rfl | rfl | rfl : n = 10 ∨ n = 11 ∨ n = 12 ∨ n = 13 ∨ n = 14 ∨ n = 15 := by omega
    · exact ⟨_, rfl, rfl, _, rfl, if_t (by decide) ⟨_, rfl, p, _, d, _, _, rfl, e1, e2, xf, T.n_InvalidNumber_value, rfl, (by show 1 ≤ sizeLine; decide), fun l nl m => q _ l (Ex.new nl) m upd_same⟩⟩
    · exact ⟨_, rfl, rfl, _, rfl, if_f (by decide) ⟨_, rfl, rfl, _, rfl, if_t (by decide) ⟨_, rfl, p, _, d, _, _, rfl, e1, e2, xf, T.n_UnknownName_name, rfl, (by show 1 ≤ sizeLine; decide), fun l nl m => q _ l (Ex.new nl) m upd_same⟩⟩⟩
    · exact ⟨_, rfl, rfl, _, rfl, if_f (by decide) ⟨_, rfl, rfl, _, rfl, if_f (by decide) ⟨_, rfl, rfl, _, rfl, if_t (by decide) ⟨_, rfl, p, _, d, _, _, rfl, e1, e2, xf, T.n_TooMany_limit, rfl, (by show 1 ≤ sizeLine; decide), fun l nl m => q _ l (Ex.new nl) m upd_same⟩⟩⟩⟩
    · exact ⟨_, rfl, rfl, _, rfl, if_f (by decide) ⟨_, rfl, rfl, _, rfl, if_f (by decide) ⟨_, rfl, rfl, _, rfl, if_f (by decide) ⟨_, rfl, rfl, _, rfl, if_t (by decide) ⟨_, rfl, p, _, d, _, _, rfl, e1, e2, xf, T.n_NoPlace_place, rfl, (by show 1 ≤ sizeLine; decide), fun l nl m => q _ l (Ex.new nl) m upd_same⟩⟩⟩⟩⟩
    · exact ⟨_, rfl, rfl, _, rfl, if_f (by decide) ⟨_, rfl, rfl, _, rfl, if_f (by decide) ⟨_, rfl, rfl, _, rfl, if_f (by decide) ⟨_, rfl, rfl, _, rfl, if_f (by decide) ⟨_, rfl, rfl, _, rfl, if_t (by decide) ⟨_, rfl, p, _, d, _, _, rfl, e1, e2, xf, T.n_Banned_index, rfl, _, rfl, p, _, d, _, _, rfl, e1, e2, xf, T.n_Banned_place, rfl, (by show 2 ≤ sizeLine; decide), fun l nl m => q _ l (Ex.new nl) m upd_same⟩⟩⟩⟩⟩⟩
    · exact ⟨_, rfl, rfl, _, rfl, if_f (by decide) ⟨_, rfl, rfl, _, rfl, if_f (by decide) ⟨_, rfl, rfl, _, rfl, if_f (by decide) ⟨_, rfl, rfl, _, rfl, if_f (by decide) ⟨_, rfl, rfl, _, rfl, if_f (by decide) ⟨_, rfl, p, _, d, _, _, rfl, e1, e2, xf, T.n_NothingToUndo_many, rfl, (by show 1 ≤ sizeLine; decide), fun l nl m => q _ l (Ex.new nl) m upd_same⟩⟩⟩⟩⟩⟩
end
end K0
namespace K0
open PySem L2 Kd Evl
def spLaw (K : PySem.W.Frag) : Sp := fun vs H Q _ => ∃ (a : Addr) (ns : List Int), vs = [.ref a] ∧ SqL K H a (ns.map V.int) ∧ ns.length ≤ 63 ∧ ∀ H', Q (.bl true) H'
theorem dpBools {K : PySem.W.Frag} {H : Hp} : ∀ bs : List Bool, DpAll K H (bs.map V.bl) (bs.map PyData.bool)
  | [] => .nil
  | b :: bs => .cons (.bl b) (dpBools bs)
theorem lay_bools : ∀ bs : List Bool, PyData.canLayAll0 (bs.map PyData.bool) = true ∧ PyData.depthAll (bs.map PyData.bool) = 0
  | [] => ⟨rfl, rfl⟩
  | b :: bs => by
    obtain ⟨h1, h2⟩ := lay_bools bs
    constructor
    · show (true && PyData.canLayAll0 (bs.map PyData.bool)) = true
      rw [h1]
      rfl
    · show max 0 (PyData.depthAll (bs.map PyData.bool)) = 0
      rw [h2]
      rfl
theorem shaped_bools (bs : List Bool) : SeqAt.shaped (.list (bs.map PyData.bool)) = true := by
  obtain ⟨h1, h2⟩ := lay_bools bs
  show (PyData.canLayAll0 _ && decide (PyData.depthAll _ + 1 ≤ 64)) = true
  rw [h1, h2]
  rfl
theorem eqv_bools (bs : List Bool) : PyData.eqv (.list (bs.map PyData.bool)) (.list (bs.map PyData.bool)) = true := SeqAt.eqv_refl _ (SeqAt.canLay_of_shaped (shaped_bools bs))
def fits1 (d : PyData) : Bool := PyData.showable (.list [d]) && (decide ((PyData.list [d]).depth ≤ 40) && decide ((PyData.list [d]).shown.length ≤ 1000))
def fits2 (d e : PyData) : Bool := PyData.showable (.list [d, e]) && (decide ((PyData.list [d, e]).depth ≤ 40) && decide ((PyData.list [d, e]).shown.length ≤ 1000))
theorem fit_one : ∀ d ∈ txD ++ thD, fits1 d = true := by decide +kernel
theorem fit_two : ∀ d ∈ txD ++ thD, ∀ e ∈ txD ++ thD, fits2 d e = true := by decide +kernel
def keptD (n : Nat) (d e : PyData) : List PyData := if n = 14 then [e, d] else [d]
theorem kept_fits {n : Nat} {d e : PyData} (h1 : d ∈ txD ++ thD) (h2 : e ∈ txD ++ thD) : PyData.showable (.list (keptD n d e)) = true ∧ (PyData.list (keptD n d e)).depth ≤ 40 ∧ (PyData.list (keptD n d e)).shown.length ≤ sizeLine := by
  have hz : 1000 ≤ sizeLine := by decide
  unfold keptD
  split
  · have z := fit_two e h2 d h1
    obtain ⟨z1, z⟩ := Bool.and_eq_true_iff.mp z
    obtain ⟨z2, z3⟩ := Bool.and_eq_true_iff.mp z
    exact ⟨z1, of_decide_eq_true z2, Nat.le_trans (of_decide_eq_true z3) hz⟩
  · have z := fit_one d h1
    obtain ⟨z1, z⟩ := Bool.and_eq_true_iff.mp z
    obtain ⟨z2, z3⟩ := Bool.and_eq_true_iff.mp z
    exact ⟨z1, of_decide_eq_true z2, Nat.le_trans (of_decide_eq_true z3) hz⟩
theorem kept_th {K : PySem.W.Frag} {H : Hp} {n : Nat} {v o : V} {d e : PyData} (h1 : Th K H v d) (h2 : Th K H o e) : ThAll K H (keptV n v o) (keptD n d e) := by
  unfold keptV keptD
  split
  · exact .cons h2 (.cons h1 .nil)
  · exact .cons h1 .nil
section
variable {P : Program} {w : World} {K : PySem.W.Frag} {mg : Str → Option Value} {base : Heap} {AA : Ads}
theorem ok_law (T : Txt K mg AA) : FnG P w K mg base 4 AA.a_law AA.d_law ["_law_script"] (spLaw K) := by
  have G_law_dice : FnOk P w K mg base CX0 1 AA.a_law_dice AA.d_law_dice ["_law_script", "_law_at"] (spDice K) := ok_law_dice T
  have G_law_roll : FnOk P w K mg base CX0 1 AA.a_law_roll AA.d_law_roll ["_law_dice_here", "_law_total"] spRoll := ok_law_roll T
  have G_law_thing : FnOk P w K mg base CX0 3 AA.a_law_thing AA.d_law_thing ["_law_dice_here", "_law_number"] (spThing K) := ok_law_thing T
  have G_law_error : FnOk P w K mg base CX0 3 AA.a_law_error AA.d_law_error ["_law_number", "_law_thing_here", "_law_other"] (spErr AA) := ok_law_error T
  have G_law_classes : FnOk P w K mg base CX0 1 AA.a_law_classes AA.d_law_classes ["_law_one"] (spBools AA clsL) := ok_law_classes T
  have G_law_kinds : FnOk P w K mg base CX0 1 AA.a_law_kinds AA.d_law_kinds ["_law_one"] (spBools AA kindL) := ok_law_kinds T
  have G_law_due_kinds : FnOk P w K mg base CX0 1 AA.a_law_due_kinds AA.d_law_due_kinds ["_law_number"] spDue := ok_law_due_kinds T
  have G_law_kept : FnOk P w K mg base CX0 1 AA.a_law_kept AA.d_law_kept ["_law_number", "_law_one"] (spKept AA) := ok_law_kept T
  refine fnG_of T.F_law sc_law (fun vs H Q E h => ?_) (fun cdv A outer s H vs Q E hG hr h => ?_)
  · obtain ⟨a, ns, rfl, _⟩ := h
    rfl
  · obtain ⟨a, ns, rfl, hS, hlen, q⟩ := h
    have hu : _ + 64 < cLine := hu64 hr
    refine ⟨_, (pss_cons (ps_for PassesOwn.never rfl (pi_range1 rfl T.n_range (pa_cons (pe_callB (call_max2 rfl) (by rfl) T.n_max (by decide +kernel) (pa_cons pe_int (pa_cons (pe_callB (call_min2 rfl) (by rfl) T.n_min (by decide +kernel) (pa_cons pe_int (pa_cons (pe_callB call_len_seq (by rfl) T.n_len (by decide +kernel) (pa_cons (pv 0) pa_nil)) pa_nil))) pa_nil))) pa_nil)) (pg_name (i := 1) sc_law.nd rfl (Or.inl rfl))
      (pss_cons (ps_set (i := 2) sc_law.nd rfl (Or.inl rfl) (pe_call G_law_dice (hr.mono (by decide)) (by rfl) T.g_law_dice T.k_law_dice T.b_law_dice .nil pass0 (pa_cons (pv 0) (pa_cons (pv 1) pa_nil))))
    (pss_one (ps_for PassesOwn.never rfl (pi_tup (pe_tup (pa_cons (pe_call G_law_roll (hr.mono (by decide)) (by rfl) T.g_law_roll T.k_law_roll T.b_law_roll .nil pass0 (pa_cons (pv 2) (pa_cons pe_int pa_nil))) (pa_cons (pe_op op_mod (pe_op op_add (pe_op op_mul pe_int (pv 1)) pe_int) pe_int) pa_nil)))) (pg_name (i := 3) sc_law.nd rfl (Or.inr rfl))
      (pss_cons (ps_par (i := 6) (j := 7) rfl sc_law.nd rfl rfl (by decide) rfl rfl (by exact (pa_cons (pe_call G_law_thing (hr.mono (by decide)) (by rfl) T.g_law_thing T.k_law_thing T.b_law_thing .nil pass0 (pa_cons (pv 2) (pa_cons (pv 3) pa_nil))) (pa_cons (pe_call G_law_thing (hr.mono (by decide)) (by rfl) T.g_law_thing T.k_law_thing T.b_law_thing .nil pass0 (pa_cons (pv 2) (pa_cons pe_int pa_nil))) pa_nil))) rfl)
    (pss_cons (ps_set (i := 4) sc_law.nd rfl (Or.inl rfl) (pe_call G_law_error (hr.mono (by decide)) (by rfl) T.g_law_error T.k_law_error T.b_law_error .nil pass0 (pa_cons (pv 3) (pa_cons (pv 6) (pa_cons (pv 7) pa_nil)))))
    (pss_cons (ps_if (pt_cmpR (op_neD hu) (pe_call G_law_classes (hr.mono (by decide)) (by rfl) T.g_law_classes T.k_law_classes T.b_law_classes .nil pass0 (pa_cons (pv 4) pa_nil)) (pe_lc (own := [("_law_place", 8)]) (g := gName 8) rfl sc_law.nd (pi_range1 rfl T.n_range (pa_cons pe_int pa_nil)) (blkOk_by (N := N_law) (sc := defScope s_law) (by decide +kernel)) (fun _ _ _ _ _ => (pg_name (i := 8) sc_law.nd rfl (Or.inl rfl))) (fun _ _ _ _ _ => pts_nil) (fun _ _ _ _ _ => by exact (pe_cmpR op_eq (pv 8) (pv 3) (nomark _)))) (nomark _)) (pss_one (ps_ret pe_bl)) pss_nil)
    (pss_cons (ps_if (pt_cmpR (op_neD hu) (pe_call G_law_kinds (hr.mono (by decide)) (by rfl) T.g_law_kinds T.k_law_kinds T.b_law_kinds .nil pass0 (pa_cons (pv 4) pa_nil)) (pe_call G_law_due_kinds (hr.mono (by decide)) (by rfl) T.g_law_due_kinds T.k_law_due_kinds T.b_law_due_kinds .nil pass0 (pa_cons (pv 3) pa_nil)) (nomark _)) (pss_one (ps_ret pe_bl)) pss_nil)
    (pss_cons (ps_set (i := 5) sc_law.nd rfl (Or.inl rfl) (pe_ifExp (pt_cmpR op_eq (pv 3) pe_int (nomark _)) (pe_lstN (pa_cons (pv 7) (pa_cons (pv 6) pa_nil))) (pe_lstN (pa_cons (pv 6) pa_nil))))
    (pss_one (ps_if (pw_and (pt_cmpR op_gt (pv 3) pe_int (nomark _)) (pw_and1 (pt_cmpR op_ne (pe_callB (call_reprT hG hu) (by rfl) T.n_repr (by decide +kernel) (pa_cons (pe_call G_law_kept (hr.mono (by decide)) (by rfl) T.g_law_kept T.k_law_kept T.b_law_kept .nil pass0 (pa_cons (pv 3) (pa_cons (pv 4) pa_nil))) pa_nil)) (pe_callB (call_reprT hG hu) (by rfl) T.n_repr (by decide +kernel) (pa_cons (pv 5) pa_nil)) (nomark _)))).pt (pss_one (ps_ret pe_bl)) pss_nil)))))))))))
    (pss_one (ps_ret pe_bl))), ?_⟩
    refine ⟨_, rfl, a, _, rfl, .inl hS, _, _, rfl, _, _, rfl, _, rfl, ?_, ?_, ?_⟩
    · split <;> split <;> omega
    · rw [List.length_map]
      split <;> split <;> omega
    refine for_range (fun k σ J => ∃ v1 v2 v3 v4 v5 v6 v7 : Option V, σ = [some (.ref a), v1, v2, v3, v4, v5, v6, v7, none] ∧ Ex H J) ⟨none, none, none, none, none, none, none, rfl, Ex.refl _⟩ ?_ ?_
    · rintro k σ J hk ⟨v1, v2, v3, v4, v5, v6, v7, rfl, e⟩
      refine ⟨_, rfl, _, rfl, a, ns, _, rfl, ex_l e hS, by omega, fun p hp => ?_⟩
      have e1 : Ex J (upd J p (diceO p)) := Ex.new hp
      generalize hJ1 : upd J p (diceO p) = J1 at *
      have g1 : J1 p = some (diceO p) := by rw [← hJ1]; exact upd_same
      refine ⟨_, rfl, p, 16, rfl, g1, by decide, by decide, fun i i0 i1 => ?_⟩
      refine ⟨_, rfl, _, _, rfl, rfl, .inl (by decide), _, _, rfl, rfl, _, _, rfl, rfl, (by show (0 : Int) < 16; decide), (by show 2 ≤ sizeLine; decide), fun t nt => ?_⟩
      generalize hJ2 : upd J1 t _ = J2 at *
      have e2 : Ex J1 J2 := by rw [← hJ2]; exact Ex.new nt
      have g2 : J2 t = some (.tup [.int i, .int ((5 * (0 + (k : Int)) + 3) % 16)]) := by rw [← hJ2]; exact upd_same
      refine ⟨t, rfl, ⟨_, SqT.of g2⟩, ?_⟩
      refine for_tup (xs := [.int i, .int ((5 * (0 + (k : Int)) + 3) % 16)]) (fun k2 σ J3 => ∃ v3 v4 v5 v6 v7 : Option V, σ = [some (.ref a), some (.int (0 + (k : Int))), some (.ref p), v3, v4, v5, v6, v7, none] ∧ Ex J2 J3) ⟨v3, v4, v5, v6, v7, rfl, Ex.refl _⟩ ?_ ?_ ?_
      · rintro k2 σ J3 _ ⟨_, _, _, _, _, rfl, e3⟩
        exact SqT.of (e3 _ _ g2)
      · rintro k2 x σ J3 hx ⟨u3, u4, u5, u6, u7, rfl, e3⟩
        obtain ⟨n, hn, rfl⟩ : ∃ n : Nat, n < 16 ∧ x = .int n := by
          match k2, hx with
          | 0, hx => exact ⟨i.toNat, by omega, by cases hx; rw [Int.toNat_of_nonneg i0]⟩
          | 1, hx =>
            have h0 : 0 ≤ (5 * (0 + (k : Int)) + 3) % 16 := Int.emod_nonneg _ (by decide)
            have h1 : (5 * (0 + (k : Int)) + 3) % 16 < 16 := Int.emod_lt_of_pos _ (by decide)
            exact ⟨((5 * (0 + (k : Int)) + 3) % 16).toNat, by omega, by cases hx; rw [Int.toNat_of_nonneg h0]⟩
          | k2 + 2, hx => cases hx
        have gd : J3 p = some (diceO p) := e3 _ _ (e2 _ _ g1)
        refine ⟨_, rfl, _, rfl, p, _, rfl, gd, fun H1 v d f1 hd1 th1 => ⟨_, rfl, p, _, rfl, f1 _ _ gd, fun H2 o d2 f2 hd2 th2 => ⟨v, o, rfl, ?_⟩⟩⟩
        replace th1 := th_ex f2 th1
        refine ⟨_, rfl, _, rfl, _, rfl, n, v, o, rfl, hn, fun H3 r f3 er => ?_⟩
        replace th1 := th_ex f3 th1
        replace th2 := th_ex f3 th2
        refine ⟨_, rfl, n, r, rfl, hn, er.er, fun H4 l f4 g4 => ?_⟩
        refine ⟨16, rfl, by decide, by decide, fun D hD => lcN hD (by show 16 < sizeLine; decide) (fun i => V.bl (decide (V.int (0 + (i : Nat)) = V.int (n : Nat)))) (fun _ => rfl) ?_ ?_⟩
        · intro k3 H5 hk3 f5 H6 f6 Q' hQ
          exact ⟨_, rfl, _, rfl, rfl, hQ _ (Ex.refl _)⟩
        intro H5 f5 g5
        replace g4 := f5 _ _ g4
        have c1 : (List.range 16).map (fun i => V.bl (decide (V.int (0 + (i : Nat)) = V.int (n : Nat)))) = (clsL n).map V.bl := by
          rw [cls_due n hn, List.map_map]
          rfl
        replace g5 : H5 D = some (.lst ((clsL n).map V.bl)) := by rw [← c1]; exact g5
        refine ⟨_, _, .lst (SqL.of g4) (dpBools _), .lst (SqL.of g5) (dpBools _), shaped_bools _, shaped_bools _, _, rfl, ?_⟩
        refine if_f (by rw [eqv_bools]; rfl) ?_
        replace er := er.ex (f4.trans f5)
        replace th1 := th_ex (f4.trans f5) th1
        replace th2 := th_ex (f4.trans f5) th2
        refine ⟨_, rfl, n, r, rfl, hn, er.er, fun H6 l2 f6 g6 => ⟨_, rfl, n, rfl, hn, fun H7 l3 f7 g7 => ?_⟩⟩
        rw [← due_kind n hn] at g7
        refine ⟨_, _, .lst (SqL.of (f7 _ _ g6)) (dpBools _), .lst (SqL.of g7) (dpBools _), shaped_bools _, shaped_bools _, _, rfl, ?_⟩
        refine if_f (by rw [eqv_bools]; rfl) ?_
        replace er := er.ex (f6.trans f7)
        replace th1 := th_ex (f6.trans f7) th1
        replace th2 := th_ex (f6.trans f7) th2
        have up7 : Ex J2 H7 := ((((e3.trans f1).trans f2).trans f3).trans (f4.trans f5)).trans (f6.trans f7)
        refine ⟨_, rfl, rfl, _, rfl, ?_⟩
        by_cases c14 : n = 14
        · refine if_t (decide_eq_true (by rw [c14]; rfl)) ⟨_, rfl, _, rfl, (by show 2 ≤ sizeLine; decide), fun y ny my => ?_⟩
          have gy : upd H7 y (.lst [o, v]) y = some (.lst (keptV n v o)) := by rw [upd_same, keptV, if_pos c14]
          generalize hH8 : upd H7 y _ = H8 at *
          have f8 : Ex H7 H8 := by rw [← hH8]; exact Ex.new ny
          replace th1 := th_ex f8 th1
          replace th2 := th_ex f8 th2
          replace er := er.ex f8
          refine ⟨_, rfl, _, _, rfl, rfl, _, rfl, ?_⟩
          by_cases c9 : (9 : Int) < n
          · refine if_t (decide_eq_true c9) ?_
            refine ⟨_, rfl, _, rfl, n, r, v, o, rfl, by omega, hn, er, fun H9 z f9 m9 g9 => ?_⟩
            replace th1 := th_ex f9 th1
            replace th2 := th_ex f9 th2
            obtain ⟨s1, s2, s3⟩ := kept_fits (n := n) hd1 hd2
            refine ⟨z, keptD n d d2, rfl, .lst (SqL.of g9) m9 (kept_th th1 th2), s1, s2, s3, ?_⟩
            refine ⟨_, rfl, y, keptD n d d2, rfl, .lst (SqL.of (f9 _ _ gy)) my (kept_th th1 th2), s1, s2, s3, rfl, _, rfl, ?_⟩
            exact if_f (by simp) ⟨_, _, _, _, _, rfl, (up7.trans f8).trans f9⟩
          · exact if_f (decide_eq_false c9) (if_f rfl ⟨_, _, _, _, _, rfl, up7.trans f8⟩)
        · refine if_f (decide_eq_false (fun z => c14 (by injection z with z; omega))) ⟨_, rfl, (by show 1 ≤ sizeLine; decide), fun y ny my => ?_⟩
          have gy : upd H7 y (.lst [v]) y = some (.lst (keptV n v o)) := by rw [upd_same, keptV, if_neg c14]
          generalize hH8 : upd H7 y _ = H8 at *
          have f8 : Ex H7 H8 := by rw [← hH8]; exact Ex.new ny
          replace th1 := th_ex f8 th1
          replace th2 := th_ex f8 th2
          replace er := er.ex f8
          refine ⟨_, rfl, _, _, rfl, rfl, _, rfl, ?_⟩
          by_cases c9 : (9 : Int) < n
          · refine if_t (decide_eq_true c9) ?_
            refine ⟨_, rfl, _, rfl, n, r, v, o, rfl, by omega, hn, er, fun H9 z f9 m9 g9 => ?_⟩
            replace th1 := th_ex f9 th1
            replace th2 := th_ex f9 th2
            obtain ⟨s1, s2, s3⟩ := kept_fits (n := n) hd1 hd2
            refine ⟨z, keptD n d d2, rfl, .lst (SqL.of g9) m9 (kept_th th1 th2), s1, s2, s3, ?_⟩
            refine ⟨_, rfl, y, keptD n d d2, rfl, .lst (SqL.of (f9 _ _ gy)) my (kept_th th1 th2), s1, s2, s3, rfl, _, rfl, ?_⟩
            exact if_f (by simp) ⟨_, _, _, _, _, rfl, (up7.trans f8).trans f9⟩
          · exact if_f (decide_eq_false c9) (if_f rfl ⟨_, _, _, _, _, rfl, up7.trans f8⟩)
      · rintro σ J3 ⟨w3, w4, w5, w6, w7, rfl, e3⟩
        exact ⟨_, _, _, _, _, _, _, rfl, ((e.trans e1).trans e2).trans e3⟩
    · rintro σ J ⟨v1, v2, v3, v4, v5, v6, v7, rfl, e⟩
      exact q _
end
end K0
namespace K0
open PySem L2 Kd Evl
theorem all_mk {l : PySem.W.OpenLaw} {w : World} {K : PySem.W.Frag} {h : Heap} {mg : Str → Option Value} {fa : Addr} {C_ShapeError C_InvalidSheet C_InvalidWeb C_InvalidShape C_InvalidSketch C_InvalidRule C_InvalidBans C_InvalidProgram C_InvalidOperation C_InvalidDeed C_ParseError C_InvalidNumber C_UnknownName C_TooMany C_NoPlace C_Banned C_NothingToUndo f_InvalidNumber_init f_UnknownName_init f_TooMany_init f_NoPlace_init f_Banned_init f_NothingToUndo_init f_law_dice f_law_roll f_law_one_of f_law_thing f_law_error f_law_classes f_law_kinds f_law_due_kinds f_law_kept f_law : Addr} (X : K.In h) (G : h.Ns mainGlobals mg) (hfa : mg "law" = some (.ref fa))
    {od_InvalidNumber_init an_InvalidNumber_init od_UnknownName_init an_UnknownName_init od_TooMany_init an_TooMany_init od_NoPlace_init an_NoPlace_init od_Banned_init an_Banned_init od_NothingToUndo_init an_NothingToUndo_init od_law_dice an_law_dice od_law_roll an_law_roll od_law_one_of an_law_one_of od_law_thing an_law_thing od_law_error an_law_error od_law_classes an_law_classes od_law_kinds an_law_kinds od_law_due_kinds an_law_due_kinds od_law_kept an_law_kept od_law an_law : Option Addr} {sl_InvalidNumber_init sl_UnknownName_init sl_TooMany_init sl_NoPlace_init sl_Banned_init sl_NothingToUndo_init sl_law_dice sl_law_roll sl_law_one_of sl_law_thing sl_law_error sl_law_classes sl_law_kinds sl_law_due_kinds sl_law_kept sl_law : Array (Option Value)} {oc_InvalidNumber_init kV_InvalidNumber_init dc_InvalidNumber_init pm_InvalidNumber_init cd_InvalidNumber_init ct_InvalidNumber_init oc_UnknownName_init kV_UnknownName_init dc_UnknownName_init pm_UnknownName_init cd_UnknownName_init ct_UnknownName_init oc_TooMany_init kV_TooMany_init dc_TooMany_init pm_TooMany_init cd_TooMany_init ct_TooMany_init oc_NoPlace_init kV_NoPlace_init dc_NoPlace_init pm_NoPlace_init cd_NoPlace_init ct_NoPlace_init oc_Banned_init kV_Banned_init dc_Banned_init pm_Banned_init cd_Banned_init ct_Banned_init oc_NothingToUndo_init kV_NothingToUndo_init dc_NothingToUndo_init pm_NothingToUndo_init cd_NothingToUndo_init ct_NothingToUndo_init oc_law_dice kV_law_dice dc_law_dice pm_law_dice cd_law_dice ct_law_dice oc_law_roll kV_law_roll dc_law_roll pm_law_roll cd_law_roll ct_law_roll oc_law_one_of kV_law_one_of dc_law_one_of pm_law_one_of cd_law_one_of ct_law_one_of oc_law_thing kV_law_thing dc_law_thing pm_law_thing cd_law_thing ct_law_thing oc_law_error kV_law_error dc_law_error pm_law_error cd_law_error ct_law_error oc_law_classes kV_law_classes dc_law_classes pm_law_classes cd_law_classes ct_law_classes oc_law_kinds kV_law_kinds dc_law_kinds pm_law_kinds cd_law_kinds ct_law_kinds oc_law_due_kinds kV_law_due_kinds dc_law_due_kinds pm_law_due_kinds cd_law_due_kinds ct_law_due_kinds oc_law_kept kV_law_kept dc_law_kept pm_law_kept cd_law_kept ct_law_kept oc_law kV_law dc_law pm_law cd_law ct_law : Value}
    (gC_ShapeError : PySem.W.nsIn K mainGlobals "ShapeError" = some (some (.ref C_ShapeError)))
    (gC_InvalidSheet : PySem.W.nsIn K mainGlobals "InvalidSheet" = some (some (.ref C_InvalidSheet)))
    (gC_InvalidWeb : PySem.W.nsIn K mainGlobals "InvalidWeb" = some (some (.ref C_InvalidWeb)))
    (gC_InvalidShape : PySem.W.nsIn K mainGlobals "InvalidShape" = some (some (.ref C_InvalidShape)))
    (gC_InvalidSketch : PySem.W.nsIn K mainGlobals "InvalidSketch" = some (some (.ref C_InvalidSketch)))
    (gC_InvalidRule : PySem.W.nsIn K mainGlobals "InvalidRule" = some (some (.ref C_InvalidRule)))
    (gC_InvalidBans : PySem.W.nsIn K mainGlobals "InvalidBans" = some (some (.ref C_InvalidBans)))
    (gC_InvalidProgram : PySem.W.nsIn K mainGlobals "InvalidProgram" = some (some (.ref C_InvalidProgram)))
    (gC_InvalidOperation : PySem.W.nsIn K mainGlobals "InvalidOperation" = some (some (.ref C_InvalidOperation)))
    (gC_InvalidDeed : PySem.W.nsIn K mainGlobals "InvalidDeed" = some (some (.ref C_InvalidDeed)))
    (gC_ParseError : PySem.W.nsIn K mainGlobals "ParseError" = some (some (.ref C_ParseError)))
    (gC_InvalidNumber : PySem.W.nsIn K mainGlobals "InvalidNumber" = some (some (.ref C_InvalidNumber)))
    (gC_UnknownName : PySem.W.nsIn K mainGlobals "UnknownName" = some (some (.ref C_UnknownName)))
    (gC_TooMany : PySem.W.nsIn K mainGlobals "TooMany" = some (some (.ref C_TooMany)))
    (gC_NoPlace : PySem.W.nsIn K mainGlobals "NoPlace" = some (some (.ref C_NoPlace)))
    (gC_Banned : PySem.W.nsIn K mainGlobals "Banned" = some (some (.ref C_Banned)))
    (gC_NothingToUndo : PySem.W.nsIn K mainGlobals "NothingToUndo" = some (some (.ref C_NothingToUndo)))
    (a_InvalidNumber_init : PySem.W.findIn K (.ref C_InvalidNumber) "__init__" = some (some (.ref f_InvalidNumber_init)))
    (i_InvalidNumber_init : PySem.W.isFn K (.ref f_InvalidNumber_init) = true)
    (l_InvalidNumber_init : K.lookup f_InvalidNumber_init = some ⟨oc_InvalidNumber_init, od_InvalidNumber_init, .func (PySem.W.fnOf "__init__" "InvalidNumber.__init__" (defArgs s_InvalidNumber_init) (defBody s_InvalidNumber_init) (defScope s_InvalidNumber_init) .none kV_InvalidNumber_init dc_InvalidNumber_init pm_InvalidNumber_init an_InvalidNumber_init cd_InvalidNumber_init ct_InvalidNumber_init), sl_InvalidNumber_init⟩)
    (c_InvalidNumber_init : PySem.W.codeIn K cd_InvalidNumber_init "InvalidNumber.__init__" = true)
    (k_InvalidNumber_init : PySem.W.keepIn K (.ref f_InvalidNumber_init) = true)
    (a_UnknownName_init : PySem.W.findIn K (.ref C_UnknownName) "__init__" = some (some (.ref f_UnknownName_init)))
    (i_UnknownName_init : PySem.W.isFn K (.ref f_UnknownName_init) = true)
    (l_UnknownName_init : K.lookup f_UnknownName_init = some ⟨oc_UnknownName_init, od_UnknownName_init, .func (PySem.W.fnOf "__init__" "UnknownName.__init__" (defArgs s_UnknownName_init) (defBody s_UnknownName_init) (defScope s_UnknownName_init) .none kV_UnknownName_init dc_UnknownName_init pm_UnknownName_init an_UnknownName_init cd_UnknownName_init ct_UnknownName_init), sl_UnknownName_init⟩)
    (c_UnknownName_init : PySem.W.codeIn K cd_UnknownName_init "UnknownName.__init__" = true)
    (k_UnknownName_init : PySem.W.keepIn K (.ref f_UnknownName_init) = true)
    (a_TooMany_init : PySem.W.findIn K (.ref C_TooMany) "__init__" = some (some (.ref f_TooMany_init)))
    (i_TooMany_init : PySem.W.isFn K (.ref f_TooMany_init) = true)
    (l_TooMany_init : K.lookup f_TooMany_init = some ⟨oc_TooMany_init, od_TooMany_init, .func (PySem.W.fnOf "__init__" "TooMany.__init__" (defArgs s_TooMany_init) (defBody s_TooMany_init) (defScope s_TooMany_init) .none kV_TooMany_init dc_TooMany_init pm_TooMany_init an_TooMany_init cd_TooMany_init ct_TooMany_init), sl_TooMany_init⟩)
    (c_TooMany_init : PySem.W.codeIn K cd_TooMany_init "TooMany.__init__" = true)
    (k_TooMany_init : PySem.W.keepIn K (.ref f_TooMany_init) = true)
    (a_NoPlace_init : PySem.W.findIn K (.ref C_NoPlace) "__init__" = some (some (.ref f_NoPlace_init)))
    (i_NoPlace_init : PySem.W.isFn K (.ref f_NoPlace_init) = true)
    (l_NoPlace_init : K.lookup f_NoPlace_init = some ⟨oc_NoPlace_init, od_NoPlace_init, .func (PySem.W.fnOf "__init__" "NoPlace.__init__" (defArgs s_NoPlace_init) (defBody s_NoPlace_init) (defScope s_NoPlace_init) .none kV_NoPlace_init dc_NoPlace_init pm_NoPlace_init an_NoPlace_init cd_NoPlace_init ct_NoPlace_init), sl_NoPlace_init⟩)
    (c_NoPlace_init : PySem.W.codeIn K cd_NoPlace_init "NoPlace.__init__" = true)
    (k_NoPlace_init : PySem.W.keepIn K (.ref f_NoPlace_init) = true)
    (a_Banned_init : PySem.W.findIn K (.ref C_Banned) "__init__" = some (some (.ref f_Banned_init)))
    (i_Banned_init : PySem.W.isFn K (.ref f_Banned_init) = true)
    (l_Banned_init : K.lookup f_Banned_init = some ⟨oc_Banned_init, od_Banned_init, .func (PySem.W.fnOf "__init__" "Banned.__init__" (defArgs s_Banned_init) (defBody s_Banned_init) (defScope s_Banned_init) .none kV_Banned_init dc_Banned_init pm_Banned_init an_Banned_init cd_Banned_init ct_Banned_init), sl_Banned_init⟩)
    (c_Banned_init : PySem.W.codeIn K cd_Banned_init "Banned.__init__" = true)
    (k_Banned_init : PySem.W.keepIn K (.ref f_Banned_init) = true)
    (a_NothingToUndo_init : PySem.W.findIn K (.ref C_NothingToUndo) "__init__" = some (some (.ref f_NothingToUndo_init)))
    (i_NothingToUndo_init : PySem.W.isFn K (.ref f_NothingToUndo_init) = true)
    (l_NothingToUndo_init : K.lookup f_NothingToUndo_init = some ⟨oc_NothingToUndo_init, od_NothingToUndo_init, .func (PySem.W.fnOf "__init__" "NothingToUndo.__init__" (defArgs s_NothingToUndo_init) (defBody s_NothingToUndo_init) (defScope s_NothingToUndo_init) .none kV_NothingToUndo_init dc_NothingToUndo_init pm_NothingToUndo_init an_NothingToUndo_init cd_NothingToUndo_init ct_NothingToUndo_init), sl_NothingToUndo_init⟩)
    (c_NothingToUndo_init : PySem.W.codeIn K cd_NothingToUndo_init "NothingToUndo.__init__" = true)
    (k_NothingToUndo_init : PySem.W.keepIn K (.ref f_NothingToUndo_init) = true)
    (a_law_dice : PySem.W.nsIn K mainGlobals "_law_dice" = some (some (.ref f_law_dice)))
    (l_law_dice : K.lookup f_law_dice = some ⟨oc_law_dice, od_law_dice, .func (PySem.W.fnOf "_law_dice" "_law_dice" (defArgs s_law_dice) (defBody s_law_dice) (defScope s_law_dice) .none kV_law_dice dc_law_dice pm_law_dice an_law_dice cd_law_dice ct_law_dice), sl_law_dice⟩)
    (c_law_dice : PySem.W.codeIn K cd_law_dice "_law_dice" = true)
    (k_law_dice : PySem.W.keepIn K (.ref f_law_dice) = true)
    (a_law_roll : PySem.W.nsIn K mainGlobals "_law_roll" = some (some (.ref f_law_roll)))
    (l_law_roll : K.lookup f_law_roll = some ⟨oc_law_roll, od_law_roll, .func (PySem.W.fnOf "_law_roll" "_law_roll" (defArgs s_law_roll) (defBody s_law_roll) (defScope s_law_roll) .none kV_law_roll dc_law_roll pm_law_roll an_law_roll cd_law_roll ct_law_roll), sl_law_roll⟩)
    (c_law_roll : PySem.W.codeIn K cd_law_roll "_law_roll" = true)
    (k_law_roll : PySem.W.keepIn K (.ref f_law_roll) = true)
    (a_law_one_of : PySem.W.nsIn K mainGlobals "_law_one_of" = some (some (.ref f_law_one_of)))
    (l_law_one_of : K.lookup f_law_one_of = some ⟨oc_law_one_of, od_law_one_of, .func (PySem.W.fnOf "_law_one_of" "_law_one_of" (defArgs s_law_one_of) (defBody s_law_one_of) (defScope s_law_one_of) .none kV_law_one_of dc_law_one_of pm_law_one_of an_law_one_of cd_law_one_of ct_law_one_of), sl_law_one_of⟩)
    (c_law_one_of : PySem.W.codeIn K cd_law_one_of "_law_one_of" = true)
    (k_law_one_of : PySem.W.keepIn K (.ref f_law_one_of) = true)
    (a_law_thing : PySem.W.nsIn K mainGlobals "_law_thing" = some (some (.ref f_law_thing)))
    (l_law_thing : K.lookup f_law_thing = some ⟨oc_law_thing, od_law_thing, .func (PySem.W.fnOf "_law_thing" "_law_thing" (defArgs s_law_thing) (defBody s_law_thing) (defScope s_law_thing) .none kV_law_thing dc_law_thing pm_law_thing an_law_thing cd_law_thing ct_law_thing), sl_law_thing⟩)
    (c_law_thing : PySem.W.codeIn K cd_law_thing "_law_thing" = true)
    (k_law_thing : PySem.W.keepIn K (.ref f_law_thing) = true)
    (a_law_error : PySem.W.nsIn K mainGlobals "_law_error" = some (some (.ref f_law_error)))
    (l_law_error : K.lookup f_law_error = some ⟨oc_law_error, od_law_error, .func (PySem.W.fnOf "_law_error" "_law_error" (defArgs s_law_error) (defBody s_law_error) (defScope s_law_error) .none kV_law_error dc_law_error pm_law_error an_law_error cd_law_error ct_law_error), sl_law_error⟩)
    (c_law_error : PySem.W.codeIn K cd_law_error "_law_error" = true)
    (k_law_error : PySem.W.keepIn K (.ref f_law_error) = true)
    (a_law_classes : PySem.W.nsIn K mainGlobals "_law_classes" = some (some (.ref f_law_classes)))
    (l_law_classes : K.lookup f_law_classes = some ⟨oc_law_classes, od_law_classes, .func (PySem.W.fnOf "_law_classes" "_law_classes" (defArgs s_law_classes) (defBody s_law_classes) (defScope s_law_classes) .none kV_law_classes dc_law_classes pm_law_classes an_law_classes cd_law_classes ct_law_classes), sl_law_classes⟩)
    (c_law_classes : PySem.W.codeIn K cd_law_classes "_law_classes" = true)
    (k_law_classes : PySem.W.keepIn K (.ref f_law_classes) = true)
    (a_law_kinds : PySem.W.nsIn K mainGlobals "_law_kinds" = some (some (.ref f_law_kinds)))
    (l_law_kinds : K.lookup f_law_kinds = some ⟨oc_law_kinds, od_law_kinds, .func (PySem.W.fnOf "_law_kinds" "_law_kinds" (defArgs s_law_kinds) (defBody s_law_kinds) (defScope s_law_kinds) .none kV_law_kinds dc_law_kinds pm_law_kinds an_law_kinds cd_law_kinds ct_law_kinds), sl_law_kinds⟩)
    (c_law_kinds : PySem.W.codeIn K cd_law_kinds "_law_kinds" = true)
    (k_law_kinds : PySem.W.keepIn K (.ref f_law_kinds) = true)
    (a_law_due_kinds : PySem.W.nsIn K mainGlobals "_law_due_kinds" = some (some (.ref f_law_due_kinds)))
    (l_law_due_kinds : K.lookup f_law_due_kinds = some ⟨oc_law_due_kinds, od_law_due_kinds, .func (PySem.W.fnOf "_law_due_kinds" "_law_due_kinds" (defArgs s_law_due_kinds) (defBody s_law_due_kinds) (defScope s_law_due_kinds) .none kV_law_due_kinds dc_law_due_kinds pm_law_due_kinds an_law_due_kinds cd_law_due_kinds ct_law_due_kinds), sl_law_due_kinds⟩)
    (c_law_due_kinds : PySem.W.codeIn K cd_law_due_kinds "_law_due_kinds" = true)
    (k_law_due_kinds : PySem.W.keepIn K (.ref f_law_due_kinds) = true)
    (a_law_kept : PySem.W.nsIn K mainGlobals "_law_kept" = some (some (.ref f_law_kept)))
    (l_law_kept : K.lookup f_law_kept = some ⟨oc_law_kept, od_law_kept, .func (PySem.W.fnOf "_law_kept" "_law_kept" (defArgs s_law_kept) (defBody s_law_kept) (defScope s_law_kept) .none kV_law_kept dc_law_kept pm_law_kept an_law_kept cd_law_kept ct_law_kept), sl_law_kept⟩)
    (c_law_kept : PySem.W.codeIn K cd_law_kept "_law_kept" = true)
    (k_law_kept : PySem.W.keepIn K (.ref f_law_kept) = true)
    (a_law : PySem.W.nsIn K mainGlobals "law" = some (some (.ref f_law)))
    (l_law : K.lookup f_law = some ⟨oc_law, od_law, .func (PySem.W.fnOf "law" "law" (defArgs s_law) (defBody s_law) (defScope s_law) .none kV_law dc_law pm_law an_law cd_law ct_law), sl_law⟩)
    (c_law : PySem.W.codeIn K cd_law "law" = true)
    (k_law : PySem.W.keepIn K (.ref f_law) = true)
    (x_ShapeError : PySem.W.excIn K C_ShapeError [.type "ValueError", .type "Exception", .type "BaseException", .type "object"] "ValueError.__new__" = true)
    (k_ShapeError : PySem.W.keepIn K (.ref C_ShapeError) = true)
    (s_ShapeError : PySem.W.subIn K (.ref C_ShapeError) (.type "BaseException") = some true)
    (t_ShapeError : PySem.W.typeIn K (.ref C_ShapeError) = some (.type "type"))
    (i_ShapeError : PySem.W.isClsIn K C_ShapeError = true)
    (ss_ShapeError : PySem.W.subIn K (.ref C_ShapeError) (.ref C_ShapeError) = some true)
    (x_InvalidSheet : PySem.W.excIn K C_InvalidSheet [.type "ValueError", .type "Exception", .type "BaseException", .type "object"] "ValueError.__new__" = true)
    (k_InvalidSheet : PySem.W.keepIn K (.ref C_InvalidSheet) = true)
    (s_InvalidSheet : PySem.W.subIn K (.ref C_InvalidSheet) (.type "BaseException") = some true)
    (t_InvalidSheet : PySem.W.typeIn K (.ref C_InvalidSheet) = some (.type "type"))
    (i_InvalidSheet : PySem.W.isClsIn K C_InvalidSheet = true)
    (ss_InvalidSheet : PySem.W.subIn K (.ref C_InvalidSheet) (.ref C_InvalidSheet) = some true)
    (x_InvalidWeb : PySem.W.excIn K C_InvalidWeb [.type "ValueError", .type "Exception", .type "BaseException", .type "object"] "ValueError.__new__" = true)
    (k_InvalidWeb : PySem.W.keepIn K (.ref C_InvalidWeb) = true)
    (s_InvalidWeb : PySem.W.subIn K (.ref C_InvalidWeb) (.type "BaseException") = some true)
    (t_InvalidWeb : PySem.W.typeIn K (.ref C_InvalidWeb) = some (.type "type"))
    (i_InvalidWeb : PySem.W.isClsIn K C_InvalidWeb = true)
    (ss_InvalidWeb : PySem.W.subIn K (.ref C_InvalidWeb) (.ref C_InvalidWeb) = some true)
    (x_InvalidShape : PySem.W.excIn K C_InvalidShape [.type "ValueError", .type "Exception", .type "BaseException", .type "object"] "ValueError.__new__" = true)
    (k_InvalidShape : PySem.W.keepIn K (.ref C_InvalidShape) = true)
    (s_InvalidShape : PySem.W.subIn K (.ref C_InvalidShape) (.type "BaseException") = some true)
    (t_InvalidShape : PySem.W.typeIn K (.ref C_InvalidShape) = some (.type "type"))
    (i_InvalidShape : PySem.W.isClsIn K C_InvalidShape = true)
    (ss_InvalidShape : PySem.W.subIn K (.ref C_InvalidShape) (.ref C_InvalidShape) = some true)
    (x_InvalidSketch : PySem.W.excIn K C_InvalidSketch [.type "ValueError", .type "Exception", .type "BaseException", .type "object"] "ValueError.__new__" = true)
    (k_InvalidSketch : PySem.W.keepIn K (.ref C_InvalidSketch) = true)
    (s_InvalidSketch : PySem.W.subIn K (.ref C_InvalidSketch) (.type "BaseException") = some true)
    (t_InvalidSketch : PySem.W.typeIn K (.ref C_InvalidSketch) = some (.type "type"))
    (i_InvalidSketch : PySem.W.isClsIn K C_InvalidSketch = true)
    (ss_InvalidSketch : PySem.W.subIn K (.ref C_InvalidSketch) (.ref C_InvalidSketch) = some true)
    (x_InvalidRule : PySem.W.excIn K C_InvalidRule [.type "ValueError", .type "Exception", .type "BaseException", .type "object"] "ValueError.__new__" = true)
    (k_InvalidRule : PySem.W.keepIn K (.ref C_InvalidRule) = true)
    (s_InvalidRule : PySem.W.subIn K (.ref C_InvalidRule) (.type "BaseException") = some true)
    (t_InvalidRule : PySem.W.typeIn K (.ref C_InvalidRule) = some (.type "type"))
    (i_InvalidRule : PySem.W.isClsIn K C_InvalidRule = true)
    (ss_InvalidRule : PySem.W.subIn K (.ref C_InvalidRule) (.ref C_InvalidRule) = some true)
    (x_InvalidBans : PySem.W.excIn K C_InvalidBans [.type "ValueError", .type "Exception", .type "BaseException", .type "object"] "ValueError.__new__" = true)
    (k_InvalidBans : PySem.W.keepIn K (.ref C_InvalidBans) = true)
    (s_InvalidBans : PySem.W.subIn K (.ref C_InvalidBans) (.type "BaseException") = some true)
    (t_InvalidBans : PySem.W.typeIn K (.ref C_InvalidBans) = some (.type "type"))
    (i_InvalidBans : PySem.W.isClsIn K C_InvalidBans = true)
    (ss_InvalidBans : PySem.W.subIn K (.ref C_InvalidBans) (.ref C_InvalidBans) = some true)
    (x_InvalidProgram : PySem.W.excIn K C_InvalidProgram [.type "ValueError", .type "Exception", .type "BaseException", .type "object"] "ValueError.__new__" = true)
    (k_InvalidProgram : PySem.W.keepIn K (.ref C_InvalidProgram) = true)
    (s_InvalidProgram : PySem.W.subIn K (.ref C_InvalidProgram) (.type "BaseException") = some true)
    (t_InvalidProgram : PySem.W.typeIn K (.ref C_InvalidProgram) = some (.type "type"))
    (i_InvalidProgram : PySem.W.isClsIn K C_InvalidProgram = true)
    (ss_InvalidProgram : PySem.W.subIn K (.ref C_InvalidProgram) (.ref C_InvalidProgram) = some true)
    (x_InvalidOperation : PySem.W.excIn K C_InvalidOperation [.type "ValueError", .type "Exception", .type "BaseException", .type "object"] "ValueError.__new__" = true)
    (k_InvalidOperation : PySem.W.keepIn K (.ref C_InvalidOperation) = true)
    (s_InvalidOperation : PySem.W.subIn K (.ref C_InvalidOperation) (.type "BaseException") = some true)
    (t_InvalidOperation : PySem.W.typeIn K (.ref C_InvalidOperation) = some (.type "type"))
    (i_InvalidOperation : PySem.W.isClsIn K C_InvalidOperation = true)
    (ss_InvalidOperation : PySem.W.subIn K (.ref C_InvalidOperation) (.ref C_InvalidOperation) = some true)
    (x_InvalidDeed : PySem.W.excIn K C_InvalidDeed [.type "ValueError", .type "Exception", .type "BaseException", .type "object"] "ValueError.__new__" = true)
    (k_InvalidDeed : PySem.W.keepIn K (.ref C_InvalidDeed) = true)
    (s_InvalidDeed : PySem.W.subIn K (.ref C_InvalidDeed) (.type "BaseException") = some true)
    (t_InvalidDeed : PySem.W.typeIn K (.ref C_InvalidDeed) = some (.type "type"))
    (i_InvalidDeed : PySem.W.isClsIn K C_InvalidDeed = true)
    (ss_InvalidDeed : PySem.W.subIn K (.ref C_InvalidDeed) (.ref C_InvalidDeed) = some true)
    (x_ParseError : PySem.W.excIn K C_ParseError [.type "ValueError", .type "Exception", .type "BaseException", .type "object"] "ValueError.__new__" = true)
    (k_ParseError : PySem.W.keepIn K (.ref C_ParseError) = true)
    (s_ParseError : PySem.W.subIn K (.ref C_ParseError) (.type "BaseException") = some true)
    (t_ParseError : PySem.W.typeIn K (.ref C_ParseError) = some (.type "type"))
    (i_ParseError : PySem.W.isClsIn K C_ParseError = true)
    (ss_ParseError : PySem.W.subIn K (.ref C_ParseError) (.ref C_ParseError) = some true)
    (n_InvalidNumber_value : PySem.W.findIn K (.ref C_InvalidNumber) "value" = some none)
    (k_InvalidNumber : PySem.W.keepIn K (.ref C_InvalidNumber) = true)
    (s_InvalidNumber : PySem.W.subIn K (.ref C_InvalidNumber) (.type "BaseException") = some true)
    (t_InvalidNumber : PySem.W.typeIn K (.ref C_InvalidNumber) = some (.type "type"))
    (i_InvalidNumber : PySem.W.isClsIn K C_InvalidNumber = true)
    (ss_InvalidNumber : PySem.W.subIn K (.ref C_InvalidNumber) (.ref C_InvalidNumber) = some true)
    (n_UnknownName_name : PySem.W.findIn K (.ref C_UnknownName) "name" = some none)
    (k_UnknownName : PySem.W.keepIn K (.ref C_UnknownName) = true)
    (s_UnknownName : PySem.W.subIn K (.ref C_UnknownName) (.type "BaseException") = some true)
    (t_UnknownName : PySem.W.typeIn K (.ref C_UnknownName) = some (.type "type"))
    (i_UnknownName : PySem.W.isClsIn K C_UnknownName = true)
    (ss_UnknownName : PySem.W.subIn K (.ref C_UnknownName) (.ref C_UnknownName) = some true)
    (n_TooMany_limit : PySem.W.findIn K (.ref C_TooMany) "limit" = some none)
    (k_TooMany : PySem.W.keepIn K (.ref C_TooMany) = true)
    (s_TooMany : PySem.W.subIn K (.ref C_TooMany) (.type "BaseException") = some true)
    (t_TooMany : PySem.W.typeIn K (.ref C_TooMany) = some (.type "type"))
    (i_TooMany : PySem.W.isClsIn K C_TooMany = true)
    (ss_TooMany : PySem.W.subIn K (.ref C_TooMany) (.ref C_TooMany) = some true)
    (n_NoPlace_place : PySem.W.findIn K (.ref C_NoPlace) "place" = some none)
    (k_NoPlace : PySem.W.keepIn K (.ref C_NoPlace) = true)
    (s_NoPlace : PySem.W.subIn K (.ref C_NoPlace) (.type "BaseException") = some true)
    (t_NoPlace : PySem.W.typeIn K (.ref C_NoPlace) = some (.type "type"))
    (i_NoPlace : PySem.W.isClsIn K C_NoPlace = true)
    (ss_NoPlace : PySem.W.subIn K (.ref C_NoPlace) (.ref C_NoPlace) = some true)
    (n_Banned_index : PySem.W.findIn K (.ref C_Banned) "index" = some none)
    (n_Banned_place : PySem.W.findIn K (.ref C_Banned) "place" = some none)
    (k_Banned : PySem.W.keepIn K (.ref C_Banned) = true)
    (s_Banned : PySem.W.subIn K (.ref C_Banned) (.type "BaseException") = some true)
    (t_Banned : PySem.W.typeIn K (.ref C_Banned) = some (.type "type"))
    (i_Banned : PySem.W.isClsIn K C_Banned = true)
    (ss_Banned : PySem.W.subIn K (.ref C_Banned) (.ref C_Banned) = some true)
    (n_NothingToUndo_many : PySem.W.findIn K (.ref C_NothingToUndo) "many" = some none)
    (k_NothingToUndo : PySem.W.keepIn K (.ref C_NothingToUndo) = true)
    (s_NothingToUndo : PySem.W.subIn K (.ref C_NothingToUndo) (.type "BaseException") = some true)
    (t_NothingToUndo : PySem.W.typeIn K (.ref C_NothingToUndo) = some (.type "type"))
    (i_NothingToUndo : PySem.W.isClsIn K C_NothingToUndo = true)
    (ss_NothingToUndo : PySem.W.subIn K (.ref C_NothingToUndo) (.ref C_NothingToUndo) = some true)
    (y_X_ShapeError : L2.exB K C_ShapeError "ShapeError" (.ref C_ShapeError :: tVal) = true)
    (y_X_InvalidSheet : L2.exB K C_InvalidSheet "InvalidSheet" (.ref C_InvalidSheet :: .ref C_ShapeError :: tVal) = true)
    (y_X_InvalidWeb : L2.exB K C_InvalidWeb "InvalidWeb" (.ref C_InvalidWeb :: .ref C_ShapeError :: tVal) = true)
    (y_X_InvalidShape : L2.exB K C_InvalidShape "InvalidShape" (.ref C_InvalidShape :: .ref C_ShapeError :: tVal) = true)
    (y_X_InvalidSketch : L2.exB K C_InvalidSketch "InvalidSketch" (.ref C_InvalidSketch :: .ref C_ShapeError :: tVal) = true)
    (y_X_InvalidRule : L2.exB K C_InvalidRule "InvalidRule" (.ref C_InvalidRule :: .ref C_ShapeError :: tVal) = true)
    (y_X_InvalidBans : L2.exB K C_InvalidBans "InvalidBans" (.ref C_InvalidBans :: .ref C_ShapeError :: tVal) = true)
    (y_X_InvalidProgram : L2.exB K C_InvalidProgram "InvalidProgram" (.ref C_InvalidProgram :: .ref C_ShapeError :: tVal) = true)
    (y_X_InvalidOperation : L2.exB K C_InvalidOperation "InvalidOperation" (.ref C_InvalidOperation :: .ref C_ShapeError :: tVal) = true)
    (y_X_InvalidDeed : L2.exB K C_InvalidDeed "InvalidDeed" (.ref C_InvalidDeed :: .ref C_ShapeError :: tVal) = true)
    (y_X_ParseError : L2.exB K C_ParseError "ParseError" (.ref C_ParseError :: .ref C_ShapeError :: tVal) = true)
    (y_X_InvalidNumber : L2.exB K C_InvalidNumber "InvalidNumber" (.ref C_InvalidNumber :: PySem.Kx.tIndex) = true)
    (y_o_InvalidNumber : PySem.Kx.oxB K C_InvalidNumber PySem.Kx.tIndex "IndexError.__new__" = true)
    (y_sa_InvalidNumber : PySem.W.findIn K (.ref C_InvalidNumber) "__setattr__" = some (some (.builtin "object.__setattr__")))
    (y_v_IndexError : PySem.W.findCls K (.type "IndexError") (.type "type") "__init__" = some (.val (.builtin "IndexError.__init__")))
    (y_X_UnknownName : L2.exB K C_UnknownName "UnknownName" (.ref C_UnknownName :: PySem.Kx.tKey) = true)
    (y_o_UnknownName : PySem.Kx.oxB K C_UnknownName PySem.Kx.tKey "LookupError.__new__" = true)
    (y_sa_UnknownName : PySem.W.findIn K (.ref C_UnknownName) "__setattr__" = some (some (.builtin "object.__setattr__")))
    (y_v_KeyError : PySem.W.findCls K (.type "KeyError") (.type "type") "__init__" = some (.val (.builtin "KeyError.__init__")))
    (y_X_TooMany : L2.exB K C_TooMany "TooMany" (.ref C_TooMany :: PySem.Kx.tOver) = true)
    (y_o_TooMany : PySem.Kx.oxB K C_TooMany PySem.Kx.tOver "OverflowError.__new__" = true)
    (y_sa_TooMany : PySem.W.findIn K (.ref C_TooMany) "__setattr__" = some (some (.builtin "object.__setattr__")))
    (y_v_OverflowError : PySem.W.findCls K (.type "OverflowError") (.type "type") "__init__" = some (.val (.builtin "OverflowError.__init__")))
    (y_X_NoPlace : L2.exB K C_NoPlace "NoPlace" (.ref C_NoPlace :: PySem.Kx.tLook) = true)
    (y_o_NoPlace : PySem.Kx.oxB K C_NoPlace PySem.Kx.tLook "LookupError.__new__" = true)
    (y_sa_NoPlace : PySem.W.findIn K (.ref C_NoPlace) "__setattr__" = some (some (.builtin "object.__setattr__")))
    (y_v_LookupError : PySem.W.findCls K (.type "LookupError") (.type "type") "__init__" = some (.val (.builtin "LookupError.__init__")))
    (y_X_Banned : L2.exB K C_Banned "Banned" (.ref C_Banned :: PySem.Kx.tRun) = true)
    (y_o_Banned : PySem.Kx.oxB K C_Banned PySem.Kx.tRun "RuntimeError.__new__" = true)
    (y_sa_Banned : PySem.W.findIn K (.ref C_Banned) "__setattr__" = some (some (.builtin "object.__setattr__")))
    (y_v_RuntimeError : PySem.W.findCls K (.type "RuntimeError") (.type "type") "__init__" = some (.val (.builtin "RuntimeError.__init__")))
    (y_X_NothingToUndo : L2.exB K C_NothingToUndo "NothingToUndo" (.ref C_NothingToUndo :: PySem.Kx.tArith) = true)
    (y_o_NothingToUndo : PySem.Kx.oxB K C_NothingToUndo PySem.Kx.tArith "ArithmeticError.__new__" = true)
    (y_sa_NothingToUndo : PySem.W.findIn K (.ref C_NothingToUndo) "__setattr__" = some (some (.builtin "object.__setattr__")))
    (y_v_ArithmeticError : PySem.W.findCls K (.type "ArithmeticError") (.type "type") "__init__" = some (.val (.builtin "ArithmeticError.__init__")))
    (z_ArithmeticError : PySem.W.nsIn K mainGlobals "ArithmeticError" = some none)
    (z_IndexError : PySem.W.nsIn K mainGlobals "IndexError" = some none)
    (z_KeyError : PySem.W.nsIn K mainGlobals "KeyError" = some none)
    (z_LookupError : PySem.W.nsIn K mainGlobals "LookupError" = some none)
    (z_OverflowError : PySem.W.nsIn K mainGlobals "OverflowError" = some none)
    (z_RuntimeError : PySem.W.nsIn K mainGlobals "RuntimeError" = some none)
    (z_ValueError : PySem.W.nsIn K mainGlobals "ValueError" = some none)
    (z_abs : PySem.W.nsIn K mainGlobals "abs" = some none)
    (z_int : PySem.W.nsIn K mainGlobals "int" = some none)
    (z_isinstance : PySem.W.nsIn K mainGlobals "isinstance" = some none)
    (z_len : PySem.W.nsIn K mainGlobals "len" = some none)
    (z_max : PySem.W.nsIn K mainGlobals "max" = some none)
    (z_min : PySem.W.nsIn K mainGlobals "min" = some none)
    (z_range : PySem.W.nsIn K mainGlobals "range" = some none)
    (z_repr : PySem.W.nsIn K mainGlobals "repr" = some none)
    : ∃ fd : FuncData, (∀ (s : Shared) (v : Value), BindsTo s fd ⟨[v], []⟩ [("_law_script", v)]) ∧ ∀ base : Heap, K.In base → base.Ns mainGlobals mg → FnG l.prog w K mg base 4 fa fd ["_law_script"] (spLaw K) := by
  have e : f_law = fa := by
    have e := hfa.symm.trans (PySem.W.mg_of X G a_law)
    cases e
    rfl
  subst e
  have F_InvalidNumber_init := fun_mk (st := s_InvalidNumber_init) l_InvalidNumber_init c_InvalidNumber_init k_InvalidNumber_init
  have b_InvalidNumber_init := F_InvalidNumber_init.binds (ps := ["self", "value"]) fun _ _ _ _ _ _ us hl => match us, hl with | [_, _], _ => rfl
  have F_UnknownName_init := fun_mk (st := s_UnknownName_init) l_UnknownName_init c_UnknownName_init k_UnknownName_init
  have b_UnknownName_init := F_UnknownName_init.binds (ps := ["self", "name"]) fun _ _ _ _ _ _ us hl => match us, hl with | [_, _], _ => rfl
  have F_TooMany_init := fun_mk (st := s_TooMany_init) l_TooMany_init c_TooMany_init k_TooMany_init
  have b_TooMany_init := F_TooMany_init.binds (ps := ["self", "limit"]) fun _ _ _ _ _ _ us hl => match us, hl with | [_, _], _ => rfl
  have F_NoPlace_init := fun_mk (st := s_NoPlace_init) l_NoPlace_init c_NoPlace_init k_NoPlace_init
  have b_NoPlace_init := F_NoPlace_init.binds (ps := ["self", "place"]) fun _ _ _ _ _ _ us hl => match us, hl with | [_, _], _ => rfl
  have F_Banned_init := fun_mk (st := s_Banned_init) l_Banned_init c_Banned_init k_Banned_init
  have b_Banned_init := F_Banned_init.binds (ps := ["self", "index", "place"]) fun _ _ _ _ _ _ us hl => match us, hl with | [_, _, _], _ => rfl
  have F_NothingToUndo_init := fun_mk (st := s_NothingToUndo_init) l_NothingToUndo_init c_NothingToUndo_init k_NothingToUndo_init
  have b_NothingToUndo_init := F_NothingToUndo_init.binds (ps := ["self", "many"]) fun _ _ _ _ _ _ us hl => match us, hl with | [_, _], _ => rfl
  have F_law_dice := fun_mk (st := s_law_dice) l_law_dice c_law_dice k_law_dice
  have b_law_dice := F_law_dice.binds (ps := ["_law_script", "_law_at"]) fun _ _ _ _ _ _ us hl => match us, hl with | [_, _], _ => rfl
  have F_law_roll := fun_mk (st := s_law_roll) l_law_roll c_law_roll k_law_roll
  have b_law_roll := F_law_roll.binds (ps := ["_law_dice_here", "_law_total"]) fun _ _ _ _ _ _ us hl => match us, hl with | [_, _], _ => rfl
  have F_law_one_of := fun_mk (st := s_law_one_of) l_law_one_of c_law_one_of k_law_one_of
  have b_law_one_of := F_law_one_of.binds (ps := ["_law_dice_here", "_law_items"]) fun _ _ _ _ _ _ us hl => match us, hl with | [_, _], _ => rfl
  have F_law_thing := fun_mk (st := s_law_thing) l_law_thing c_law_thing k_law_thing
  have b_law_thing := F_law_thing.binds (ps := ["_law_dice_here", "_law_number"]) fun _ _ _ _ _ _ us hl => match us, hl with | [_, _], _ => rfl
  have F_law_error := fun_mk (st := s_law_error) l_law_error c_law_error k_law_error
  have b_law_error := F_law_error.binds (ps := ["_law_number", "_law_thing_here", "_law_other"]) fun _ _ _ _ _ _ us hl => match us, hl with | [_, _, _], _ => rfl
  have F_law_classes := fun_mk (st := s_law_classes) l_law_classes c_law_classes k_law_classes
  have b_law_classes := F_law_classes.binds (ps := ["_law_one"]) fun _ _ _ _ _ _ us hl => match us, hl with | [_], _ => rfl
  have F_law_kinds := fun_mk (st := s_law_kinds) l_law_kinds c_law_kinds k_law_kinds
  have b_law_kinds := F_law_kinds.binds (ps := ["_law_one"]) fun _ _ _ _ _ _ us hl => match us, hl with | [_], _ => rfl
  have F_law_due_kinds := fun_mk (st := s_law_due_kinds) l_law_due_kinds c_law_due_kinds k_law_due_kinds
  have b_law_due_kinds := F_law_due_kinds.binds (ps := ["_law_number"]) fun _ _ _ _ _ _ us hl => match us, hl with | [_], _ => rfl
  have F_law_kept := fun_mk (st := s_law_kept) l_law_kept c_law_kept k_law_kept
  have b_law_kept := F_law_kept.binds (ps := ["_law_number", "_law_one"]) fun _ _ _ _ _ _ us hl => match us, hl with | [_, _], _ => rfl
  have F_law := fun_mk (st := s_law) l_law c_law k_law
  have b_law := F_law.binds (ps := ["_law_script"]) fun _ _ _ _ _ _ us hl => match us, hl with | [_], _ => rfl
  have T : Txt K mg { a_InvalidNumber_init := f_InvalidNumber_init, d_InvalidNumber_init := PySem.W.fnOf "__init__" "InvalidNumber.__init__" (defArgs s_InvalidNumber_init) (defBody s_InvalidNumber_init) (defScope s_InvalidNumber_init) .none kV_InvalidNumber_init dc_InvalidNumber_init pm_InvalidNumber_init an_InvalidNumber_init cd_InvalidNumber_init ct_InvalidNumber_init, a_UnknownName_init := f_UnknownName_init, d_UnknownName_init := PySem.W.fnOf "__init__" "UnknownName.__init__" (defArgs s_UnknownName_init) (defBody s_UnknownName_init) (defScope s_UnknownName_init) .none kV_UnknownName_init dc_UnknownName_init pm_UnknownName_init an_UnknownName_init cd_UnknownName_init ct_UnknownName_init, a_TooMany_init := f_TooMany_init, d_TooMany_init := PySem.W.fnOf "__init__" "TooMany.__init__" (defArgs s_TooMany_init) (defBody s_TooMany_init) (defScope s_TooMany_init) .none kV_TooMany_init dc_TooMany_init pm_TooMany_init an_TooMany_init cd_TooMany_init ct_TooMany_init, a_NoPlace_init := f_NoPlace_init, d_NoPlace_init := PySem.W.fnOf "__init__" "NoPlace.__init__" (defArgs s_NoPlace_init) (defBody s_NoPlace_init) (defScope s_NoPlace_init) .none kV_NoPlace_init dc_NoPlace_init pm_NoPlace_init an_NoPlace_init cd_NoPlace_init ct_NoPlace_init, a_Banned_init := f_Banned_init, d_Banned_init := PySem.W.fnOf "__init__" "Banned.__init__" (defArgs s_Banned_init) (defBody s_Banned_init) (defScope s_Banned_init) .none kV_Banned_init dc_Banned_init pm_Banned_init an_Banned_init cd_Banned_init ct_Banned_init, a_NothingToUndo_init := f_NothingToUndo_init, d_NothingToUndo_init := PySem.W.fnOf "__init__" "NothingToUndo.__init__" (defArgs s_NothingToUndo_init) (defBody s_NothingToUndo_init) (defScope s_NothingToUndo_init) .none kV_NothingToUndo_init dc_NothingToUndo_init pm_NothingToUndo_init an_NothingToUndo_init cd_NothingToUndo_init ct_NothingToUndo_init, a_law_dice := f_law_dice, d_law_dice := PySem.W.fnOf "_law_dice" "_law_dice" (defArgs s_law_dice) (defBody s_law_dice) (defScope s_law_dice) .none kV_law_dice dc_law_dice pm_law_dice an_law_dice cd_law_dice ct_law_dice, a_law_roll := f_law_roll, d_law_roll := PySem.W.fnOf "_law_roll" "_law_roll" (defArgs s_law_roll) (defBody s_law_roll) (defScope s_law_roll) .none kV_law_roll dc_law_roll pm_law_roll an_law_roll cd_law_roll ct_law_roll, a_law_one_of := f_law_one_of, d_law_one_of := PySem.W.fnOf "_law_one_of" "_law_one_of" (defArgs s_law_one_of) (defBody s_law_one_of) (defScope s_law_one_of) .none kV_law_one_of dc_law_one_of pm_law_one_of an_law_one_of cd_law_one_of ct_law_one_of, a_law_thing := f_law_thing, d_law_thing := PySem.W.fnOf "_law_thing" "_law_thing" (defArgs s_law_thing) (defBody s_law_thing) (defScope s_law_thing) .none kV_law_thing dc_law_thing pm_law_thing an_law_thing cd_law_thing ct_law_thing, a_law_error := f_law_error, d_law_error := PySem.W.fnOf "_law_error" "_law_error" (defArgs s_law_error) (defBody s_law_error) (defScope s_law_error) .none kV_law_error dc_law_error pm_law_error an_law_error cd_law_error ct_law_error, a_law_classes := f_law_classes, d_law_classes := PySem.W.fnOf "_law_classes" "_law_classes" (defArgs s_law_classes) (defBody s_law_classes) (defScope s_law_classes) .none kV_law_classes dc_law_classes pm_law_classes an_law_classes cd_law_classes ct_law_classes, a_law_kinds := f_law_kinds, d_law_kinds := PySem.W.fnOf "_law_kinds" "_law_kinds" (defArgs s_law_kinds) (defBody s_law_kinds) (defScope s_law_kinds) .none kV_law_kinds dc_law_kinds pm_law_kinds an_law_kinds cd_law_kinds ct_law_kinds, a_law_due_kinds := f_law_due_kinds, d_law_due_kinds := PySem.W.fnOf "_law_due_kinds" "_law_due_kinds" (defArgs s_law_due_kinds) (defBody s_law_due_kinds) (defScope s_law_due_kinds) .none kV_law_due_kinds dc_law_due_kinds pm_law_due_kinds an_law_due_kinds cd_law_due_kinds ct_law_due_kinds, a_law_kept := f_law_kept, d_law_kept := PySem.W.fnOf "_law_kept" "_law_kept" (defArgs s_law_kept) (defBody s_law_kept) (defScope s_law_kept) .none kV_law_kept dc_law_kept pm_law_kept an_law_kept cd_law_kept ct_law_kept, a_law := f_law, d_law := PySem.W.fnOf "law" "law" (defArgs s_law) (defBody s_law) (defScope s_law) .none kV_law dc_law pm_law an_law cd_law ct_law, C_ShapeError := C_ShapeError, C_InvalidSheet := C_InvalidSheet, C_InvalidWeb := C_InvalidWeb, C_InvalidShape := C_InvalidShape, C_InvalidSketch := C_InvalidSketch, C_InvalidRule := C_InvalidRule, C_InvalidBans := C_InvalidBans, C_InvalidProgram := C_InvalidProgram, C_InvalidOperation := C_InvalidOperation, C_InvalidDeed := C_InvalidDeed, C_ParseError := C_ParseError, C_InvalidNumber := C_InvalidNumber, C_UnknownName := C_UnknownName, C_TooMany := C_TooMany, C_NoPlace := C_NoPlace, C_Banned := C_Banned, C_NothingToUndo := C_NothingToUndo : Ads } := { F_InvalidNumber_init := F_InvalidNumber_init, b_InvalidNumber_init := b_InvalidNumber_init, m_InvalidNumber_init := ⟨a_InvalidNumber_init, i_InvalidNumber_init, k_InvalidNumber_init⟩, F_UnknownName_init := F_UnknownName_init, b_UnknownName_init := b_UnknownName_init, m_UnknownName_init := ⟨a_UnknownName_init, i_UnknownName_init, k_UnknownName_init⟩, F_TooMany_init := F_TooMany_init, b_TooMany_init := b_TooMany_init, m_TooMany_init := ⟨a_TooMany_init, i_TooMany_init, k_TooMany_init⟩, F_NoPlace_init := F_NoPlace_init, b_NoPlace_init := b_NoPlace_init, m_NoPlace_init := ⟨a_NoPlace_init, i_NoPlace_init, k_NoPlace_init⟩, F_Banned_init := F_Banned_init, b_Banned_init := b_Banned_init, m_Banned_init := ⟨a_Banned_init, i_Banned_init, k_Banned_init⟩, F_NothingToUndo_init := F_NothingToUndo_init, b_NothingToUndo_init := b_NothingToUndo_init, m_NothingToUndo_init := ⟨a_NothingToUndo_init, i_NothingToUndo_init, k_NothingToUndo_init⟩, F_law_dice := F_law_dice, b_law_dice := b_law_dice, g_law_dice := PySem.W.mg_of X G a_law_dice, k_law_dice := k_law_dice, F_law_roll := F_law_roll, b_law_roll := b_law_roll, g_law_roll := PySem.W.mg_of X G a_law_roll, k_law_roll := k_law_roll, F_law_one_of := F_law_one_of, b_law_one_of := b_law_one_of, g_law_one_of := PySem.W.mg_of X G a_law_one_of, k_law_one_of := k_law_one_of, F_law_thing := F_law_thing, b_law_thing := b_law_thing, g_law_thing := PySem.W.mg_of X G a_law_thing, k_law_thing := k_law_thing, F_law_error := F_law_error, b_law_error := b_law_error, g_law_error := PySem.W.mg_of X G a_law_error, k_law_error := k_law_error, F_law_classes := F_law_classes, b_law_classes := b_law_classes, g_law_classes := PySem.W.mg_of X G a_law_classes, k_law_classes := k_law_classes, F_law_kinds := F_law_kinds, b_law_kinds := b_law_kinds, g_law_kinds := PySem.W.mg_of X G a_law_kinds, k_law_kinds := k_law_kinds, F_law_due_kinds := F_law_due_kinds, b_law_due_kinds := b_law_due_kinds, g_law_due_kinds := PySem.W.mg_of X G a_law_due_kinds, k_law_due_kinds := k_law_due_kinds, F_law_kept := F_law_kept, b_law_kept := b_law_kept, g_law_kept := PySem.W.mg_of X G a_law_kept, k_law_kept := k_law_kept, F_law := F_law, b_law := b_law, g_law := PySem.W.mg_of X G a_law, k_law := k_law, g_ShapeError := PySem.W.mg_of X G gC_ShapeError, x_ShapeError := x_ShapeError, k_ShapeError := k_ShapeError, s_ShapeError := s_ShapeError, t_ShapeError := t_ShapeError, e_ShapeError := Kd.exm_own s_ShapeError i_ShapeError t_ShapeError s_ShapeError ss_ShapeError, g_InvalidSheet := PySem.W.mg_of X G gC_InvalidSheet, x_InvalidSheet := x_InvalidSheet, k_InvalidSheet := k_InvalidSheet, s_InvalidSheet := s_InvalidSheet, t_InvalidSheet := t_InvalidSheet, e_InvalidSheet := Kd.exm_own s_InvalidSheet i_InvalidSheet t_InvalidSheet s_InvalidSheet ss_InvalidSheet, g_InvalidWeb := PySem.W.mg_of X G gC_InvalidWeb, x_InvalidWeb := x_InvalidWeb, k_InvalidWeb := k_InvalidWeb, s_InvalidWeb := s_InvalidWeb, t_InvalidWeb := t_InvalidWeb, e_InvalidWeb := Kd.exm_own s_InvalidWeb i_InvalidWeb t_InvalidWeb s_InvalidWeb ss_InvalidWeb, g_InvalidShape := PySem.W.mg_of X G gC_InvalidShape, x_InvalidShape := x_InvalidShape, k_InvalidShape := k_InvalidShape, s_InvalidShape := s_InvalidShape, t_InvalidShape := t_InvalidShape, e_InvalidShape := Kd.exm_own s_InvalidShape i_InvalidShape t_InvalidShape s_InvalidShape ss_InvalidShape, g_InvalidSketch := PySem.W.mg_of X G gC_InvalidSketch, x_InvalidSketch := x_InvalidSketch, k_InvalidSketch := k_InvalidSketch, s_InvalidSketch := s_InvalidSketch, t_InvalidSketch := t_InvalidSketch, e_InvalidSketch := Kd.exm_own s_InvalidSketch i_InvalidSketch t_InvalidSketch s_InvalidSketch ss_InvalidSketch, g_InvalidRule := PySem.W.mg_of X G gC_InvalidRule, x_InvalidRule := x_InvalidRule, k_InvalidRule := k_InvalidRule, s_InvalidRule := s_InvalidRule, t_InvalidRule := t_InvalidRule, e_InvalidRule := Kd.exm_own s_InvalidRule i_InvalidRule t_InvalidRule s_InvalidRule ss_InvalidRule, g_InvalidBans := PySem.W.mg_of X G gC_InvalidBans, x_InvalidBans := x_InvalidBans, k_InvalidBans := k_InvalidBans, s_InvalidBans := s_InvalidBans, t_InvalidBans := t_InvalidBans, e_InvalidBans := Kd.exm_own s_InvalidBans i_InvalidBans t_InvalidBans s_InvalidBans ss_InvalidBans, g_InvalidProgram := PySem.W.mg_of X G gC_InvalidProgram, x_InvalidProgram := x_InvalidProgram, k_InvalidProgram := k_InvalidProgram, s_InvalidProgram := s_InvalidProgram, t_InvalidProgram := t_InvalidProgram, e_InvalidProgram := Kd.exm_own s_InvalidProgram i_InvalidProgram t_InvalidProgram s_InvalidProgram ss_InvalidProgram, g_InvalidOperation := PySem.W.mg_of X G gC_InvalidOperation, x_InvalidOperation := x_InvalidOperation, k_InvalidOperation := k_InvalidOperation, s_InvalidOperation := s_InvalidOperation, t_InvalidOperation := t_InvalidOperation, e_InvalidOperation := Kd.exm_own s_InvalidOperation i_InvalidOperation t_InvalidOperation s_InvalidOperation ss_InvalidOperation, g_InvalidDeed := PySem.W.mg_of X G gC_InvalidDeed, x_InvalidDeed := x_InvalidDeed, k_InvalidDeed := k_InvalidDeed, s_InvalidDeed := s_InvalidDeed, t_InvalidDeed := t_InvalidDeed, e_InvalidDeed := Kd.exm_own s_InvalidDeed i_InvalidDeed t_InvalidDeed s_InvalidDeed ss_InvalidDeed, g_ParseError := PySem.W.mg_of X G gC_ParseError, x_ParseError := x_ParseError, k_ParseError := k_ParseError, s_ParseError := s_ParseError, t_ParseError := t_ParseError, e_ParseError := Kd.exm_own s_ParseError i_ParseError t_ParseError s_ParseError ss_ParseError, g_InvalidNumber := PySem.W.mg_of X G gC_InvalidNumber, n_InvalidNumber_value := n_InvalidNumber_value, k_InvalidNumber := k_InvalidNumber, s_InvalidNumber := s_InvalidNumber, t_InvalidNumber := t_InvalidNumber, e_InvalidNumber := Kd.exm_own s_InvalidNumber i_InvalidNumber t_InvalidNumber s_InvalidNumber ss_InvalidNumber, g_UnknownName := PySem.W.mg_of X G gC_UnknownName, n_UnknownName_name := n_UnknownName_name, k_UnknownName := k_UnknownName, s_UnknownName := s_UnknownName, t_UnknownName := t_UnknownName, e_UnknownName := Kd.exm_own s_UnknownName i_UnknownName t_UnknownName s_UnknownName ss_UnknownName, g_TooMany := PySem.W.mg_of X G gC_TooMany, n_TooMany_limit := n_TooMany_limit, k_TooMany := k_TooMany, s_TooMany := s_TooMany, t_TooMany := t_TooMany, e_TooMany := Kd.exm_own s_TooMany i_TooMany t_TooMany s_TooMany ss_TooMany, g_NoPlace := PySem.W.mg_of X G gC_NoPlace, n_NoPlace_place := n_NoPlace_place, k_NoPlace := k_NoPlace, s_NoPlace := s_NoPlace, t_NoPlace := t_NoPlace, e_NoPlace := Kd.exm_own s_NoPlace i_NoPlace t_NoPlace s_NoPlace ss_NoPlace, g_Banned := PySem.W.mg_of X G gC_Banned, n_Banned_index := n_Banned_index, n_Banned_place := n_Banned_place, k_Banned := k_Banned, s_Banned := s_Banned, t_Banned := t_Banned, e_Banned := Kd.exm_own s_Banned i_Banned t_Banned s_Banned ss_Banned, g_NothingToUndo := PySem.W.mg_of X G gC_NothingToUndo, n_NothingToUndo_many := n_NothingToUndo_many, k_NothingToUndo := k_NothingToUndo, s_NothingToUndo := s_NothingToUndo, t_NothingToUndo := t_NothingToUndo, e_NothingToUndo := Kd.exm_own s_NothingToUndo i_NothingToUndo t_NothingToUndo s_NothingToUndo ss_NothingToUndo, X_ShapeError := y_X_ShapeError, X_InvalidSheet := y_X_InvalidSheet, X_InvalidWeb := y_X_InvalidWeb, X_InvalidShape := y_X_InvalidShape, X_InvalidSketch := y_X_InvalidSketch, X_InvalidRule := y_X_InvalidRule, X_InvalidBans := y_X_InvalidBans, X_InvalidProgram := y_X_InvalidProgram, X_InvalidOperation := y_X_InvalidOperation, X_InvalidDeed := y_X_InvalidDeed, X_ParseError := y_X_ParseError, X_InvalidNumber := y_X_InvalidNumber, o_InvalidNumber := y_o_InvalidNumber, sa_InvalidNumber := y_sa_InvalidNumber, v_IndexError := y_v_IndexError, X_UnknownName := y_X_UnknownName, o_UnknownName := y_o_UnknownName, sa_UnknownName := y_sa_UnknownName, v_KeyError := y_v_KeyError, X_TooMany := y_X_TooMany, o_TooMany := y_o_TooMany, sa_TooMany := y_sa_TooMany, v_OverflowError := y_v_OverflowError, X_NoPlace := y_X_NoPlace, o_NoPlace := y_o_NoPlace, sa_NoPlace := y_sa_NoPlace, v_LookupError := y_v_LookupError, X_Banned := y_X_Banned, o_Banned := y_o_Banned, sa_Banned := y_sa_Banned, v_RuntimeError := y_v_RuntimeError, X_NothingToUndo := y_X_NothingToUndo, o_NothingToUndo := y_o_NothingToUndo, sa_NothingToUndo := y_sa_NothingToUndo, v_ArithmeticError := y_v_ArithmeticError, n_ArithmeticError := PySem.W.mg_none_of X G z_ArithmeticError, n_IndexError := PySem.W.mg_none_of X G z_IndexError, n_KeyError := PySem.W.mg_none_of X G z_KeyError, n_LookupError := PySem.W.mg_none_of X G z_LookupError, n_OverflowError := PySem.W.mg_none_of X G z_OverflowError, n_RuntimeError := PySem.W.mg_none_of X G z_RuntimeError, n_ValueError := PySem.W.mg_none_of X G z_ValueError, n_abs := PySem.W.mg_none_of X G z_abs, n_int := PySem.W.mg_none_of X G z_int, n_isinstance := PySem.W.mg_none_of X G z_isinstance, n_len := PySem.W.mg_none_of X G z_len, n_max := PySem.W.mg_none_of X G z_max, n_min := PySem.W.mg_none_of X G z_min, n_range := PySem.W.mg_none_of X G z_range, n_repr := PySem.W.mg_none_of X G z_repr }
  exact ⟨_, fun s v => .of_eq rfl, fun base _ _ => ok_law T⟩
theorem walk {l : PySem.W.OpenLaw} {q : Program} {loose : List Str} {XP : (Str → Option Value) → Heap → Prop} {YP : World → Heap → Prop} {d : DefRec} {K : Params → PySem.W.Frag} (hn : l.most = some 63) (hdf : d.params.defaults = [])
    (hY : ∀ (w : World) (h : Heap), YP w h → (K w.params).In h)
    (F : ∀ (w : World) (mg : Str → Option Value) (fa : Addr) (h : Heap), (K w.params).In h → h.Ns mainGlobals mg → mg d.name = some (.ref fa) →
      ∃ fd : FuncData, (∀ (s : Shared) (u : Value), BindsTo s fd ⟨[u], []⟩ [("_law_script", u)]) ∧ ∀ base : Heap, (K w.params).In base → base.Ns mainGlobals mg → FnG l.prog w (K w.params) mg base 4 fa fd ["_law_script"] (spLaw (K w.params))) :
    PySem.W.WalkO q loose XP YP l.row.toRowW d [] (fun f vs => PySem.call f vs) :=
  L2.walk_ofG (n := 63) (k := 4) (x := "_law_script") (sp := fun w => spLaw (K w.params)) hn (by decide) hdf ⟨rfl, by decide, by decide⟩ hY F (fun _ _ a ns hl hS => ⟨a, ns, rfl, hS, hl, fun _ => rfl⟩)
end K0
open PySem PySem.W PyProof.Rows
set_option maxRecDepth 100000 in
set_option maxHeartbeats 0 in
theorem PySem.Challenge.cw_keptshapes_k00_errors_and_their_kinds_holds : PySem.Challenge.rw_keptshapes_k00_errors_and_their_kinds.Holds := by
  w_on; o_law; k_head; (case hw => w_witness2)
  k_fill
  refine K0.walk (l := PySem.Challenge.rw_keptshapes_k00_errors_and_their_kinds) rfl rfl (fun w h Y => PySem.W.kIn_of Y) ?F
  case F =>
    intro w mg fa h KX G hmg
    refine' K0.all_mk KX G hmg ?gC_ShapeError ?gC_InvalidSheet ?gC_InvalidWeb ?gC_InvalidShape ?gC_InvalidSketch ?gC_InvalidRule ?gC_InvalidBans ?gC_InvalidProgram ?gC_InvalidOperation ?gC_InvalidDeed ?gC_ParseError ?gC_InvalidNumber ?gC_UnknownName ?gC_TooMany ?gC_NoPlace ?gC_Banned ?gC_NothingToUndo ?a_InvalidNumber_init ?i_InvalidNumber_init ?l_InvalidNumber_init ?c_InvalidNumber_init ?k_InvalidNumber_init ?a_UnknownName_init ?i_UnknownName_init ?l_UnknownName_init ?c_UnknownName_init ?k_UnknownName_init ?a_TooMany_init ?i_TooMany_init ?l_TooMany_init ?c_TooMany_init ?k_TooMany_init ?a_NoPlace_init ?i_NoPlace_init ?l_NoPlace_init ?c_NoPlace_init ?k_NoPlace_init ?a_Banned_init ?i_Banned_init ?l_Banned_init ?c_Banned_init ?k_Banned_init ?a_NothingToUndo_init ?i_NothingToUndo_init ?l_NothingToUndo_init ?c_NothingToUndo_init ?k_NothingToUndo_init ?a_law_dice ?l_law_dice ?c_law_dice ?k_law_dice ?a_law_roll ?l_law_roll ?c_law_roll ?k_law_roll ?a_law_one_of ?l_law_one_of ?c_law_one_of ?k_law_one_of ?a_law_thing ?l_law_thing ?c_law_thing ?k_law_thing ?a_law_error ?l_law_error ?c_law_error ?k_law_error ?a_law_classes ?l_law_classes ?c_law_classes ?k_law_classes ?a_law_kinds ?l_law_kinds ?c_law_kinds ?k_law_kinds ?a_law_due_kinds ?l_law_due_kinds ?c_law_due_kinds ?k_law_due_kinds ?a_law_kept ?l_law_kept ?c_law_kept ?k_law_kept ?a_law ?l_law ?c_law ?k_law ?x_ShapeError ?k_ShapeError ?s_ShapeError ?t_ShapeError ?i_ShapeError ?ss_ShapeError ?x_InvalidSheet ?k_InvalidSheet ?s_InvalidSheet ?t_InvalidSheet ?i_InvalidSheet ?ss_InvalidSheet ?x_InvalidWeb ?k_InvalidWeb ?s_InvalidWeb ?t_InvalidWeb ?i_InvalidWeb ?ss_InvalidWeb ?x_InvalidShape ?k_InvalidShape ?s_InvalidShape ?t_InvalidShape ?i_InvalidShape ?ss_InvalidShape ?x_InvalidSketch ?k_InvalidSketch ?s_InvalidSketch ?t_InvalidSketch ?i_InvalidSketch ?ss_InvalidSketch ?x_InvalidRule ?k_InvalidRule ?s_InvalidRule ?t_InvalidRule ?i_InvalidRule ?ss_InvalidRule ?x_InvalidBans ?k_InvalidBans ?s_InvalidBans ?t_InvalidBans ?i_InvalidBans ?ss_InvalidBans ?x_InvalidProgram ?k_InvalidProgram ?s_InvalidProgram ?t_InvalidProgram ?i_InvalidProgram ?ss_InvalidProgram ?x_InvalidOperation ?k_InvalidOperation ?s_InvalidOperation ?t_InvalidOperation ?i_InvalidOperation ?ss_InvalidOperation ?x_InvalidDeed ?k_InvalidDeed ?s_InvalidDeed ?t_InvalidDeed ?i_InvalidDeed ?ss_InvalidDeed ?x_ParseError ?k_ParseError ?s_ParseError ?t_ParseError ?i_ParseError ?ss_ParseError ?n_InvalidNumber_value ?k_InvalidNumber ?s_InvalidNumber ?t_InvalidNumber ?i_InvalidNumber ?ss_InvalidNumber ?n_UnknownName_name ?k_UnknownName ?s_UnknownName ?t_UnknownName ?i_UnknownName ?ss_UnknownName ?n_TooMany_limit ?k_TooMany ?s_TooMany ?t_TooMany ?i_TooMany ?ss_TooMany ?n_NoPlace_place ?k_NoPlace ?s_NoPlace ?t_NoPlace ?i_NoPlace ?ss_NoPlace ?n_Banned_index ?n_Banned_place ?k_Banned ?s_Banned ?t_Banned ?i_Banned ?ss_Banned ?n_NothingToUndo_many ?k_NothingToUndo ?s_NothingToUndo ?t_NothingToUndo ?i_NothingToUndo ?ss_NothingToUndo ?y_X_ShapeError ?y_X_InvalidSheet ?y_X_InvalidWeb ?y_X_InvalidShape ?y_X_InvalidSketch ?y_X_InvalidRule ?y_X_InvalidBans ?y_X_InvalidProgram ?y_X_InvalidOperation ?y_X_InvalidDeed ?y_X_ParseError ?y_X_InvalidNumber ?y_o_InvalidNumber ?y_sa_InvalidNumber ?y_v_IndexError ?y_X_UnknownName ?y_o_UnknownName ?y_sa_UnknownName ?y_v_KeyError ?y_X_TooMany ?y_o_TooMany ?y_sa_TooMany ?y_v_OverflowError ?y_X_NoPlace ?y_o_NoPlace ?y_sa_NoPlace ?y_v_LookupError ?y_X_Banned ?y_o_Banned ?y_sa_Banned ?y_v_RuntimeError ?y_X_NothingToUndo ?y_o_NothingToUndo ?y_sa_NothingToUndo ?y_v_ArithmeticError ?z_ArithmeticError ?z_IndexError ?z_KeyError ?z_LookupError ?z_OverflowError ?z_RuntimeError ?z_ValueError ?z_abs ?z_int ?z_isinstance ?z_len ?z_max ?z_min ?z_range ?z_repr
    (case gC_ShapeError => k_is)
    (case gC_InvalidSheet => k_is)
    (case gC_InvalidWeb => k_is)
    (case gC_InvalidShape => k_is)
    (case gC_InvalidSketch => k_is)
    (case gC_InvalidRule => k_is)
    (case gC_InvalidBans => k_is)
    (case gC_InvalidProgram => k_is)
    (case gC_InvalidOperation => k_is)
    (case gC_InvalidDeed => k_is)
    (case gC_ParseError => k_is)
    (case gC_InvalidNumber => k_is)
    (case gC_UnknownName => k_is)
    (case gC_TooMany => k_is)
    (case gC_NoPlace => k_is)
    (case gC_Banned => k_is)
    (case gC_NothingToUndo => k_is)
    (case a_InvalidNumber_init => k_is)
    (case i_InvalidNumber_init => k_is)
    (case l_InvalidNumber_init => k_is)
    (case c_InvalidNumber_init => k_is)
    (case k_InvalidNumber_init => k_is)
    (case a_UnknownName_init => k_is)
    (case i_UnknownName_init => k_is)
    (case l_UnknownName_init => k_is)
    (case c_UnknownName_init => k_is)
    (case k_UnknownName_init => k_is)
    (case a_TooMany_init => k_is)
    (case i_TooMany_init => k_is)
    (case l_TooMany_init => k_is)
    (case c_TooMany_init => k_is)
    (case k_TooMany_init => k_is)
    (case a_NoPlace_init => k_is)
    (case i_NoPlace_init => k_is)
    (case l_NoPlace_init => k_is)
    (case c_NoPlace_init => k_is)
    (case k_NoPlace_init => k_is)
    (case a_Banned_init => k_is)
    (case i_Banned_init => k_is)
    (case l_Banned_init => k_is)
    (case c_Banned_init => k_is)
    (case k_Banned_init => k_is)
    (case a_NothingToUndo_init => k_is)
    (case i_NothingToUndo_init => k_is)
    (case l_NothingToUndo_init => k_is)
    (case c_NothingToUndo_init => k_is)
    (case k_NothingToUndo_init => k_is)
    (case a_law_dice => k_is)
    (case l_law_dice => k_is)
    (case c_law_dice => k_is)
    (case k_law_dice => k_is)
    (case a_law_roll => k_is)
    (case l_law_roll => k_is)
    (case c_law_roll => k_is)
    (case k_law_roll => k_is)
    (case a_law_one_of => k_is)
    (case l_law_one_of => k_is)
    (case c_law_one_of => k_is)
    (case k_law_one_of => k_is)
    (case a_law_thing => k_is)
    (case l_law_thing => k_is)
    (case c_law_thing => k_is)
    (case k_law_thing => k_is)
    (case a_law_error => k_is)
    (case l_law_error => k_is)
    (case c_law_error => k_is)
    (case k_law_error => k_is)
    (case a_law_classes => k_is)
    (case l_law_classes => k_is)
    (case c_law_classes => k_is)
    (case k_law_classes => k_is)
    (case a_law_kinds => k_is)
    (case l_law_kinds => k_is)
    (case c_law_kinds => k_is)
    (case k_law_kinds => k_is)
    (case a_law_due_kinds => k_is)
    (case l_law_due_kinds => k_is)
    (case c_law_due_kinds => k_is)
    (case k_law_due_kinds => k_is)
    (case a_law_kept => k_is)
    (case l_law_kept => k_is)
    (case c_law_kept => k_is)
    (case k_law_kept => k_is)
    (case a_law => k_is)
    (case l_law => k_is)
    (case c_law => k_is)
    (case k_law => k_is)
    (case x_ShapeError => k_exc)
    (case k_ShapeError => k_is)
    (case s_ShapeError => k_is)
    (case t_ShapeError => k_is)
    (case i_ShapeError => k_is)
    (case ss_ShapeError => first | rfl | k_is)
    (case x_InvalidSheet => k_exc)
    (case k_InvalidSheet => k_is)
    (case s_InvalidSheet => k_is)
    (case t_InvalidSheet => k_is)
    (case i_InvalidSheet => k_is)
    (case ss_InvalidSheet => first | rfl | k_is)
    (case x_InvalidWeb => k_exc)
    (case k_InvalidWeb => k_is)
    (case s_InvalidWeb => k_is)
    (case t_InvalidWeb => k_is)
    (case i_InvalidWeb => k_is)
    (case ss_InvalidWeb => first | rfl | k_is)
    (case x_InvalidShape => k_exc)
    (case k_InvalidShape => k_is)
    (case s_InvalidShape => k_is)
    (case t_InvalidShape => k_is)
    (case i_InvalidShape => k_is)
    (case ss_InvalidShape => first | rfl | k_is)
    (case x_InvalidSketch => k_exc)
    (case k_InvalidSketch => k_is)
    (case s_InvalidSketch => k_is)
    (case t_InvalidSketch => k_is)
    (case i_InvalidSketch => k_is)
    (case ss_InvalidSketch => first | rfl | k_is)
    (case x_InvalidRule => k_exc)
    (case k_InvalidRule => k_is)
    (case s_InvalidRule => k_is)
    (case t_InvalidRule => k_is)
    (case i_InvalidRule => k_is)
    (case ss_InvalidRule => first | rfl | k_is)
    (case x_InvalidBans => k_exc)
    (case k_InvalidBans => k_is)
    (case s_InvalidBans => k_is)
    (case t_InvalidBans => k_is)
    (case i_InvalidBans => k_is)
    (case ss_InvalidBans => first | rfl | k_is)
    (case x_InvalidProgram => k_exc)
    (case k_InvalidProgram => k_is)
    (case s_InvalidProgram => k_is)
    (case t_InvalidProgram => k_is)
    (case i_InvalidProgram => k_is)
    (case ss_InvalidProgram => first | rfl | k_is)
    (case x_InvalidOperation => k_exc)
    (case k_InvalidOperation => k_is)
    (case s_InvalidOperation => k_is)
    (case t_InvalidOperation => k_is)
    (case i_InvalidOperation => k_is)
    (case ss_InvalidOperation => first | rfl | k_is)
    (case x_InvalidDeed => k_exc)
    (case k_InvalidDeed => k_is)
    (case s_InvalidDeed => k_is)
    (case t_InvalidDeed => k_is)
    (case i_InvalidDeed => k_is)
    (case ss_InvalidDeed => first | rfl | k_is)
    (case x_ParseError => k_exc)
    (case k_ParseError => k_is)
    (case s_ParseError => k_is)
    (case t_ParseError => k_is)
    (case i_ParseError => k_is)
    (case ss_ParseError => first | rfl | k_is)
    (case n_InvalidNumber_value => k_is)
    (case k_InvalidNumber => k_is)
    (case s_InvalidNumber => k_is)
    (case t_InvalidNumber => k_is)
    (case i_InvalidNumber => k_is)
    (case ss_InvalidNumber => first | rfl | k_is)
    (case n_UnknownName_name => k_is)
    (case k_UnknownName => k_is)
    (case s_UnknownName => k_is)
    (case t_UnknownName => k_is)
    (case i_UnknownName => k_is)
    (case ss_UnknownName => first | rfl | k_is)
    (case n_TooMany_limit => k_is)
    (case k_TooMany => k_is)
    (case s_TooMany => k_is)
    (case t_TooMany => k_is)
    (case i_TooMany => k_is)
    (case ss_TooMany => first | rfl | k_is)
    (case n_NoPlace_place => k_is)
    (case k_NoPlace => k_is)
    (case s_NoPlace => k_is)
    (case t_NoPlace => k_is)
    (case i_NoPlace => k_is)
    (case ss_NoPlace => first | rfl | k_is)
    (case n_Banned_index => k_is)
    (case n_Banned_place => k_is)
    (case k_Banned => k_is)
    (case s_Banned => k_is)
    (case t_Banned => k_is)
    (case i_Banned => k_is)
    (case ss_Banned => first | rfl | k_is)
    (case n_NothingToUndo_many => k_is)
    (case k_NothingToUndo => k_is)
    (case s_NothingToUndo => k_is)
    (case t_NothingToUndo => k_is)
    (case i_NothingToUndo => k_is)
    (case ss_NothingToUndo => first | rfl | k_is)
    (case y_X_ShapeError => first | k_is | kernel_rfl | rfl)
    (case y_X_InvalidSheet => first | k_is | kernel_rfl | rfl)
    (case y_X_InvalidWeb => first | k_is | kernel_rfl | rfl)
    (case y_X_InvalidShape => first | k_is | kernel_rfl | rfl)
    (case y_X_InvalidSketch => first | k_is | kernel_rfl | rfl)
    (case y_X_InvalidRule => first | k_is | kernel_rfl | rfl)
    (case y_X_InvalidBans => first | k_is | kernel_rfl | rfl)
    (case y_X_InvalidProgram => first | k_is | kernel_rfl | rfl)
    (case y_X_InvalidOperation => first | k_is | kernel_rfl | rfl)
    (case y_X_InvalidDeed => first | k_is | kernel_rfl | rfl)
    (case y_X_ParseError => first | k_is | kernel_rfl | rfl)
    (case y_X_InvalidNumber => first | k_is | kernel_rfl | rfl)
    (case y_o_InvalidNumber => first | k_is | kernel_rfl | rfl)
    (case y_sa_InvalidNumber => first | k_is | kernel_rfl | rfl)
    (case y_v_IndexError => first | k_is | kernel_rfl | rfl)
    (case y_X_UnknownName => first | k_is | kernel_rfl | rfl)
    (case y_o_UnknownName => first | k_is | kernel_rfl | rfl)
    (case y_sa_UnknownName => first | k_is | kernel_rfl | rfl)
    (case y_v_KeyError => first | k_is | kernel_rfl | rfl)
    (case y_X_TooMany => first | k_is | kernel_rfl | rfl)
    (case y_o_TooMany => first | k_is | kernel_rfl | rfl)
    (case y_sa_TooMany => first | k_is | kernel_rfl | rfl)
    (case y_v_OverflowError => first | k_is | kernel_rfl | rfl)
    (case y_X_NoPlace => first | k_is | kernel_rfl | rfl)
    (case y_o_NoPlace => first | k_is | kernel_rfl | rfl)
    (case y_sa_NoPlace => first | k_is | kernel_rfl | rfl)
    (case y_v_LookupError => first | k_is | kernel_rfl | rfl)
    (case y_X_Banned => first | k_is | kernel_rfl | rfl)
    (case y_o_Banned => first | k_is | kernel_rfl | rfl)
    (case y_sa_Banned => first | k_is | kernel_rfl | rfl)
    (case y_v_RuntimeError => first | k_is | kernel_rfl | rfl)
    (case y_X_NothingToUndo => first | k_is | kernel_rfl | rfl)
    (case y_o_NothingToUndo => first | k_is | kernel_rfl | rfl)
    (case y_sa_NothingToUndo => first | k_is | kernel_rfl | rfl)
    (case y_v_ArithmeticError => first | k_is | kernel_rfl | rfl)
    (case z_ArithmeticError => first | rfl | k_is)
    (case z_IndexError => first | rfl | k_is)
    (case z_KeyError => first | rfl | k_is)
    (case z_LookupError => first | rfl | k_is)
    (case z_OverflowError => first | rfl | k_is)
    (case z_RuntimeError => first | rfl | k_is)
    (case z_ValueError => first | rfl | k_is)
    (case z_abs => first | rfl | k_is)
    (case z_int => first | rfl | k_is)
    (case z_isinstance => first | rfl | k_is)
    (case z_len => first | rfl | k_is)
    (case z_max => first | rfl | k_is)
    (case z_min => first | rfl | k_is)
    (case z_range => first | rfl | k_is)
    (case z_repr => first | rfl | k_is)

