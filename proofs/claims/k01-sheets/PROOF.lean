import PyProof.Rows.All
import Wide.All
import OpenK.AllK
import Wide.FinOn
import HandS.ForMost
import HandS.Wide
import HandS.Evl
import HandS.Walk
import HandS.IsInst
import HandS.DictComp
import HandS.More
import HandS.Set
import HandS.SetFor
import HandS.SetKeys
import PyProof.SetRoads
import PyProof.TupleOfSeq
import HandS.OwnEq
import PyProof.InstNe
import KE.KCallOwn
import PyProof.ReprRoads
import HandS.Deep
import HandS.Property
import HandS.FStr
import HandS.Exc
import HandS.TryOnly
import HandS.ExcOwn
import HandS.WordsExc
import HandS.TupAny
import PySem.Challenge.RW_keptshapes_k01_sheets_and_names
set_option Elab.async false
set_option linter.all false
set_option maxRecDepth 100000
set_option maxHeartbeats 4000000
/-! The dice of the laws: a list of three ints of which nothing else is told. -/
namespace Kd
open PySem L2
theorem if_t {c : Bool} {A B : Prop} (h : c = true) (a : A) : if c = true then A else B := by rw [if_pos h]; exact a
theorem if_f {c : Bool} {A B : Prop} (h : c = false) (b : B) : if c = true then A else B := by rw [if_neg (by rw [h]; exact Bool.false_ne_true)]; exact b
/-- a list of three ints, whichever -/
def diceO (a : Addr) : HO := .ext fun h => ∃ (x y z : Int) (its : List Value) (n : Nat), Vals [.int x, .int y, .int z] its ∧ h.get? a = some { cls := .type "list", data := .seq its.toArray n }
theorem upd_back {H : Hp} {a : Addr} {o u : HO} (e : H a = some o) : upd (upd H a u) a o = H := by
  rw [upd_upd]
  funext b
  unfold upd
  split
  · rename_i h
    rw [h, e]
  · rfl
section
variable {X : Cx} {pins : List (Addr × Obj)} {σ : St} {H : Hp} {s : Shared} {a : Addr}
theorem open_dice (I : Inv X pins σ H s) (e : H a = some (diceO a)) : ∃ x y z : Int, Inv X pins σ (upd H a (.lst [.int x, .int y, .int z])) s := by
  obtain ⟨⟨x, y, z, its, n, r, ho⟩, _, _⟩ := I.hok a _ e
  refine ⟨x, y, z, ?_⟩
  have mu : Mut (H a) := by rw [e]; exact True.intro
  have hk : HOk X.prog X.w (upd H a (.lst [.int x, .int y, .int z])) s.heap :=
    I.hok.write (e := a) mu (.inl rfl) (fun _ _ _ q => q) ⟨_, ho⟩ ⟨by show 3 ≤ sizeLine; decide, its, n, r, ho⟩
  exact I.un (h' := s.heap) (t' := s.toks) (Un.write mu (.inl rfl) (fun _ _ _ q => q) ⟨_, ho⟩) hk
theorem shut_dice {x y z : Int} (I : Inv X pins σ H s) (e : H a = some (.lst [.int x, .int y, .int z])) : Inv X pins σ (upd H a (diceO a)) s := by
  obtain ⟨_, its, n, r, ho⟩ := I.hok a _ e
  have mu : Mut (H a) := by rw [e]; exact True.intro
  have hk : HOk X.prog X.w (upd H a (diceO a)) s.heap :=
    I.hok.write (e := a) mu (.inl rfl) (fun _ _ _ q => q) ⟨_, ho⟩ ⟨⟨x, y, z, its, n, r, ho⟩, ⟨_, ho⟩, fun h1 h2 ⟨x, y, z, its, n, r, q⟩ k => ⟨x, y, z, its, n, r, k _ q⟩⟩
  exact I.un (h' := s.heap) (t' := s.toks) (Un.write mu (.inl rfl) (fun _ _ _ q => q) ⟨_, ho⟩) hk
end
def rIxDice : R2 := fun x y H Q => ∃ (p : Addr) (k : Int), x = .ref p ∧ y = .int k ∧ H p = some (diceO p) ∧ (k = 0 ∨ k = 1 ∨ k = 2) ∧ ∀ i : Int, Q (.int i) H
theorem ix_dice {X : Cx} : IxR X rIxDice := by
  intro value slice pins s σ H x y v u Q I rx ry h hs
  obtain ⟨p, k, rfl, rfl, hp, hk, q⟩ := h
  obtain ⟨x, y, z, I'⟩ := open_dice I hp
  have key : ∃ i : Int, atI [V.int x, V.int y, V.int z] k = some (.int i) := by
    rcases hk with rfl | rfl | rfl
    · exact ⟨x, rfl⟩
    · exact ⟨y, rfl⟩
    · exact ⟨z, rfl⟩
  obtain ⟨i, hi⟩ := key
  refine thn (ix_list value slice pins s σ _ _ _ v u (fun v' H' => v' = .int i ∧ H' = upd H p (.lst [.int x, .int y, .int z])) I' rx ry ⟨p, _, k, _, rfl, rfl, SqL.of upd_same, hi, rfl, rfl⟩ hs) fun u s' h => ?_
  obtain ⟨v', H', I2, r2, rfl, rfl⟩ := h
  refine ⟨_, H, ?_, r2, q i⟩
  have J := shut_dice (a := p) I2 upd_same
  rw [upd_back hp] at J
  exact J
def rSetDice : TSet := fun o i v H Q => ∃ (p : Addr) (k j : Int), o = .ref p ∧ i = .int k ∧ v = .int j ∧ H p = some (diceO p) ∧ (k = 0 ∨ k = 1 ∨ k = 2) ∧ Q H
theorem set_dice {X : Cx} : PSet X rSetDice := by
  intro pins s σ H o i v ov iv u Q I ro ri rv h
  obtain ⟨p, k, j, rfl, rfl, rfl, hp, hk, q⟩ := h
  obtain ⟨x, y, z, I'⟩ := open_dice I hp
  have key : ∃ (n : Nat) (x' y' z' : Int), ixN 3 k = some n ∧ [V.int x, V.int y, V.int z].set n (.int j) = [.int x', .int y', .int z'] := by
    rcases hk with rfl | rfl | rfl
    · exact ⟨0, j, y, z, rfl, rfl⟩
    · exact ⟨1, x, j, z, rfl, rfl⟩
    · exact ⟨2, x, y, j, rfl, rfl⟩
  obtain ⟨n, x', y', z', hn, hs⟩ := key
  refine thn (set_list pins s σ _ _ _ _ ov iv u (fun H' => H' = upd H p (.lst [.int x', .int y', .int z'])) I' ro ri rv ⟨p, _, k, n, rfl, rfl, upd_same, hn, ?_⟩) fun u s' h => ?_
  · rw [upd_upd, hs]
  · obtain ⟨H', I2, rfl⟩ := h
    refine ⟨H, ?_, q⟩
    have J := shut_dice (a := p) I2 upd_same
    rw [upd_back hp] at J
    exact J
def CPowW (i j : Int) : Prop := 0 ≤ j ∧ (Builtin.Int.intBits i : Int) * j ≤ 2 ^ 27
theorem op_powW {X : Cx} : OpR X (binaryOp .Pow) (rI CPowW fun i j => .int (i ^ j.toNat)) := opI fun _ _ _ _ _ _ _ hc q => PyProof.Rows.pow_int hc.1 hc.2 q
/-- a new list of three ints is taken as a dice -/
def tShut (te : TE) : TE := fun σ H Q => te σ H fun v H1 => ∃ (p : Addr) (x y z : Int), v = .ref p ∧ H1 p = some (.lst [.int x, .int y, .int z]) ∧ Q v (upd H1 p (diceO p))
theorem pe_shut {X : Cx} {e : Expr} {te : TE} (h : PE X e te) : PE X e (tShut te) := ⟨fun pins s σ H Q I q => thn (h.run pins s σ H _ I q) fun u s1 ⟨v, H1, I1, r, p, x, y, z, ev, hp, q1⟩ => ⟨v, _, shut_dice I1 hp, r, q1⟩⟩
end Kd
namespace Kd
open PySem L2 Evl
/-- the type's name of a datum -/
def tyN : PyData → String
  | .none => "NoneType" | .bool _ => "bool" | .int _ => "int" | .str _ => "str" | .list _ => "list" | .tuple _ => "tuple" | .dict _ => "dict"
/-- data, dicts without their content -/
def Dv (K : PySem.W.Frag) (H : Hp) (v : V) (d : PyData) : Prop := Dp K H v d ∨ (∃ a kvs, v = .ref a ∧ H a = some (.dK kvs) ∧ d = .dict [])
theorem tyX_of {K : PySem.W.Frag} {H : Hp} {v : V} {d : PyData} (h : Dv K H v d) : TyX K H v (.type (tyN d)) := by
  rcases h with h | ⟨a, kvs, rfl, e, rfl⟩
  · cases h with
    | non => exact .base .non
    | bl b => exact .base (.bl b)
    | int i => exact .base (.int i)
    | str x => exact .base (.str x)
    | lst hs _ =>
      rcases hs with (e | ⟨o, e⟩) | ⟨o, its, n, e, c, _⟩
      · exact .base (.lst e)
      · exact .base (.frz e)
      · exact .kList e c
    | tup hs _ =>
      rcases hs with (e | ⟨o, e⟩) | ⟨o, its, n, e, c, _⟩
      · exact .base (.tup e)
      · exact .fTuple e
      · exact .kTuple e c
  · exact .base (.dK e)
mutual
theorem dp_ex {K : PySem.W.Frag} {H H' : Hp} (x : Ex H H') : ∀ (d : PyData) (v : V), Dp K H v d → Dp K H' v d
  | .none, _, h => by cases h; exact .non
  | .bool b, _, h => by cases h; exact .bl b
  | .int i, _, h => by cases h; exact .int i
  | .str s, _, h => by cases h; exact .str s
  | .list ds, _, h => by cases h with | lst hs ha => exact .lst (ex_l x hs) (dpAll_ex x ds _ ha)
  | .tuple ds, _, h => by cases h with | tup hs ha => exact .tup (ex_t x hs) (dpAll_ex x ds _ ha)
  | .dict _, _, h => by cases h
theorem dpAll_ex {K : PySem.W.Frag} {H H' : Hp} (x : Ex H H') : ∀ (ds : List PyData) (vs : List V), DpAll K H vs ds → DpAll K H' vs ds
  | [], _, h => by cases h; exact .nil
  | d :: ds, _, h => by cases h with | cons h1 h2 => exact .cons (dp_ex x d _ h1) (dpAll_ex x ds _ h2)
end
theorem dv_ex {K : PySem.W.Frag} {H H' : Hp} (x : Ex H H') {d : PyData} {v : V} (h : Dv K H v d) : Dv K H' v d := by
  rcases h with h | ⟨a, kvs, e1, e2, e3⟩
  · exact .inl (dp_ex x d v h)
  · exact .inr ⟨a, kvs, e1, x _ _ e2, e3⟩
theorem dpAll_strs {K : PySem.W.Frag} {H : Hp} : ∀ (zs : List Str), DpAll K H (zs.map V.str) (zs.map PyData.str)
  | [] => .nil
  | z :: zs => .cons (.str z) (dpAll_strs zs)
theorem isi_kit {d : PyData} (T : String) (r : Bool) (h : kitB (tyN d) T = some r) {K : PySem.W.Frag} : PySem.W.kitOne K (.type (tyN d)) (.type T) = some r := kit_ty h
theorem kit_str : ∀ d : PyData, kitB (tyN d) "str" = some (decide (tyN d = "str"))
  | .none => (by decide +kernel : kitB "NoneType" "str" = some (decide ("NoneType" = "str")))
  | .bool _ => (by decide +kernel : kitB "bool" "str" = some (decide ("bool" = "str")))
  | .int _ => (by decide +kernel : kitB "int" "str" = some (decide ("int" = "str")))
  | .str _ => (by decide +kernel : kitB "str" "str" = some (decide ("str" = "str")))
  | .list _ => (by decide +kernel : kitB "list" "str" = some (decide ("list" = "str")))
  | .tuple _ => (by decide +kernel : kitB "tuple" "str" = some (decide ("tuple" = "str")))
  | .dict _ => (by decide +kernel : kitB "dict" "str" = some (decide ("dict" = "str")))
theorem kit_tuple : ∀ d : PyData, kitB (tyN d) "tuple" = some (decide (tyN d = "tuple"))
  | .none => (by decide +kernel : kitB "NoneType" "tuple" = some (decide ("NoneType" = "tuple")))
  | .bool _ => (by decide +kernel : kitB "bool" "tuple" = some (decide ("bool" = "tuple")))
  | .int _ => (by decide +kernel : kitB "int" "tuple" = some (decide ("int" = "tuple")))
  | .str _ => (by decide +kernel : kitB "str" "tuple" = some (decide ("str" = "tuple")))
  | .list _ => (by decide +kernel : kitB "list" "tuple" = some (decide ("list" = "tuple")))
  | .tuple _ => (by decide +kernel : kitB "tuple" "tuple" = some (decide ("tuple" = "tuple")))
  | .dict _ => (by decide +kernel : kitB "dict" "tuple" = some (decide ("dict" = "tuple")))
theorem kit_bool : ∀ d : PyData, kitB (tyN d) "bool" = some (decide (tyN d = "bool"))
  | .none => (by decide +kernel : kitB "NoneType" "bool" = some (decide ("NoneType" = "bool")))
  | .bool _ => (by decide +kernel : kitB "bool" "bool" = some (decide ("bool" = "bool")))
  | .int _ => (by decide +kernel : kitB "int" "bool" = some (decide ("int" = "bool")))
  | .str _ => (by decide +kernel : kitB "str" "bool" = some (decide ("str" = "bool")))
  | .list _ => (by decide +kernel : kitB "list" "bool" = some (decide ("list" = "bool")))
  | .tuple _ => (by decide +kernel : kitB "tuple" "bool" = some (decide ("tuple" = "bool")))
  | .dict _ => (by decide +kernel : kitB "dict" "bool" = some (decide ("dict" = "bool")))
/-- [f(x) for x in .. if p(x)], scalars, nothing is changed but new things come -/
theorem lcS {J : It} {n : Nat} {G : Hp → Prop} {Y : Nat → Hp → V → Hp → Prop} (w : Walk J n G Y) {i : Nat} {tt : TT} {te : TE} {σ : L2.St} {H1 : Hp} {D : Addr} {Qd : Hp → Prop} (hD : H1 D = none) (xs : List V) (hn : xs.length = n) (hz : n < sizeLine)
    (p : V → Bool) (f : V → V) (hG : ∀ H, Ex H1 H → G H) (hY : ∀ k H x H', Y k H x H' → H' = H ∧ xs[k]? = some x) (hw : ∀ v, wipe ((wipe σ [i]).set i v) [i] = wipe σ [i])
    (ht : ∀ x H, x ∈ xs → Ex H1 H → EvT tt ((wipe σ [i]).set i (some x)) H (p x)) (he : ∀ x H, x ∈ xs → p x = true → Ex H1 H → Ev te ((wipe σ [i]).set i (some x)) H (f x))
    (hq : ∀ H, Ex H1 H → H D = some (.lst ((xs.filter p).map f)) → Qd H) :
    ∃ W : Nat → Nat → Hp → Prop, (∃ m, W 0 m (upd H1 D (.lst []))) ∧ ∀ k m H, W k m H →
      (J.stop k H ∧ Qd H) ∨ (J.go k H ∧ ∃ Nx : Hp → Prop, (∀ H', Nx H' → ∃ m', m' < m ∧ W (k + 1) m' H') ∧ ∀ x H', J.yld k H x H' → gName i x (wipe σ [i]) H' fun σ2 H2 => wipe σ2 [i] = wipe σ [i] ∧ tt σ2 H2 fun b H3 =>
        if b = true then te σ2 H3 fun y H4 => ∃ acc, H4 D = some (.lst acc) ∧ acc.length < sizeLine ∧ Nx (upd H4 D (.lst (acc ++ [y]))) else Nx H3) := by
  refine lc_it w (fun k H => Ex H1 H ∧ H D = some (.lst (((xs.take k).filter p).map f))) ⟨Ex.mut (Ex.refl H1) hD, upd_same⟩ (fun k H _ h => hG H h.1) ?_ (fun H h => hq H h.1 (by rw [h.2, List.take_of_length_le (by omega)]))
  rintro k x H H' hk ⟨e, hd⟩ y
  obtain ⟨rfl, hx⟩ := hY k H x H' y
  have hm : x ∈ xs := List.mem_of_getElem? hx
  have ht1 : xs.take (k + 1) = xs.take k ++ [x] := by
    rw [List.take_add_one, hx]
    rfl
  refine ⟨hw (some x), ht x H' hm e H' (Ex.refl _) _ fun H3 e3 => ?_⟩
  cases hp : p x with
  | false =>
    refine if_f rfl ⟨e.trans e3, ?_⟩
    rw [e3 _ _ hd, ht1, List.filter_append]
    simp [hp]
  | true =>
    refine if_t rfl (he x H' hm hp e H3 e3 _ fun H4 e4 => ⟨_, e4 _ _ (e3 _ _ hd), ?_, Ex.mut ((e.trans e3).trans e4) hD, ?_⟩)
    · rw [List.length_map]
      have h1 := List.length_filter_le p (xs.take k)
      have h2 : (xs.take k).length ≤ n := by rw [List.length_take, hn]; exact Nat.min_le_right _ _
      omega
    · rw [upd_same, ht1, List.filter_append, List.map_append]
      simp [hp]
end Kd
/-! set(t) of a tuple of ints and texts, and its len -/
namespace Ks
open PySem PySem.Spec PyProof.Rows L2
/-- x is one of l -/
def has {α : Type} [DecidableEq α] (l : List α) (x : α) : Bool := l.any fun y => decide (y = x)
theorem has_iff {α : Type} [DecidableEq α] {l : List α} {x : α} : has l x = true ↔ x ∈ l := by
  unfold has
  rw [List.any_eq_true]
  exact ⟨fun ⟨y, h, e⟩ => by rw [← of_decide_eq_true e]; exact h, fun h => ⟨x, h, decide_eq_true rfl⟩⟩
theorem has_snoc {α : Type} [DecidableEq α] (l : List α) (x y : α) : has (l ++ [x]) y = (has l y || decide (y = x)) := by
  unfold has
  rw [List.any_append]
  by_cases h : x = y
  · subst h; simp
  · have h' : ¬ y = x := fun e => h e.symm
    simp [h, h']
/-- one more, if it is not there -/
def add1 {α : Type} [DecidableEq α] (acc : List α) (x : α) : List α := if has acc x = true then acc else acc ++ [x]
/-- each once, in the order of first coming -/
def uniq {α : Type} [DecidableEq α] (l : List α) : List α := l.foldl add1 []
theorem uniq_snoc {α : Type} [DecidableEq α] (l : List α) (x : α) : uniq (l ++ [x]) = add1 (uniq l) x := by
  unfold uniq
  rw [List.foldl_append]
  rfl
theorem has_add1 {α : Type} [DecidableEq α] (acc : List α) (x y : α) : has (add1 acc x) y = (has acc y || decide (y = x)) := by
  unfold add1
  split
  · rename_i h
    by_cases e : y = x
    · subst e; rw [h]; rfl
    · rw [decide_eq_false e, Bool.or_false]
  · exact has_snoc acc x y
theorem has_foldl {α : Type} [DecidableEq α] (y : α) : ∀ (l acc : List α), has (l.foldl add1 acc) y = (has acc y || has l y)
  | [], acc => by
    show has acc y = (has acc y || false)
    rw [Bool.or_false]
  | x :: l, acc => by
    rw [List.foldl_cons, has_foldl y l, has_add1]
    show _ = (has acc y || (decide (x = y) || has l y))
    rw [Bool.or_assoc]
    congr 2
    exact decide_eq_decide.mpr ⟨fun e => e.symm, fun e => e.symm⟩
theorem has_uniq {α : Type} [DecidableEq α] (l : List α) (y : α) : has (uniq l) y = has l y := by
  unfold uniq
  rw [has_foldl]
  rfl
theorem len_foldl {α : Type} [DecidableEq α] : ∀ (l acc : List α), (l.foldl add1 acc).length ≤ acc.length + l.length
  | [], _ => Nat.le_refl _
  | x :: l, acc => by
    refine Nat.le_trans (len_foldl l _) ?_
    unfold add1
    rw [List.length_cons]
    split
    · omega
    · rw [List.length_append, List.length_singleton]; omega
theorem len_uniq {α : Type} [DecidableEq α] (l : List α) : (uniq l).length ≤ l.length := by
  have h := len_foldl l []
  rw [List.length_nil, Nat.zero_add] at h
  exact h
theorem len_eq_foldl {α : Type} [DecidableEq α] : ∀ (l acc : List α), (l.foldl add1 acc).length = acc.length + l.length ↔ (l.Nodup ∧ ∀ x ∈ l, has acc x = false)
  | [], _ => ⟨fun _ => ⟨List.nodup_nil, fun _ h => nomatch h⟩, fun _ => rfl⟩
  | x :: l, acc => by
    rw [List.foldl_cons, List.nodup_cons, List.length_cons]
    have ih := len_eq_foldl l (add1 acc x)
    cases hx : has acc x with
    | true =>
      have e : add1 acc x = acc := if_pos hx
      have hl := len_foldl l acc
      rw [e]
      constructor
      · intro h; omega
      · intro h
        have z := h.2 x List.mem_cons_self
        rw [hx] at z; cases z
    | false =>
      have e : add1 acc x = acc ++ [x] := if_neg (by rw [hx]; exact Bool.false_ne_true)
      rw [e] at ih ⊢
      rw [List.length_append, List.length_singleton] at ih
      constructor
      · intro h
        obtain ⟨h1, h2⟩ := ih.mp (by omega)
        refine ⟨⟨fun hm => ?_, h1⟩, fun y hy => ?_⟩
        · have z := h2 x hm
          rw [has_snoc, decide_eq_true rfl, Bool.or_true] at z; cases z
        · rcases List.mem_cons.mp hy with rfl | hy
          · exact hx
          · have z := h2 y hy
            rw [has_snoc] at z
            exact (Bool.or_eq_false_iff.mp z).1
      · intro ⟨⟨h1, h2⟩, h3⟩
        have z := ih.mpr ⟨h2, fun y hy => ?_⟩
        · omega
        · rw [has_snoc, h3 y (List.mem_cons_of_mem _ hy), Bool.false_or]
          exact decide_eq_false fun e => h1 (by rw [← e]; exact hy)
theorem len_eq_uniq {α : Type} [DecidableEq α] (l : List α) : (uniq l).length = l.length ↔ l.Nodup := by
  have h := len_eq_foldl l []
  unfold uniq
  rw [List.length_nil, Nat.zero_add] at h
  exact h.trans ⟨fun q => q.1, fun q => ⟨q, fun _ _ => rfl⟩⟩
theorem setOf_same {P : Program} {w : World} {h : Heap} {a : Addr} {S S' : Key → Bool} {n n' : Nat} (q : h.SetOf (mixKind P w) a S n) (e : S = S') (en : n = n') : h.SetOf (mixKind P w) a S' n' := by
  subst e; subst en; exact q
section
variable {P : Program} {w : World} {A : Around} {E : Value → Shared → Prop} {s : Shared}
theorem upd_loop {I : Addr} {fp wr : List Addr} {G : Array GenState → Array GenState → Prop} {n : Nat} {Pv : Nat → Value → Prop} {St : Nat → Shared → Prop} {R : Result → Shared → Prop} (W : WalksS P w A.in1 I fp wr G n Pv St) (S : Addr) (hS : S ∉ fp)
    (ks : List Key) (hn : n = ks.length) (hb : ks.length + 1 < scanBound) (hv : ∀ i v, Pv i v → ∃ k, ks[i]? = some k ∧ RelV (kV k) v) :
    ∀ (j i : Nat) (s : Shared), n - i = j → i ≤ n → St i s → s.heap.SetOf (mixKind P w) S (has (ks.take i)) (uniq (ks.take i)).length →
      (∀ s', Moved (S :: wr) G s s' → s'.heap.SetOf (mixKind P w) S (has ks) (uniq ks).length → R (.ok (.ret .none)) s') → codeAny (model P w) A (.builtin "set.update.loop" ⟨[.ref S, .ref I], []⟩) R s := by
  have hw : S ∉ wr := fun h => hS (W.sub _ h)
  have up : ∀ b ∈ wr, b ∈ S :: wr := fun b h => List.mem_cons_of_mem _ h
  have keepS : ∀ {s₁ s₂ : Shared} {T : Key → Bool} {c : Nat}, Moved wr G s₁ s₂ → s₁.heap.SetOf (mixKind P w) S T c → s₂.heap.SetOf (mixKind P w) S T c := fun m q => setOf_at q fun o e => m.heap S o hw e
  intro j
  induction j with
  | zero =>
    intro i s hj hi hst hset hR
    obtain rfl : i = n := by omega
    have e : ks.take i = ks := List.take_of_length_le (by omega)
    rw [e] at hset
    refine codeAny_builtin F.entry_set_update_loop ?_
    rw [Around.under_plainId F.plain_set_update_loop _]
    show wpAny _ A.in1 (pyNext (.ref I) >>= _) _ _ s
    refine wpAny_bind (W.done s _ _ hst fun s' hm => ?_)
    exact wpAny_pure (hR s' (hm.mono up) (keepS hm hset))
  | succ j ih =>
    intro i s hj hi hst hset hR
    have hlt : i < n := by omega
    refine codeAny_builtin F.entry_set_update_loop ?_
    rw [Around.under_plainId F.plain_set_update_loop _]
    show wpAny _ A.in1 (pyNext (.ref I) >>= _) _ _ s
    refine wpAny_bind (W.item i s _ _ hlt hst fun v s' hP hst' hm => ?_)
    obtain ⟨k, hk, rk⟩ := hv i v hP
    have hset' := keepS hm hset
    have hcnt : (uniq (ks.take i)).length + 1 < scanBound := by
      have z := len_uniq (ks.take i)
      rw [List.length_take] at z
      omega
    show wpAny _ A.in1 (holding [v] (setAdd S v) >>= _) _ _ s'
    refine wpAny_bind (wpAny_holding ?_)
    unfold setAdd
    refine wpAny_holding (wpAny_bind ((mixKind P w).pyHash (k := k) (kV_is rk) ?_))
    refine wpAny_setAddHashed_of (knd := mixKind P w) (s := { s' with toks := s'.toks + 1 }) (kV_is rk) (key_scan rk) hset' hcnt fun h' sb new => ?_
    have e1 : ks.take (i + 1) = ks.take i ++ [k] := by rw [List.take_add_one, hk]; rfl
    have new' : h'.SetOf (mixKind P w) S (has (ks.take (i + 1))) (uniq (ks.take (i + 1))).length := by
      refine setOf_same new (funext fun k' => ?_) ?_
      · rw [e1, has_snoc]
      · rw [e1, uniq_snoc]
        unfold add1
        rw [has_uniq]
        cases has (ks.take i) k with
        | true => rfl
        | false =>
          rw [if_neg Bool.false_ne_true, if_neg Bool.false_ne_true, List.length_append]
          rfl
    refine wpAny_pure ⟨plainId_quiet F.plain_set_update_loop _, ih (i + 1) _ (by omega) hlt (W.frame _ s' _ _ hst' (Nat.le_succ _) fun b hb o e => ?_) new' fun s'' hm'' q => ?_⟩
    · rw [sb.2 b (fun z : b = S => hS (by rw [← z]; exact hb))]
      exact e
    · refine hR s'' (Moved.trans W.gtrans ((hm.mono up).then_heap (Nat.le_succ _) fun b o hb e => ?_) hm'') q
      rw [sb.2 b (fun z : b = S => hb (by rw [z]; exact List.mem_cons_self))]
      exact e
abbrev eset (w : World) : Obj := { cls := .type "set", dict := none, data := .set #[] 0 (.fresh 0 0 (!w.params.followText "set-order")) }
theorem set_new {h : Heap} {a : Addr} (e : h.get? a = some (eset w)) : h.SetOf (mixKind P w) a (has []) 0 :=
  ⟨_, #[], 0, _, e, ⟨rfl, rfl, rfl⟩, rfl, (fun z hz => by simp at hz), (fun k => ⟨(fun q => by cases q), (fun ⟨z, hz, _⟩ => by simp at hz)⟩), (by decide), (by rfl), rfl⟩
theorem call_setK {l : Addr} {items : Array Value} (ks : List Key) {Q : Value → Shared → Prop} (hh : A.handled = none) (hl : s.heap.IsTuple l items) (hk : Vals (ks.map kV) items.toList) (hb : ks.length + 1 < scanBound)
    (h : ∀ (h' : Heap) (tk : Nat), h'.SetOf (mixKind P w) s.heap.objs.size (has ks) (uniq ks).length → (∀ b o, s.heap.get? b = some o → h'.get? b = some o) → Q (.ref s.heap.objs.size) { s with heap := h', toks := tk }) :
    wpAny (model P w) A (call (.type "set") [.ref l]) Q E s := by
  have size : items.size = ks.length := by
    have q := hk.length
    rw [List.length_map, Array.length_toList] at q
    exact q.symm
  obtain ⟨c, tl, hmro⟩ := F.called_set.mro
  have f1 := F.called_set.made
  have f2 := F.called_set.sub
  refine wpAny_call (codeAny_of_tree ?_)
  show wpAny _ _ (callAny (.type "set") _) _ _ _
  refine wpAny_pure ⟨Code.quiet_builtin _ (by decide +kernel), codeAny_builtin F.entry_type_call ?_⟩
  rw [Around.under_plain (weight_type_call_type "set" [.ref l] []) rfl]
  have f3 := F.called_set.notType
  have f4 := F.called_set.canCreate
  have f5 := F.typeCall_set_1 (.ref l)
  repeat (any_goals (first | assumption | wp_step))
  refine codeAny_mono (code_set_led1 (.ref l) (E := E) (Q₁ := fun v s₁ => v = .ref s.heap.objs.size ∧ s₁ = { s with heap := s.heap.push (eset w) }) ⟨rfl, rfl⟩) fun r s₁ hr => ?_
  cases r with
  | error e => exact hr
  | ok fl =>
    cases fl with
    | ret v =>
      obtain ⟨rfl, rfl⟩ := hr
      have got : (s.heap.push (eset w)).get? s.heap.objs.size = some (eset w) := Heap.get?_push_size _ rfl
      have ty : Shared.TypeIs { s with heap := s.heap.push (eset w) } (.ref s.heap.objs.size) "set" := ⟨_, got, rfl⟩
      have g1 := F.called_set.init.lookup
      have g2 := F.called_set.init.bind (.ref s.heap.objs.size)
      repeat (any_goals (first | assumption | wp_step))
      refine codeAny_mono (codeAny_call_builtin (R := wants (fun r s₂ => r = .none ∧ ∃ h' tk, s₂ = { s with heap := h', toks := tk } ∧ h'.SetOf (mixKind P w) s.heap.objs.size (has ks) (uniq ks).length ∧ (∀ b o, s.heap.get? b = some o → h'.get? b = some o)) E)
        F.called_set.init.plain F.entry_set_init (check_set_init_1 ty ?_)) fun r₂ s₂ hr₂ => ?_
      · obtain ⟨⟨ocls, odict, odata, oslots⟩, hol, hcl, nl, hdl⟩ := hl
        simp only at hcl hdl
        subst hcl; subst hdl
        have hol' := Heap.get?_push_of_some (eset w) hol
        have f6 := F.sub_tuple_set
        have f7 := F.sub_tuple_frozenset
        have f8 : (Value.type "tuple" == Value.type "dict") = false := by decide
        have tup1 : (s.heap.push (eset w)).IsTuple l items := ⟨_, hol', rfl, nl, rfl⟩
        unfold Builtin.«set.__init__» noKeywords Builtin.Frozenset.updateFrom
        generalize hPI : pyIter = PI
        wp_walk
        subst hPI
        refine wpAny_pyIter_tuple tup1 (wpAny_bind (wpAny_runValue ?_))
        have lS : l < s.heap.objs.size := Heap.lt_size hol
        have sz1 : (s.heap.push (eset w)).objs.size = s.heap.objs.size + 1 := Heap.size_push ..
        have n1 : l ≠ (s.heap.push (eset w)).objs.size := by rw [sz1]; exact Nat.ne_of_lt (Nat.lt_succ_of_lt lS)
        have n2 : s.heap.objs.size ∉ [(s.heap.push (eset w)).objs.size, l] := by
          rw [sz1]
          simp only [List.mem_cons, List.not_mem_nil, or_false, not_or]
          exact ⟨Nat.ne_of_lt (Nat.lt_succ_self _), Nat.ne_of_gt lS⟩
        have vals : ∀ (i : Nat) (v : Value), items[i]? = some v → ∃ k, ks[i]? = some k ∧ RelV (kV k) v := by
          intro i v hv
          have hi : i < ks.length := by rw [← size]; exact (Array.getElem?_eq_some_iff.mp hv).1
          obtain ⟨u, e1, e2⟩ := hk.get (i := i) (x := kV ks[i]) (by rw [List.getElem?_map, List.getElem?_eq_getElem hi]; rfl)
          rw [Array.getElem?_toList, hv] at e1
          cases e1
          exact ⟨_, List.getElem?_eq_getElem hi, e2⟩
        refine upd_loop ((Walks.tuple (by simp [hh]) _ l n1 items).toS) s.heap.objs.size n2 ks size hb vals (items.size - 0) 0 _ (by omega) (Nat.zero_le _) ⟨⟨_, Heap.get?_push_size _ rfl, rfl, rfl⟩, (tup1.push _)⟩ ?new ?fin
        case new => exact set_new (Heap.get?_push_of_some _ got)
        case fin =>
          intro s' hm hS'
          obtain ⟨h', g', d', tk', os'⟩ := s'
          obtain rfl : g' = s.gens := hm.gens
          obtain rfl : d' = s.drawn := hm.drawn
          obtain rfl : os' = s.os := hm.os
          show wpAny _ _ _ _ _ _
          refine wpAny_pure ?_
          show wpAny _ _ (ret Value.none) _ _ _
          refine wpAny_pure ⟨rfl, h', tk', rfl, hS', fun b o e => ?_⟩
          have hb0 : b < s.heap.objs.size := Heap.lt_size e
          exact hm.heap b o (by rw [sz1]; simp only [List.mem_cons, List.not_mem_nil, or_false, not_or]; exact ⟨Nat.ne_of_lt hb0, Nat.ne_of_lt (Nat.lt_succ_of_lt hb0)⟩) (Heap.get?_push_of_some _ (Heap.get?_push_of_some _ e))
      · cases r₂ with
        | error z => exact hr₂
        | ok f₂ =>
          cases f₂ with
          | ret v₂ =>
            obtain ⟨rfl, h', tk, rfl, q1, q2⟩ := hr₂
            repeat (any_goals (first | assumption | wp_step))
            exact h _ _ q1 q2
          | next => exact hr₂.elim
          | brk => exact hr₂.elim
          | cont => exact hr₂.elim
    | next => exact hr.elim
    | brk => exact hr.elim
    | cont => exact hr.elim
end
end Ks
namespace L2
open PySem PySem.Spec PyProof.Rows Ks
section
variable {X : Cx}
/-- set(t), t a tuple of ints and texts -/
def rSetT (K : PySem.W.Frag) (P : Program) (w : World) : List V → Hp → VK → Prop := fun xs H Q => ∃ (l : Addr) (ks : List Key), xs = [.ref l] ∧ SqT K H l (ks.map kV) ∧ ks.length + 1 < scanBound ∧ ∀ p, H p = none → Q (.ref p) (upd H p (SetK P w p (has ks) (uniq ks).length))
theorem cr_setT (hc : X.calm = true) : CallR X (.type "set") (rSetT X.K X.prog X.w) := by
  intro pins s σ H xs us Q I r ⟨l, ks, e, hs, hb, q⟩
  subst e
  rw [Vals.ref1 r]
  obtain ⟨its, rv, tp, _⟩ := I.tuple hs
  refine call_setK (P := X.prog) (w := X.w) ks (I.ok.hd hc) tp (by simpa using rv) hb fun h' tk S k => ?_
  exact ⟨.ref s.heap.objs.size, _, I.laid (t' := tk) k (Nat.le_refl _) (setK_new S), rfl, q _ (I.hok.fresh (Nat.le_refl _))⟩
/-- len of such a set -/
def rLenSetK (P : Program) (w : World) : List V → Hp → VK → Prop := fun xs H Q => ∃ (a : Addr) (S : Key → Bool) (n : Nat), xs = [.ref a] ∧ H a = some (SetK P w a S n) ∧ Q (.int n) H
theorem cr_lenSetK : CallR X (.builtin "len") (rLenSetK X.prog X.w) := by
  intro pins s σ H xs us Q I r ⟨a, S, n, e, ha, q⟩
  subst e
  rw [Vals.ref1 r]
  obtain ⟨o, es, ep, t, ho, hx, hd, _, _, hz, hf, hn⟩ := setK_get I ha
  refine call_len_set ho hx hd hf (by have h1 : es.size < 2 ^ 62 := Nat.lt_of_lt_of_le hz (by decide); omega) ?_
  rw [hn]
  exact ⟨.int n, H, I.tok _, ⟨_, rfl⟩, q⟩
end
end L2
namespace Kd
open PySem L2 Evl Ks
/-- [e for x in .. if t]: what each item gives is told by a list rs (whether it is taken, the value) -/
theorem lcR {J : It} {n : Nat} {G : Hp → Prop} {Y : Nat → Hp → V → Hp → Prop} (w : Walk J n G Y) {i : Nat} {tt : TT} {te : TE} {σ : L2.St} {H1 : Hp} {D : Addr} {Qd : Hp → Prop} (hD : H1 D = none) (xs : List V) (rs : List (Bool × V)) (hn : rs.length = n) (hz : n < sizeLine)
    (hG : ∀ H, Ex H1 H → G H) (hY : ∀ k H x H', Y k H x H' → H' = H ∧ xs[k]? = some x) (hw : ∀ v, wipe ((wipe σ [i]).set i v) [i] = wipe σ [i])
    (ht : ∀ (k : Nat) x b y H, xs[k]? = some x → rs[k]? = some (b, y) → Ex H1 H → EvT tt ((wipe σ [i]).set i (some x)) H b) (he : ∀ (k : Nat) x y H, xs[k]? = some x → rs[k]? = some (true, y) → Ex H1 H → Ev te ((wipe σ [i]).set i (some x)) H y)
    (hq : ∀ H, Ex H1 H → H D = some (.lst ((rs.filter (·.1)).map (·.2))) → Qd H) :
    ∃ W : Nat → Nat → Hp → Prop, (∃ m, W 0 m (upd H1 D (.lst []))) ∧ ∀ k m H, W k m H →
      (J.stop k H ∧ Qd H) ∨ (J.go k H ∧ ∃ Nx : Hp → Prop, (∀ H', Nx H' → ∃ m', m' < m ∧ W (k + 1) m' H') ∧ ∀ x H', J.yld k H x H' → gName i x (wipe σ [i]) H' fun σ2 H2 => wipe σ2 [i] = wipe σ [i] ∧ tt σ2 H2 fun b H3 =>
        if b = true then te σ2 H3 fun y H4 => ∃ acc, H4 D = some (.lst acc) ∧ acc.length < sizeLine ∧ Nx (upd H4 D (.lst (acc ++ [y]))) else Nx H3) := by
  refine lc_it w (fun k H => Ex H1 H ∧ H D = some (.lst (((rs.take k).filter (·.1)).map (·.2)))) ⟨Ex.mut (Ex.refl H1) hD, upd_same⟩ (fun k H _ h => hG H h.1) ?_ (fun H h => hq H h.1 (by rw [h.2, List.take_of_length_le (by omega)]))
  rintro k x H H' hk ⟨e, hd⟩ y
  obtain ⟨rfl, hx⟩ := hY k H x H' y
  have hk' : k < rs.length := by omega
  obtain ⟨⟨b, z⟩, hr⟩ : ∃ q, rs[k]? = some q := ⟨rs[k], List.getElem?_eq_getElem hk'⟩
  have ht1 : rs.take (k + 1) = rs.take k ++ [(b, z)] := by
    rw [List.take_add_one, hr]
    rfl
  refine ⟨hw (some x), ht k x b z H' hx hr e H' (Ex.refl _) _ fun H3 e3 => ?_⟩
  cases b with
  | false =>
    refine if_f rfl ⟨e.trans e3, ?_⟩
    rw [e3 _ _ hd, ht1, List.filter_append]
    simp
  | true =>
    refine if_t rfl (he k x z H' hx hr e H3 e3 _ fun H4 e4 => ⟨_, e4 _ _ (e3 _ _ hd), ?_, Ex.mut ((e.trans e3).trans e4) hD, ?_⟩)
    · rw [List.length_map]
      have h1 := List.length_filter_le (fun q : Bool × V => q.1) (rs.take k)
      have h2 : (rs.take k).length ≤ n := by rw [List.length_take, hn]; exact Nat.min_le_right _ _
      omega
    · rw [upd_same, ht1, List.filter_append, List.map_append]
      simp
theorem lcR_all {α : Type} (ds : List α) (f : α → V) : ((ds.map fun d => (true, f d)).filter (·.1)).map (·.2) = ds.map f := by
  induction ds with
  | nil => rfl
  | cons d r ih =>
    rw [List.map_cons, List.filter_cons]
    show (_ :: ((r.map fun d => (true, f d)).filter (·.1))).map (·.2) = _
    rw [List.map_cons, ih]
    rfl
theorem put_const (z : V) (l : List Key) (k : Key) : putK (l.map fun q => (q, z)) k z = (add1 l k).map fun q => (q, z) := by
  unfold putK add1
  have e : ((l.map fun q => (q, z)).any fun kv => decide (kv.1 = k)) = has l k := by
    unfold has
    rw [List.any_map]
    rfl
  rw [e]
  cases has l k with
  | true =>
    rw [if_pos rfl, if_pos rfl, List.map_map]
    refine List.map_congr_left fun q _ => ?_
    show (if q = k then (q, z) else (q, z)) = (q, z)
    split <;> rfl
  | false =>
    rw [if_neg Bool.false_ne_true, if_neg Bool.false_ne_true, List.map_append]
    rfl
/-- {x: z for x in t}, z one scalar -/
theorem dcS {K : PySem.W.Frag} {a : Addr} {i : Nat} {tk tv : TE} {σ : L2.St} {H1 : Hp} {D : Addr} {Qd : Hp → Prop} (hD : H1 D = none) (ks : List Key) (z : V) (hz : ks.length < sizeLine) (hs : SqT K H1 a (ks.map kV)) (hw : ∀ v, wipe ((wipe σ [i]).set i v) [i] = wipe σ [i])
    (hk : ∀ x H, x ∈ ks → Ex H1 H → Ev tk ((wipe σ [i]).set i (some (kV x))) H (kV x)) (hv : ∀ x H, x ∈ ks → Ex H1 H → Ev tv ((wipe σ [i]).set i (some (kV x))) H z)
    (hq : ∀ H, Ex H1 H → H D = some (.dK ((uniq ks).map fun k => (k, z))) → Qd H) :
    ∃ W : Nat → Nat → Hp → Prop, (∃ m, W 0 m (upd H1 D (.dK []))) ∧ ∀ k m H, W k m H →
      ((Itt K a).stop k H ∧ Qd H) ∨ ((Itt K a).go k H ∧ ∃ Nx : Hp → Prop, (∀ H', Nx H' → ∃ m', m' < m ∧ W (k + 1) m' H') ∧ ∀ x H', (Itt K a).yld k H x H' → gName i x (wipe σ [i]) H' fun σ2 H2 => wipe σ2 [i] = wipe σ [i] ∧ tYes σ2 H2 fun b H3 =>
        if b = true then tk σ2 H3 fun y H4 => tv σ2 H4 fun z H5 => ∃ kvs k, y = kV k ∧ H5 D = some (.dK kvs) ∧ kvs.length < sizeLine ∧ Nx (upd H5 D (.dK (putK kvs k z))) else Nx H3) := by
  refine dc_tup (xs := ks.map kV) (fun k H => Ex H1 H ∧ H D = some (.dK ((uniq (ks.take k)).map fun q => (q, z)))) ⟨Ex.mut (Ex.refl H1) hD, upd_same⟩ (fun k H _ h => ex_t h.1 hs) ?_ (fun H h => hq H h.1 (by rw [h.2, List.take_of_length_le (by rw [List.length_map]; exact Nat.le_refl _)]))
  rintro k x H hx ⟨e, hd⟩
  rw [List.getElem?_map] at hx
  obtain ⟨y, hy, rfl⟩ : ∃ y, ks[k]? = some y ∧ x = kV y := by
    cases q : ks[k]? with
    | none => rw [q] at hx; cases hx
    | some y => rw [q] at hx; exact ⟨y, rfl, (Option.some.inj hx).symm⟩
  have hm : y ∈ ks := List.mem_of_getElem? hy
  refine ⟨hw (some (kV y)), hk y H hm e H (Ex.refl _) _ fun H4 e4 => hv y H hm e H4 e4 _ fun H5 e5 => ⟨_, y, rfl, e5 _ _ (e4 _ _ hd), ?_, Ex.mut ((e.trans e4).trans e5) hD, ?_⟩⟩
  · rw [List.length_map]
    have h1 := len_uniq (ks.take k)
    rw [List.length_take] at h1
    omega
  · rw [upd_same, put_const, List.take_add_one, hy]
    show _ = some (HO.dK ((uniq (ks.take k ++ [y])).map _))
    rw [uniq_snoc]
end Kd
namespace L2
open PySem PySem.Spec PyProof.Rows
section
variable {X : Cx}
/-- sorted(t), t a tuple or a list of texts, fewer than 64 -/
def rSortU (K : PySem.W.Frag) : List V → Hp → VK → Prop := fun vs H Q => ∃ (a : Addr) (xs : List Str), vs = [V.ref a] ∧ (SqT K H a (xs.map V.str) ∨ SqL K H a (xs.map V.str)) ∧ xs.length < 64 ∧
  ∀ (ys : List Str) (p : Addr), ys.Perm xs → sortedS ys = true → H p = none → Q (.ref p) (upd H p (.lst (ys.map V.str)))
theorem cr_sortU : CallR X (.builtin "sorted") (rSortU X.K) := by
  intro pins s σ H vs us Q I r ⟨a, xs, e, hs, few, q⟩
  subst e
  rw [Vals.ref1 r]
  have hsq : ∃ (its : List Value) (T : String) (o : Obj) (n : Nat), Vals (xs.map V.str) its ∧ (T = "list" ∨ T = "tuple") ∧ s.heap.get? a = some o ∧ o.cls = .type T ∧ o.data = .seq its.toArray n := by
    rcases hs with hs | hs
    · obtain ⟨its, rv, ⟨o, ho, hc, n, hd⟩, _⟩ := I.tuple hs
      exact ⟨its, "tuple", o, n, rv, .inr rfl, ho, hc, hd⟩
    · obtain ⟨its, rv, ⟨o, n, ho, hc, _, hd⟩, _⟩ := I.list hs
      exact ⟨its, "list", o, n, rv, .inl rfl, ho, hc, hd⟩
  obtain ⟨its, T, o, n, rv, hT, ho, hc, hd⟩ := hsq
  have hS : StrsAre its xs := rv.strs
  have hlen : its.length = xs.length := by have e := rv.length; rw [List.length_map] at e; exact e.symm
  have hsz : its.length < 64 := by rw [hlen]; exact few
  have hln : its.length ≤ sizeLine := small64 hsz
  refine Calls.call_function_entry kind_sorted plain_sorted entry_sorted (args_sorted1 _) ?_
  unfold Builtin.«sorted»
  refine wpAny_bind (m := checkCount "sorted" 1 1 _) (wpAny_pure ?_)
  refine wpAny_bind (wpAny_collect_seq a hT ho hc hd (fun h1 kp => ?_) (by rw [List.size_toArray]; exact hln))
  refine wpAny_bind (wpAny_newList ?_ hln)
  have J : Inv X pins σ H { s with heap := h1 } := I.kept (t' := s.toks) kp
  have hnew : (h1.push (seqObj "list" its.toArray 0)).get? h1.objs.size = some (seqObj "list" its.toArray 0) := Heap.get?_push_size _ rfl
  show wpAny _ _ _ _ _ { s with heap := h1.push (seqObj "list" its.toArray 0) }
  refine wpAny_bind (wpAny_holding (wpAny_call_entry slot_list_sort ⟨_, hnew, rfl⟩ entry_list_sort
    (list_sort_treeK strKind_oneLt (s := { s with heap := h1.push (seqObj "list" its.toArray 0) }) hnew hS.keysOf (fun x y l e => keyKind_strs (by rw [← e]; exact hS)) hsz fun st hp ho => ⟨_, rfl, ?_⟩) (args_list_sort _)))
  obtain ⟨ys, g1, g2, g3⟩ := sorted_out_str hS hp ho
  obtain ⟨n', h'⟩ := sortedHeap_at (vs := its) (out := (arrOf st).map (·.2)) hnew
  have hfin : (ys.map V.str).length ≤ sizeLine := by rw [List.length_map, g2.length_eq]; exact small64 few
  refine wpAny_pure ⟨_, rfl, .ref h1.objs.size, upd H h1.objs.size (.lst (ys.map V.str)), J.laid (t' := s.toks) (fun b u e => ?_) (Nat.le_refl _)
    (show ObjOk X.prog X.w _ _ _ (.lst (ys.map V.str)) from ⟨hfin, ((arrOf st).map (·.2)).toList, n', vals_of_strs g1, by rw [Array.toArray_toList]; exact h'⟩), rfl, q ys _ g2 g3 (J.hok.fresh (Nat.le_refl _))⟩
  have hb : b < h1.objs.size := Heap.lt_size e
  rw [sortedHeap_old (Nat.ne_of_lt hb) (by rw [size_push']; exact Nat.lt_succ_of_lt hb)]
  exact Heap.get?_push_of_some _ e
end
end L2
/-! The order of texts: what is sorted is one. -/
namespace Kd
open PySem PySem.Spec PyProof.Rows
theorem lt_irrefl_c : ∀ a : List Nat, ltCps a a = false
  | [] => rfl
  | x :: r => by
    show (decide (x < x) || (x == x && ltCps r r)) = false
    rw [lt_irrefl_c r, decide_eq_false (Nat.lt_irrefl x)]
    simp
theorem lt_total_c : ∀ a b : List Nat, ltCps a b = false → ltCps b a = false → a = b
  | [], [], _, _ => rfl
  | [], _ :: _, h, _ => by cases h
  | _ :: _, [], _, h => by cases h
  | x :: r, y :: t, h1, h2 => by
    have a1 : (decide (x < y) || (x == y && ltCps r t)) = false := h1
    have a2 : (decide (y < x) || (y == x && ltCps t r)) = false := h2
    obtain ⟨p1, q1⟩ := Bool.or_eq_false_iff.mp a1
    obtain ⟨p2, q2⟩ := Bool.or_eq_false_iff.mp a2
    have e : x = y := by
      have := of_decide_eq_false p1
      have := of_decide_eq_false p2
      omega
    subst e
    rw [beq_self_eq_true, Bool.true_and] at q1 q2
    rw [lt_total_c r t q1 q2]
theorem lt_trans_c : ∀ a b c : List Nat, ltCps a b = true → ltCps b c = true → ltCps a c = true
  | [], [], _, h, _ => by cases h
  | [], _ :: _, [], _, h => by cases h
  | [], _ :: _, _ :: _, _, _ => rfl
  | _ :: _, [], _, h, _ => by cases h
  | _ :: _, _ :: _, [], _, h => by cases h
  | x :: r, y :: t, z :: u, h1, h2 => by
    have a1 : (decide (x < y) || (x == y && ltCps r t)) = true := h1
    have a2 : (decide (y < z) || (y == z && ltCps t u)) = true := h2
    show (decide (x < z) || (x == z && ltCps r u)) = true
    rcases Bool.or_eq_true_iff.mp a1 with p | p <;> rcases Bool.or_eq_true_iff.mp a2 with q | q
    · rw [decide_eq_true (Nat.lt_trans (of_decide_eq_true p) (of_decide_eq_true q))]; rfl
    · obtain ⟨q1, _⟩ := Bool.and_eq_true_iff.mp q
      rw [decide_eq_true (by rw [← beq_iff_eq.mp q1]; exact of_decide_eq_true p)]; rfl
    · obtain ⟨p1, _⟩ := Bool.and_eq_true_iff.mp p
      rw [decide_eq_true (by rw [beq_iff_eq.mp p1]; exact of_decide_eq_true q)]; rfl
    · obtain ⟨p1, p2⟩ := Bool.and_eq_true_iff.mp p
      obtain ⟨q1, q2⟩ := Bool.and_eq_true_iff.mp q
      rw [beq_iff_eq.mp p1, beq_iff_eq.mp q1, lt_trans_c r t u p2 q2]
      simp
/-- a stands not behind b -/
def leS (a b : Str) : Prop := ltCps b.cps.toList a.cps.toList = false
theorem leS_trans {a b c : Str} (h1 : leS a b) (h2 : leS b c) : leS a c := by
  unfold leS at *
  cases h : ltCps c.cps.toList a.cps.toList with
  | false => rfl
  | true =>
    -- c < a, a ≤ b, b ≤ c
    cases hab : ltCps a.cps.toList b.cps.toList with
    | true => rw [lt_trans_c _ _ _ h hab] at h2; cases h2
    | false =>
      rw [← lt_total_c _ _ hab h1, h] at h2
      cases h2
theorem leS_anti {a b : Str} (h1 : leS a b) (h2 : leS b a) : a = b := by
  have e := lt_total_c _ _ h2 h1
  cases a with | mk x => cases b with | mk y =>
    have e1 : x.toList = y.toList := e
    rw [Array.toList_inj.mp e1]
theorem rising_pair : ∀ (l : List Str) (p : Str), risingS p l = true → (p :: l).Pairwise leS
  | [], p, _ => List.pairwise_singleton _ _
  | x :: r, p, h => by
    have h' : (!ltCps x.cps.toList p.cps.toList && risingS x r) = true := h
    obtain ⟨h1, h2⟩ := Bool.and_eq_true_iff.mp h'
    have ih := rising_pair r x h2
    have hpx : leS p x := by
      unfold leS
      rw [Bool.not_eq_true'] at h1
      exact h1
    refine List.pairwise_cons.mpr ⟨fun y hy => ?_, ih⟩
    rcases List.mem_cons.mp hy with rfl | hy
    · exact hpx
    · exact leS_trans hpx ((List.pairwise_cons.mp ih).1 y hy)
theorem sorted_pair {l : List Str} (h : sortedS l = true) : l.Pairwise leS := by
  cases l with
  | nil => exact List.Pairwise.nil
  | cons x r => exact rising_pair r x h
/-- ys is xs, sorted -/
def IsSort (xs ys : List Str) : Prop := ys.Perm xs ∧ sortedS ys = true
theorem sort_one {xs zs ys us : List Str} (hp : xs.Perm zs) (h1 : IsSort xs ys) (h2 : IsSort zs us) : ys = us :=
  List.Perm.eq_of_pairwise (le := leS) (fun a b _ _ => leS_anti) (sorted_pair h1.2) (sorted_pair h2.2) ((h1.1.trans hp).trans h2.1.symm)
end Kd
/-! == and != by an own __eq__, whatever it answers -/
namespace Ko
open PySem PySem.Spec PyProof.Rows PySem.SeqAt
section
variable {M : Model} {prog : Program} {w : World} {A : Around} {E : Value → Shared → Prop} {s : Shared} {K : PySem.W.Frag} {x C f L : Addr} {ox : Obj} {od : Option Obj} {b tb : Value} {h₀ : Heap} {m : Str → Option Value}
/-- object.__ne__ where the class has an own __eq__ -/
theorem ne_entry {Q : Fin → Shared → Prop} (hu : A.units < cLine) (X : K.In s.heap) (I : PySem.W.InstAt s.heap x ox C od) (hs : PySem.W.findIn K (.ref C) "__eq__" = some (some (.ref f))) (hf : PySem.W.isFn K (.ref f) = true)
    (h : wpAny M A (call (.ref f) [.ref x, b]) (fun v s' => ∃ c, v = .bool c ∧ Q (.done (.ret (.bool (!c)))) s') E s) : wpAny M A (Builtin.«object.__ne__» ⟨[.ref x, b], []⟩) Q E s := by
  unfold Builtin.«object.__ne__»
  repeat (first
    | with_reducible refine wpAny_cRoomFor hu ?_
    | (refine wpAny_bind (m := callSpecialIfBound? (.ref x) (Str.ofString "__eq__") [b]) (PySem.W.ifBound_K X I hs hf (wpAny_mono h (fun r s' hr => by
          obtain ⟨c, rfl, hq⟩ := hr
          repeat (first | exact hq | exact wpAny_pure hq | exact wpAny_truthy_bool hq | (refine wpAny_bind (m := truthy (.bool _)) (wpAny_truthy_bool ?_)) | wp_step)) fun _ _ e => e)))
    | wp_step)
theorem call_ne {Q : Value → Shared → Prop} (hu : A.units + 1 < cLine) (X : K.In s.heap) (I : PySem.W.InstAt s.heap x ox C od) (hm : PySem.W.mroIn K C (.type "object") = some true) (hs : PySem.W.findIn K (.ref C) "__eq__" = some (some (.ref f))) (hf : PySem.W.isFn K (.ref f) = true)
    (h : wpAny (model prog w) A.in1 (call (.ref f) [.ref x, b]) (fun v s' => ∃ c, v = .bool c ∧ Q (.bool (!c)) s') E s) : wpAny (model prog w) A (call (.builtin "object.__ne__") [.ref x, b]) Q E s :=
  wpAny_call (codeAny_call_builtin F.cmp_object.ne.plain F.cmpEntry_ne (PySem.W.check_slot F.cmpKind_ne F.cmpSplit_ne (I.type.andThen (PySem.W.looks_mroIn X hm)) (F.cmpArgs_ne _ _)
    (ne_entry (A := A.in1) hu X I hs hf (wpAny_mono h (fun v s' ⟨c, e, q⟩ => ⟨c, e, q⟩) fun _ _ e => e))))
theorem ifBound_ne {args : List Value} {Q : Option Value → Shared → Prop} (X : K.In s.heap) (I : PySem.W.InstAt s.heap x ox C od) (hs : PySem.W.findIn K (.ref C) "__ne__" = some (some (.builtin "object.__ne__")))
    (h : wpAny M A (call (.builtin "object.__ne__") (.ref x :: args)) (fun v => Q (some v)) E s) : wpAny M A (callSpecialIfBound? (.ref x) "__ne__" args) Q E s := by
  have fin : wpAny M A (call (.builtin "object.__ne__") ([.ref x] ++ args) >>= fun v => pure (some v)) Q E s := wpAny_bind (wpAny_mono h (fun _ _ q => wpAny_pure q) fun _ _ q => q)
  simp only [callSpecialIfBound?, bindSpecialIfBound?]
  refine wpAny_holding (wpAny_bind (wpAny_bind (wpAny_bind (I.type.here ((PySem.W.looks_findIn X hs).here (wpAny_bind (wpAny_askSetting (wpAny_ite ?_))))))))
  split
  · exact wpAny_bind (wpAny_of_eq (F.cmp_object.ne.bind _) (wpAny_pure (by exact fin)))
  · exact wpAny_tryCatch (wpAny_bind (wpAny_of_eq (F.cmp_object.ne.bind _) (wpAny_pure (by exact fin))))
theorem ne_own {Q : Value → Shared → Prop} (hu : A.units + 1 < cLine) (X : K.In s.heap) (I : PySem.W.InstAt s.heap x ox C od) (hb : PySem.W.Looks (model prog w) s.heap (typeOf b) tb) (hn : PySem.W.notFirst K C tb = true)
    (hm : PySem.W.mroIn K C (.type "object") = some true) (hne : PySem.W.findIn K (.ref C) "__ne__" = some (some (.builtin "object.__ne__"))) (hs : PySem.W.findIn K (.ref C) "__eq__" = some (some (.ref f))) (hf : PySem.W.isFn K (.ref f) = true)
    (h : wpAny (model prog w) A.in1 (call (.ref f) [.ref x, b]) (fun v s' => ∃ c, v = .bool c ∧ Q (.bool (!c)) s') E s) : wpAny (model prog w) A (richCompare .NotEq (.ref x) b) Q E s := by
  have one : wpAny (model prog w) A (tryCompare (.ref x) "__ne__" b) (fun r s' => ∃ c, r = some (.bool c) ∧ Q (.bool c) s') E s := by
    unfold tryCompare
    refine wpAny_bind (ifBound_ne X I hne (call_ne hu X I hm hs hf (wpAny_mono h (fun v s' z => ?_) fun _ _ e => e)))
    obtain ⟨c, rfl, q⟩ := z
    exact ⟨c, rfl, wpAny_pure ⟨!c, rfl, q⟩⟩
  simp only [richCompare, cmpInfo_NotEq, oneThing_ref]
  refine wpAny_holding (wpAny_bind (wpAny_cRoomFor (by omega) (wpAny_bind (I.type.here (wpAny_bind (hb.here ?_))))))
  split
  · rename_i q
    have e : PySem.W.subIn K tb (.ref C) = some false := by
      rcases Bool.or_eq_true_iff.mp hn with z | z
      · rw [beq_iff_eq.mp z] at q; simp at q
      · exact beq_iff_eq.mp z
    refine wpAny_bind ((PySem.W.looks_subIn X e).here ?_)
    simp only [Bool.false_eq_true, if_false]
    refine wpAny_bind (wpAny_mono one (fun r s' z => ?_) fun _ _ e => e)
    obtain ⟨c, rfl, hq⟩ := z
    exact wpAny_pure hq
  · refine wpAny_bind (wpAny_pure ?_)
    simp only [Bool.false_eq_true, if_false]
    refine wpAny_bind (wpAny_mono one (fun r s' z => ?_) fun _ _ e => e)
    obtain ⟨c, rfl, hq⟩ := z
    exact wpAny_pure hq
end
end Ko
namespace L2
open PySem PySem.Spec PyProof.Rows
section
variable {X : Cx} {C f : Addr} {fd : FuncData} {ps : List Str} {sp : Sp} {n : Nat}
/-- what an own class tells of its == -/
structure OwnCmp (K : PySem.W.Frag) (C f : Addr) : Prop where
  eq : PySem.W.findIn K (.ref C) "__eq__" = some (some (.ref f))
  fn : PySem.W.isFn K (.ref f) = true
  ne : PySem.W.findIn K (.ref C) "__ne__" = some (some (.builtin "object.__ne__"))
  mr : PySem.W.mroIn K C (.type "object") = some true
/-- x == y, x != y: x an instance of C, y of the type t -/
def rOwnC (K : PySem.W.Frag) (C : Addr) (sp : Sp) (g : Bool → Bool) : R2 := fun x y H Q => ∃ a dx fs t, x = .ref a ∧ H a = some (.ins C dx fs) ∧ TyX K H y t ∧ PySem.W.notFirst K C t = true ∧ sp [x, y] H (fun v H' => ∃ c, v = .bl c ∧ Q (.bl (g c)) H') fun _ _ _ => False
theorem typeLook {pins : List (Addr × Obj)} {σ : St} {H : Hp} {s : Shared} {M : Model} {x : V} {u t : Value} (I : Inv X pins σ H s) (rx : RelV x u) (ty : TyX X.K H x t) : PySem.W.Looks M s.heap (typeOf u) t := by
  obtain ⟨P, kx, hp, _⟩ := kit_of I rx ty
  exact kx.ty M _ I.kIn hp
/-- a def of the text, called at another depth -/
theorem run_at {CX : CXT} {E : XK} {pins : List (Addr × Obj)} {σ : St} {H : Hp} {s : Shared} {vs : List V} {us : List Value} {Q : VK} {A : Around} (F : FnOk X.prog X.w X.K X.mg X.base CX n f fd ps sp) (hb : Binds X.K fd ps []) (hx : Passes CX X E) (hA : A.frames = X.A.frames) (hr : Room n A)
    (I : Inv X pins σ H s) (r : Vals vs us) (q : sp vs H Q E) : wpAny (model X.prog X.w) A (call (.ref f) us) (EP X pins σ Q) X.xe s := by
  have e0 : Env0 X.prog X.w X.K X.mg X.base A X.stack s H := by
    have e := I.env0
    exact ⟨hA.trans e.frames, e.mod, e.bs, e.bsz, e.funs, e.frf, e.hok, e.bare⟩
  have hl := F.len _ _ _ _ q
  have hlu : us.length = ps.length := by rw [← r.length]; exact hl
  refine wpAny_call (codeAny_mono (F.run A X.stack s H ⟨us, []⟩ us vs Q E hr e0 (by simpa using hb s us I.kIn (by simpa using hlu)) r q) fun r' s' hq => ?_)
  cases r' with
  | error e => exact hx pins σ H s e s' I hq
  | ok fl =>
    cases fl with
    | ret w => exact I.after hq
    | next => exact hq.elim
    | brk => exact hq.elim
    | cont => exact hq.elim
theorem own_at {pins : List (Addr × Obj)} {σ : St} {H : Hp} {s : Shared} {a dx : Addr} {fs : List (Str × V)} (I : Inv X pins σ H s) (ha : H a = some (.ins C dx fs)) : ∃ (ox : Obj) (od : Option Obj), PySem.W.InstAt s.heap a ox C od := by
  obtain ⟨mA, J, _⟩ := ins_get I.hok ha
  obtain ⟨od, J, _⟩ := J.look
  exact ⟨_, _, J⟩
theorem op_ownEq (F : FnOk X.prog X.w X.K X.mg X.base CX0 n f fd ps sp) (O : OwnCmp X.K C f) (hb : Binds X.K fd ps []) (hr : Room n X.A) : OpR X (compareOp .Eq) (rOwnC X.K C sp id) := by
  intro pins s σ H x y v u Q I rx ry ⟨a, dx, fs, t, ex, ha, ht, hn, q⟩
  subst ex
  cases rx
  obtain ⟨ox, od, J⟩ := own_at I ha
  obtain ⟨m, hF⟩ := I.fr
  refine PySem.W.cmp_ofEq (PySem.W.cmp_K (op := .Eq) (tb := t) hr.units0 hF I.ok.mod.kin J (typeLook I ry ht) hn O.eq O.fn ?_)
  refine wpAny_mono (run_at F hb pass0 rfl hr I (vs := [.ref a, y]) (.cons rfl (.cons ry .nil)) q) (fun r s' z => ?_) fun _ _ z => z
  obtain ⟨v', H', I', rv, c, e, q'⟩ := z
  subst e
  cases rv
  exact ⟨.bl c, H', I', rfl, q'⟩
theorem op_ownNe (F : FnOk X.prog X.w X.K X.mg X.base CX0 n f fd ps sp) (O : OwnCmp X.K C f) (hb : Binds X.K fd ps []) (hr : Room (n + 1) X.A) : OpR X (compareOp .NotEq) (rOwnC X.K C sp not) := by
  intro pins s σ H x y v u Q I rx ry ⟨a, dx, fs, t, ex, ha, ht, hn, q⟩
  subst ex
  cases rx
  obtain ⟨ox, od, J⟩ := own_at I ha
  refine PySem.W.cmp_ofNotEq (Ko.ne_own (by have := hr.un; omega) I.kIn J (typeLook I ry ht) hn O.mr O.ne O.eq O.fn ?_)
  refine wpAny_mono (run_at (A := X.A.in1) F hb pass0 rfl hr.in1 I (vs := [.ref a, y]) (.cons rfl (.cons ry .nil)) q) (fun r s' z => ?_) fun _ _ z => z
  obtain ⟨v', H', I', rv, c, e, q'⟩ := z
  subst e
  cases rv
  exact ⟨c, rfl, .bl (!c), H', I', rfl, q'⟩
end
end L2
namespace L2
open PySem PySem.Spec PyProof.Rows
section
variable {X : Cx} {C f : Addr} {fd : FuncData} {ps : List Str} {sp : Sp} {n : Nat}
/-- str(o) by an own __str__ -/
def rStrOwn (C : Addr) (sp : Sp) : List V → Hp → VK → Prop := fun xs H Q => ∃ a dx fs, xs = [.ref a] ∧ H a = some (.ins C dx fs) ∧ sp [.ref a] H (fun v H' => ∃ z, v = .str z ∧ Q v H') fun _ _ _ => False
theorem call_strOwn (F : FnOk X.prog X.w X.K X.mg X.base CX0 n f fd ps sp) (hs : PySem.W.findIn X.K (.ref C) "__str__" = some (some (.ref f))) (hf : PySem.W.isFn X.K (.ref f) = true) (hb : Binds X.K fd ps []) (hr : Room (n + 2) X.A) :
    CallR X (.type "str") (rStrOwn C sp) := by
  intro pins s σ H xs us Q I r ⟨a, dx, fs, e, ha, q⟩
  subst e
  rw [Vals.ref1 r]
  obtain ⟨ox, od, J⟩ := own_at I ha
  refine PySem.W.kso_call (by have h := hr.un; show X.A.units + 1 + 1 < cLine; omega) I.kIn J hs hf ?_
  refine wpAny_mono (run_at (A := X.A.in1.in1) F hb pass0 rfl hr.in1.in1 I (vs := [.ref a]) (.cons rfl .nil) q) (fun v s' z => ?_) fun _ _ z => z
  obtain ⟨v', H', I', rv, y, e, q'⟩ := z
  subst e
  obtain ⟨t, rfl⟩ := rv
  exact ⟨.str y, H', I', ⟨t, rfl⟩, q'⟩
end
end L2
/-! Defs whose run knows that nothing is being shown (repr) around them. -/
namespace L2
open PySem PySem.Spec PyProof.Rows
/-- the promise, where no container is being shown around -/
structure FnG (P : Program) (w : World) (K : PySem.W.Frag) (mg : Str → Option Value) (base : Heap) (k : Nat) (f : Addr) (fd : FuncData) (ps : List Str) (sp : Sp) : Prop where
  len : ∀ vs H Q E, sp vs H Q E → vs.length = ps.length
  run : ∀ (A : Around) (outer : List Env) (s : Shared) (H : Hp) (args : Args) (us : List Value) (vs : List V) (Q : VK) (E : XK), A.guards = some [] → Room k A → Env0 P w K mg base A outer s H → BindsTo s fd args (ps.zip us) → Vals vs us → sp vs H Q E →
    codeAny (model P w) A (.call (.ref f) args) (CR CX0 outer P w H s Q E) s
section
variable {P : Program} {w : World} {K : PySem.W.Frag} {mg : Str → Option Value} {base : Heap}
theorem FnOk.g {k : Nat} {f : Addr} {fd : FuncData} {ps : List Str} {sp : Sp} (F : FnOk P w K mg base CX0 k f fd ps sp) : FnG P w K mg base k f fd ps sp :=
  ⟨F.len, fun A outer s H args us vs Q E _ => F.run A outer s H args us vs Q E⟩
theorem fnG_of {x qual : Str} {st : Stmt} {f : Addr} {fd : FuncData} {N ps : List Str} {k : Nat} {sp : Sp} (F : Fun K x qual st f fd) (S : FnScope N ps (defScope st)) (len : ∀ vs H Q E, sp vs H Q E → vs.length = ps.length)
    (hbody : ∀ (cdv : Value) (A : Around) (outer : List Env) (s : Shared) (H : Hp) (vs : List V) (Q : VK) (E : XK), A.guards = some [] → Room k (A.deeper (envOfC qual (defScope st) s.heap.objs.size f cdv)) → sp vs H Q E →
      ∃ t, PSs (cxOf CX0 P w K mg base N qual (defScope st) f cdv A outer s H E).nox (defBody st) t ∧ t { nx := fun _ H' => Q .non H', rt := Q } (start N vs) H) : FnG P w K mg base (k + 1) f fd ps sp := by
  refine ⟨len, fun A outer s H args us vs Q E hG hr e0 hb r hsp => ?_⟩
  obtain ⟨oc, od, kV, doc, pm, an, cdv, ct, osl, efd, lk, hcd⟩ := F.ex
  subst efd
  have kin : K.In s.heap := e0.mod.kin.keeps fun c q z => (e0.bs c q z).1
  have nl : s.heap.NoLimit := e0.mod.nolimit.keeps fun c q z => (e0.bs c q z).1
  have par : ∀ y ∈ ps.zip us, (defScope st).names.lookup y.1 = some .local ∨ ((defScope st).names.lookup y.1 = some .cell ∧ ((cellsFrom (s.heap.objs.size + 1) (defScope st).names []).lookup y.1).isSome = true) := by
    rintro ⟨z, v⟩ hz
    exact (S.par z (List.of_mem_zip hz).1).elim .inl fun q => .inr ⟨q, PySem.W.cellsFrom_some _ _ _ (.inl q)⟩
  refine codeAny_call_function hr.depth (kin _ _ lk) rfl S.co S.gen rfl (PySem.W.codeRec_of kin hcd) (hb _ _ _ _ (wpAny_newFunctionEnv_cells S.kind par fun env he s1 x => ?_))
  subst he
  refine ⟨nl.keeps x.toInCall.keep, codeAny_func ?_⟩
  obtain ⟨t, ht, hq⟩ := hbody cdv A outer s H vs Q E hG (hr.deeper _) hsp
  have J := inv_start (CX := CX0) (E := E) S hr.hd e0 (len _ _ _ _ hsp) r x
  refine wpAny_mono (ht.nox.run [] s1 (start N vs) H _ J hq) (fun fl s' hs => ?_) fun e s' hs => hs
  cases fl with
  | ret u => obtain ⟨v, σ', H', J', rv, q⟩ := hs; exact ⟨v, H', J'.os, J'.bare, J'.base, J'.hok, rv, q⟩
  | next => obtain ⟨σ', H', J', q⟩ := hs; exact ⟨V.non, H', J'.os, J'.bare, J'.base, J'.hok, rfl, q⟩
  | brk => obtain ⟨_, _, _, q⟩ := hs; exact q.elim
  | cont => obtain ⟨_, _, _, q⟩ := hs; exact q.elim
end
section
variable {X : Cx} {x : Str} {p pos : Pos} {e : Expr} {es : List Expr} {t : TA} {k : Nat} {f : Addr} {fd : FuncData} {ps : List Str} {sp : Sp}
/-- f(e, ..) of such a def -/
theorem pe_callG (F : FnG X.prog X.w X.K X.mg X.base k f fd ps sp) (hG : X.A.guards = some []) (hr : Room k X.A) (hg : Gl X x) (hm : X.mg x = some (.ref f)) (hk : PySem.W.keepIn X.K (.ref f) = true) (hb : Binds X.K fd ps []) (ha : PA X (e :: es) t)
    (hdb : (x == ("__debug__" : Str)) = false := by decide) (he : starEach (e :: es) X.env = (false, eval e X.env) :: starEach es X.env := by rfl) (hpl : (backTo pos (starEach es X.env)).any (·.1) = false := by rfl) :
    PE X (.Call (.Name x p) (e :: es) [] pos) (tCall sp [] E0 t) := by
  refine ⟨fun pins s σ H Q I h => wpAny_Call_Name_kw (ld_glob I hg hm (PySem.W.callWith_K (h₀ := X.base) I.ok.mod.kin hk (thn (ha.run pos pins s σ H _ I h) fun us s1 ⟨vs, H1, I1, r, q⟩ => ⟨I1.kIn, ?_⟩) he hpl) hdb)⟩
  have q' : sp vs H1 Q E0 := by simpa using q
  have hlu : us.length = ps.length := by rw [← r.length]; exact F.len _ _ _ _ q'
  refine wpAny_call (codeAny_mono (F.run X.A X.stack s1 H1 ⟨us, []⟩ us vs Q E0 hG hr I1.env0 (by simpa using hb s1 us I1.kIn (by simpa using hlu)) r q') fun r' s' hq => ?_)
  cases r' with
  | error z => exact hq.elim
  | ok fl =>
    cases fl with
    | ret w => exact I1.after hq
    | next => exact hq.elim
    | brk => exact hq.elim
    | cont => exact hq.elim
mutual
theorem noDict {K : PySem.W.Frag} {H : Hp} : ∀ (d : PyData) (v : V), Dp K H v d → d.hasDict = false
  | .none, _, _ => rfl
  | .bool _, _, _ => rfl
  | .int _, _, _ => rfl
  | .str _, _, _ => rfl
  | .list ds, _, h => by cases h with | lst _ ha => exact noDicts ds _ ha
  | .tuple ds, _, h => by cases h with | tup _ ha => exact noDicts ds _ ha
  | .dict _, _, h => by cases h
theorem noDicts {K : PySem.W.Frag} {H : Hp} : ∀ (ds : List PyData) (vs : List V), DpAll K H vs ds → PyData.hasDictAll ds = false
  | [], _, _ => rfl
  | d :: ds, _, h => by
    cases h with
    | cons h1 h2 =>
      show (d.hasDict || PyData.hasDictAll ds) = false
      rw [noDict d _ h1, noDicts ds _ h2]
      rfl
end
/-- repr(x), x a list, a tuple or a scalar -/
def rReprD (K : PySem.W.Frag) : List V → Hp → VK → Prop := fun xs H Q => ∃ v d, xs = [v] ∧ Dp K H v d ∧ d.showable = true ∧ d.depth ≤ 40 ∧ d.shown.length ≤ sizeLine ∧ Q (.str d.shown) H
theorem call_reprD (hG : X.A.guards = some []) (hu : X.A.units + 64 < cLine) : CallR X (.builtin "repr") (rReprD X.K) := by
  intro pins s σ H xs us Q I r ⟨v, d, ex, hd, hs, hdp, hz, q⟩
  subst ex
  obtain ⟨u, rfl, ru⟩ := r.one
  obtain ⟨as, hr⟩ := Dp.reads I d v u hd ru
  have hnd : d.hasDict = true → sysModules ∉ as := fun z => by rw [noDict d v hd] at z; cases z
  have big : ∀ (a : Addr), u = .ref a → wpAny (model X.prog X.w) X.A (call (.builtin "repr") [u]) (EP X pins σ Q) X.xe s := by
    intro a ea
    subst ea
    exact repr_of_reads' hr hs hnd hG (by omega) (fun _ _ z => z) (fun h' t tk k => ⟨.str d.shown, H, I.kept (t' := tk) k, ⟨t, rfl⟩, q⟩) hz
  cases hd with
  | non => cases ru; exact PySem.P.repr_of_none ⟨.str _, H, I.tok _, ⟨_, rfl⟩, q⟩
  | bl b => cases ru; exact PySem.P.repr_of_bool ⟨.str _, H, I.tok _, ⟨_, rfl⟩, q⟩
  | int i =>
    obtain ⟨t, rfl⟩ := ru
    exact PySem.P.repr_of_int (of_decide_eq_true hs) ⟨.str _, H, I.tok _, ⟨_, rfl⟩, q⟩
  | str z =>
    obtain ⟨t, rfl⟩ := ru
    exact PySem.P.repr_of_str ⟨.str _, H, I.tok _, ⟨_, rfl⟩, q⟩ hz
  | lst _ _ => exact big _ ru
  | tup _ _ => exact big _ ru
end
end L2
/-! The layer's rules with the written part as a letter of its own (within a comprehension the context's own field is no name). -/
namespace Kv
open PySem L2
section
variable {X : Cx} {K : PySem.W.Frag}
def rLen (K : PySem.W.Frag) : List V → Hp → VK → Prop := fun xs H Q => ∃ p ys, xs = [.ref p] ∧ (SqL K H p ys ∨ SqT K H p ys) ∧ Q (.int ys.length) H
theorem call_len (h : X.K = K) : CallR X (.builtin "len") (rLen K) := by subst h; exact call_len_seq
def rList (K : PySem.W.Frag) : List V → Hp → VK → Prop := fun xs H Q => ∃ p ys, xs = [.ref p] ∧ (SqL K H p ys ∨ SqT K H p ys) ∧ ∀ l, H l = none → Q (.ref l) (upd H l (.lst ys))
theorem call_list (h : X.K = K) : CallR X (.type "list") (rList K) := by subst h; exact call_list_of
def rTuple (K : PySem.W.Frag) : List V → Hp → VK → Prop := fun xs H Q => ∃ p ys, xs = [.ref p] ∧ ((SqL K H p ys ∧ ∀ l, H l = none → Q (.ref l) (upd H l (.tup ys))) ∨ (SqT K H p ys ∧ Q (.ref p) H))
theorem call_tuple (h : X.K = K) : CallR X (.type "tuple") (rTuple K) := by subst h; exact call_tuple_of
theorem call_isi (h : X.K = K) : CallR X (.builtin "isinstance") (rIsi K) := by subst h; exact L2.call_isi
theorem call_sort (h : X.K = K) : CallR X (.builtin "sorted") (rSortU K) := by subst h; exact cr_sortU
theorem call_all (h : X.K = K) (hc : X.calm = true) : CallR X (.builtin "all") (rAll K) := by subst h; exact cr_all hc
theorem call_repr (h : X.K = K) (hG : X.A.guards = some []) (hu : X.A.units + 64 < cLine) : CallR X (.builtin "repr") (rReprD K) := by subst h; exact call_reprD hG hu
theorem ix_list (h : X.K = K) : IxR X (rIxL K) := by subst h; exact L2.ix_list
theorem ix_tup (h : X.K = K) : IxR X (rIxT K) := by subst h; exact L2.ix_tup
theorem ix_seq (h : X.K = K) : IxR X (rIx K) := by subst h; exact L2.ix_seq
theorem op_in (h : X.K = K) : OpR X (compareOp .In) (rIn K false) := by subst h; exact op_in_seq
theorem op_notIn (h : X.K = K) : OpR X (compareOp .NotIn) (rIn K true) := by subst h; exact op_notIn_seq
theorem op_eqD (h : X.K = K) (hu : X.A.units + 64 < cLine) : OpR X (compareOp .Eq) (rEqD K) := by subst h; exact L2.op_eqD hu
theorem op_neD (h : X.K = K) (hu : X.A.units + 64 < cLine) : OpR X (compareOp .NotEq) (rNeD K) := by subst h; exact L2.op_neD hu
theorem sl_list (h : X.K = K) : SlR X (rSlL K) := by subst h; exact L2.sl_list
theorem sl_tup (h : X.K = K) : SlR X (rSlT K) := by subst h; exact L2.sl_tup
variable {e o : Expr} {es : List Expr} {ta to : TE} {t : TA} {pos apos cpos : Pos} {f name : Str} {T id : String} {r : V → List V → Hp → VK → Prop}
theorem pe_fld (h : X.K = K) (he : PE X e ta) (hl : attributeBase e f X.env (eval e X.env) = eval e X.env) : PE X (.Attribute e f pos) (tFld K ta f) := by subst h; exact L2.pe_fld he hl
theorem pe_bm (h : X.K = K) (pa : PlainAttrs T) (slot : Slot T name id) (hty : typeOf (.builtin id) = pure (.type "method_descriptor")) (hm : MtR X id r) (ho : PE X o to) (ha : PA X (e :: es) t) (hb : attributeBase o name X.env (eval o X.env) = eval o X.env := by rfl)
    (hw : ((backTo cpos (starEach (e :: es) X.env)).all (fun x => !x.1) && (backToKw cpos (keywordEach [] X.env)).all (fun x => x.1.isSome) && decide ((e :: es).length + ([] : List Keyword).length + (if ([] : List Keyword).isEmpty then 0 else 1) < 30)) = true := by rfl)
    (hn : (apos.endLine == cpos.line) = true := by rfl) (hs : starEach (e :: es) X.env = (false, eval e X.env) :: starEach es X.env := by rfl) (hp : (backTo cpos (starEach es X.env)).any (·.1) = false := by rfl) :
    PE X (.Call (.Attribute o name apos) (e :: es) [] cpos) (tBM K T r to t) := by subst h; exact L2.pe_bm pa slot hty hm ho ha hb hw hn hs hp
end
end Kv
namespace Kd
open PySem L2
/-- what a class tells of its instances' type -/
structure InsT (K : PySem.W.Frag) (C : Addr) : Prop where
  cl : Cls K C
  cc : PySem.W.findIn K (.ref C) "__class__" = some (some (.builtin "object.__class__"))
  cg : PySem.W.specialIn K (.builtin "object.__class__") "__get__" = some (some (.builtin "getset_descriptor.__get__"))
  ct : PySem.W.takesIn K (.builtin "object.__class__") = some true
  mr : PySem.W.mroIn K C (.type "object") = some true
  ne : PySem.W.findIn K (.ref C) "__ne__" = some (some (.builtin "object.__ne__"))
  ic : PySem.W.isClsIn K C = true
  it : PySem.W.typeIn K (.ref C) = some (.type "type")
theorem InsT.ty {K : PySem.W.Frag} {C : Addr} (i : InsT K C) {H : Hp} {a dx : Addr} {fs : List (Str × V)} (e : H a = some (.ins C dx fs)) : TyX K H (.ref a) (.ref C) := .base (.ins e i.cl i.cc i.cg i.ct i.mr)
theorem kit_self {K : PySem.W.Frag} {C : Addr} : PySem.W.kitOne K (.ref C) (.ref C) = some true := by
  show (if (Value.ref C == Value.ref C) = true then some true else _) = some true
  rw [if_pos (by simp)]
theorem sub_data {K : PySem.W.Frag} {C : Addr} : ∀ d : PyData, PySem.W.subIn K (.type (tyN d)) (.ref C) = some false
  | .none => by have e : fastBuiltinMro "NoneType" = some [.type "NoneType", .type "object"] := by decide +kernel
                show (fastBuiltinMro "NoneType").map (·.contains (.ref C)) = some false; rw [e]; simp
  | .bool _ => by have e : fastBuiltinMro "bool" = some [.type "bool", .type "int", .type "object"] := by decide +kernel
                  show (fastBuiltinMro "bool").map (·.contains (.ref C)) = some false; rw [e]; simp
  | .int _ => by have e : fastBuiltinMro "int" = some [.type "int", .type "object"] := by decide +kernel
                 show (fastBuiltinMro "int").map (·.contains (.ref C)) = some false; rw [e]; simp
  | .str _ => by have e : fastBuiltinMro "str" = some [.type "str", .type "object"] := by decide +kernel
                 show (fastBuiltinMro "str").map (·.contains (.ref C)) = some false; rw [e]; simp
  | .list _ => by have e : fastBuiltinMro "list" = some [.type "list", .type "object"] := by decide +kernel
                  show (fastBuiltinMro "list").map (·.contains (.ref C)) = some false; rw [e]; simp
  | .tuple _ => by have e : fastBuiltinMro "tuple" = some [.type "tuple", .type "object"] := by decide +kernel
                   show (fastBuiltinMro "tuple").map (·.contains (.ref C)) = some false; rw [e]; simp
  | .dict _ => by have e : fastBuiltinMro "dict" = some [.type "dict", .type "object"] := by decide +kernel
                  show (fastBuiltinMro "dict").map (·.contains (.ref C)) = some false; rw [e]; simp
theorem kitCls_own {K : PySem.W.Frag} {C : Addr} {t : Value} (h1 : PySem.W.isClsIn K C = true) (h2 : PySem.W.typeIn K (.ref C) = some (.type "type")) : PySem.W.kitCls K t (.ref C) = PySem.W.subIn K t (.ref C) := by
  have h1' : (PySem.W.clsIn K C).isSome = true := h1
  unfold PySem.W.kitCls
  dsimp only
  rw [if_pos]
  simp [h1', h2]
/-- isinstance(data, C) is false -/
theorem InsT.no {K : PySem.W.Frag} {C : Addr} (i : InsT K C) (d : PyData) : PySem.W.kitOne K (.type (tyN d)) (.ref C) = some false := by
  have h1 : PySem.W.kitOne K (.type (tyN d)) (.ref C) = PySem.W.kitCls K (.type (tyN d)) (.ref C) := by
    show (if (Value.type (tyN d) == Value.ref C) = true then some true else _) = _
    rw [if_neg (by simp)]
  rw [h1, kitCls_own i.ic i.it]
  exact sub_data d
theorem exm_own {K : PySem.W.Frag} {S : Addr} (h1 : PySem.W.subIn K (.ref S) (.type "BaseException") = some true) (h2 : PySem.W.isClsIn K S = true) (h3 : PySem.W.typeIn K (.ref S) = some (.type "type")) {E : Addr} {r : Bool} (h0 : PySem.W.subIn K (.ref E) (.type "BaseException") = some true) (h4 : PySem.W.subIn K (.ref E) (.ref S) = some r) :
    PySem.W.exmOne K (.ref E) (.ref S) = some r := by
  have e1 : (PySem.W.subIn K (.ref S) (.type "BaseException") == some true) = true := by rw [h1] <;> rfl
  have e2 : ((PySem.W.clsIn K S).isSome && PySem.W.typeIn K (.ref S) == some (.type "type")) = true := by
    have h2' : (PySem.W.clsIn K S).isSome = true := h2
    rw [h2', h3] <;> rfl
  show (if (PySem.W.subIn K (.ref S) (.type "BaseException") == some true) = true then (if ((PySem.W.clsIn K S).isSome && PySem.W.typeIn K (.ref S) == some (.type "type")) = true then PySem.W.subIn K (.ref E) (.ref S) else none) else none) = some r
  rw [if_pos e1, if_pos e2]
  exact h4
theorem not_first {K : PySem.W.Frag} {C : Addr} (d : PyData) : PySem.W.notFirst K C (.type (tyN d)) = true := by
  unfold PySem.W.notFirst
  rw [sub_data d]
  simp
theorem not_first_self {K : PySem.W.Frag} {C : Addr} : PySem.W.notFirst K C (.ref C) = true := by
  unfold PySem.W.notFirst
  simp
theorem InsT.own {K : PySem.W.Frag} {C f : Addr} (i : InsT K C) (m : Meth K C "__eq__" f) : OwnCmp K C f := ⟨m.at_, m.fn, i.ne, i.mr⟩
end Kd
namespace L2
open PySem PySem.Spec PyProof.Rows
/-- what is known of the heap at the law's entry: the script alone, or nothing -/
structure AtEntry (P : Program) (w : World) (K : PySem.W.Frag) (h : Heap) (a : Addr) (ns : List Int) (H : Hp) : Prop where
  only : Only H
  sq : SqL K H a (ns.map V.int)
  ok : HOk P w H h
  here : ∀ b, H b ≠ none → b = a
  out : H a ≠ none → K.lookup a = none
theorem atEntry {P : Program} {w : World} {K : PySem.W.Frag} {h : Heap} {a : Addr} {vs : List Value} {ns : List Int} (KX : K.In h) (ha : h.get? a = some { cls := .type "list", data := .seq vs.toArray }) (hi : IntsAre vs ns) (hl : ns.length ≤ sizeLine) :
    ∃ H, AtEntry P w K h a ns H := by
  have rv := vals_ints hi
  cases hk : K.lookup a with
  | some o =>
    have e := (KX a o hk).symm.trans ha
    cases e
    refine ⟨fun _ => none, fun _ => .inl rfl, .inr ⟨_, vs.toArray, _, hk, rfl, rfl, rfl, ?_, by simpa using rv⟩, fun b u z => ?_, fun b z => absurd rfl z, fun z => absurd rfl z⟩
    · have n1 := hi.length
      rw [List.size_toArray]
      omega
    · have z1 : (none : Option HO) = some u := z
      cases z1
  | none =>
    have at_ : ∀ b u, (if b = a then some (HO.frz { cls := .type "list", data := .seq vs.toArray } (.lst (ns.map V.int))) else none) = some u → b = a ∧ u = .frz { cls := .type "list", data := .seq vs.toArray } (.lst (ns.map V.int)) := by
      intro b u z
      by_cases hb : b = a
      · rw [if_pos hb] at z; exact ⟨hb, (Option.some.inj z).symm⟩
      · rw [if_neg hb] at z; cases z
    refine ⟨fun b => if b = a then some (.frz { cls := .type "list", data := .seq vs.toArray } (.lst (ns.map V.int))) else none, fun b => ?_, .inl (.inr ⟨_, if_pos rfl⟩), fun b u z => ?_, fun b z => ?_, fun _ => hk⟩
    · by_cases hb : b = a
      · exact .inr ⟨_, _, if_pos hb⟩
      · exact .inl (if_neg hb)
    · obtain ⟨e1, e2⟩ := at_ b u z
      subst e1 e2
      exact ⟨ha, by rw [List.length_map]; exact hl, vs, _, rv, ha⟩
    · by_cases hb : b = a
      · exact hb
      · exact absurd (if_neg hb) z
theorem walk_ofG {l : PySem.W.OpenLaw} {n k : Nat} {q : Program} {loose : List Str} {XP : (Str → Option Value) → Heap → Prop} {YP : World → Heap → Prop} {d : DefRec} {K : Params → PySem.W.Frag} {sp : World → Sp} {x : Str}
    (hn : l.most = some n) (hn2 : n ≤ sizeLine) (hdf : d.params.defaults = []) (hr : Room k callerA) (hY : ∀ (w : World) (h : Heap), YP w h → (K w.params).In h)
    (F : ∀ (w : World) (mg : Str → Option Value) (fa : Addr) (h : Heap), (K w.params).In h → h.Ns mainGlobals mg → mg d.name = some (.ref fa) →
      ∃ fd : FuncData, (∀ (s : Shared) (u : Value), BindsTo s fd ⟨[u], []⟩ [(x, u)]) ∧ ∀ base : Heap, (K w.params).In base → base.Ns mainGlobals mg → FnG l.prog w (K w.params) mg base k fa fd [x] (sp w))
    (hsp : ∀ (w : World) (H : Hp) (a : Addr) (ns : List Int), ns.length ≤ n → SqL (K w.params) H a (ns.map V.int) → sp w [.ref a] H (fun v _ => v = .bl true) fun _ _ _ => False) :
    PySem.W.WalkO q loose XP YP l.row.toRowW d [] (fun f vs => PySem.call f vs) := by
  refine Att.attach_call hn hdf fun w s₀ s₁ mg mb fa o pm cd doc a vs ns G Y ho hd hcd hmg hobj hints hlen hg => ?_
  have kin := hY w _ Y
  obtain ⟨fd, hbind, hF⟩ := F w mg fa _ kin G.T.g hmg
  obtain ⟨H, S⟩ := atEntry (P := l.prog) (w := w) (K := K w.params) kin hobj hints (Nat.le_trans hlen hn2)
  -- no dict is tracked
  have noD : ∀ {b : Addr} {u : Obj} {es : Array DictEntry} {ep : Nat}, s₁.heap.get? b = some u → u.data = .dict es ep → H b = none := by
    intro b u es ep e1 e2
    cases z : H b with
    | none => rfl
    | some y =>
      have e3 : b = a := S.here b (by rw [z]; exact fun q => nomatch q)
      rw [e3, hobj] at e1
      cases e1
      cases e2
  have ns_ : ∀ {b : Addr} {m : Str → Option Value}, s₁.heap.Ns b m → (hidT s₁.heap H).Ns b m := by
    intro b m ⟨u, es, ep, e1, e2, e3⟩
    exact ⟨u, es, ep, hidT_get e1 (noD e1 e2), e2, e3⟩
  have kb : (K w.params).In (hidT s₁.heap H) := by
    intro b u e
    refine hidT_get (kin b u e) ?_
    cases z : H b with
    | none => rfl
    | some y =>
      have e3 : b = a := S.here b (by rw [z]; exact fun q => nomatch q)
      have e4 := S.out (by rw [← e3, z]; exact fun q => nomatch q)
      rw [e3, e4] at e
      cases e
  have md : Mod (K w.params) mg (hidT s₁.heap H) := ⟨kb, ns_ G.T.g, ⟨mb, ns_ G.T.b, G.T.builtins⟩, G.T.nolimit.elim fun c z => ⟨c, ns_ z.1, z.2⟩⟩
  have en : Env0 l.prog w (K w.params) mg (hidT s₁.heap H) callerA [] s₁ H := by
    refine ⟨rfl, md, fun b u e => of_hidT e, Nat.le_of_eq (hidT_size _ _), trivial, fun b hb => ?_, S.ok, .of_eq hg⟩
    have hb' : b ∈ ([] : List Addr) := hb
    cases hb'
  refine codeAny_mono ((hF _ kb (ns_ G.T.g)).run callerA [] s₁ H ⟨[.ref a], []⟩ [.ref a] [.ref a] _ _ rfl hr en (hbind s₁ (.ref a)) (.cons rfl .nil) (hsp w H a ns hlen S.sq)) fun r s' h => ?_
  cases r with
  | error e => exact h.elim
  | ok fl =>
    cases fl with
    | next => exact h.elim
    | brk => exact h.elim
    | cont => exact h.elim
    | ret u =>
      obtain ⟨v, H', os, bare, un, ok', rv, ev⟩ := h
      have ev' : v = .bl true := ev
      subst ev'
      cases rv
      refine ⟨rfl, OldK.of_keep fun b y e => ?_, os, bare⟩
      rcases S.only b with z | ⟨ob, xs, z⟩
      · exact un.keep b y e z (fun m => nomatch (show b ∈ ([] : List Addr) from m)) (fun m => nomatch m)
      · obtain ⟨e1, _⟩ := S.ok b _ z
        obtain ⟨e2, _⟩ := ok' b _ (un.frzs b ob _ z)
        exact e2.trans (e1.symm.trans e)
end L2
namespace K1
open PySem L2 Kd
def top (i : Nat) : Stmt := PySem.Challenge.pw_keptshapes_k01_sheets_and_names.main.body.getD i (.Pass ⟨0, 0, 0, 0⟩)
abbrev s_is_name : Stmt := top 8
abbrev N_is_name : List Str := ["value", "letter"]
theorem sc_is_name : FnScope N_is_name ["value"] (defScope s_is_name) := ⟨rfl, rfl, rfl, by decide +kernel, rfl, by decide +kernel, by decide +kernel⟩
abbrev s_are_names : Stmt := top 9
abbrev N_are_names : List Str := ["value", "most", "name"]
theorem sc_are_names : FnScope N_are_names ["value", "most"] (defScope s_are_names) := ⟨rfl, rfl, rfl, by decide +kernel, rfl, by decide +kernel, by decide +kernel⟩
abbrev s_Sheet_init : Stmt := inClass (top 10) 0
abbrev N_Sheet_init : List Str := ["self", "kinds", "words"]
theorem sc_Sheet_init : FnScope N_Sheet_init ["self", "kinds", "words"] (defScope s_Sheet_init) := ⟨rfl, rfl, rfl, by decide +kernel, rfl, by decide +kernel, by decide +kernel⟩
abbrev s_Sheet_kinds : Stmt := inClass (top 10) 1
abbrev N_Sheet_kinds : List Str := ["self"]
theorem sc_Sheet_kinds : FnScope N_Sheet_kinds ["self"] (defScope s_Sheet_kinds) := ⟨rfl, rfl, rfl, by decide +kernel, rfl, by decide +kernel, by decide +kernel⟩
abbrev s_Sheet_words : Stmt := inClass (top 10) 2
abbrev N_Sheet_words : List Str := ["self"]
theorem sc_Sheet_words : FnScope N_Sheet_words ["self"] (defScope s_Sheet_words) := ⟨rfl, rfl, rfl, by decide +kernel, rfl, by decide +kernel, by decide +kernel⟩
abbrev s_Sheet_eq : Stmt := inClass (top 10) 3
abbrev N_Sheet_eq : List Str := ["self", "other"]
theorem sc_Sheet_eq : FnScope N_Sheet_eq ["self", "other"] (defScope s_Sheet_eq) := ⟨rfl, rfl, rfl, by decide +kernel, rfl, by decide +kernel, by decide +kernel⟩
abbrev s_Sheet_str : Stmt := inClass (top 10) 4
abbrev N_Sheet_str : List Str := ["self"]
theorem sc_Sheet_str : FnScope N_Sheet_str ["self"] (defScope s_Sheet_str) := ⟨rfl, rfl, rfl, by decide +kernel, rfl, by decide +kernel, by decide +kernel⟩
abbrev s_law_dice : Stmt := top 12
abbrev N_law_dice : List Str := ["_law_script", "_law_at", "_law_cell", "_law_great", "_law_mixed_here"]
theorem sc_law_dice : FnScope N_law_dice ["_law_script", "_law_at"] (defScope s_law_dice) := ⟨rfl, rfl, rfl, by decide +kernel, rfl, by decide +kernel, by decide +kernel⟩
abbrev s_law_roll : Stmt := top 13
abbrev N_law_roll : List Str := ["_law_dice_here", "_law_total", "_law_one", "_law_two", "_law_found"]
theorem sc_law_roll : FnScope N_law_roll ["_law_dice_here", "_law_total"] (defScope s_law_roll) := ⟨rfl, rfl, rfl, by decide +kernel, rfl, by decide +kernel, by decide +kernel⟩
abbrev s_law_one_of : Stmt := top 14
abbrev N_law_one_of : List Str := ["_law_dice_here", "_law_items"]
theorem sc_law_one_of : FnScope N_law_one_of ["_law_dice_here", "_law_items"] (defScope s_law_one_of) := ⟨rfl, rfl, rfl, by decide +kernel, rfl, by decide +kernel, by decide +kernel⟩
abbrev s_law_mixed : Stmt := top 15
abbrev N_law_mixed : List Str := ["_law_dice_here", "_law_items", "_law_left", "_law_turn"]
theorem sc_law_mixed : FnScope N_law_mixed ["_law_dice_here", "_law_items"] (defScope s_law_mixed) := ⟨rfl, rfl, rfl, by decide +kernel, rfl, by decide +kernel, by decide +kernel⟩
abbrev s_law_is_name : Stmt := top 16
abbrev N_law_is_name : List Str := ["_law_value", "_law_sign"]
theorem sc_law_is_name : FnScope N_law_is_name ["_law_value"] (defScope s_law_is_name) := ⟨rfl, rfl, rfl, by decide +kernel, rfl, by decide +kernel, by decide +kernel⟩
abbrev s_law_word : Stmt := top 17
abbrev N_law_word : List Str := ["_law_dice_here", "_law_way", "_law_some", "_law_odd", "_law_turn"]
theorem sc_law_word : FnScope N_law_word ["_law_dice_here"] (defScope s_law_word) := ⟨rfl, rfl, rfl, by decide +kernel, rfl, by decide +kernel, by decide +kernel⟩
abbrev s_law_names : Stmt := top 18
abbrev N_law_names : List Str := ["_law_dice_here", "_law_most", "_law_way", "_law_found", "_law_turn", "_law_word_here", "_law_other"]
theorem sc_law_names : FnScope N_law_names ["_law_dice_here", "_law_most"] (defScope s_law_names) := ⟨rfl, rfl, rfl, by decide +kernel, rfl, by decide +kernel, by decide +kernel⟩
abbrev s_law_are_names : Stmt := top 19
abbrev N_law_are_names : List Str := ["_law_value", "_law_most", "_law_name"]
theorem sc_law_are_names : FnScope N_law_are_names ["_law_value", "_law_most"] (defScope s_law_are_names) := ⟨rfl, rfl, rfl, by decide +kernel, rfl, by decide +kernel, by decide +kernel⟩
abbrev s_law_met : Stmt := top 20
abbrev N_law_met : List Str := ["_law_kinds", "_law_words", "_law_one"]
theorem sc_law_met : FnScope N_law_met ["_law_kinds", "_law_words"] (defScope s_law_met) := ⟨rfl, rfl, rfl, by decide +kernel, rfl, by decide +kernel, by decide +kernel⟩
abbrev s_law_right : Stmt := top 21
abbrev N_law_right : List Str := ["_law_dice_here", "_law_value", "_law_text", "_law_more", "_law_other", "_law_kinds", "_law_words", "_law_told", "_law_one", "_law_same", "_law_due"]
theorem sc_law_right : FnScope N_law_right ["_law_dice_here"] (defScope s_law_right) := ⟨rfl, rfl, rfl, by decide +kernel, rfl, by decide +kernel, by decide +kernel⟩
abbrev s_law : Stmt := top 22
abbrev N_law : List Str := ["_law_script", "_law_at", "_law_told", "_law_dice_here", "_law_turn"]
theorem sc_law : FnScope N_law ["_law_script"] (defScope s_law) := ⟨rfl, rfl, rfl, by decide +kernel, rfl, by decide +kernel, by decide +kernel⟩
structure Ads where
  a_is_name : Addr
  d_is_name : FuncData
  a_are_names : Addr
  d_are_names : FuncData
  a_Sheet_init : Addr
  d_Sheet_init : FuncData
  a_Sheet_kinds : Addr
  d_Sheet_kinds : FuncData
  a_Sheet_words : Addr
  d_Sheet_words : FuncData
  a_Sheet_eq : Addr
  d_Sheet_eq : FuncData
  a_Sheet_str : Addr
  d_Sheet_str : FuncData
  a_law_dice : Addr
  d_law_dice : FuncData
  a_law_roll : Addr
  d_law_roll : FuncData
  a_law_one_of : Addr
  d_law_one_of : FuncData
  a_law_mixed : Addr
  d_law_mixed : FuncData
  a_law_is_name : Addr
  d_law_is_name : FuncData
  a_law_word : Addr
  d_law_word : FuncData
  a_law_names : Addr
  d_law_names : FuncData
  a_law_are_names : Addr
  d_law_are_names : FuncData
  a_law_met : Addr
  d_law_met : FuncData
  a_law_right : Addr
  d_law_right : FuncData
  a_law : Addr
  d_law : FuncData
  C_Sheet : Addr
  C_ShapeError : Addr
  C_InvalidSheet : Addr
  p_Sheet_kinds : Addr
  p_Sheet_words : Addr
  c_MAX_KINDS : Value
  c_MAX_WORDS : Value
  c_MAX_LETTERS : Value
  c_LETTERS : Value
structure Txt (K : PySem.W.Frag) (mg : Str → Option Value) (A : Ads) : Prop where
  F_is_name : Fun K "is_name" "is_name" s_is_name A.a_is_name A.d_is_name
  b_is_name : Binds K A.d_is_name ["value"] []
  g_is_name : mg "is_name" = some (.ref A.a_is_name)
  k_is_name : PySem.W.keepIn K (.ref A.a_is_name) = true
  F_are_names : Fun K "are_names" "are_names" s_are_names A.a_are_names A.d_are_names
  b_are_names : Binds K A.d_are_names ["value", "most"] []
  g_are_names : mg "are_names" = some (.ref A.a_are_names)
  k_are_names : PySem.W.keepIn K (.ref A.a_are_names) = true
  F_Sheet_init : Fun K "__init__" "Sheet.__init__" s_Sheet_init A.a_Sheet_init A.d_Sheet_init
  b_Sheet_init : Binds K A.d_Sheet_init ["self", "kinds", "words"] []
  F_Sheet_kinds : Fun K "kinds" "Sheet.kinds" s_Sheet_kinds A.a_Sheet_kinds A.d_Sheet_kinds
  b_Sheet_kinds : Binds K A.d_Sheet_kinds ["self"] []
  F_Sheet_words : Fun K "words" "Sheet.words" s_Sheet_words A.a_Sheet_words A.d_Sheet_words
  b_Sheet_words : Binds K A.d_Sheet_words ["self"] []
  F_Sheet_eq : Fun K "__eq__" "Sheet.__eq__" s_Sheet_eq A.a_Sheet_eq A.d_Sheet_eq
  b_Sheet_eq : Binds K A.d_Sheet_eq ["self", "other"] []
  F_Sheet_str : Fun K "__str__" "Sheet.__str__" s_Sheet_str A.a_Sheet_str A.d_Sheet_str
  b_Sheet_str : Binds K A.d_Sheet_str ["self"] []
  F_law_dice : Fun K "_law_dice" "_law_dice" s_law_dice A.a_law_dice A.d_law_dice
  b_law_dice : Binds K A.d_law_dice ["_law_script", "_law_at"] []
  g_law_dice : mg "_law_dice" = some (.ref A.a_law_dice)
  k_law_dice : PySem.W.keepIn K (.ref A.a_law_dice) = true
  F_law_roll : Fun K "_law_roll" "_law_roll" s_law_roll A.a_law_roll A.d_law_roll
  b_law_roll : Binds K A.d_law_roll ["_law_dice_here", "_law_total"] []
  g_law_roll : mg "_law_roll" = some (.ref A.a_law_roll)
  k_law_roll : PySem.W.keepIn K (.ref A.a_law_roll) = true
  F_law_one_of : Fun K "_law_one_of" "_law_one_of" s_law_one_of A.a_law_one_of A.d_law_one_of
  b_law_one_of : Binds K A.d_law_one_of ["_law_dice_here", "_law_items"] []
  g_law_one_of : mg "_law_one_of" = some (.ref A.a_law_one_of)
  k_law_one_of : PySem.W.keepIn K (.ref A.a_law_one_of) = true
  F_law_mixed : Fun K "_law_mixed" "_law_mixed" s_law_mixed A.a_law_mixed A.d_law_mixed
  b_law_mixed : Binds K A.d_law_mixed ["_law_dice_here", "_law_items"] []
  g_law_mixed : mg "_law_mixed" = some (.ref A.a_law_mixed)
  k_law_mixed : PySem.W.keepIn K (.ref A.a_law_mixed) = true
  F_law_is_name : Fun K "_law_is_name" "_law_is_name" s_law_is_name A.a_law_is_name A.d_law_is_name
  b_law_is_name : Binds K A.d_law_is_name ["_law_value"] []
  g_law_is_name : mg "_law_is_name" = some (.ref A.a_law_is_name)
  k_law_is_name : PySem.W.keepIn K (.ref A.a_law_is_name) = true
  F_law_word : Fun K "_law_word" "_law_word" s_law_word A.a_law_word A.d_law_word
  b_law_word : Binds K A.d_law_word ["_law_dice_here"] []
  g_law_word : mg "_law_word" = some (.ref A.a_law_word)
  k_law_word : PySem.W.keepIn K (.ref A.a_law_word) = true
  F_law_names : Fun K "_law_names" "_law_names" s_law_names A.a_law_names A.d_law_names
  b_law_names : Binds K A.d_law_names ["_law_dice_here", "_law_most"] []
  g_law_names : mg "_law_names" = some (.ref A.a_law_names)
  k_law_names : PySem.W.keepIn K (.ref A.a_law_names) = true
  F_law_are_names : Fun K "_law_are_names" "_law_are_names" s_law_are_names A.a_law_are_names A.d_law_are_names
  b_law_are_names : Binds K A.d_law_are_names ["_law_value", "_law_most"] []
  g_law_are_names : mg "_law_are_names" = some (.ref A.a_law_are_names)
  k_law_are_names : PySem.W.keepIn K (.ref A.a_law_are_names) = true
  F_law_met : Fun K "_law_met" "_law_met" s_law_met A.a_law_met A.d_law_met
  b_law_met : Binds K A.d_law_met ["_law_kinds", "_law_words"] []
  g_law_met : mg "_law_met" = some (.ref A.a_law_met)
  k_law_met : PySem.W.keepIn K (.ref A.a_law_met) = true
  F_law_right : Fun K "_law_right" "_law_right" s_law_right A.a_law_right A.d_law_right
  b_law_right : Binds K A.d_law_right ["_law_dice_here"] []
  g_law_right : mg "_law_right" = some (.ref A.a_law_right)
  k_law_right : PySem.W.keepIn K (.ref A.a_law_right) = true
  F_law : Fun K "law" "law" s_law A.a_law A.d_law
  b_law : Binds K A.d_law ["_law_script"] []
  g_law : mg "law" = some (.ref A.a_law)
  k_law : PySem.W.keepIn K (.ref A.a_law) = true
  g_Sheet : mg "Sheet" = some (.ref A.C_Sheet)
  cl_Sheet : Cls K A.C_Sheet
  I_Sheet : Kd.InsT K A.C_Sheet
  M_Sheet : Mk K A.C_Sheet A.a_Sheet_init
  n_Sheet_own_kinds : NoAttr K A.C_Sheet "own_kinds"
  n_Sheet_own_words : NoAttr K A.C_Sheet "own_words"
  P_Sheet_kinds : PropOf K A.C_Sheet "kinds" A.p_Sheet_kinds A.a_Sheet_kinds
  P_Sheet_words : PropOf K A.C_Sheet "words" A.p_Sheet_words A.a_Sheet_words
  m_Sheet_init : Meth K A.C_Sheet "__init__" A.a_Sheet_init
  m_Sheet_eq : Meth K A.C_Sheet "__eq__" A.a_Sheet_eq
  m_Sheet_str : Meth K A.C_Sheet "__str__" A.a_Sheet_str
  g_ShapeError : mg "ShapeError" = some (.ref A.C_ShapeError)
  x_ShapeError : PySem.W.excIn K A.C_ShapeError [.type "ValueError", .type "Exception", .type "BaseException", .type "object"] "ValueError.__new__" = true
  k_ShapeError : PySem.W.keepIn K (.ref A.C_ShapeError) = true
  s_ShapeError : PySem.W.subIn K (.ref A.C_ShapeError) (.type "BaseException") = some true
  t_ShapeError : PySem.W.typeIn K (.ref A.C_ShapeError) = some (.type "type")
  e_ShapeError : PySem.W.exmOne K (.ref A.C_ShapeError) (.ref A.C_ShapeError) = some true
  g_InvalidSheet : mg "InvalidSheet" = some (.ref A.C_InvalidSheet)
  x_InvalidSheet : PySem.W.excIn K A.C_InvalidSheet [.type "ValueError", .type "Exception", .type "BaseException", .type "object"] "ValueError.__new__" = true
  k_InvalidSheet : PySem.W.keepIn K (.ref A.C_InvalidSheet) = true
  s_InvalidSheet : PySem.W.subIn K (.ref A.C_InvalidSheet) (.type "BaseException") = some true
  t_InvalidSheet : PySem.W.typeIn K (.ref A.C_InvalidSheet) = some (.type "type")
  e_InvalidSheet : PySem.W.exmOne K (.ref A.C_InvalidSheet) (.ref A.C_InvalidSheet) = some true
  c_MAX_KINDS : mg "MAX_KINDS" = some A.c_MAX_KINDS
  r_MAX_KINDS : RelV (.int 3) A.c_MAX_KINDS
  c_MAX_WORDS : mg "MAX_WORDS" = some A.c_MAX_WORDS
  r_MAX_WORDS : RelV (.int 2) A.c_MAX_WORDS
  c_MAX_LETTERS : mg "MAX_LETTERS" = some A.c_MAX_LETTERS
  r_MAX_LETTERS : RelV (.int 8) A.c_MAX_LETTERS
  c_LETTERS : mg "LETTERS" = some A.c_LETTERS
  r_LETTERS : RelV (.str "abcdefghijklmnopqrstuvwxyz") A.c_LETTERS
  n_abs : mg "abs" = none
  n_all : mg "all" = none
  n_bool : mg "bool" = none
  n_int : mg "int" = none
  n_isinstance : mg "isinstance" = none
  n_len : mg "len" = none
  n_list : mg "list" = none
  n_max : mg "max" = none
  n_min : mg "min" = none
  n_property : mg "property" = none
  n_range : mg "range" = none
  n_repr : mg "repr" = none
  n_set : mg "set" = none
  n_sorted : mg "sorted" = none
  n_str : mg "str" = none
  n_tuple : mg "tuple" = none
end K1
namespace K1
open PySem L2 Kd Evl
abbrev LET : List Nat := ("abcdefghijklmnopqrstuvwxyz" : Str).cps.toList
def isName (z : Str) : Bool := (decide (1 ≤ (z.length : Int)) && decide ((z.length : Int) ≤ 8)) && z.cps.toList.all fun c => decide (c ∈ LET)
def isNameD : PyData → Bool
  | .str z => isName z
  | _ => false
def shortD (d : PyData) : Prop := ∀ z, d = .str z → z.length ≤ 1000 ∧ PyData.strOk z = true
def spIsName (K : PySem.W.Frag) : Sp := fun vs H Q _ => ∃ (v : V) (d : PyData), vs = [v] ∧ Dv K H v d ∧ shortD d ∧ ∀ H', Ex H H' → Q (.bl (isNameD d)) H'
theorem dv_str {K : PySem.W.Frag} {H : Hp} {v : V} {d : PyData} (h : Dv K H v d) (e : tyN d = "str") : ∃ z, v = .str z ∧ d = .str z := by
  cases d with
  | str z =>
    rcases h with h | ⟨_, _, _, _, h⟩
    · cases h; exact ⟨z, rfl, rfl⟩
    · cases h
  | none => exact absurd (show "NoneType" = "str" from e) (by decide)
  | bool _ => exact absurd (show "bool" = "str" from e) (by decide)
  | int _ => exact absurd (show "int" = "str" from e) (by decide)
  | list _ => exact absurd (show "list" = "str" from e) (by decide)
  | tuple _ => exact absurd (show "tuple" = "str" from e) (by decide)
  | dict _ => exact absurd (show "dict" = "str" from e) (by decide)
theorem isNameD_no {d : PyData} (e : ¬ tyN d = "str") : isNameD d = false := by
  cases d <;> first | rfl | exact absurd rfl e
theorem len_line {n : Nat} (h : n ≤ 1000) : n ≤ sizeLine := Nat.le_trans h (by decide)
theorem len_lt {n : Nat} (h : n ≤ 1000) : n < sizeLine := Nat.lt_of_le_of_lt h (by decide)
theorem hu64 {k : Nat} {A : Around} (r : Room k A) : A.units + 64 < cLine := by have := r.un; omega
section
variable {P : Program} {w : World} {K : PySem.W.Frag} {mg : Str → Option Value} {base : Heap} {AA : Ads}
def signs (z : Str) : List V := z.cps.toList.map fun c => .str ⟨#[c]⟩
def signIn (L : List Nat) : V → V
  | .str x => .bl (x.cps.toList.any fun c => decide (c ∈ L))
  | _ => .non
theorem signs_mem {z : Str} {x : V} (h : x ∈ signs z) : ∃ c, x = .str ⟨#[c]⟩ := by
  obtain ⟨c, _, e⟩ := List.mem_map.mp h
  exact ⟨c, e.symm⟩
theorem signs_at (z : Str) : ∀ (k : Nat) (H : Hp) (x : V) (H' : Hp), (H' = H ∧ ∃ c, z.cps[k]? = some c ∧ x = .str ⟨#[c]⟩) → H' = H ∧ (signs z)[k]? = some x := fun k H x H' ⟨e, c, h1, h2⟩ => ⟨e, by
  unfold signs
  rw [List.getElem?_map, Array.getElem?_toList, h1, h2]
  rfl⟩
theorem signIn_one (L : List Nat) (c : Nat) : signIn L (.str ⟨#[c]⟩) = .bl (decide (c ∈ L)) := by
  show V.bl ([c].any _) = _
  simp
theorem signs_bl {z : Str} {L : List Nat} : some (HO.lst (((signs z).filter fun _ => true).map (signIn L))) = some (HO.lst ((z.cps.toList.map fun c => decide (c ∈ L)).map V.bl)) := by
  rw [List.filter_eq_self.mpr (fun _ _ => rfl)]
  unfold signs
  rw [List.map_map, List.map_map]
  congr 2
  exact List.map_congr_left fun c _ => signIn_one L c
theorem ev_true {σ : L2.St} {H : Hp} : EvT tYes σ H true := fun H1 _ Q q => q H1 (Ex.refl H1)
theorem ok_is_name (T : Txt K mg AA) : FnOk P w K mg base CX0 1 AA.a_is_name AA.d_is_name ["value"] (spIsName K) := by
  refine T.F_is_name.ok sc_is_name (fun vs H Q E h => ?_) (fun cdv A outer s H vs Q E hr h => ?_)
  · obtain ⟨v, d, rfl, _⟩ := h
    rfl
  · obtain ⟨v, d, rfl, hv, hs, k⟩ := h
    have r1 := T.r_MAX_LETTERS
    have r2 := T.r_LETTERS
    refine ⟨_, (pss_cons (ps_if (pw_or (pt_not (pt_val (pe_callB call_isi (by rfl) T.n_isinstance (by decide +kernel) (pa_cons (pv 0) (pa_cons (pe_bltn (v := .ty "str") (u := .type "str") (by rfl) T.n_str (by decide +kernel) rfl) pa_nil))))) (pw_or1 (pt_not (pt_chain op_le op_le pe_int (pe_callB call_len_str (by rfl) T.n_len (by decide +kernel) (pa_cons (pv 0) pa_nil)) (pe_glob (by rfl) T.c_MAX_LETTERS T.r_MAX_LETTERS))))).pt (pss_one (ps_ret pe_bl)) pss_nil)
    (pss_one (ps_ret (pe_callB (cr_all rfl) (by rfl) T.n_all (by decide +kernel) (pa_cons (pe_lc (own := [("letter", 1)]) (g := gName 1) rfl sc_is_name.nd (pi_str (pv 0)) (blkOk_by (N := N_is_name) (sc := defScope s_is_name) (by decide +kernel)) (fun _ _ _ _ _ => (pg_name (i := 1) sc_is_name.nd rfl (Or.inl rfl))) (fun _ _ _ _ _ => pts_nil) (fun _ _ _ _ _ => by exact (pe_cmpR op_in_sign (pv 1) (pe_glob (by rfl) T.c_LETTERS T.r_LETTERS) rfl))) pa_nil))))), ?_⟩
    refine ⟨_, rfl, _, _, _, _, _, rfl, .ty "str", tyX_of hv, isi_kit "str" _ (kit_str d), _, rfl, ?_⟩
    by_cases c : tyN d = "str"
    · refine if_f (by rw [decide_eq_true c]; rfl) ?_
      obtain ⟨z, rfl, rfl⟩ := dv_str hv c
      obtain ⟨hz, hok⟩ := hs z rfl
      refine ⟨_, rfl, z, rfl, len_line hz, _, _, rfl, rfl, _, rfl, ?_⟩
      by_cases c1 : (1 : Int) ≤ (z.length : Int)
      · refine if_t (decide_eq_true c1) ⟨_, _, rfl, rfl, _, rfl, ?_⟩
        by_cases c2 : (z.length : Int) ≤ 8
        · refine if_f (by rw [decide_eq_true c2]; rfl) ?_
          refine ⟨_, rfl, z, rfl, fun D hD => lcS walk_str hD (signs z) (by simp [signs]) (len_lt hz) (fun _ => true) (signIn LET) (fun _ _ => True.intro) (signs_at z) (fun v => rfl) (fun x H _ _ => ev_true) ?_ ?_⟩
          · intro x H1 hx _ _
            obtain ⟨c, rfl⟩ := signs_mem hx
            exact ev_op (ev_var rfl) ev_c (rv_val fun H1 _ Q q => ⟨c, _, rfl, rfl, by rw [signIn_one] at q; exact q⟩)
          · intro H1 e h1
            refine ⟨D, (z.cps.toList.map fun c => decide (c ∈ LET)), rfl, SqL.of (by rw [h1, signs_bl]), ?_⟩
            have q := k H1 e
            have e1 : isNameD (.str z) = (z.cps.toList.map fun c => decide (c ∈ LET)).all id := by
              show ((decide _ && decide _) && _) = _
              rw [decide_eq_true c1, decide_eq_true c2, List.all_map]
              rfl
            rw [e1] at q
            exact q
        · refine if_t (by rw [decide_eq_false c2]; rfl) ?_
          have q := k H (Ex.refl H)
          have e1 : isNameD (.str z) = false := by
            show ((decide _ && decide _) && _) = _
            rw [decide_eq_false c2]
            simp
          rw [e1] at q
          exact q
      · refine if_f (decide_eq_false c1) ⟨_, rfl, if_t rfl ?_⟩
        have q := k H (Ex.refl H)
        have e1 : isNameD (.str z) = false := by
          show ((decide _ && decide _) && _) = _
          rw [decide_eq_false c1]
          simp
        rw [e1] at q
        exact q
    · refine if_t (by rw [decide_eq_false c]; rfl) ?_
      have q := k H (Ex.refl H)
      rw [isNameD_no c] at q
      exact if_t rfl q
theorem ok_one {z : Str} {c : Nat} (h : PyData.strOk z = true) (hc : c ∈ z.cps.toList) : PyData.strOk ⟨#[c]⟩ = true := by
  have h1 : ∀ x ∈ z.cps, decide (x < 0x110000) = true := by
    unfold PyData.strOk at h
    rw [Array.all_eq_true'] at h
    exact h
  have h2 := h1 c (by simpa using hc)
  unfold PyData.strOk
  simpa using h2
theorem canLay_strs : ∀ (zs : List Str), (∀ z ∈ zs, PyData.strOk z = true) → PyData.canLayAll0 (zs.map PyData.str) = true
  | [], _ => rfl
  | z :: zs, h => by
    show (PyData.canLay0 (.str z) && PyData.canLayAll0 (zs.map PyData.str)) = true
    rw [canLay_strs zs fun y hy => h y (List.mem_cons_of_mem _ hy)]
    have h1 := h z List.mem_cons_self
    show (PyData.strOk z && true) = true
    rw [h1]
    rfl
theorem depth_strs : ∀ (zs : List Str), PyData.depthAll (zs.map PyData.str) = 0
  | [] => rfl
  | z :: zs => by
    show max 0 (PyData.depthAll (zs.map PyData.str)) = 0
    rw [depth_strs zs]
    rfl
theorem shaped_ls {zs : List Str} (h : ∀ z ∈ zs, PyData.strOk z = true) : SeqAt.shaped (.list (zs.map PyData.str)) = true := by
  show (PyData.canLayAll0 _ && decide (PyData.depthAll _ + 1 ≤ 64)) = true
  rw [canLay_strs zs h, depth_strs]
  rfl
theorem shaped_ts {zs : List Str} (h : ∀ z ∈ zs, PyData.strOk z = true) : SeqAt.shaped (.tuple (zs.map PyData.str)) = true := by
  show (PyData.canLayAll0 _ && decide (PyData.depthAll _ + 1 ≤ 64)) = true
  rw [canLay_strs zs h, depth_strs]
  rfl
theorem eqv_nil (ds : List PyData) : PyData.eqv (.list ds) (.list []) = ds.isEmpty := by
  cases ds <;> simp [PyData.eqv, PyData.eqvAll]
def signOut (L : List Nat) : V → Bool
  | .str x => !(x.cps.toList.any fun c => decide (c ∈ L))
  | _ => true
theorem signOut_one (L : List Nat) (c : Nat) : signOut L (.str ⟨#[c]⟩) = !decide (c ∈ L) := by
  show (!([c].any _)) = _
  simp
theorem outs_eq (L : List Nat) : ∀ (cs : List Nat), ((cs.map fun c => V.str ⟨#[c]⟩).filter (signOut L)).map id = ((cs.filter fun c => !decide (c ∈ L)).map fun c => (⟨#[c]⟩ : Str)).map V.str
  | [] => rfl
  | c :: cs => by
    have ih := outs_eq L cs
    rw [List.map_id] at ih ⊢
    rw [List.map_cons, List.filter_cons, List.filter_cons, signOut_one]
    cases hc : !decide (c ∈ L) with
    | true => rw [if_pos rfl, if_pos rfl, ih]; rfl
    | false => rw [if_neg Bool.false_ne_true, if_neg Bool.false_ne_true, ih]
theorem outs_all (L : List Nat) : ∀ (cs : List Nat), (((cs.filter fun c => !decide (c ∈ L)).map fun c => (⟨#[c]⟩ : Str)).map PyData.str).isEmpty = cs.all fun c => decide (c ∈ L)
  | [] => rfl
  | c :: cs => by
    have ih := outs_all L cs
    rw [List.filter_cons, List.all_cons]
    cases hc : decide (c ∈ L) with
    | true =>
      rw [if_neg (by simp), ih]
      rfl
    | false =>
      rw [if_pos (by simp)]
      rfl
theorem ok_law_is_name (T : Txt K mg AA) : FnOk P w K mg base CX0 1 AA.a_law_is_name AA.d_law_is_name ["_law_value"] (spIsName K) := by
  refine T.F_law_is_name.ok sc_law_is_name (fun vs H Q E h => ?_) (fun cdv A outer s H vs Q E hr h => ?_)
  · obtain ⟨v, d, rfl, _⟩ := h
    rfl
  · obtain ⟨v, d, rfl, hv, hs, k⟩ := h
    have hu : _ + 64 < cLine := hu64 hr
    refine ⟨_, (pss_cons (ps_if (pw_or (pt_not (pt_val (pe_callB call_isi (by rfl) T.n_isinstance (by decide +kernel) (pa_cons (pv 0) (pa_cons (pe_bltn (v := .ty "str") (u := .type "str") (by rfl) T.n_str (by decide +kernel) rfl) pa_nil))))) (pw_or1 (pt_not (pt_chain op_le op_le pe_int (pe_callB call_len_str (by rfl) T.n_len (by decide +kernel) (pa_cons (pv 0) pa_nil)) pe_int)))).pt (pss_one (ps_ret pe_bl)) pss_nil)
    (pss_one (ps_ret (pe_cmpR (op_eqD hu) (pe_lc (own := [("_law_sign", 1)]) (g := gName 1) rfl sc_law_is_name.nd (pi_str (pv 0)) (blkOk_by (N := N_law_is_name) (sc := defScope s_law_is_name) (by decide +kernel)) (fun _ _ _ _ _ => (pg_name (i := 1) sc_law_is_name.nd rfl (Or.inl rfl))) (fun _ _ _ _ _ => (by exact pts_one (pt_cmpR op_notIn_sign (pv 1) pe_str rfl))) (fun _ _ _ _ _ => by exact (pv 1))) (pe_lst pa_nil) (nomark _))))), ?_⟩
    refine ⟨_, rfl, _, _, _, _, _, rfl, .ty "str", tyX_of hv, isi_kit "str" _ (kit_str d), _, rfl, ?_⟩
    by_cases c : tyN d = "str"
    · refine if_f (by rw [decide_eq_true c]; rfl) ?_
      obtain ⟨z, rfl, rfl⟩ := dv_str hv c
      obtain ⟨hz, hok⟩ := hs z rfl
      refine ⟨_, rfl, z, rfl, len_line hz, _, _, rfl, rfl, _, rfl, ?_⟩
      by_cases c1 : (1 : Int) ≤ (z.length : Int)
      · refine if_t (decide_eq_true c1) ⟨_, _, rfl, rfl, _, rfl, ?_⟩
        by_cases c2 : (z.length : Int) ≤ 8
        · refine if_f (by rw [decide_eq_true c2]; rfl) ?_
          refine ⟨_, rfl, z, rfl, fun D hD => lcS walk_str hD (signs z) (by simp [signs]) (len_lt hz) (signOut LET) id (fun _ _ => True.intro) (signs_at z) (fun v => rfl) ?_ (fun x H _ _ _ => ev_var rfl) ?_⟩
          · intro x H1 hx _
            obtain ⟨c, rfl⟩ := signs_mem hx
            rw [signOut_one]
            exact et_test (ev_op (ev_var rfl) ev_c (rv_val fun H1 _ Q q => ⟨c, _, rfl, rfl, q⟩))
          · intro H1 e h1
            refine ⟨by show 0 ≤ sizeLine; decide, fun p hp => ?_⟩
            rw [show signs z = z.cps.toList.map (fun c => V.str ⟨#[c]⟩) from rfl, outs_eq] at h1
            refine ⟨_, .list [], .lst (SqL.of (by rw [upd_ne (ne_of_none h1 hp)]; exact h1)) (dpAll_strs _), .lst (SqL.of upd_same) .nil, shaped_ls ?_, rfl, ?_⟩
            · intro y hy
              obtain ⟨c, hc, rfl⟩ := List.mem_map.mp hy
              exact ok_one hok (List.mem_filter.mp hc).1
            · rw [eqv_nil, outs_all]
              have q := k (upd H1 p (.lst [])) (e.trans (Ex.new hp))
              have e1 : isNameD (.str z) = z.cps.toList.all fun c => decide (c ∈ LET) := by
                show ((decide _ && decide _) && _) = _
                rw [decide_eq_true c1, decide_eq_true c2]
                rfl
              rw [e1] at q
              exact q
        · refine if_t (by rw [decide_eq_false c2]; rfl) ?_
          have q := k H (Ex.refl H)
          have e1 : isNameD (.str z) = false := by
            show ((decide _ && decide _) && _) = _
            rw [decide_eq_false c2]
            simp
          rw [e1] at q
          exact q
      · refine if_f (decide_eq_false c1) ⟨_, rfl, if_t rfl ?_⟩
        have q := k H (Ex.refl H)
        have e1 : isNameD (.str z) = false := by
          show ((decide _ && decide _) && _) = _
          rw [decide_eq_false c1]
          simp
        rw [e1] at q
        exact q
    · refine if_t (by rw [decide_eq_false c]; rfl) ?_
      have q := k H (Ex.refl H)
      rw [isNameD_no c] at q
      exact if_t rfl q
end
end K1
namespace K1
open PySem L2 Kd Evl Ks
/-- the names of a tuple, if it is one of texts alone -/
def strsOf : List PyData → List Str
  | .str z :: r => z :: strsOf r
  | _ :: r => strsOf r
  | [] => []
def areNamesD : PyData → Int → Bool
  | .tuple ds, m => ((decide (1 ≤ (ds.length : Int)) && decide ((ds.length : Int) ≤ m)) && ds.all isNameD) && decide ((uniq ((strsOf ds).map fun z => (Sum.inr z : Key))).length = ds.length)
  | _, _ => false
def fewD (d : PyData) : Prop := ∀ ds, d = .tuple ds → ds.length ≤ 1000 ∧ ∀ e ∈ ds, shortD e
def spAre (K : PySem.W.Frag) : Sp := fun vs H Q _ => ∃ (v : V) (d : PyData) (m : Int), vs = [v, .int m] ∧ Dv K H v d ∧ fewD d ∧ ∀ H', Ex H H' → Q (.bl (areNamesD d m)) H'
theorem dv_tuple {K : PySem.W.Frag} {H : Hp} {v : V} {d : PyData} (h : Dv K H v d) (e : tyN d = "tuple") : ∃ a xs ds, v = .ref a ∧ d = .tuple ds ∧ SqT K H a xs ∧ DpAll K H xs ds := by
  cases d with
  | tuple ds =>
    rcases h with h | ⟨_, _, _, _, h⟩
    · cases h with | tup hs ha => exact ⟨_, _, ds, rfl, rfl, hs, ha⟩
    · cases h
  | none => exact absurd (show "NoneType" = "tuple" from e) (by decide)
  | bool _ => exact absurd (show "bool" = "tuple" from e) (by decide)
  | int _ => exact absurd (show "int" = "tuple" from e) (by decide)
  | list _ => exact absurd (show "list" = "tuple" from e) (by decide)
  | str _ => exact absurd (show "str" = "tuple" from e) (by decide)
  | dict _ => exact absurd (show "dict" = "tuple" from e) (by decide)
theorem areNamesD_no {d : PyData} (e : ¬ tyN d = "tuple") (m : Int) : areNamesD d m = false := by
  cases d <;> first | rfl | exact absurd rfl e
theorem dpAll_len {K : PySem.W.Frag} {H : Hp} : ∀ {xs : List V} {ds : List PyData}, DpAll K H xs ds → xs.length = ds.length
  | [], _, h => by cases h; rfl
  | x :: xs, _, h => by cases h with | cons _ h2 => exact congrArg Nat.succ (dpAll_len h2)
theorem dpAll_get {K : PySem.W.Frag} {H : Hp} : ∀ {xs : List V} {ds : List PyData} {i : Nat} {x : V}, DpAll K H xs ds → xs[i]? = some x → ∃ d, ds[i]? = some d ∧ Dp K H x d
  | [], _, i, x, _, e => by simp at e
  | y :: xs, _, 0, x, h, e => by
    cases h with
    | cons h1 _ =>
      obtain rfl : y = x := Option.some.inj e
      exact ⟨_, rfl, h1⟩
  | y :: xs, _, i + 1, x, h, e => by
    cases h with
    | cons _ h2 => exact dpAll_get (i := i) h2 e
theorem all_strs : ∀ {ds : List PyData}, ds.all isNameD = true → ds = (strsOf ds).map PyData.str
  | [], _ => rfl
  | .str z :: r, h => by
    have h1 := (Bool.and_eq_true_iff.mp (by rw [List.all_cons] at h; exact h)).2
    show _ = PyData.str z :: _
    rw [← all_strs h1]
  | .none :: r, h => by rw [List.all_cons] at h; exact absurd (Bool.and_eq_true_iff.mp h).1 Bool.false_ne_true
  | .bool _ :: r, h => by rw [List.all_cons] at h; exact absurd (Bool.and_eq_true_iff.mp h).1 Bool.false_ne_true
  | .int _ :: r, h => by rw [List.all_cons] at h; exact absurd (Bool.and_eq_true_iff.mp h).1 Bool.false_ne_true
  | .list _ :: r, h => by rw [List.all_cons] at h; exact absurd (Bool.and_eq_true_iff.mp h).1 Bool.false_ne_true
  | .tuple _ :: r, h => by rw [List.all_cons] at h; exact absurd (Bool.and_eq_true_iff.mp h).1 Bool.false_ne_true
  | .dict _ :: r, h => by rw [List.all_cons] at h; exact absurd (Bool.and_eq_true_iff.mp h).1 Bool.false_ne_true
theorem dpAll_vals {K : PySem.W.Frag} {H : Hp} : ∀ {zs : List Str} {xs : List V}, DpAll K H xs (zs.map PyData.str) → xs = zs.map V.str
  | [], _, h => by cases h; rfl
  | z :: zs, _, h => by
    cases h with
    | cons h1 h2 =>
      cases h1
      rw [dpAll_vals h2]
      rfl
section
variable {P : Program} {w : World} {K : PySem.W.Frag} {mg : Str → Option Value} {base : Heap} {AA : Ads}
theorem ok_are_names (T : Txt K mg AA) : FnOk P w K mg base CX0 2 AA.a_are_names AA.d_are_names ["value", "most"] (spAre K) := by
  have G_is_name : FnOk P w K mg base CX0 1 AA.a_is_name AA.d_is_name ["value"] (spIsName K) := ok_is_name T
  refine T.F_are_names.ok sc_are_names (fun vs H Q E h => ?_) (fun cdv A outer s H vs Q E hr h => ?_)
  · obtain ⟨v, d, m, rfl, _⟩ := h
    rfl
  · obtain ⟨v, d, m, rfl, hv, hs, k⟩ := h
    refine ⟨_, (pss_cons (ps_if (pw_or (pt_not (pt_val (pe_callB call_isi (by rfl) T.n_isinstance (by decide +kernel) (pa_cons (pv 0) (pa_cons (pe_bltn (v := .ty "tuple") (u := .type "tuple") (by rfl) T.n_tuple (by decide +kernel) rfl) pa_nil))))) (pw_or (pt_not (pt_chain op_le op_le pe_int (pe_callB call_len_seq (by rfl) T.n_len (by decide +kernel) (pa_cons (pv 0) pa_nil)) (pv 1))) (pw_or1 (pt_not (pt_val (pe_callB (cr_all rfl) (by rfl) T.n_all (by decide +kernel) (pa_cons (pe_lc (own := [("name", 2)]) (g := gName 2) rfl sc_are_names.nd (pi_tup (pv 0)) (blkOk_by (N := N_are_names) (sc := defScope s_are_names) (by decide +kernel)) (fun _ _ _ _ _ => (pg_name (i := 2) sc_are_names.nd rfl (Or.inl rfl))) (fun _ _ _ _ _ => pts_nil) (fun _ _ _ _ _ => by exact (pe_call G_is_name (hr.mono (by decide)) (by rfl) T.g_is_name T.k_is_name T.b_is_name .nil pass0 (pa_cons (pv 2) pa_nil)))) pa_nil))))))).pt (pss_one (ps_ret pe_bl)) pss_nil)
    (pss_one (ps_ret (pe_cmpR op_eq (pe_callB call_lenD (by rfl) T.n_len (by decide +kernel) (pa_cons (pe_dc (own := [("name", 2)]) (g := gName 2) rfl sc_are_names.nd (pi_tup (pv 0)) (blkOk_by (N := N_are_names) (sc := defScope s_are_names) (by decide +kernel)) (fun _ _ _ _ _ => (pg_name (i := 2) sc_are_names.nd rfl (Or.inl rfl))) (fun _ _ _ _ _ => pts_nil) (fun _ _ _ _ _ => by exact (pv 2)) (fun _ _ _ _ _ => by exact pe_bl)) pa_nil)) (pe_callB call_len_seq (by rfl) T.n_len (by decide +kernel) (pa_cons (pv 0) pa_nil)) (nomark _))))), ?_⟩
    refine ⟨_, rfl, _, _, _, _, _, rfl, .ty "tuple", tyX_of hv, isi_kit "tuple" _ (kit_tuple d), _, rfl, ?_⟩
    by_cases c : tyN d = "tuple"
    · refine if_f (by rw [decide_eq_true c]; rfl) ?_
      obtain ⟨a, xs, ds, rfl, rfl, hsq, hda⟩ := dv_tuple hv c
      obtain ⟨hlen, hsh⟩ := hs ds rfl
      have lx := dpAll_len hda
      have ln : xs.length ≤ 1000 := by rw [lx]; exact hlen
      refine ⟨_, rfl, a, xs, rfl, .inr hsq, _, _, rfl, rfl, _, rfl, ?_⟩
      rw [lx]
      by_cases c1 : (1 : Int) ≤ (ds.length : Int)
      · refine if_t (decide_eq_true c1) ⟨_, rfl, _, _, rfl, rfl, _, rfl, ?_⟩
        by_cases c2 : (ds.length : Int) ≤ m
        · refine if_f (by rw [decide_eq_true c2]; rfl) ?_
          refine ⟨_, rfl, a, rfl, ⟨_, hsq⟩, fun D hD => lcR walk_tup hD xs (ds.map fun d => (true, .bl (isNameD d))) (by rw [List.length_map, lx]) (len_lt ln) (fun H1 e => ex_t e hsq) (fun _ _ _ _ z => z) (fun v => rfl) ?_ ?_ ?_⟩
          · intro k x b y H1 _ hr _
            rw [List.getElem?_map] at hr
            cases e : ds[k]? with
            | none => rw [e] at hr; cases hr
            | some d => rw [e] at hr; cases hr; exact ev_true
          · intro k x y H1 hx hr e1
            obtain ⟨d, hd, hp⟩ := dpAll_get hda hx
            rw [List.getElem?_map, hd] at hr
            cases hr
            exact ev_call (ea_cons (ev_var rfl) ea_nil) fun H2 e2 Q q E => ⟨x, d, rfl, dv_ex (e1.trans e2) (.inl hp), hsh d (List.mem_of_getElem? hd), fun H3 e3 => q H3 e3⟩
          · intro H1 e1 h1
            rw [lcR_all] at h1
            refine ⟨D, ds.map isNameD, rfl, SqL.of (by rw [h1, List.map_map]; rfl), _, rfl, ?_⟩
            rw [List.all_map]
            by_cases c3 : ds.all isNameD = true
            · refine if_f (by rw [show ds.all (id ∘ isNameD) = true from c3]; rfl) ?_
              have hstr := all_strs c3
              have hxs : xs = (strsOf ds).map V.str := dpAll_vals (by rw [← hstr]; exact hda)
              have hxk : xs = ((strsOf ds).map fun z => (Sum.inr z : Key)).map kV := by rw [hxs, List.map_map]; rfl
              have hsq1 := ex_t e1 hsq
              refine ⟨_, rfl, a, rfl, ⟨_, hsq1⟩, fun D2 hD2 => dcS hD2 ((strsOf ds).map fun z => (Sum.inr z : Key)) (.bl true) ?_ (by rw [← hxk]; exact hsq1) (fun v => rfl) (fun x H2 _ _ => ev_var rfl) (fun x H2 _ _ => ev_c) ?_⟩
              · have e := congrArg List.length hxk
                rw [List.length_map] at e
                rw [← e]
                exact len_lt ln
              · intro H2 e2 h2
                refine ⟨D2, _, rfl, h2, _, rfl, a, xs, rfl, .inr (ex_t e2 hsq1), rfl, ?_⟩
                have q := k H2 (e1.trans e2)
                have e3 : areNamesD (.tuple ds) m = decide (V.int ((((uniq ((strsOf ds).map fun z => (Sum.inr z : Key))).map fun k => (k, V.bl true)).length : Nat) : Int) = V.int ((xs.length : Nat) : Int)) := by
                  show (((decide _ && decide _) && _) && _) = _
                  rw [decide_eq_true c1, decide_eq_true c2, c3, List.length_map, lx]
                  show decide _ = _
                  refine decide_eq_decide.mpr ⟨fun z => by rw [z], fun z => ?_⟩
                  have z1 := V.int.inj z
                  omega
                rw [e3] at q
                exact q
            · have c3' : ds.all isNameD = false := Bool.eq_false_iff.mpr c3
              refine if_t (by rw [show ds.all (id ∘ isNameD) = false from c3']; rfl) ?_
              have q := k H1 e1
              have e3 : areNamesD (.tuple ds) m = false := by
                show (((decide _ && decide _) && _) && _) = _
                rw [c3']
                simp
              rw [e3] at q
              exact q
        · refine if_t (by rw [decide_eq_false c2]; rfl) ?_
          have q := k H (Ex.refl H)
          have e3 : areNamesD (.tuple ds) m = false := by
            show (((decide _ && decide _) && _) && _) = _
            rw [decide_eq_false c2]
            simp
          rw [e3] at q
          exact q
      · refine if_f (decide_eq_false c1) ⟨_, rfl, if_t rfl ?_⟩
        have q := k H (Ex.refl H)
        have e3 : areNamesD (.tuple ds) m = false := by
          show (((decide _ && decide _) && _) && _) = _
          rw [decide_eq_false c1]
          simp
        rw [e3] at q
        exact q
    · refine if_t (by rw [decide_eq_false c]; rfl) ?_
      have q := k H (Ex.refl H)
      rw [areNamesD_no c] at q
      exact if_t rfl q
def ones (n : Nat) : List PyData := List.replicate n (.int 1)
theorem dp_ones {H : Hp} : ∀ n : Nat, DpAll K H (List.replicate n (.int 1)) (ones n)
  | 0 => .nil
  | n + 1 => .cons (.int 1) (dp_ones n)
theorem lay_ones : ∀ n : Nat, PyData.canLayAll0 (ones n) = true ∧ PyData.depthAll (ones n) = 0
  | 0 => ⟨rfl, rfl⟩
  | n + 1 => by
    obtain ⟨h1, h2⟩ := lay_ones n
    refine ⟨?_, ?_⟩
    · show (true && PyData.canLayAll0 (ones n)) = true
      rw [h1]
      rfl
    · show max 0 (PyData.depthAll (ones n)) = 0
      rw [h2]
      rfl
theorem shaped_ones (n : Nat) : SeqAt.shaped (.list (ones n)) = true := by
  obtain ⟨h1, h2⟩ := lay_ones n
  show (PyData.canLayAll0 _ && decide (PyData.depthAll _ + 1 ≤ 64)) = true
  rw [h1, h2]
  rfl
theorem bad_ones (p : PyData → Bool) : ∀ ds : List PyData, ((ds.map fun d => (p d, V.int 1)).filter (·.1)).map (·.2) = List.replicate (ds.countP p) (V.int 1)
  | [] => rfl
  | d :: ds => by
    rw [List.map_cons, List.filter_cons, List.countP_cons]
    cases hp : p d with
    | true =>
      show (_ :: ((ds.map fun d => (p d, V.int 1)).filter (·.1))).map (·.2) = _
      rw [List.map_cons, bad_ones p ds]
      rfl
    | false =>
      show ((ds.map fun d => (p d, V.int 1)).filter (·.1)).map (·.2) = _
      rw [bad_ones p ds]
      rfl
theorem bad_none : ∀ ds : List PyData, (ones (ds.countP fun d => !isNameD d)).isEmpty = ds.all isNameD
  | [] => rfl
  | d :: ds => by
    rw [List.countP_cons, List.all_cons]
    cases hd : isNameD d with
    | true =>
      show (ones (ds.countP _ + 0)).isEmpty = _
      rw [Nat.add_zero, bad_none ds]
      rfl
    | false => rfl
theorem ok_law_are_names (T : Txt K mg AA) : FnOk P w K mg base CX0 2 AA.a_law_are_names AA.d_law_are_names ["_law_value", "_law_most"] (spAre K) := by
  have G_law_is_name : FnOk P w K mg base CX0 1 AA.a_law_is_name AA.d_law_is_name ["_law_value"] (spIsName K) := ok_law_is_name T
  refine T.F_law_are_names.ok sc_law_are_names (fun vs H Q E h => ?_) (fun cdv A outer s H vs Q E hr h => ?_)
  · obtain ⟨v, d, m, rfl, _⟩ := h
    rfl
  · obtain ⟨v, d, m, rfl, hv, hs, k⟩ := h
    have hu : _ + 64 < cLine := hu64 hr
    refine ⟨_, (pss_cons (ps_if (pw_or (pt_not (pt_val (pe_callB call_isi (by rfl) T.n_isinstance (by decide +kernel) (pa_cons (pv 0) (pa_cons (pe_bltn (v := .ty "tuple") (u := .type "tuple") (by rfl) T.n_tuple (by decide +kernel) rfl) pa_nil))))) (pw_or1 (pt_not (pt_chain op_le op_le pe_int (pe_callB call_len_seq (by rfl) T.n_len (by decide +kernel) (pa_cons (pv 0) pa_nil)) (pv 1))))).pt (pss_one (ps_ret pe_bl)) pss_nil)
    (pss_one (ps_ret (pe_and (pe_cmpR (op_eqD hu) (pe_lc (own := [("_law_name", 2)]) (g := gName 2) rfl sc_law_are_names.nd (pi_tup (pv 0)) (blkOk_by (N := N_law_are_names) (sc := defScope s_law_are_names) (by decide +kernel)) (fun _ _ _ _ _ => (pg_name (i := 2) sc_law_are_names.nd rfl (Or.inl rfl))) (fun _ _ _ _ _ => (by exact pts_one (pt_not (pt_val (pe_call G_law_is_name (hr.mono (by decide)) (by rfl) T.g_law_is_name T.k_law_is_name T.b_law_is_name .nil pass0 (pa_cons (pv 2) pa_nil)))))) (fun _ _ _ _ _ => by exact pe_int)) (pe_lst pa_nil) (nomark _)) (pe_one (pe_cmpR op_eq (pe_callB cr_lenSetK (by rfl) T.n_len (by decide +kernel) (pa_cons (pe_callTy (cr_setT rfl) (by rfl) T.n_set (by decide +kernel) (pa_cons (pv 0) pa_nil)) pa_nil)) (pe_callB call_len_seq (by rfl) T.n_len (by decide +kernel) (pa_cons (pv 0) pa_nil)) (nomark _))))))), ?_⟩
    refine ⟨_, rfl, _, _, _, _, _, rfl, .ty "tuple", tyX_of hv, isi_kit "tuple" _ (kit_tuple d), _, rfl, ?_⟩
    by_cases c : tyN d = "tuple"
    · refine if_f (by rw [decide_eq_true c]; rfl) ?_
      obtain ⟨a, xs, ds, rfl, rfl, hsq, hda⟩ := dv_tuple hv c
      obtain ⟨hlen, hsh⟩ := hs ds rfl
      have lx := dpAll_len hda
      have ln : xs.length ≤ 1000 := by rw [lx]; exact hlen
      refine ⟨_, rfl, a, xs, rfl, .inr hsq, _, _, rfl, rfl, _, rfl, ?_⟩
      rw [lx]
      by_cases c1 : (1 : Int) ≤ (ds.length : Int)
      · refine if_t (decide_eq_true c1) ⟨_, rfl, _, _, rfl, rfl, _, rfl, ?_⟩
        by_cases c2 : (ds.length : Int) ≤ m
        · refine if_f (by rw [decide_eq_true c2]; rfl) ?_
          refine ⟨_, rfl, a, rfl, ⟨_, hsq⟩, fun D hD => lcR walk_tup hD xs (ds.map fun d => (!isNameD d, .int 1)) (by rw [List.length_map, lx]) (len_lt ln) (fun H1 e => ex_t e hsq) (fun _ _ _ _ z => z) (fun v => rfl) ?_ (fun (kk : Nat) _ y _ _ hr _ => ?_) ?_⟩
          · intro k x b y H1 hx hr e1
            obtain ⟨d, hd, hp⟩ := dpAll_get hda hx
            rw [List.getElem?_map, hd] at hr
            cases hr
            exact et_not (et_B (ev_call (ea_cons (ev_var rfl) ea_nil) fun H2 e2 Q q E => ⟨x, d, rfl, dv_ex (e1.trans e2) (.inl hp), hsh d (List.mem_of_getElem? hd), fun H3 e3 => q H3 e3⟩))
          · rw [List.getElem?_map] at hr
            cases e : ds[kk]? with
            | none => rw [e] at hr; cases hr
            | some d => rw [e] at hr; obtain rfl : V.int 1 = y := (Prod.mk.inj (Option.some.inj hr)).2; exact ev_c
          · intro H1 e1 h1
            rw [bad_ones] at h1
            refine ⟨by show 0 ≤ sizeLine; decide, fun p hp => ?_⟩
            have x1 : Ex H1 (upd H1 p (.lst [])) := Ex.new hp
            refine ⟨_, .list [], .lst (SqL.of (x1 _ _ h1)) (dp_ones _), .lst (SqL.of upd_same) .nil, shaped_ones _, rfl, _, rfl, ?_⟩
            rw [eqv_nil, bad_none]
            by_cases c3 : ds.all isNameD = true
            · refine if_t c3 ?_
              have hstr := all_strs c3
              have hxs : xs = (strsOf ds).map V.str := dpAll_vals (by rw [← hstr]; exact hda)
              have hxk : xs = ((strsOf ds).map fun z => (Sum.inr z : Key)).map kV := by rw [hxs, List.map_map]; rfl
              have hsq1 := ex_t (e1.trans x1) hsq
              refine ⟨_, rfl, a, (strsOf ds).map fun z => (Sum.inr z : Key), rfl, by rw [← hxk]; exact hsq1, ?_, fun p2 hp2 => ⟨p2, _, _, rfl, upd_same, _, rfl, a, xs, rfl, .inr (ex_t (Ex.new hp2) hsq1), rfl, ?_⟩⟩
              · have e := congrArg List.length hxk
                rw [List.length_map] at e
                rw [← e]
                have z : (1002 : Nat) < scanBound := by decide
                omega
              · have q := k _ ((e1.trans x1).trans (Ex.new (o := SetK P w p2 (has ((strsOf ds).map fun z => (Sum.inr z : Key))) (uniq ((strsOf ds).map fun z => (Sum.inr z : Key))).length) hp2))
                have e3 : areNamesD (.tuple ds) m = decide (V.int (((uniq ((strsOf ds).map fun z => (Sum.inr z : Key))).length : Nat) : Int) = V.int ((xs.length : Nat) : Int)) := by
                  show (((decide _ && decide _) && _) && _) = _
                  rw [decide_eq_true c1, decide_eq_true c2, c3, lx]
                  show decide _ = _
                  refine decide_eq_decide.mpr ⟨fun z => by rw [z], fun z => ?_⟩
                  have z1 := V.int.inj z
                  omega
                rw [e3] at q
                exact q
            · have c3' : ds.all isNameD = false := Bool.eq_false_iff.mpr c3
              refine if_f c3' ?_
              have q := k _ (e1.trans x1)
              have e3 : areNamesD (.tuple ds) m = false := by
                show (((decide _ && decide _) && _) && _) = _
                rw [c3']
                simp
              rw [e3] at q
              exact q
        · refine if_t (by rw [decide_eq_false c2]; rfl) ?_
          have q := k H (Ex.refl H)
          have e3 : areNamesD (.tuple ds) m = false := by
            show (((decide _ && decide _) && _) && _) = _
            rw [decide_eq_false c2]
            simp
          rw [e3] at q
          exact q
      · refine if_f (decide_eq_false c1) ⟨_, rfl, if_t rfl ?_⟩
        have q := k H (Ex.refl H)
        have e3 : areNamesD (.tuple ds) m = false := by
          show (((decide _ && decide _) && _) && _) = _
          rw [decide_eq_false c1]
          simp
        rw [e3] at q
        exact q
    · refine if_t (by rw [decide_eq_false c]; rfl) ?_
      have q := k H (Ex.refl H)
      rw [areNamesD_no c] at q
      exact if_t rfl q
end
end K1
namespace K1
open PySem L2 Kd Evl Ks
def strsD : PyData → List Str
  | .tuple ds => strsOf ds
  | _ => []
/-- a sheet stands at p -/
structure SheetAt (C : Addr) (H : Hp) (p : Addr) (ks ws : List Str) : Prop where
  at_ : ∃ dx fs pk pw, H p = some (.ins C dx fs) ∧ fs.lookup ("own_kinds" : Str) = some (.ref pk) ∧ fs.lookup ("own_words" : Str) = some (.ref pw) ∧ H pk = some (.tup (ks.map V.str)) ∧ H pw = some (.tup (ws.map V.str))
theorem SheetAt.ex {C : Addr} {H H' : Hp} {p : Addr} {ks ws : List Str} (h : SheetAt C H p ks ws) (e : Ex H H') : SheetAt C H' p ks ws := by
  obtain ⟨dx, fs, pk, pw, h1, h2, h3, h4, h5⟩ := h.at_
  exact ⟨dx, fs, pk, pw, e _ _ h1, h2, h3, e _ _ h4, e _ _ h5⟩
def ExBut (p : Addr) (H H' : Hp) : Prop := ∀ b o, H b = some o → b ≠ p → H' b = some o
def spInit (K : PySem.W.Frag) (AA : Ads) : Sp := fun vs H Q E => ∃ (p dx : Addr) (k w : V) (dk dw : PyData), vs = [.ref p, k, w] ∧ H p = some (.ins AA.C_Sheet dx []) ∧ Dv K H k dk ∧ Dv K H w dw ∧ fewD dk ∧ fewD dw ∧
  ((areNamesD dk 3 && areNamesD dw 2) = true → ∀ ks ws H', IsSort (strsD dk) ks → IsSort (strsD dw) ws → ExBut p H H' → SheetAt AA.C_Sheet H' p ks ws → Q .non H') ∧
  ((areNamesD dk 3 && areNamesD dw 2) = false → ∀ H', Ex H H' → E (.ref AA.C_InvalidSheet) none H')
theorem kw_ne : ¬ (("own_kinds" : Str) = "own_words") := by decide +kernel
theorem names_tup {K : PySem.W.Frag} {H : Hp} {v : V} {d : PyData} {m : Int} (hv : Dv K H v d) (h : areNamesD d m = true) : ∃ a, v = .ref a ∧ SqT K H a ((strsD d).map V.str) ∧ d = .tuple ((strsD d).map PyData.str) ∧ ((strsD d).length : Int) ≤ m ∧ 1 ≤ (strsD d).length ∧ (strsD d).Nodup ∧ ∀ z ∈ strsD d, isName z = true := by
  have c : tyN d = "tuple" := by
    cases d <;> first | rfl | (exact absurd h Bool.false_ne_true)
  obtain ⟨a, xs, ds, rfl, rfl, hs, ha⟩ := dv_tuple hv c
  have h' : (((decide (1 ≤ (ds.length : Int)) && decide ((ds.length : Int) ≤ m)) && ds.all isNameD) && decide ((uniq ((strsOf ds).map fun z => (Sum.inr z : Key))).length = ds.length)) = true := h
  obtain ⟨h1, h2⟩ := Bool.and_eq_true_iff.mp h'
  obtain ⟨h3, h4⟩ := Bool.and_eq_true_iff.mp h1
  obtain ⟨h5, h6⟩ := Bool.and_eq_true_iff.mp h3
  have e := all_strs h4
  have el : ds.length = (strsOf ds).length := by rw [congrArg List.length e, List.length_map]
  have h2' := of_decide_eq_true h2
  have h5' := of_decide_eq_true h5
  have h6' := of_decide_eq_true h6
  refine ⟨a, rfl, ?_, congrArg PyData.tuple e, ?_, ?_, ?_, ?_⟩
  · show SqT K H a ((strsOf ds).map V.str)
    rw [← dpAll_vals (by rw [← e]; exact ha)]
    exact hs
  · show ((strsOf ds).length : Int) ≤ m
    omega
  · show 1 ≤ (strsOf ds).length
    omega
  · have hn : ((strsOf ds).map fun z => (Sum.inr z : Key)).Nodup := (len_eq_uniq _).mp (by rw [h2', List.length_map]; exact el)
    show (strsOf ds).Nodup
    exact (List.pairwise_map.mp hn).imp fun q z => q (by rw [z])
  · intro z hz
    have hz' : z ∈ strsOf ds := hz
    have hm : PyData.str z ∈ ds := by rw [e]; exact List.mem_map.mpr ⟨z, hz', rfl⟩
    exact List.all_eq_true.mp h4 _ hm
theorem sqT_but {K : PySem.W.Frag} {H H' : Hp} {p a C dx : Addr} {fs : List (Str × V)} {xs : List V} (h : SqT K H a xs) (hp : H p = some (.ins C dx fs)) (e : ExBut p H H') : SqT K H' a xs := by
  rcases h with (h | ⟨o, h⟩) | h
  · exact .inl (.inl (e _ _ h (ne_of h hp (by intro q; cases q))))
  · exact .inl (.inr ⟨o, e _ _ h (ne_of h hp (by intro q; cases q))⟩)
  · exact .inr h
section
variable {P : Program} {w : World} {K : PySem.W.Frag} {mg : Str → Option Value} {base : Heap} {AA : Ads}
theorem ok_Sheet_init (T : Txt K mg AA) : FnOk P w K mg base (L2.CX P w) 3 AA.a_Sheet_init AA.d_Sheet_init ["self", "kinds", "words"] (spInit K AA) := by
  have G_are_names : FnOk P w K mg base CX0 2 AA.a_are_names AA.d_are_names ["value", "most"] (spAre K) := ok_are_names T
  refine T.F_Sheet_init.okX sc_Sheet_init (fun vs H Q E h => ?_) (fun cdv A outer s H vs Q E hr h => ?_)
  · obtain ⟨p, dx, k, w, dk, dw, rfl, _⟩ := h
    rfl
  · obtain ⟨p, dx, k, w, dk, dw, rfl, hp, hk, hw, fk, fw, good, bad⟩ := h
    refine ⟨_, (pss_cons (ps_if (pw_or (pt_not (pt_val (pe_call G_are_names (hr.mono (by decide)) (by rfl) T.g_are_names T.k_are_names T.b_are_names .nil pass0 (pa_cons (pv 1) (pa_cons (pe_glob (by rfl) T.c_MAX_KINDS T.r_MAX_KINDS) pa_nil))))) (pw_or1 (pt_not (pt_val (pe_call G_are_names (hr.mono (by decide)) (by rfl) T.g_are_names T.k_are_names T.b_are_names .nil pass0 (pa_cons (pv 2) (pa_cons (pe_glob (by rfl) T.c_MAX_WORDS T.r_MAX_WORDS) pa_nil))))))).pt (pss_one (ps_raise rfl (takes_of rfl rfl rfl rfl) (pmk_own PySem.F.excBase_ValueError T.x_InvalidSheet T.g_InvalidSheet T.k_InvalidSheet (raises_own T.s_InvalidSheet T.t_InvalidSheet) (by rfl)))) pss_nil)
    (pss_cons (ps_fld (pv 0) (pe_callTy call_tuple_of (by rfl) T.n_tuple (by decide +kernel) (pa_cons (pe_callB cr_sortU (by rfl) T.n_sorted (by decide +kernel) (pa_cons (pv 1) pa_nil)) pa_nil)) rfl)
    (pss_one (ps_fld (pv 0) (pe_callTy call_tuple_of (by rfl) T.n_tuple (by decide +kernel) (pa_cons (pe_callB cr_sortU (by rfl) T.n_sorted (by decide +kernel) (pa_cons (pv 2) pa_nil)) pa_nil)) rfl)))), ?_⟩
    refine ⟨_, rfl, k, dk, 3, rfl, hk, fk, fun H1 e1 => ⟨_, rfl, ?_⟩⟩
    cases ck : areNamesD dk 3 with
    | false =>
      refine if_t rfl (if_t rfl ?_)
      exact bad (by rw [ck]; rfl) H1 e1
    | true =>
      refine if_f rfl ?_
      refine ⟨_, rfl, w, dw, 2, rfl, dv_ex e1 hw, fw, fun H2 e2 => ⟨_, rfl, ?_⟩⟩
      have e02 := e1.trans e2
      cases cw : areNamesD dw 2 with
      | false =>
        refine if_t rfl ?_
        exact bad (by rw [ck, cw]; rfl) H2 e02
      | true =>
        refine if_f rfl ?_
        obtain ⟨ak, rfl, sk, _, lk, _⟩ := names_tup (dv_ex e02 hk) ck
        obtain ⟨aw, rfl, sw, _, lw, _⟩ := names_tup (dv_ex e02 hw) cw
        have hp2 := e02 _ _ hp
        refine ⟨_, rfl, ak, _, rfl, .inl sk, by omega, fun ks q1 pm1 so1 hq1 => ⟨q1, _, rfl, .inl ⟨SqL.of upd_same, fun t1 ht1 => ?_⟩⟩⟩
        have x1 : Ex H2 (upd (upd H2 q1 (.lst (ks.map V.str))) t1 (.tup (ks.map V.str))) := (Ex.new hq1).trans (Ex.new ht1)
        have hp3 := x1 _ _ hp2
        refine ⟨_, rfl, p, AA.C_Sheet, dx, [], rfl, hp3, T.cl_Sheet, T.n_Sheet_own_kinds, (by show 0 < 1000; decide), ?_⟩
        have npt : t1 ≠ p := (ne_of_none hp2 (fresh_back (Ex.new hq1) ht1)).symm
        have b1 : ExBut p H2 (upd (upd (upd H2 q1 (.lst (ks.map V.str))) t1 (.tup (ks.map V.str))) p (.ins AA.C_Sheet dx (putF "own_kinds" (.ref t1) []))) := fun b o h hb => by rw [upd_ne hb]; exact x1 _ _ h
        refine ⟨_, rfl, aw, _, rfl, .inl (sqT_but sw hp2 b1), by omega, fun ws q2 pm2 so2 hq2 => ⟨q2, _, rfl, .inl ⟨SqL.of upd_same, fun t2 ht2 => ?_⟩⟩⟩
        generalize hH3 : upd (upd (upd H2 q1 (.lst (ks.map V.str))) t1 (.tup (ks.map V.str))) p (.ins AA.C_Sheet dx (putF "own_kinds" (.ref t1) [])) = H3 at *
        have hp4 : H3 p = some (.ins AA.C_Sheet dx (putF "own_kinds" (.ref t1) [])) := by rw [← hH3]; exact upd_same
        have ht1' : H3 t1 = some (.tup (ks.map V.str)) := by rw [← hH3, upd_ne npt]; exact upd_same
        have x2 : Ex H3 (upd (upd H3 q2 (.lst (ws.map V.str))) t2 (.tup (ws.map V.str))) := (Ex.new hq2).trans (Ex.new ht2)
        have npt2 : t2 ≠ p := (ne_of_none hp4 (fresh_back (Ex.new hq2) ht2)).symm
        refine ⟨_, rfl, p, AA.C_Sheet, dx, _, rfl, x2 _ _ hp4, T.cl_Sheet, T.n_Sheet_own_words, (by show 1 < 1000; decide), ?_⟩
        refine good (by rw [ck, cw]; rfl) ks ws _ ⟨pm1, so1⟩ ⟨pm2, so2⟩ (fun b o h hb => by rw [upd_ne hb]; exact x2 _ _ (b1 _ _ (e02 _ _ h) hb)) ⟨dx, _, t1, t2, upd_same, ?_, ?_, ?_, ?_⟩
        · rw [lookup_putF, if_neg kw_ne, lookup_putF, if_pos rfl]
        · rw [lookup_putF, if_pos rfl]
        · rw [upd_ne npt]; exact x2 _ _ ht1'
        · rw [upd_ne npt2]; exact upd_same
end
end K1
namespace K1
open PySem L2 Kd Evl Ks
section
variable {P : Program} {w : World} {K : PySem.W.Frag} {mg : Str → Option Value} {base : Heap} {AA : Ads}
theorem ok_Sheet_kinds (T : Txt K mg AA) : FnOk P w K mg base CX0 1 AA.a_Sheet_kinds AA.d_Sheet_kinds ["self"] (getSp AA.C_Sheet "own_kinds") := by
  refine T.F_Sheet_kinds.ok sc_Sheet_kinds (fun vs H Q E h => ?_) (fun cdv A outer s H vs Q E hr h => ?_)
  · obtain ⟨a, dx, fs, v, rfl, _⟩ := h
    rfl
  · obtain ⟨a, dx, fs, v, rfl, ha, hf, q⟩ := h
    exact ⟨_, (pss_one (ps_ret (pe_fld (pv 0) rfl))), _, rfl, a, _, dx, fs, v, rfl, ha, T.cl_Sheet, T.n_Sheet_own_kinds, hf, q⟩
theorem ok_Sheet_words (T : Txt K mg AA) : FnOk P w K mg base CX0 1 AA.a_Sheet_words AA.d_Sheet_words ["self"] (getSp AA.C_Sheet "own_words") := by
  refine T.F_Sheet_words.ok sc_Sheet_words (fun vs H Q E h => ?_) (fun cdv A outer s H vs Q E hr h => ?_)
  · obtain ⟨a, dx, fs, v, rfl, _⟩ := h
    rfl
  · obtain ⟨a, dx, fs, v, rfl, ha, hf, q⟩ := h
    exact ⟨_, (pss_one (ps_ret (pe_fld (pv 0) rfl))), _, rfl, a, _, dx, fs, v, rfl, ha, T.cl_Sheet, T.n_Sheet_own_words, hf, q⟩
theorem eqv_strs : ∀ (xs ys : List Str), PyData.eqvAll (xs.map PyData.str) (ys.map PyData.str) = decide (xs = ys)
  | [], [] => rfl
  | [], _ :: _ => rfl
  | _ :: _, [] => rfl
  | x :: xs, y :: ys => by
    show (PyData.eqv (.str x) (.str y) && PyData.eqvAll (xs.map PyData.str) (ys.map PyData.str)) = _
    rw [eqv_strs xs ys]
    show ((x == y) && _) = _
    by_cases h1 : x = y
    · subst h1
      rw [beq_self_eq_true, Bool.true_and]
      exact decide_eq_decide.mpr ⟨fun e => by rw [e], fun e => (List.cons.inj e).2⟩
    · rw [beq_eq_false_iff_ne.mpr h1, Bool.false_and]
      exact (decide_eq_false fun e => h1 (List.cons.inj e).1).symm
/-- texts that may be compared -/
def OkS (zs : List Str) : Prop := ∀ z ∈ zs, PyData.strOk z = true
/-- what the second one of == may be -/
def Other (K : PySem.W.Frag) (C : Addr) (H : Hp) (y : V) (r : Option (List Str × List Str)) : Prop :=
  (∃ d, Dv K H y d ∧ r = none) ∨ ∃ b ks ws, y = .ref b ∧ SheetAt C H b ks ws ∧ OkS ks ∧ OkS ws ∧ r = some (ks, ws)
def spEqS (K : PySem.W.Frag) (C : Addr) : Sp := fun vs H Q _ => ∃ (a : Addr) (y : V) (ks ws : List Str) (r : Option (List Str × List Str)), vs = [.ref a, y] ∧ SheetAt C H a ks ws ∧ OkS ks ∧ OkS ws ∧ Other K C H y r ∧ Q (.bl (decide (r = some (ks, ws)))) H
theorem ok_Sheet_eq (T : Txt K mg AA) : FnOk P w K mg base CX0 1 AA.a_Sheet_eq AA.d_Sheet_eq ["self", "other"] (spEqS K AA.C_Sheet) := by
  refine T.F_Sheet_eq.ok sc_Sheet_eq (fun vs H Q E h => ?_) (fun cdv A outer s H vs Q E hr h => ?_)
  · obtain ⟨a, y, ks, ws, r, rfl, _⟩ := h
    rfl
  · obtain ⟨a, y, ks, ws, r, rfl, ha, ok1, ok2, ho, q⟩ := h
    have hu : _ + 64 < cLine := hu64 hr
    refine ⟨_, (pss_cons (ps_if (pt_not (pt_val (pe_callB call_isi (by rfl) T.n_isinstance (by decide +kernel) (pa_cons (pv 1) (pa_cons (pe_glob (v := .ref AA.C_Sheet) (by rfl) T.g_Sheet rfl) pa_nil))))) (pss_one (ps_ret pe_bl)) pss_nil)
    (pss_one (ps_ret (pe_and (pe_cmpR (op_eqD hu) (pe_fld (pv 0) rfl) (pe_fld (pv 1) rfl) (nomark _)) (pe_one (pe_cmpR (op_eqD hu) (pe_fld (pv 0) rfl) (pe_fld (pv 1) rfl) (nomark _))))))), ?_⟩
    rcases ho with ⟨d, hd, rfl⟩ | ⟨b, ks', ws', rfl, hb, ok3, ok4, rfl⟩
    · refine ⟨_, rfl, _, _, _, _, _, rfl, .own _, tyX_of hd, T.I_Sheet.no d, _, rfl, if_t rfl ?_⟩
      rw [decide_eq_false (by intro z; cases z)] at q
      exact q
    · obtain ⟨dx, fs, pk, pw, a1, a2, a3, a4, a5⟩ := ha.at_
      obtain ⟨dy, gs, qk, qw, b1, b2, b3, b4, b5⟩ := hb.at_
      refine ⟨_, rfl, _, _, _, _, _, rfl, .own _, T.I_Sheet.ty b1, kit_self, _, rfl, if_f rfl ?_⟩
      refine ⟨_, rfl, a, _, dx, fs, _, rfl, a1, T.cl_Sheet, T.n_Sheet_own_kinds, a2, _, rfl, b, _, dy, gs, _, rfl, b1, T.cl_Sheet, T.n_Sheet_own_kinds, b2, _, _, .tup (SqT.of a4) (dpAll_strs ks), .tup (SqT.of b4) (dpAll_strs ks'), shaped_ts ok1, shaped_ts ok3, _, rfl, ?_⟩
      have e1 : PyData.eqv (.tuple (ks.map PyData.str)) (.tuple (ks'.map PyData.str)) = decide (ks = ks') := eqv_strs ks ks'
      have e2 : PyData.eqv (.tuple (ws.map PyData.str)) (.tuple (ws'.map PyData.str)) = decide (ws = ws') := eqv_strs ws ws'
      rw [e1]
      by_cases c : ks = ks'
      · refine if_t (decide_eq_true c) ?_
        refine ⟨_, rfl, a, _, dx, fs, _, rfl, a1, T.cl_Sheet, T.n_Sheet_own_words, a3, _, rfl, b, _, dy, gs, _, rfl, b1, T.cl_Sheet, T.n_Sheet_own_words, b3, _, _, .tup (SqT.of a5) (dpAll_strs ws), .tup (SqT.of b5) (dpAll_strs ws'), shaped_ts ok2, shaped_ts ok4, ?_⟩
        rw [e2]
        have e3 : decide (some (ks', ws') = some (ks, ws)) = decide (ws = ws') := decide_eq_decide.mpr ⟨fun z => (Prod.mk.inj (Option.some.inj z)).2.symm, fun z => by rw [c, z]⟩
        rw [e3] at q
        exact q
      · refine if_f (decide_eq_false c) ?_
        rw [decide_eq_false (fun z => c (Prod.mk.inj (Option.some.inj z)).1.symm)] at q
        exact q
/-- how many, as a text -/
def numS (n : Nat) : Str := Str.ofString (toString (n : Int))
theorem numS_len {n : Nat} (h : n ≤ 3) : (numS n).length = 1 := by
  match n, h with
  | 0, _ => decide +kernel
  | 1, _ => decide +kernel
  | 2, _ => decide +kernel
  | 3, _ => decide +kernel
theorem log_small {n : Nat} (h : n ≤ 3) : ((n : Int)).natAbs.log2 < 1920 := by
  match n, h with
  | 0, _ => decide +kernel
  | 1, _ => decide +kernel
  | 2, _ => decide +kernel
  | 3, _ => decide +kernel
def sheetStr (n m : Nat) : Str := ((((Str.empty ++ ("sheet of " : Str)) ++ numS n) ++ (" kinds, " : Str)) ++ numS m) ++ (" words" : Str)
theorem len_app (x y : Str) : (x ++ y).length = x.length + y.length := Str.length_append x y
def spStrS (C : Addr) : Sp := fun vs H Q _ => ∃ (a : Addr) (ks ws : List Str), vs = [.ref a] ∧ SheetAt C H a ks ws ∧ ks.length ≤ 3 ∧ ws.length ≤ 3 ∧ Q (.str (sheetStr ks.length ws.length)) H
theorem ok_Sheet_str (T : Txt K mg AA) : FnOk P w K mg base CX0 1 AA.a_Sheet_str AA.d_Sheet_str ["self"] (spStrS AA.C_Sheet) := by
  refine T.F_Sheet_str.ok sc_Sheet_str (fun vs H Q E h => ?_) (fun cdv A outer s H vs Q E hr h => ?_)
  · obtain ⟨a, ks, ws, rfl, _⟩ := h
    rfl
  · obtain ⟨a, ks, ws, rfl, ha, lk, lw, q⟩ := h
    obtain ⟨dx, fs, pk, pw, a1, a2, a3, a4, a5⟩ := ha.at_
    refine ⟨_, (pss_one (ps_ret (pe_joined (.cons pe_str (.cons (pe_fmt (pe_callB call_len_seq (by rfl) T.n_len (by decide +kernel) (pa_cons (pe_fld (pv 0) rfl) pa_nil))) (.cons pe_str (.cons (pe_fmt (pe_callB call_len_seq (by rfl) T.n_len (by decide +kernel) (pa_cons (pe_fld (pv 0) rfl) pa_nil))) (.cons pe_str .nil)))))))), ?_⟩
    have n1 := numS_len lk
    have n2 := numS_len lw
    have z1 : (Str.empty ++ ("sheet of " : Str)).length = 9 := by decide +kernel
    have z2 : ((" kinds, " : Str)).length = 8 := by decide +kernel
    have z3 : ((" words" : Str)).length = 6 := by decide +kernel
    have line : (100 : Nat) ≤ sizeLine := by decide
    refine ⟨_, rfl, by rw [z1]; omega, _, rfl, a, _, dx, fs, _, rfl, a1, T.cl_Sheet, T.n_Sheet_own_kinds, a2, pk, _, rfl, .inr (SqT.of a4), .inr ⟨_, rfl, by rw [List.length_map]; exact log_small lk, numS ks.length, by rw [List.length_map]; rfl, by rw [len_app]; omega, ?_⟩⟩
    refine ⟨_, rfl, by rw [len_app, len_app]; omega, _, rfl, a, _, dx, fs, _, rfl, a1, T.cl_Sheet, T.n_Sheet_own_words, a3, pw, _, rfl, .inr (SqT.of a5), .inr ⟨_, rfl, by rw [List.length_map]; exact log_small lw, numS ws.length, by rw [List.length_map]; rfl, by rw [len_app, len_app, len_app]; omega, ?_⟩⟩
    exact ⟨_, rfl, by rw [len_app, len_app, len_app, len_app]; omega, q⟩
end
end K1
namespace K1
open PySem L2 Kd Evl Ks
def spDice (K : PySem.W.Frag) : Sp := fun vs H Q _ => ∃ (a : Addr) (ns : List Int) (k : Int), vs = [.ref a, .int k] ∧ SqL K H a (ns.map V.int) ∧ 0 ≤ k ∧ ∀ p, H p = none → Q (.ref p) (upd H p (diceO p))
def spRoll : Sp := fun vs H Q _ => ∃ (a : Addr) (n : Int), vs = [.ref a, .int n] ∧ H a = some (diceO a) ∧ 0 < n ∧ n < 2 ^ 30 ∧ ∀ i : Int, 0 ≤ i → i < n → Q (.int i) H
theorem small_mul {i j : Int} (h0 : 0 ≤ i) (h1 : i < 2 ^ 64) : (-(2 ^ 64) < i ∧ i < 2 ^ 64) ∨ (-(2 ^ 64) < j ∧ j < 2 ^ 64) := .inl ⟨by omega, h1⟩
theorem divW {i n : Int} (h0 : 0 < n) (h1 : n < 2 ^ 30) : CDivW i n := wide_div (b := 30) h0 (by omega) (by decide) (by decide)
section
variable {P : Program} {w : World} {K : PySem.W.Frag} {mg : Str → Option Value} {base : Heap} {AA : Ads}
theorem ok_law_roll (T : Txt K mg AA) : FnOk P w K mg base CX0 1 AA.a_law_roll AA.d_law_roll ["_law_dice_here", "_law_total"] spRoll := by
  refine T.F_law_roll.ok sc_law_roll (fun vs H Q E h => ?_) (fun cdv A outer s H vs Q E hr h => ?_)
  · obtain ⟨a, n, rfl, _⟩ := h
    rfl
  · obtain ⟨a, n, rfl, ha, h0, h1, k⟩ := h
    refine ⟨_, (pss_cons (ps_if (pt_cmpR op_gt (pe_ix ix_dice (pv 0) pe_int (fun _ _ => rfl)) pe_int (nomark _)) (pss_cons (ps_set (i := 4) sc_law_roll.nd rfl (Or.inl rfl) (pe_op op_mod (pe_callTy call_int1 (by rfl) T.n_int (by decide +kernel) (pa_cons (pe_ix ix_dice (pv 0) pe_int (fun _ _ => rfl)) pa_nil)) (pv 1)))
    (pss_cons (ps_asg (pe_op op_fdivW (pe_ix ix_dice (pv 0) pe_int (fun _ _ => rfl)) (pv 1)) (pg_sub (pv 0) pe_int set_dice))
    (pss_one (ps_ret (pv 4))))) pss_nil)
    (pss_cons (ps_asg (pe_op op_add (pe_ix ix_dice (pv 0) pe_int (fun _ _ => rfl)) pe_int) (pg_sub (pv 0) pe_int set_dice))
    (pss_cons (ps_set (i := 2) sc_law_roll.nd rfl (Or.inl rfl) (pe_op op_mod (pe_callTy call_int1 (by rfl) T.n_int (by decide +kernel) (pa_cons (pe_op op_add (pe_ix ix_dice (pv 0) pe_int (fun _ _ => rfl)) (pe_op op_mul pe_int (pe_ix ix_dice (pv 0) pe_int (fun _ _ => rfl)))) pa_nil)) pe_int))
    (pss_cons (ps_set (i := 3) sc_law_roll.nd rfl (Or.inl rfl) (pe_op op_add (pe_op op_mul (pe_op op_mod (pe_callTy call_int1 (by rfl) T.n_int (by decide +kernel) (pa_cons (pe_op op_mul (pv 2) (pv 2)) pa_nil)) pe_int) (pv 2)) (pe_op op_mul pe_int (pe_ix ix_dice (pv 0) pe_int (fun _ _ => rfl)))))
    (pss_cons (ps_set (i := 3) sc_law_roll.nd rfl (Or.inl rfl) (pe_op op_mod (pe_callTy call_int1 (by rfl) T.n_int (by decide +kernel) (pa_cons (pv 3) pa_nil)) pe_int))
    (pss_one (ps_ret (pe_op op_mod (pe_callTy call_int1 (by rfl) T.n_int (by decide +kernel) (pa_cons (pe_op op_fdivW (pv 3) pe_int) pa_nil)) (pv 1))))))))), ?_⟩
    refine ⟨_, rfl, a, 0, rfl, rfl, ha, .inl rfl, fun x0 => ⟨_, _, rfl, rfl, _, rfl, ?_⟩⟩
    by_cases c : 0 < x0
    · refine if_t (decide_eq_true c) ?_
      refine ⟨_, rfl, a, 0, rfl, rfl, ha, .inl rfl, fun x1 => .inl ⟨_, rfl, _, rfl, _, _, rfl, rfl, h0, ?_⟩⟩
      refine ⟨_, rfl, a, 0, rfl, rfl, ha, .inl rfl, fun x2 => ⟨_, rfl, _, _, rfl, rfl, divW h0 h1, _, rfl, a, 0, _, rfl, rfl, rfl, ha, .inl rfl, ?_⟩⟩
      exact ⟨_, rfl, k _ (Int.emod_nonneg _ (by omega)) (Int.emod_lt_of_pos _ h0)⟩
    · refine if_f (decide_eq_false c) ?_
      refine ⟨_, rfl, a, 2, rfl, rfl, ha, .inr (.inr rfl), fun x1 => ⟨_, _, rfl, rfl, _, rfl, a, 2, _, rfl, rfl, rfl, ha, .inr (.inr rfl), ?_⟩⟩
      refine ⟨_, rfl, a, 1, rfl, rfl, ha, .inr (.inl rfl), fun x2 => ⟨_, rfl, a, 2, rfl, rfl, ha, .inr (.inr rfl), fun x3 => ⟨_, _, rfl, rfl, .inl (by decide), _, _, rfl, rfl, .inl ⟨_, rfl, _, _, rfl, rfl, (by dsimp only; omega), ?_⟩⟩⟩⟩
      have y0 : 0 ≤ (x2 + 1000193 * x3) % 2305843009213693951 := Int.emod_nonneg _ (by decide)
      have y1 : (x2 + 1000193 * x3) % 2305843009213693951 < 2305843009213693951 := Int.emod_lt_of_pos _ (by decide)
      refine ⟨_, rfl, _, rfl, _, _, rfl, rfl, small_mul y0 (by omega), .inl ⟨_, rfl, _, _, rfl, rfl, (by dsimp only; omega), _, rfl, _, _, rfl, rfl, ?_, _, rfl, a, 2, rfl, rfl, ha, .inr (.inr rfl), fun x4 => ⟨_, _, rfl, rfl, .inl (by decide), _, _, rfl, rfl, ?_⟩⟩⟩
      · exact .inr ⟨by omega, by omega⟩
      refine ⟨_, rfl, .inl ⟨_, rfl, _, _, rfl, rfl, (by dsimp only; omega), ?_⟩⟩
      refine ⟨_, rfl, _, _, rfl, rfl, divW (by decide) (by decide), .inl ⟨_, rfl, _, rfl, _, _, rfl, rfl, h0, k _ (Int.emod_nonneg _ (by omega)) (Int.emod_lt_of_pos _ h0)⟩⟩
theorem ok_law_dice (T : Txt K mg AA) : FnOk P w K mg base CX0 1 AA.a_law_dice AA.d_law_dice ["_law_script", "_law_at"] (spDice K) := by
  refine T.F_law_dice.ok sc_law_dice (fun vs H Q E h => ?_) (fun cdv A outer s H vs Q E hr h => ?_)
  · obtain ⟨a, ns, k, rfl, _⟩ := h
    rfl
  · obtain ⟨a, ns, k, rfl, ha, h0, q⟩ := h
    refine ⟨_, (pss_cons (ps_set (i := 2) sc_law_dice.nd rfl (Or.inl rfl) (pe_op op_add (pe_op op_mul pe_int (pv 1)) pe_int))
    (pss_cons (ps_if (pt_cmpR op_lt (pv 1) (pe_callB call_len_seq (by rfl) T.n_len (by decide +kernel) (pa_cons (pv 0) pa_nil)) (nomark _)) (pss_one (ps_set (i := 2) sc_law_dice.nd rfl (Or.inl rfl) (pe_ix ix_list (pv 0) (pv 1) (fun _ _ => rfl)))) pss_nil)
    (pss_cons (ps_set (i := 3) sc_law_dice.nd rfl (Or.inl rfl) (pe_op op_mod (pe_callTy call_int1 (by rfl) T.n_int (by decide +kernel) (pa_cons (pe_callB call_abs (by rfl) T.n_abs (by decide +kernel) (pa_cons (pv 2) pa_nil)) pa_nil)) (pe_op op_powW (pe_op op_pow pe_int pe_int) pe_int)))
    (pss_cons (ps_set (i := 4) sc_law_dice.nd rfl (Or.inl rfl) (pe_op op_add (pe_op op_add (pe_op op_add (pe_op op_mul (pe_op op_mod (pe_callTy call_int1 (by rfl) T.n_int (by decide +kernel) (pa_cons (pv 3) pa_nil)) pe_int) pe_int) (pe_op op_mul pe_int (pv 1))) (pe_op op_mul pe_int (pe_callTy call_int1 (by rfl) T.n_int (by decide +kernel) (pa_cons (pe_cmpR op_lt (pv 2) pe_int (nomark _)) pa_nil)))) pe_int))
    (pss_one (ps_ret (pe_shut (pe_lst (pa_cons (pe_callB (call_max2 rfl) (by rfl) T.n_max (by decide +kernel) (pa_cons pe_int (pa_cons (pe_op op_sub (pv 3) (pe_op op_pow pe_int pe_int)) pa_nil))) (pa_cons (pe_op op_mod (pe_callTy call_int1 (by rfl) T.n_int (by decide +kernel) (pa_cons (pv 4) pa_nil)) pe_int) (pa_cons pe_int pa_nil))))))))))), ?_⟩
    refine ⟨_, rfl, _, _, rfl, rfl, .inl (by decide), _, _, rfl, rfl, ?_⟩
    refine ⟨_, rfl, _, rfl, a, _, rfl, .inl ha, _, _, rfl, rfl, _, rfl, ?_⟩
    have hlow : ∀ x : Int, 0 ≤ x % 2147483549 ∧ x % 2147483549 < 2147483549 := fun x => ⟨Int.emod_nonneg _ (by decide), Int.emod_lt_of_pos _ (by decide)⟩
    have hpow : CPowW ((10 : Int) ^ (60 : Int).toNat) 10 := ⟨by decide, by decide +kernel⟩
    have hpos : (0 : Int) < ((10 : Int) ^ (60 : Int).toNat) ^ (10 : Int).toNat := by decide +kernel
    by_cases c : k < ((ns.map V.int).length : Int)
    · refine if_t (decide_eq_true c) ?_
      rw [List.length_map] at c
      obtain ⟨j, ej⟩ : ∃ j : Nat, k = (j : Int) := ⟨k.toNat, by omega⟩
      obtain ⟨x, hx⟩ : ∃ x, ns[j]? = some x := ⟨ns[j]'(by omega), List.getElem?_eq_getElem _⟩
      refine ⟨_, rfl, _, rfl, a, _, _, _, rfl, rfl, ha, at_of (j := j) (v := V.int x) ej (by rw [List.getElem?_map, hx]; rfl), ?_⟩
      refine ⟨_, rfl, _, rfl, .inl ⟨_, rfl, _, _, rfl, rfl, ⟨by decide, by decide, by decide⟩, _, _, rfl, rfl, hpow, _, _, rfl, rfl, hpos, ?_⟩⟩
      refine ⟨_, rfl, .inl ⟨_, rfl, _, _, rfl, rfl, (by dsimp only; omega), _, _, rfl, rfl, .inr (by decide), _, rfl, _, _, rfl, rfl, .inl (by decide), _, _, rfl, rfl, _, rfl, _, _, rfl, rfl, .inr ⟨_, rfl, _, _, rfl, rfl, .inl (by decide), _, _, rfl, rfl, _, _, rfl, rfl, ?_⟩⟩⟩
      refine ⟨_, rfl, _, _, rfl, rfl, ⟨by decide, by decide, by decide⟩, _, _, rfl, rfl, _, _, rfl, _, rfl, .inl ⟨_, rfl, _, _, rfl, rfl, (by dsimp only; omega), (by show 3 ≤ sizeLine; decide), fun p hp => ⟨p, _, _, _, rfl, upd_same, ?_⟩⟩⟩
      rw [upd_upd]
      exact q p hp
    · refine if_f (decide_eq_false c) ?_
      refine ⟨_, rfl, _, rfl, .inl ⟨_, rfl, _, _, rfl, rfl, ⟨by decide, by decide, by decide⟩, _, _, rfl, rfl, hpow, _, _, rfl, rfl, hpos, ?_⟩⟩
      refine ⟨_, rfl, .inl ⟨_, rfl, _, _, rfl, rfl, (by dsimp only; omega), _, _, rfl, rfl, .inr (by decide), _, rfl, _, _, rfl, rfl, .inl (by decide), _, _, rfl, rfl, _, rfl, _, _, rfl, rfl, .inr ⟨_, rfl, _, _, rfl, rfl, .inl (by decide), _, _, rfl, rfl, _, _, rfl, rfl, ?_⟩⟩⟩
      refine ⟨_, rfl, _, _, rfl, rfl, ⟨by decide, by decide, by decide⟩, _, _, rfl, rfl, _, _, rfl, _, rfl, .inl ⟨_, rfl, _, _, rfl, rfl, (by dsimp only; omega), (by show 3 ≤ sizeLine; decide), fun p hp => ⟨p, _, _, _, rfl, upd_same, ?_⟩⟩⟩
      rw [upd_upd]
      exact q p hp
end
end K1
namespace K1
open PySem L2 Kd Evl Ks
def spOneOf (K : PySem.W.Frag) : Sp := fun vs H Q _ => ∃ (a l : Addr) (xs : List V), vs = [.ref a, .ref l] ∧ H a = some (diceO a) ∧ SqL K H l xs ∧ 0 < xs.length ∧ xs.length ≤ 1000 ∧ ∀ v, v ∈ xs → Q v H
def spMixed (K : PySem.W.Frag) : Sp := fun vs H Q _ => ∃ (a l : Addr) (xs : List V), vs = [.ref a, .ref l] ∧ H a = some (diceO a) ∧ (SqL K H l xs ∨ SqT K H l xs) ∧ xs.length ≤ 1000 ∧ ∀ ys p H', ys.Perm xs → Ex H H' → H' p = some (.lst ys) → Q (.ref p) H'
theorem ixAt {k : Nat} {n : Nat} (h : k < n) (hn : n ≤ 1000) : seqIndex? (k : Int) n = some k := seqIndex_of (by omega) (by omega)
theorem erase_perm {α : Type} : ∀ (l : List α) (i : Nat) (h : i < l.length), (l[i] :: l.eraseIdx i).Perm l
  | x :: l, 0, _ => List.Perm.refl _
  | x :: l, i + 1, h => by
    have h' : i < l.length := Nat.lt_of_succ_lt_succ h
    show (l[i] :: x :: l.eraseIdx i).Perm (x :: l)
    exact (List.Perm.swap _ _ _).trans ((erase_perm l i h').cons x)
section
variable {P : Program} {w : World} {K : PySem.W.Frag} {mg : Str → Option Value} {base : Heap} {AA : Ads}
theorem ok_law_one_of (T : Txt K mg AA) : FnOk P w K mg base CX0 2 AA.a_law_one_of AA.d_law_one_of ["_law_dice_here", "_law_items"] (spOneOf K) := by
  have G_law_roll : FnOk P w K mg base CX0 1 AA.a_law_roll AA.d_law_roll ["_law_dice_here", "_law_total"] spRoll := ok_law_roll T
  refine T.F_law_one_of.ok sc_law_one_of (fun vs H Q E h => ?_) (fun cdv A outer s H vs Q E hr h => ?_)
  · obtain ⟨a, l, xs, rfl, _⟩ := h
    rfl
  · obtain ⟨a, l, xs, rfl, ha, hl, h0, h1, q⟩ := h
    refine ⟨_, (pss_one (ps_ret (pe_ix ix_list (pv 1) (pe_call G_law_roll (hr.mono (by decide)) (by rfl) T.g_law_roll T.k_law_roll T.b_law_roll .nil pass0 (pa_cons (pv 0) (pa_cons (pe_callB call_len_seq (by rfl) T.n_len (by decide +kernel) (pa_cons (pv 1) pa_nil)) pa_nil))) (fun _ _ => rfl)))), ?_⟩
    refine ⟨_, rfl, _, rfl, _, rfl, l, xs, rfl, .inl hl, a, _, rfl, ha, by omega, by omega, fun i i0 i1 => ?_⟩
    obtain ⟨j, ej⟩ : ∃ j : Nat, i = (j : Int) := ⟨i.toNat, by omega⟩
    have hj : j < xs.length := by omega
    exact ⟨l, xs, i, xs[j], rfl, rfl, hl, at_of ej (List.getElem?_eq_getElem hj), q _ (List.getElem_mem hj)⟩
theorem ok_law_mixed (T : Txt K mg AA) : FnOk P w K mg base CX0 2 AA.a_law_mixed AA.d_law_mixed ["_law_dice_here", "_law_items"] (spMixed K) := by
  have G_law_roll : FnOk P w K mg base CX0 1 AA.a_law_roll AA.d_law_roll ["_law_dice_here", "_law_total"] spRoll := ok_law_roll T
  refine T.F_law_mixed.ok sc_law_mixed (fun vs H Q E h => ?_) (fun cdv A outer s H vs Q E hr h => ?_)
  · obtain ⟨a, l, xs, rfl, _⟩ := h
    rfl
  · obtain ⟨a, l, xs, rfl, ha, hl, h1, q⟩ := h
    refine ⟨_, (pss_cons (ps_set (i := 2) sc_law_mixed.nd rfl (Or.inr rfl) (pe_callTy call_list_of (by rfl) T.n_list (by decide +kernel) (pa_cons (pv 1) pa_nil)))
    (pss_one (ps_ret (pe_lc (own := [("_law_turn", 3)]) (g := gName 3) rfl sc_law_mixed.nd (pi_range1 rfl T.n_range (pa_cons (pe_callB call_len_seq (by rfl) T.n_len (by decide +kernel) (pa_cons (pv 1) pa_nil)) pa_nil)) (blkOk_by (N := N_law_mixed) (sc := defScope s_law_mixed) (by decide +kernel)) (fun _ _ _ _ _ => (pg_name (i := 3) sc_law_mixed.nd rfl (Or.inl rfl))) (fun _ _ _ _ _ => pts_nil) (fun _ _ _ _ _ => by exact (Kv.pe_bm (K := K) (r := rPopAt) rfl PySem.F.plainAttrs_list PySem.F.slot_list_pop PySem.F.type_list_pop mt_popAt (pv 2) (pa_cons (pe_call G_law_roll (hr.mono (by decide)) (by rfl) T.g_law_roll T.k_law_roll T.b_law_roll .nil pass0 (pa_cons (pv 0) (pa_cons (pe_callB (Kv.call_len (K := K) rfl) (by rfl) T.n_len (by decide +kernel) (pa_cons (pv 2) pa_nil)) pa_nil))) pa_nil))))))), ?_⟩
    refine ⟨_, rfl, l, xs, rfl, hl, fun p hp => ?_⟩
    have x1 : Ex H (upd H p (.lst xs)) := Ex.new hp
    have hl1 : SqL K (upd H p (.lst xs)) l xs ∨ SqT K (upd H p (.lst xs)) l xs := hl.imp (ex_l x1) (ex_t x1)
    refine ⟨_, rfl, l, xs, rfl, hl1, _, rfl, by omega, by omega, fun D hD => ?_⟩
    have nDp : D ≠ p := (ne_of_none upd_same hD).symm
    refine lc_range (fun i H2 => ∃ acc left, H2 D = some (.lst acc) ∧ H2 p = some (.lst left) ∧ (acc ++ left).Perm xs ∧ acc.length = i ∧ Ex H H2) ⟨[], xs, upd_same, by rw [upd_ne nDp.symm]; exact upd_same, List.Perm.refl _, rfl, Ex.mut x1 (fresh_back x1 hD)⟩ ?_ ?_
    · rintro i H2 hi ⟨acc, left, hDa, hpl, perm, hacc, ex⟩
      have hln := perm.length_eq
      rw [List.length_append] at hln
      have hleft : 0 < left.length := by omega
      refine ⟨rfl, ?_⟩
      show tBM K "list" rPopAt (tVar 2) (tCons (tCall spRoll [] E0 (tCons (tVar 0) (tCons (tCB (Kv.rLen K) (tCons (tVar 2) tNil)) tNil))) tNil) _ H2 _
      refine ⟨_, rfl, .inl ⟨rfl, _, SqL.of hpl⟩, _, rfl, _, rfl, p, left, rfl, .inl (SqL.of hpl), a, _, rfl, ex _ _ ha, by omega, by omega, fun r r0 r1 => ?_⟩
      obtain ⟨j, ej⟩ : ∃ j : Nat, r = (j : Int) := ⟨r.toNat, by omega⟩
      have hj : j < left.length := by omega
      subst ej
      refine ⟨p, left, _, j, left[j], rfl, rfl, hpl, by omega, by omega, ixAt hj (by omega), List.getElem?_eq_getElem hj, acc, by rw [upd_ne nDp]; exact hDa, len_lt (by omega), acc ++ [left[j]], left.eraseIdx j, upd_same, ?_, ?_, ?_, ?_⟩
      · rw [upd_ne nDp.symm, upd_same]
      · rw [List.append_assoc]
        exact ((List.Perm.append_left acc (erase_perm left j hj)).trans perm)
      · rw [List.length_append, hacc]
        rfl
      · exact Ex.mut (Ex.mut ex hp) (fresh_back x1 hD)
    · rintro H2 ⟨acc, left, hDa, hpl, perm, hacc, ex⟩
      have hln := perm.length_eq
      rw [List.length_append] at hln
      have e : left = [] := List.length_eq_zero_iff.mp (by omega)
      subst e
      rw [List.append_nil] at perm
      exact q acc D H2 perm ex hDa
def four : List Str := ["a", "m", "q", "z"]
theorem four_ok : ∀ z ∈ four, z.cps.toList.length = 1 ∧ ∀ c ∈ z.cps.toList, c < 0x110000 := by decide +kernel
theorem join_ok : ∀ (zs : List Str), (∀ z ∈ zs, z ∈ four) → (TL.joinL [] (zs.map fun z => z.cps.toList)).length = zs.length ∧ ∀ c ∈ TL.joinL [] (zs.map fun z => z.cps.toList), c < 0x110000
  | [], _ => ⟨rfl, fun _ h => nomatch h⟩
  | [z], h => ⟨(four_ok z (h z List.mem_cons_self)).1, (four_ok z (h z List.mem_cons_self)).2⟩
  | z :: y :: r, h => by
    obtain ⟨h1, h2⟩ := join_ok (y :: r) fun x hx => h x (List.mem_cons_of_mem _ hx)
    obtain ⟨h3, h4⟩ := four_ok z (h z List.mem_cons_self)
    have e : TL.joinL [] ((z :: y :: r).map fun z => z.cps.toList) = z.cps.toList ++ TL.joinL [] ((y :: r).map fun z => z.cps.toList) := rfl
    rw [e]
    refine ⟨?_, fun c hc => ?_⟩
    · rw [List.length_append, h1, h3]
      simp only [List.length_cons]
      omega
    · rcases List.mem_append.mp hc with hc | hc
      · exact h4 c hc
      · exact h2 c hc
theorem join_str (zs : List Str) (h : ∀ z ∈ zs, z ∈ four) : (Txt.join "" zs).length = zs.length ∧ PyData.strOk (Txt.join "" zs) = true := by
  obtain ⟨h1, h2⟩ := join_ok zs h
  have e : (Txt.join "" zs).cps.toList = TL.joinL [] (zs.map fun z => z.cps.toList) := by
    rw [TL.join_eq]
    exact TL.tl_join "" zs
  refine ⟨?_, ?_⟩
  · show (Txt.join "" zs).cps.size = _
    rw [← Array.length_toList, e, h1]
  · unfold PyData.strOk
    rw [Array.all_eq_true']
    intro c hc
    refine decide_eq_true (h2 c ?_)
    rw [← e]
    simpa using hc
/-- what _law_word may hand back -/
def oddWords : List PyData := [.str "", .str "A", .str "a b", .str "ninelette", .str "a1", .str "\n", .none, .int 0, .bool true, .tuple [.str "a"], .list [.str "a"], .str "a_", .str "zzzzzzzzz"]
def WordOk (d : PyData) : Prop := d ∈ oddWords ∨ ∃ z : Str, d = .str z ∧ z.length ≤ 8 ∧ PyData.strOk z = true
def spWord (K : PySem.W.Frag) : Sp := fun vs H Q _ => ∃ (a : Addr), vs = [.ref a] ∧ H a = some (diceO a) ∧ ∀ v d H', Ex H H' → Dp K H' v d → WordOk d → (∀ l, v = .ref l → H l = none) → Q v H'
theorem ok_law_word (T : Txt K mg AA) : FnOk P w K mg base CX0 3 AA.a_law_word AA.d_law_word ["_law_dice_here"] (spWord K) := by
  have G_law_roll : FnOk P w K mg base CX0 1 AA.a_law_roll AA.d_law_roll ["_law_dice_here", "_law_total"] spRoll := ok_law_roll T
  have G_law_one_of : FnOk P w K mg base CX0 2 AA.a_law_one_of AA.d_law_one_of ["_law_dice_here", "_law_items"] (spOneOf K) := ok_law_one_of T
  refine T.F_law_word.ok sc_law_word (fun vs H Q E h => ?_) (fun cdv A outer s H vs Q E hr h => ?_)
  · obtain ⟨a, rfl, _⟩ := h
    rfl
  · obtain ⟨a, rfl, ha, q⟩ := h
    have hu : _ + 64 < cLine := hu64 hr
    refine ⟨_, (pss_cons (ps_set (i := 1) sc_law_word.nd rfl (Or.inl rfl) (pe_call G_law_roll (hr.mono (by decide)) (by rfl) T.g_law_roll T.k_law_roll T.b_law_roll .nil pass0 (pa_cons (pv 0) (pa_cons pe_int pa_nil))))
    (pss_cons (ps_if (pt_cmpR op_eq (pv 1) pe_int (nomark _)) (pss_cons (ps_set (i := 3) sc_law_word.nd rfl (Or.inl rfl) (pe_lst (pa_cons pe_str (pa_cons pe_str (pa_cons pe_str (pa_cons pe_str (pa_cons pe_str (pa_cons pe_str (pa_cons pe_non (pa_cons pe_int (pa_cons pe_bl (pa_cons (pe_tup (pa_cons pe_str pa_nil)) (pa_cons (pe_lst (pa_cons pe_str pa_nil)) (pa_cons pe_str (pa_cons pe_str pa_nil)))))))))))))))
    (pss_one (ps_ret (pe_call G_law_one_of (hr.mono (by decide)) (by rfl) T.g_law_one_of T.k_law_one_of T.b_law_one_of .nil pass0 (pa_cons (pv 0) (pa_cons (pv 3) pa_nil)))))) pss_nil)
    (pss_cons (ps_set (i := 2) sc_law_word.nd rfl (Or.inl rfl) (pe_lst (pa_cons pe_str (pa_cons pe_str (pa_cons pe_str (pa_cons pe_str (pa_cons pe_str (pa_cons pe_str (pa_cons pe_str (pa_cons pe_str (pa_cons pe_str (pa_cons pe_str (pa_cons pe_str (pa_cons pe_str pa_nil))))))))))))))
    (pss_cons (ps_if (pt_cmpR op_lt (pv 1) pe_int (nomark _)) (pss_one (ps_ret (pe_call G_law_one_of (hr.mono (by decide)) (by rfl) T.g_law_one_of T.k_law_one_of T.b_law_one_of .nil pass0 (pa_cons (pv 0) (pa_cons (pv 2) pa_nil))))) pss_nil)
    (pss_one (ps_ret (pe_bm PySem.F.plainAttrs_str PySem.F.slot_str_join PySem.F.type_str_join mt_join pe_str (pa_cons (pe_lc (own := [("_law_turn", 4)]) (g := gName 4) rfl sc_law_word.nd (pi_range1 rfl T.n_range (pa_cons (pe_op op_add pe_int (pe_call G_law_roll (hr.mono (by decide)) (by rfl) T.g_law_roll T.k_law_roll T.b_law_roll .nil pass0 (pa_cons (pv 0) (pa_cons pe_int pa_nil)))) pa_nil)) (blkOk_by (N := N_law_word) (sc := defScope s_law_word) (by decide +kernel)) (fun _ _ _ _ _ => (pg_name (i := 4) sc_law_word.nd rfl (Or.inl rfl))) (fun _ _ _ _ _ => pts_nil) (fun _ _ _ _ _ => by exact (pe_call G_law_one_of (hr.mono (by decide)) (by rfl) T.g_law_one_of T.k_law_one_of T.b_law_one_of .nil pass0 (pa_cons (pv 0) (pa_cons (pe_lst (pa_cons pe_str (pa_cons pe_str (pa_cons pe_str (pa_cons pe_str pa_nil))))) pa_nil))))) pa_nil)))))))), ?_⟩
    refine ⟨_, rfl, a, 12, rfl, ha, by decide, by decide, fun i i0 i1 => ?_⟩
    refine ⟨_, rfl, rfl, _, rfl, ?_⟩
    by_cases c0 : i = 0
    · subst c0
      refine if_t (by decide) ?_
      refine ⟨(by show 1 ≤ sizeLine; decide), fun t ht => ⟨(by show 1 ≤ sizeLine; decide), fun l hl => ⟨(by show 13 ≤ sizeLine; decide), fun L hL => ?_⟩⟩⟩
      have e1 : Ex H (upd H t (.tup [.str "a"])) := Ex.new ht
      have e2 : Ex (upd H t (.tup [.str "a"])) (upd (upd H t (.tup [.str "a"])) l (.lst [.str "a"])) := Ex.new hl
      generalize hH3 : upd (upd (upd H t (.tup [.str "a"])) l (.lst [.str "a"])) L _ = H3
      have e3 : Ex (upd (upd H t (.tup [.str "a"])) l (.lst [.str "a"])) H3 := by rw [← hH3]; exact Ex.new hL
      have ex : Ex H H3 := (e1.trans e2).trans e3
      have hLs : H3 L = some (.lst [.str "", .str "A", .str "a b", .str "ninelette", .str "a1", .str "\n", .non, .int 0, .bl true, .ref t, .ref l, .str "a_", .str "zzzzzzzzz"]) := by rw [← hH3]; exact upd_same
      have hts : H3 t = some (.tup [.str "a"]) := e3 _ _ (e2 _ _ upd_same)
      have hls : H3 l = some (.lst [.str "a"]) := e3 _ _ upd_same
      refine ⟨_, rfl, _, rfl, a, L, _, rfl, ex _ _ ha, SqL.of hLs, (by show 0 < 13; decide), (by show 13 ≤ 1000; decide), fun v hv => ?_⟩
      simp only [List.mem_cons, List.not_mem_nil, or_false] at hv
      rcases hv with rfl | rfl | rfl | rfl | rfl | rfl | rfl | rfl | rfl | rfl | rfl | rfl | rfl
      · exact q _ _ _ ex (.str _) (.inl (by simp [oddWords])) (fun _ z => by cases z)
      · exact q _ _ _ ex (.str _) (.inl (by simp [oddWords])) (fun _ z => by cases z)
      · exact q _ _ _ ex (.str _) (.inl (by simp [oddWords])) (fun _ z => by cases z)
      · exact q _ _ _ ex (.str _) (.inl (by simp [oddWords])) (fun _ z => by cases z)
      · exact q _ _ _ ex (.str _) (.inl (by simp [oddWords])) (fun _ z => by cases z)
      · exact q _ _ _ ex (.str _) (.inl (by simp [oddWords])) (fun _ z => by cases z)
      · exact q _ _ _ ex .non (.inl (by simp [oddWords])) (fun _ z => by cases z)
      · exact q _ _ _ ex (.int _) (.inl (by simp [oddWords])) (fun _ z => by cases z)
      · exact q _ _ _ ex (.bl _) (.inl (by simp [oddWords])) (fun _ z => by cases z)
      · exact q _ _ _ ex (.tup (SqT.of hts) (dpAll_strs ["a"])) (.inl (by simp [oddWords])) (fun l' z => by cases z; exact ht)
      · exact q _ _ _ ex (.lst (SqL.of hls) (dpAll_strs ["a"])) (.inl (by simp [oddWords])) (fun l' z => by cases z; exact fresh_back e1 hl)
      · exact q _ _ _ ex (.str _) (.inl (by simp [oddWords])) (fun _ z => by cases z)
      · exact q _ _ _ ex (.str _) (.inl (by simp [oddWords])) (fun _ z => by cases z)
    · refine if_f (decide_eq_false (fun z => c0 (V.int.inj z))) ?_
      refine ⟨(by show 12 ≤ sizeLine; decide), fun L hL => ?_⟩
      generalize hH1 : upd H L _ = H1
      have ex : Ex H H1 := by rw [← hH1]; exact Ex.new hL
      have hLs : H1 L = some (.lst (([("a" : Str), "ab", "abc", "b", "item", "shop", "zzzzzzzz", "itemitem", "z", "is", "none", "not"]).map V.str)) := by rw [← hH1]; exact upd_same
      refine ⟨_, rfl, _, _, rfl, rfl, _, rfl, ?_⟩
      by_cases c1 : i < 9
      · refine if_t (decide_eq_true c1) ?_
        refine ⟨_, rfl, _, rfl, a, L, _, rfl, ex _ _ ha, SqL.of hLs, (by show 0 < 12; decide), (by show 12 ≤ 1000; decide), fun v hv => ?_⟩
        obtain ⟨z, hz, rfl⟩ := List.mem_map.mp hv
        have hall : ∀ z ∈ ([("a" : Str), "ab", "abc", "b", "item", "shop", "zzzzzzzz", "itemitem", "z", "is", "none", "not"]), z.length ≤ 8 ∧ PyData.strOk z = true := by decide +kernel
        exact q _ _ _ ex (.str z) (.inr ⟨z, rfl, hall z hz⟩) (fun _ z => by cases z)
      · refine if_f (decide_eq_false c1) ?_
        refine ⟨rfl, _, rfl, a, 8, rfl, ex _ _ ha, by decide, by decide, fun r r0 r1 => ⟨_, _, rfl, rfl, _, rfl, by omega, by omega, fun D hD => ?_⟩⟩
        refine lc_range (fun k H2 => ∃ zs : List Str, H2 D = some (.lst (zs.map V.str)) ∧ zs.length = k ∧ (∀ z ∈ zs, z ∈ four) ∧ Ex H1 H2) ⟨[], upd_same, rfl, (fun _ h => nomatch h), Ex.mut (Ex.refl _) hD⟩ ?_ ?_
        · rintro k H2 hk ⟨zs, h1, h2, h3, e2⟩
          refine ⟨rfl, ?_⟩
          show tCall (spOneOf K) [] E0 (tCons (tVar 0) (tCons (tLst (tCons (tC (V.str "a")) (tCons (tC (V.str "m")) (tCons (tC (V.str "q")) (tCons (tC (V.str "z")) tNil))))) tNil)) _ H2 _
          refine ⟨_, rfl, (by show 4 ≤ sizeLine; decide), fun L2 hL2 => ⟨a, L2, _, rfl, Ex.new hL2 _ _ (e2 _ _ (ex _ _ ha)), SqL.of upd_same, (by show 0 < 4; decide), (by show 4 ≤ 1000; decide), fun v hv => ?_⟩⟩
          obtain ⟨z, hz, rfl⟩ : ∃ z ∈ four, v = .str z := by
            simp only [List.mem_cons, List.not_mem_nil, or_false] at hv
            rcases hv with rfl | rfl | rfl | rfl
            · exact ⟨_, by simp [four], rfl⟩
            · exact ⟨_, by simp [four], rfl⟩
            · exact ⟨_, by simp [four], rfl⟩
            · exact ⟨_, by simp [four], rfl⟩
          refine ⟨zs.map V.str, Ex.new hL2 _ _ h1, len_lt (by rw [List.length_map]; omega), zs ++ [z], by rw [upd_same, List.map_append]; rfl, by rw [List.length_append, h2]; rfl, fun y hy => ?_, Ex.mut (e2.trans (Ex.new hL2)) hD⟩
          rcases List.mem_append.mp hy with hy | hy
          · exact h3 y hy
          · rw [List.mem_singleton.mp hy]; exact hz
        · rintro H2 ⟨zs, h1, h2, h3, e2⟩
          obtain ⟨j1, j2⟩ := join_str zs h3
          have hall : (zs.map fun z => z.length) = zs.map fun _ => 1 := List.map_congr_left fun z hz => by
            have e := (four_ok z (h3 z hz)).1
            rw [Array.length_toList] at e
            exact e
          refine ⟨"", D, zs, rfl, rfl, .inl (SqL.of h1), ?_, q _ _ _ (ex.trans e2) (.str _) (.inr ⟨_, rfl, by rw [j1]; omega, j2⟩) (fun _ z => by cases z)⟩
          rw [hall]
          have es : (zs.map fun _ => 1).sum = zs.length := by
            clear hall h1 h2 h3 j1 j2
            induction zs with
            | nil => rfl
            | cons z r ih => rw [List.map_cons, List.sum_cons, ih, List.length_cons]; omega
          rw [es]
          have e0 : ("" : Str).length = 0 := by decide +kernel
          rw [e0]
          omega
end
end K1
namespace K1
open PySem L2 Kd Evl Ks
/-- what is asked of the words ahead of repr -/
theorem word_show {d : PyData} (h : WordOk d) : d.showable = true ∧ d.depth ≤ 40 ∧ d.shown.length ≤ sizeLine := by
  rcases h with h | ⟨z, rfl, hz, hok⟩
  · have all : ∀ d ∈ oddWords, d.showable = true ∧ d.depth ≤ 40 ∧ d.shown.length ≤ sizeLine := by decide +kernel
    exact all d h
  · refine ⟨rfl, by show 0 ≤ 40; decide, ?_⟩
    show (reprText z).length ≤ sizeLine
    have h1 : ∀ c ∈ z.cps.toList, c < 16 ^ 8 := by
      intro c hc
      unfold PyData.strOk at hok
      rw [Array.all_eq_true'] at hok
      have := of_decide_eq_true (hok c (by simpa using hc))
      omega
    have h2 := PySem.StrLaws.reprText_len z h1
    have : (1000 : Nat) ≤ sizeLine := by decide
    omega
theorem word_short {d : PyData} (h : WordOk d) : shortD d := by
  rcases h with h | ⟨z, rfl, hz, hok⟩
  · intro z e
    subst e
    simp only [oddWords, List.mem_cons, List.not_mem_nil, or_false, PyData.str.injEq, reduceCtorEq, false_or] at h
    rcases h with rfl | rfl | rfl | rfl | rfl | rfl | rfl | rfl <;> decide +kernel
  · intro y e
    cases e
    exact ⟨by omega, hok⟩
/-- one that stays while the list at f is changed -/
theorem word_upd {K : PySem.W.Frag} {H : Hp} {v : V} {d : PyData} {f : Addr} {o : HO} (h : WordOk d) (hd : Dp K H v d) (hf : ∀ l, v = .ref l → l ≠ f) : Dp K (upd H f o) v d := by
  have sqL : ∀ {l : Addr} {xs : List V}, l ≠ f → SqL K H l xs → SqL K (upd H f o) l xs := fun {l xs} n q => by
    rcases q with (q | ⟨b, q⟩) | q
    · exact .inl (.inl (by rw [upd_ne n]; exact q))
    · exact .inl (.inr ⟨b, by rw [upd_ne n]; exact q⟩)
    · exact .inr q
  have sqT : ∀ {l : Addr} {xs : List V}, l ≠ f → SqT K H l xs → SqT K (upd H f o) l xs := fun {l xs} n q => by
    rcases q with (q | ⟨b, q⟩) | q
    · exact .inl (.inl (by rw [upd_ne n]; exact q))
    · exact .inl (.inr ⟨b, by rw [upd_ne n]; exact q⟩)
    · exact .inr q
  have flat : ∀ {xs : List V} {zs : List Str}, DpAll K H xs (zs.map PyData.str) → DpAll K (upd H f o) xs (zs.map PyData.str) := fun {xs zs} q => by
    rw [dpAll_vals q]
    exact dpAll_strs zs
  cases hd with
  | non => exact .non
  | bl b => exact .bl b
  | int i => exact .int i
  | str z => exact .str z
  | lst hs ha =>
    refine .lst (sqL (hf _ rfl) hs) ?_
    rcases h with h | ⟨z, e, _⟩
    · simp only [oddWords, List.mem_cons, List.not_mem_nil, or_false, PyData.list.injEq, reduceCtorEq, false_or] at h
      subst h
      exact flat (zs := ["a"]) ha
    · cases e
  | tup hs ha =>
    refine .tup (sqT (hf _ rfl) hs) ?_
    rcases h with h | ⟨z, e, _⟩
    · simp only [oddWords, List.mem_cons, List.not_mem_nil, or_false, PyData.tuple.injEq, reduceCtorEq, false_or] at h
      subst h
      exact flat (zs := ["a"]) ha
    · cases e
theorem dpAll_snoc {K : PySem.W.Frag} {H : Hp} {x : V} {d : PyData} (h : Dp K H x d) : ∀ {xs : List V} {ds : List PyData}, DpAll K H xs ds → DpAll K H (xs ++ [x]) (ds ++ [d])
  | [], _, q => by cases q; exact .cons h .nil
  | y :: xs, _, q => by cases q with | cons h1 h2 => exact .cons h1 (dpAll_snoc h h2)
theorem words_upd {K : PySem.W.Frag} {H : Hp} {f : Addr} {o : HO} : ∀ {xs : List V} {ds : List PyData}, DpAll K H xs ds → (∀ d ∈ ds, WordOk d) → (∀ x ∈ xs, ∀ l, x = .ref l → l ≠ f) → DpAll K (upd H f o) xs ds
  | [], _, q, _, _ => by cases q; exact .nil
  | y :: xs, _, q, hw, hn => by
    cases q with
    | cons h1 h2 => exact .cons (word_upd (hw _ List.mem_cons_self) h1 (hn _ List.mem_cons_self)) (words_upd h2 (fun d h => hw d (List.mem_cons_of_mem _ h)) fun x h => hn x (List.mem_cons_of_mem _ h))
theorem rc_repr {K : PySem.W.Frag} {H : Hp} {x : V} {d : PyData} (h : Dp K H x d) (hw : WordOk d) : RC (rReprD K) [x] H (.str d.shown) := fun H1 e Q q => by
  obtain ⟨a1, a2, a3⟩ := word_show hw
  exact ⟨x, d, rfl, dp_ex e d x h, a1, a2, a3, q H1 (Ex.refl H1)⟩
theorem ones_bad (p : PyData → Bool) : ∀ ds : List PyData, (ones (ds.countP p)).isEmpty = !ds.any p
  | [] => rfl
  | d :: ds => by
    rw [List.countP_cons, List.any_cons]
    cases hd : p d with
    | true => rfl
    | false =>
      show (ones (ds.countP _ + 0)).isEmpty = _
      rw [Nat.add_zero, ones_bad p ds]
      rfl
def spNames (K : PySem.W.Frag) : Sp := fun vs H Q _ => ∃ (a : Addr) (m : Int), vs = [.ref a, .int m] ∧ H a = some (diceO a) ∧ 1 ≤ m ∧ m ≤ 3 ∧ ∀ v d H', Ex H H' → Dv K H' v d → fewD d → shortD d → Q v H'
section
variable {P : Program} {w : World} {K : PySem.W.Frag} {mg : Str → Option Value} {base : Heap} {AA : Ads}
theorem ok_law_names (T : Txt K mg AA) : FnG P w K mg base 4 AA.a_law_names AA.d_law_names ["_law_dice_here", "_law_most"] (spNames K) := by
  have G_law_roll : FnOk P w K mg base CX0 1 AA.a_law_roll AA.d_law_roll ["_law_dice_here", "_law_total"] spRoll := ok_law_roll T
  have G_law_one_of : FnOk P w K mg base CX0 2 AA.a_law_one_of AA.d_law_one_of ["_law_dice_here", "_law_items"] (spOneOf K) := ok_law_one_of T
  have G_law_word : FnOk P w K mg base CX0 3 AA.a_law_word AA.d_law_word ["_law_dice_here"] (spWord K) := ok_law_word T
  refine fnG_of T.F_law_names sc_law_names (fun vs H Q E h => ?_) (fun cdv A outer s H vs Q E hG hr h => ?_)
  · obtain ⟨a, m, rfl, _⟩ := h
    rfl
  · obtain ⟨a, m, rfl, ha, m1, m3, q⟩ := h
    have hu : _ + 64 < cLine := hu64 hr
    refine ⟨_, (pss_cons (ps_set (i := 2) sc_law_names.nd rfl (Or.inl rfl) (pe_call G_law_roll (hr.mono (by decide)) (by rfl) T.g_law_roll T.k_law_roll T.b_law_roll .nil pass0 (pa_cons (pv 0) (pa_cons pe_int pa_nil))))
    (pss_cons (ps_if (pt_cmpR op_eq (pv 2) pe_int (nomark _)) (pss_one (ps_ret (pe_call G_law_one_of (hr.mono (by decide)) (by rfl) T.g_law_one_of T.k_law_one_of T.b_law_one_of .nil pass0 (pa_cons (pv 0) (pa_cons (pe_lst (pa_cons (pe_tup pa_nil) (pa_cons pe_non (pa_cons pe_str (pa_cons (pe_lst (pa_cons pe_str pa_nil)) (pa_cons (pe_disp (pps_cons pe_str pe_int pps_nil) rfl rfl (by intro q; cases q) (by decide)) (pa_cons pe_int (pa_cons (pe_tup (pa_cons pe_non pa_nil)) (pa_cons (pe_tup (pa_cons pe_str (pa_cons pe_str pa_nil))) (pa_cons (pe_tup (pa_cons (pe_tup (pa_cons pe_str pa_nil)) pa_nil)) pa_nil)))))))))) pa_nil))))) pss_nil)
    (pss_cons (ps_set (i := 3) sc_law_names.nd rfl (Or.inl rfl) (pe_lst pa_nil))
    (pss_cons (ps_for PassesOwn.never rfl (pi_range1 rfl T.n_range (pa_cons (pe_op op_add pe_int (pe_call G_law_roll (hr.mono (by decide)) (by rfl) T.g_law_roll T.k_law_roll T.b_law_roll .nil pass0 (pa_cons (pv 0) (pa_cons (pe_op op_add (pv 1) (pe_callTy call_int1 (by rfl) T.n_int (by decide +kernel) (pa_cons (pe_cmpR op_eq (pv 2) pe_int (nomark _)) pa_nil))) pa_nil)))) pa_nil)) (pg_name (i := 4) sc_law_names.nd rfl (Or.inl rfl))
      (pss_cons (ps_set (i := 5) sc_law_names.nd rfl (Or.inr rfl) (pe_call G_law_word (hr.mono (by decide)) (by rfl) T.g_law_word T.k_law_word T.b_law_word .nil pass0 (pa_cons (pv 0) pa_nil)))
    (pss_one (ps_if (pw_or (pt_cmpR op_eq (pv 2) pe_int (nomark _)) (pw_or1 (pt_cmpR (op_eqD hu) (pe_lc (own := [("_law_other", 6)]) (g := gName 6) rfl sc_law_names.nd (pi_list (pv 3)) (blkOk_by (N := N_law_names) (sc := defScope s_law_names) (by decide +kernel)) (fun _ _ _ _ _ => (pg_name (i := 6) sc_law_names.nd rfl (Or.inl rfl))) (fun _ _ _ _ _ => (by exact pts_one (pt_cmpR op_eq (pe_callB (Kv.call_repr (K := K) rfl hG hu) (by rfl) T.n_repr (by decide +kernel) (pa_cons (pv 6) pa_nil)) (pe_callB (Kv.call_repr (K := K) rfl hG hu) (by rfl) T.n_repr (by decide +kernel) (pa_cons (pv 5) pa_nil)) (nomark _)))) (fun _ _ _ _ _ => by exact pe_int)) (pe_lst pa_nil) (nomark _)))).pt (pss_one (ps_expr (pe_bm PySem.F.plainAttrs_list PySem.F.slot_list_append PySem.F.type_list_append mt_append (pv 3) (pa_cons (pv 5) pa_nil)))) pss_nil))))
    (pss_one (ps_ret (pe_callTy call_tuple_of (by rfl) T.n_tuple (by decide +kernel) (pa_cons (pv 3) pa_nil)))))))), ?_⟩
    refine ⟨_, rfl, a, 9, rfl, ha, by decide, by decide, fun i i0 i1 => ?_⟩
    refine ⟨_, rfl, rfl, _, rfl, ?_⟩
    by_cases c0 : i = 0
    · subst c0
      refine if_t (by decide) ?_
      refine ⟨_, rfl, (by show 0 ≤ sizeLine; decide), fun t0 n0 => ⟨(by show 1 ≤ sizeLine; decide), fun l1 n1 d nd => ⟨upd_same, [(Sum.inr "a", .int 1)], rfl, (by show 1 ≤ 15; decide), (by show 1 ≤ sizeLine; decide), fun t2 n2 => ⟨(by show 2 ≤ sizeLine; decide), fun t3 n3 => ⟨(by show 1 ≤ sizeLine; decide), fun t4 n4 => ⟨(by show 1 ≤ sizeLine; decide), fun t5 n5 => ⟨(by show 9 ≤ sizeLine; decide), fun L nL => ?_⟩⟩⟩⟩⟩⟩⟩
      have x0 : Ex H (upd H t0 (.tup [])) := Ex.new n0
      generalize hG0 : upd H t0 (.tup []) = G0 at *
      have f0 : G0 t0 = some (.tup []) := by rw [← hG0]; exact upd_same
      have x1 : Ex G0 (upd G0 l1 (.lst [.str "a"])) := Ex.new n1
      generalize hG1 : upd G0 l1 (.lst [.str "a"]) = G1 at *
      have f1 : G1 l1 = some (.lst [.str "a"]) := by rw [← hG1]; exact upd_same
      have x2 : Ex G1 (upd (upd G1 d (.dK [])) d (.dK (mergeK [] [(Sum.inr "a", .int 1)]))) := Ex.mut (Ex.new nd) nd
      generalize hG2 : upd (upd G1 d (.dK [])) d (.dK (mergeK [] [(Sum.inr "a", .int 1)])) = G2 at *
      have f2 : G2 d = some (.dK (mergeK [] [(Sum.inr "a", .int 1)])) := by rw [← hG2]; exact upd_same
      have x3 : Ex G2 (upd G2 t2 (.tup [.non])) := Ex.new n2
      generalize hG3 : upd G2 t2 (.tup [.non]) = G3 at *
      have f3 : G3 t2 = some (.tup [.non]) := by rw [← hG3]; exact upd_same
      have x4 : Ex G3 (upd G3 t3 (.tup [.str "a", .str "a"])) := Ex.new n3
      generalize hG4 : upd G3 t3 (.tup [.str "a", .str "a"]) = G4 at *
      have f4 : G4 t3 = some (.tup [.str "a", .str "a"]) := by rw [← hG4]; exact upd_same
      have x5 : Ex G4 (upd G4 t4 (.tup [.str "a"])) := Ex.new n4
      generalize hG5 : upd G4 t4 (.tup [.str "a"]) = G5 at *
      have f5 : G5 t4 = some (.tup [.str "a"]) := by rw [← hG5]; exact upd_same
      have x6 : Ex G5 (upd G5 t5 (.tup [.ref t4])) := Ex.new n5
      generalize hG6 : upd G5 t5 (.tup [.ref t4]) = G6 at *
      have f6 : G6 t5 = some (.tup [.ref t4]) := by rw [← hG6]; exact upd_same
      generalize hG7 : upd G6 L _ = G7
      have x7 : Ex G6 G7 := by rw [← hG7]; exact Ex.new nL
      have f7 : G7 L = some (.lst [.ref t0, .non, .str "abc", .ref l1, .ref d, .int 0, .ref t2, .ref t3, .ref t5]) := by rw [← hG7]; exact upd_same
      have y5 := x6.trans x7
      have y4 := x5.trans y5
      have y3 := x4.trans y4
      have y2 := x3.trans y3
      have y1 := x2.trans y2
      have y0 := x1.trans y1
      have ex := x0.trans y0
      have ok1 : PyData.strOk "a" = true := by decide +kernel
      have sh : shortD (.str "a") := fun z e => by cases e; exact ⟨by decide +kernel, ok1⟩
      refine ⟨a, L, _, rfl, ex _ _ ha, SqL.of f7, (by show 0 < 9; decide), (by show 9 ≤ 1000; decide), fun v hv => ?_⟩
      simp only [List.mem_cons, List.not_mem_nil, or_false] at hv
      rcases hv with rfl | rfl | rfl | rfl | rfl | rfl | rfl | rfl | rfl
      · exact q _ (.tuple []) _ ex (.inl (.tup (SqT.of (y0 _ _ f0)) .nil)) (fun ds e => by cases e; exact ⟨by decide, fun _ h => nomatch h⟩) (fun z e => by cases e)
      · exact q _ .none _ ex (.inl .non) (fun ds e => by cases e) (fun z e => by cases e)
      · exact q _ (.str "abc") _ ex (.inl (.str _)) (fun ds e => by cases e) (fun z e => by cases e; decide +kernel)
      · exact q _ (.list [.str "a"]) _ ex (.inl (.lst (SqL.of (y1 _ _ f1)) (dpAll_strs ["a"]))) (fun ds e => by cases e) (fun z e => by cases e)
      · exact q _ (.dict []) _ ex (.inr ⟨d, _, rfl, y2 _ _ f2, rfl⟩) (fun ds e => by cases e) (fun z e => by cases e)
      · exact q _ (.int 0) _ ex (.inl (.int 0)) (fun ds e => by cases e) (fun z e => by cases e)
      · exact q _ (.tuple [.none]) _ ex (.inl (.tup (SqT.of (y3 _ _ f3)) (.cons .non .nil))) (fun ds e => by cases e; exact ⟨by decide, fun x h z e => by rw [List.mem_singleton.mp h] at e; cases e⟩) (fun z e => by cases e)
      · exact q _ (.tuple [.str "a", .str "a"]) _ ex (.inl (.tup (SqT.of (y4 _ _ f4)) (dpAll_strs ["a", "a"]))) (fun ds e => by cases e; exact ⟨by decide, fun x h => by simp only [List.mem_cons, List.not_mem_nil, or_false, or_self] at h; rw [h]; exact sh⟩) (fun z e => by cases e)
      · exact q _ (.tuple [.tuple [.str "a"]]) _ ex (.inl (.tup (SqT.of (x7 _ _ f6)) (.cons (.tup (SqT.of (y5 _ _ f5)) (dpAll_strs ["a"])) .nil))) (fun ds e => by cases e; exact ⟨by decide, fun x h z e => by rw [List.mem_singleton.mp h] at e; cases e⟩) (fun z e => by cases e)
    · refine if_f (decide_eq_false (fun z => c0 (V.int.inj z))) ?_
      refine ⟨(by show 0 ≤ sizeLine; decide), fun f nf => ?_⟩
      have xf : Ex H (upd H f (.lst [])) := Ex.new nf
      refine ⟨_, rfl, _, rfl, _, rfl, rfl, .inr ⟨_, rfl, _, _, rfl, rfl, a, _, rfl, xf _ _ ha, ?_, ?_, fun r r0 r1 => ⟨_, _, rfl, rfl, _, rfl, ?_, ?_, ?_⟩⟩⟩
      · split <;> omega
      · split <;> omega
      · omega
      · have : (if decide (V.int i = V.int 1) = true then (1 : Int) else 0) ≤ 1 := by split <;> omega
        omega
      · have hb : (1 + r).toNat ≤ 10 := by
          have : (if decide (V.int i = V.int 1) = true then (1 : Int) else 0) ≤ 1 := by split <;> omega
          omega
        refine for_range (n := (1 + r).toNat) (fun k σ H2 => ∃ (v4 v5 : Option V) (ws : List V) (ds : List PyData), σ = [some (.ref a), some (.int m), some (.int i), some (.ref f), v4, v5, none] ∧ H2 f = some (.lst ws) ∧ DpAll K H2 ws ds ∧ (∀ d ∈ ds, WordOk d) ∧ (∀ x ∈ ws, ∀ l, x = .ref l → l ≠ f) ∧ ws.length ≤ k ∧ Ex H H2)
          ⟨none, none, [], [], rfl, upd_same, .nil, (fun _ h => nomatch h), (fun _ h => nomatch h), Nat.le_refl _, xf⟩ ?_ ?_
        · rintro k σ H2 hk ⟨v4, v5, ws, ds, rfl, hf, hd, hw, hne, hlen, ex⟩
          refine ⟨_, rfl, a, rfl, ex _ _ ha, fun v d H3 e3 hv hwd hfr => ?_⟩
          have hvf : ∀ l, v = .ref l → l ≠ f := fun l e z => by
            have h1 := hfr l e
            rw [z, hf] at h1
            cases h1
          have fin : ∀ H4, Ex H3 H4 → ∃ (v4' v5' : Option V) (ws' : List V) (ds' : List PyData), [some (V.ref a), some (.int m), some (.int i), some (.ref f), some (.int (0 + (k : Int))), some v, none] = [some (.ref a), some (.int m), some (.int i), some (.ref f), v4', v5', none] ∧ (upd H4 f (.lst (ws ++ [v]))) f = some (.lst ws') ∧ DpAll K (upd H4 f (.lst (ws ++ [v]))) ws' ds' ∧ (∀ d ∈ ds', WordOk d) ∧ (∀ x ∈ ws', ∀ l, x = .ref l → l ≠ f) ∧ ws'.length ≤ k + 1 ∧ Ex H (upd H4 f (.lst (ws ++ [v]))) := by
            intro H4 e4
            have hall : ∀ y ∈ ds ++ [d], WordOk y := fun y hy => by
              rcases List.mem_append.mp hy with hy | hy
              · exact hw y hy
              · rw [List.mem_singleton.mp hy]; exact hwd
            have hnn : ∀ x ∈ ws ++ [v], ∀ l, x = .ref l → l ≠ f := fun x hx => by
              rcases List.mem_append.mp hx with hx | hx
              · exact hne x hx
              · rw [List.mem_singleton.mp hx]; exact hvf
            refine ⟨_, _, ws ++ [v], ds ++ [d], rfl, upd_same, words_upd (dpAll_snoc (dp_ex e4 d v hv) (dpAll_ex (e3.trans e4) _ _ hd)) hall hnn, hall, hnn, by rw [List.length_append]; exact Nat.succ_le_succ hlen, Ex.mut ((ex.trans e3).trans e4) nf⟩
          have hf3 := e3 _ _ hf
          refine ⟨_, rfl, rfl, _, rfl, ?_⟩
          by_cases c2 : V.int i = V.int 2
          · refine if_t (decide_eq_true c2) (if_t rfl ?_)
            exact ⟨_, rfl, .inl ⟨rfl, _, SqL.of hf3⟩, _, rfl, f, ws, v, rfl, rfl, hf3, len_lt (by omega), fin H3 (Ex.refl _)⟩
          · refine if_f (decide_eq_false c2) ?_
            have hd3 := dpAll_ex e3 _ _ hd
            have lx := dpAll_len hd
            refine ⟨_, rfl, f, rfl, ⟨_, SqL.of hf3⟩, fun D hD => lcR walk_list hD ws (ds.map fun d' => (decide (V.str d'.shown = V.str d.shown), .int 1)) (by rw [List.length_map, lx]) (len_lt (by omega)) (fun H4 e4 => ex_l e4 (SqL.of hf3)) (fun _ _ _ _ z => z) (fun _ => rfl) ?_ (fun (kk : Nat) _ y _ _ hr _ => ?_) ?_⟩
            · intro kk x b y H4 hx hr e4
              obtain ⟨d', hd', hp⟩ := dpAll_get hd3 hx
              rw [List.getElem?_map, hd'] at hr
              obtain ⟨e5, e6⟩ := Prod.mk.inj (Option.some.inj hr)
              rw [← e5]
              exact et_test (ev_op (ev_cb (ea_cons (ev_var rfl) ea_nil) (rc_repr (dp_ex e4 _ _ hp) (hw d' (List.mem_of_getElem? hd')))) (ev_cb (ea_cons (ev_var rfl) ea_nil) (rc_repr (dp_ex e4 _ _ hv) hwd)) (rv_eq rfl))
            · rw [List.getElem?_map] at hr
              cases e : ds[kk]? with
              | none => rw [e] at hr; cases hr
              | some d' => rw [e] at hr; obtain rfl : V.int 1 = y := (Prod.mk.inj (Option.some.inj hr)).2; exact ev_c
            · intro H4 e4 h4
              rw [bad_ones] at h4
              refine ⟨by show 0 ≤ sizeLine; decide, fun p hp => ?_⟩
              have x1 : Ex H4 (upd H4 p (.lst [])) := Ex.new hp
              refine ⟨_, .list [], .lst (SqL.of (x1 _ _ h4)) (dp_ones _), .lst (SqL.of upd_same) .nil, shaped_ones _, rfl, _, rfl, ?_⟩
              rw [eqv_nil, ones_bad]
              have e5 := e4.trans x1
              cases hb2 : !(ds.any fun d' => decide (V.str d'.shown = V.str d.shown)) with
              | true =>
                refine if_t rfl ?_
                exact ⟨_, rfl, .inl ⟨rfl, _, SqL.of (e5 _ _ hf3)⟩, _, rfl, f, ws, v, rfl, rfl, e5 _ _ hf3, len_lt (by omega), fin _ e5⟩
              | false =>
                refine if_f rfl ?_
                exact ⟨_, _, ws, ds, rfl, e5 _ _ hf3, dpAll_ex e5 _ _ hd3, hw, hne, by omega, (ex.trans e3).trans e5⟩
        · rintro σ H2 ⟨v4, v5, ws, ds, rfl, hf, hd, hw, hne, hlen, ex⟩
          refine ⟨_, rfl, f, ws, rfl, .inl ⟨SqL.of hf, fun t nt => ?_⟩⟩
          have lx := dpAll_len hd
          exact q _ (.tuple ds) _ (ex.trans (Ex.new nt)) (.inl (.tup (SqT.of upd_same) (dpAll_ex (Ex.new nt) _ _ hd))) (fun ds' e => by cases e; exact ⟨by omega, fun x hx => word_short (hw x hx)⟩) (fun z e => by cases e)
end
end K1
namespace K1
open PySem L2 Kd Evl Ks
theorem let_ok : ∀ c ∈ LET, c < 0x110000 := by decide +kernel
theorem name_ok {z : Str} (h : isName z = true) : PyData.strOk z = true := by
  have h1 := (Bool.and_eq_true_iff.mp h).2
  unfold PyData.strOk
  rw [Array.all_eq_true']
  intro c hc
  have h2 := List.all_eq_true.mp h1 c (by simpa using hc)
  exact decide_eq_true (let_ok c (of_decide_eq_true h2))
theorem names_ok {d : PyData} {ks : List Str} (h : ∀ z ∈ strsD d, isName z = true) (hs : IsSort (strsD d) ks) : OkS ks := fun z hz => name_ok (h z (hs.1.mem_iff.mp hz))
def metD (ks ws : List Str) : PyData := .list [.tuple (ks.map .str), .tuple (ws.map .str), .str (sheetStr ks.length ws.length), .bool (decide (ks = ws))]
def good (dk dw : PyData) : Bool := areNamesD dk 3 && areNamesD dw 2
def spMet (K : PySem.W.Frag) : Sp := fun vs H Q _ => ∃ (k w : V) (dk dw : PyData), vs = [k, w] ∧ Dv K H k dk ∧ Dv K H w dw ∧ fewD dk ∧ fewD dw ∧
  (good dk dw = true → ∀ ks ws v H', IsSort (strsD dk) ks → IsSort (strsD dw) ws → Ex H H' → Dp K H' v (metD ks ws) → Q v H') ∧ (good dk dw = false → ∀ H', Ex H H' → Q (.str "invalid") H')
theorem made_ex {H : Hp} {x dx C : Addr} (nx : H x = none) (nd : H dx = none) : Ex H (upd (upd H dx (.own x)) x (.ins C dx [])) := fun b o e => by
  rw [upd_ne (ne_of_none e nx), upd_ne (ne_of_none e nd)]
  exact e
theorem made_but {H H2 : Hp} {x dx C : Addr} (nx : H x = none) (nd : H dx = none) (b : ExBut x (upd (upd H dx (.own x)) x (.ins C dx [])) H2) : Ex H H2 := fun c o e => b c o (made_ex nx nd c o e) (ne_of_none e nx)
section
variable {P : Program} {w : World} {K : PySem.W.Frag} {mg : Str → Option Value} {base : Heap} {AA : Ads}
theorem ok_law_met (T : Txt K mg AA) : FnOk P w K mg base CX0 6 AA.a_law_met AA.d_law_met ["_law_kinds", "_law_words"] (spMet K) := by
  have G_Sheet_init : FnOk P w K mg base (L2.CX P w) 3 AA.a_Sheet_init AA.d_Sheet_init ["self", "kinds", "words"] (spInit K AA) := ok_Sheet_init T
  have G_Sheet_kinds : FnOk P w K mg base CX0 1 AA.a_Sheet_kinds AA.d_Sheet_kinds ["self"] (getSp AA.C_Sheet "own_kinds") := ok_Sheet_kinds T
  have G_Sheet_words : FnOk P w K mg base CX0 1 AA.a_Sheet_words AA.d_Sheet_words ["self"] (getSp AA.C_Sheet "own_words") := ok_Sheet_words T
  have G_Sheet_str : FnOk P w K mg base CX0 1 AA.a_Sheet_str AA.d_Sheet_str ["self"] (spStrS AA.C_Sheet) := ok_Sheet_str T
  refine T.F_law_met.ok sc_law_met (fun vs H Q E h => ?_) (fun cdv A outer s H vs Q E hr h => ?_)
  · obtain ⟨k, w, dk, dw, rfl, _⟩ := h
    rfl
  · obtain ⟨k, w, dk, dw, rfl, hk, hw, fk, fw, yes, no⟩ := h
    have hu : _ + 64 < cLine := hu64 hr
    refine ⟨_, pss_cons (ps_try_only (tb := fun W => tAsg (tMake AA.C_Sheet (spInit K AA) [] (fun cls d H => ∀ σ, W cls d σ H) (tCons (tVar 0) (tCons (tVar 1) tNil))) (gName 2)) (ts := fun _ _ _ => tRet (tC (.str "invalid"))) (Wout := fun _ _ _ _ => False) rfl rfl ⟨rfl, by decide, Or.inl T.g_InvalidSheet⟩ takes0
      (fun W pn xe tk _ => pss_one (ps_set (i := 2) sc_law_met.nd rfl (Or.inl rfl) (by exact (pe_make T.M_Sheet G_Sheet_init (hr.mono (by decide)) (by rfl) T.g_Sheet T.b_Sheet_init .nil (passes_call tk (fun cls d σ H h => h σ)) (pa_cons (pv 0) (pa_cons (pv 1) pa_nil))))))
      (fun a oe cls d pn _ _ => pss_one (ps_ret pe_str))) (pss_one (ps_ret (pe_lst (pa_cons (pe_prop (pv 2) T.cl_Sheet T.P_Sheet_kinds G_Sheet_kinds (hr.mono (by decide)) T.b_Sheet_kinds .nil pass0 rfl) (pa_cons (pe_prop (pv 2) T.cl_Sheet T.P_Sheet_words G_Sheet_words (hr.mono (by decide)) T.b_Sheet_words .nil pass0 rfl) (pa_cons (pe_callTy (call_strOwn G_Sheet_str T.m_Sheet_str.at_ T.m_Sheet_str.fn T.b_Sheet_str (hr.mono (by decide))) (by rfl) T.n_str (by decide +kernel) (pa_cons (pv 2) pa_nil)) (pa_cons (pe_cmpR (op_eqD hu) (pe_prop (pv 2) T.cl_Sheet T.P_Sheet_kinds G_Sheet_kinds (hr.mono (by decide)) T.b_Sheet_kinds .nil pass0 rfl) (pe_prop (pv 2) T.cl_Sheet T.P_Sheet_words G_Sheet_words (hr.mono (by decide)) T.b_Sheet_words .nil pass0 rfl) (nomark _)) pa_nil))))))), ?_⟩
    refine ⟨_, rfl, _, rfl, fun x dx nx nd ne => ?_⟩
    have e1 := made_ex (C := AA.C_Sheet) nx nd
    refine ⟨x, dx, k, w, dk, dw, rfl, upd_same, dv_ex e1 hk, dv_ex e1 hw, fk, fw, fun hg ks ws H2 sk sw eb hs => ⟨rfl, ?_⟩, fun hb H2 e2 σ => ?_⟩
    · have ex : Ex H H2 := made_but nx nd eb
      obtain ⟨hg1, hg2⟩ := Bool.and_eq_true_iff.mp hg
      obtain ⟨_, _, _, _, l1, _, _, nm1⟩ := names_tup hk hg1
      obtain ⟨_, _, _, _, l2, _, _, nm2⟩ := names_tup hw hg2
      have lk := sk.1.length_eq
      have lw := sw.1.length_eq
      have o1 := names_ok nm1 sk
      have o2 := names_ok nm2 sw
      obtain ⟨dx', fs, pk, pw, a1, a2, a3, a4, a5⟩ := hs.at_
      refine ⟨_, rfl, x, dx', fs, rfl, a1, x, dx', fs, _, rfl, a1, a2, _, rfl, x, dx', fs, rfl, a1, x, dx', fs, _, rfl, a1, a3, ?_⟩
      refine ⟨_, rfl, x, dx', fs, rfl, a1, x, ks, ws, rfl, hs, by omega, by omega, _, rfl, ?_⟩
      refine ⟨_, rfl, x, dx', fs, rfl, a1, x, dx', fs, _, rfl, a1, a2, _, rfl, x, dx', fs, rfl, a1, x, dx', fs, _, rfl, a1, a3, _, _, .tup (SqT.of a4) (dpAll_strs ks), .tup (SqT.of a5) (dpAll_strs ws), shaped_ts o1, shaped_ts o2, (by show 4 ≤ sizeLine; decide), fun p np => ?_⟩
      have x1 := Ex.new (o := HO.lst [.ref pk, .ref pw, .str (sheetStr ks.length ws.length), .bl (PyData.eqv (.tuple (ks.map PyData.str)) (.tuple (ws.map PyData.str)))]) np
      refine yes hg ks ws _ _ sk sw (ex.trans x1) (.lst (SqL.of upd_same) (.cons (.tup (SqT.of (x1 _ _ a4)) (dpAll_strs ks)) (.cons (.tup (SqT.of (x1 _ _ a5)) (dpAll_strs ws)) (.cons (.str _) (.cons ?_ .nil)))))
      rw [show PyData.eqv (.tuple (ks.map PyData.str)) (.tuple (ws.map PyData.str)) = decide (ks = ws) from eqv_strs ks ws]
      exact .bl _
    · refine ⟨true, T.e_InvalidSheet, fun _ a0 _ => ?_, fun z => Bool.noConfusion z⟩
      exact no hb H2 (e1.trans e2)
end
end K1
namespace K1
open PySem L2 Kd Evl Ks
def namesD (zs : List Str) : PyData := .tuple (zs.map .str)
theorem strs_names : ∀ zs : List Str, strsOf (zs.map PyData.str) = zs
  | [] => rfl
  | z :: zs => congrArg (z :: ·) (strs_names zs)
theorem all_names : ∀ zs : List Str, (zs.map PyData.str).all isNameD = zs.all isName
  | [] => rfl
  | z :: zs => by
    rw [List.map_cons, List.all_cons, List.all_cons, all_names zs]
    rfl
/-- names that a sheet takes -/
structure Nm (zs : List Str) (m : Nat) : Prop where
  lo : 1 ≤ zs.length
  hi : zs.length ≤ m
  nm : ∀ z ∈ zs, isName z = true
  nd : zs.Nodup
theorem Nm.are {zs : List Str} {m : Nat} (h : Nm zs m) : areNamesD (namesD zs) m = true := by
  have e1 : ((zs.map PyData.str).length : Int) = (zs.length : Int) := by rw [List.length_map]
  have e2 : (uniq (zs.map fun z => (Sum.inr z : Key))).length = zs.length := by
    have hn : (zs.map fun z => (Sum.inr z : Key)).Nodup := List.pairwise_map.mpr (h.nd.imp fun q z => q (Sum.inr.inj z))
    rw [(len_eq_uniq _).mpr hn, List.length_map]
  show (((decide (1 ≤ ((zs.map PyData.str).length : Int)) && decide (((zs.map PyData.str).length : Int) ≤ (m : Int))) && (zs.map PyData.str).all isNameD) && decide ((uniq ((strsOf (zs.map PyData.str)).map fun z => (Sum.inr z : Key))).length = (zs.map PyData.str).length)) = true
  rw [strs_names, e2, all_names, List.all_eq_true.mpr h.nm, List.length_map]
  have a1 := h.lo
  have a2 := h.hi
  rw [decide_eq_true (by omega), decide_eq_true (by omega), decide_eq_true rfl]
  rfl
theorem Nm.few {zs : List Str} {m : Nat} (h : Nm zs m) (hm : m ≤ 3) : fewD (namesD zs) := fun ds e => by
  cases e
  rw [List.length_map]
  have a2 := h.hi
  refine ⟨by omega, fun x hx => ?_⟩
  obtain ⟨z, hz, rfl⟩ := List.mem_map.mp hx
  intro y e
  cases e
  have b := h.nm z hz
  refine ⟨?_, name_ok b⟩
  have b1 := of_decide_eq_true (Bool.and_eq_true_iff.mp (Bool.and_eq_true_iff.mp b).1).2
  omega
theorem Nm.ok {zs : List Str} {m : Nat} (h : Nm zs m) : OkS zs := fun z hz => name_ok (h.nm z hz)
theorem Nm.perm {zs ys : List Str} {m : Nat} (h : Nm zs m) (p : ys.Perm zs) : Nm ys m := ⟨by rw [p.length_eq]; exact h.lo, by rw [p.length_eq]; exact h.hi, fun z hz => h.nm z (p.mem_iff.mp hz), p.nodup_iff.mpr h.nd⟩
theorem Nm.le {zs : List Str} {m n : Nat} (h : Nm zs m) (hm : m ≤ n) : Nm zs n := ⟨h.lo, Nat.le_trans h.hi hm, h.nm, h.nd⟩
theorem Nm.take {zs : List Str} {m : Nat} (h : Nm zs m) {k : Nat} (hk : 1 ≤ k) : Nm (zs.take k) k := by
  have a := h.lo
  refine ⟨by rw [List.length_take]; omega, by rw [List.length_take]; omega, fun z hz => h.nm z (List.mem_of_mem_take hz), h.nd.sublist (List.take_sublist _ _)⟩
theorem nm_of {K : PySem.W.Frag} {H : Hp} {v : V} {d : PyData} {m : Nat} (hv : Dv K H v d) (h : areNamesD d m = true) : ∃ a zs, v = .ref a ∧ d = namesD zs ∧ Nm zs m ∧ SqT K H a (zs.map V.str) := by
  obtain ⟨a, e, s, ed, hi, lo, nd, nm⟩ := names_tup hv h
  exact ⟨a, strsD d, e, ed, ⟨lo, by omega, nm, nd⟩, s⟩
theorem dv_names {K : PySem.W.Frag} {H : Hp} {a : Addr} {zs : List Str} (h : SqT K H a (zs.map V.str)) : Dv K H (.ref a) (namesD zs) := .inl (.tup h (dpAll_strs zs))
theorem strsD_names (zs : List Str) : strsD (namesD zs) = zs := strs_names zs
theorem perm_map {zs : List Str} : ∀ {ys : List V}, ys.Perm (zs.map V.str) → ∃ us : List Str, us.Perm zs ∧ ys = us.map V.str := by
  intro ys p
  have hs : ∀ y ∈ ys, ∃ z, y = V.str z := fun y hy => by
    obtain ⟨z, _, e⟩ := List.mem_map.mp (p.mem_iff.mp hy)
    exact ⟨z, e.symm⟩
  have g : ∀ l : List V, (∀ y ∈ l, ∃ z, y = V.str z) → ∃ us : List Str, l = us.map V.str := by
    intro l
    induction l with
    | nil => intro _; exact ⟨[], rfl⟩
    | cons y r ih =>
      intro h
      obtain ⟨z, rfl⟩ := h y List.mem_cons_self
      obtain ⟨us, rfl⟩ := ih fun y hy => h y (List.mem_cons_of_mem _ hy)
      exact ⟨z :: us, rfl⟩
  obtain ⟨us, rfl⟩ := g ys hs
  let f : V → Str := fun v => match v with | .str z => z | _ => ""
  have q := p.map f
  rw [List.map_map, List.map_map] at q
  have id1 : ∀ l : List Str, l.map (f ∘ V.str) = l := fun l => by
    have : (f ∘ V.str) = id := rfl
    rw [this, List.map_id]
  rw [id1, id1] at q
  exact ⟨us, q, rfl⟩
theorem empty_app (x : Str) : Str.empty ++ x = x := by
  cases x
  show Str.mk (#[] ++ _) = _
  simp
theorem text_eq (n m : Nat) : (((("sheet of " : Str) ++ numS n) ++ (" kinds, " : Str)) ++ numS m) ++ (" words" : Str) = sheetStr n m := by
  unfold sheetStr
  rw [empty_app]
theorem eqv_lists (xs ys : List Str) : PyData.eqv (.list (xs.map PyData.str)) (.list (ys.map PyData.str)) = decide (xs = ys) := eqv_strs xs ys
theorem eqv_tups (xs ys : List Str) : PyData.eqv (.tuple (xs.map PyData.str)) (.tuple (ys.map PyData.str)) = decide (xs = ys) := eqv_strs xs ys
theorem met_self (ks ws : List Str) : PyData.eqv (metD ks ws) (metD ks ws) = true := by
  show (PyData.eqv _ _ && (PyData.eqv _ _ && (PyData.eqv _ _ && (PyData.eqv _ _ && true)))) = true
  rw [eqv_tups, eqv_tups, decide_eq_true rfl, decide_eq_true rfl]
  show (true && (true && ((sheetStr ks.length ws.length == sheetStr ks.length ws.length) && ((decide (ks = ws) == decide (ks = ws)) && true)))) = true
  rw [beq_self_eq_true, beq_self_eq_true]
  rfl
theorem num_ok {n : Nat} (h : n ≤ 3) : PyData.strOk (numS n) = true := by
  match n, h with
  | 0, _ => decide +kernel
  | 1, _ => decide +kernel
  | 2, _ => decide +kernel
  | 3, _ => decide +kernel
theorem text_ok {n m : Nat} (hn : n ≤ 3) (hm : m ≤ 3) : PyData.strOk (sheetStr n m) = true := by
  match n, m, hn, hm with
  | 0, 0, _, _ => decide +kernel
  | 0, 1, _, _ => decide +kernel
  | 0, 2, _, _ => decide +kernel
  | 0, 3, _, _ => decide +kernel
  | 1, 0, _, _ => decide +kernel
  | 1, 1, _, _ => decide +kernel
  | 1, 2, _, _ => decide +kernel
  | 1, 3, _, _ => decide +kernel
  | 2, 0, _, _ => decide +kernel
  | 2, 1, _, _ => decide +kernel
  | 2, 2, _, _ => decide +kernel
  | 2, 3, _, _ => decide +kernel
  | 3, 0, _, _ => decide +kernel
  | 3, 1, _, _ => decide +kernel
  | 3, 2, _, _ => decide +kernel
  | 3, 3, _, _ => decide +kernel
theorem met_shaped {ks ws : List Str} (h1 : OkS ks) (h2 : OkS ws) (l1 : ks.length ≤ 3) (l2 : ws.length ≤ 3) : SeqAt.shaped (metD ks ws) = true := by
  show ((PyData.canLayAll0 (ks.map PyData.str) && (PyData.canLayAll0 (ws.map PyData.str) && (PyData.strOk (sheetStr ks.length ws.length) && (true && true)))) && decide (max (PyData.depthAll (ks.map PyData.str) + 1) (max (PyData.depthAll (ws.map PyData.str) + 1) (max 0 (max 0 0))) + 1 ≤ 64)) = true
  rw [canLay_strs ks h1, canLay_strs ws h2, depth_strs, depth_strs, text_ok l1 l2]
  rfl
theorem not_self (b : Bool) : (!decide (V.bl b = V.bl b)) = false := by rw [decide_eq_true rfl]; rfl
theorem mk_ok {K : PySem.W.Frag} {AA : Ads} {H1 : Hp} {k w : V} {kz wz : List Str} {Qx : Addr → Hp → Prop} {E : XK} (hk : Dv K H1 k (namesD kz)) (hw : Dv K H1 w (namesD wz)) (nk : Nm kz 3) (nw : Nm wz 2)
    (q : ∀ x H2 ks ws, Ex H1 H2 → IsSort kz ks → IsSort wz ws → SheetAt AA.C_Sheet H2 x ks ws → Qx x H2) :
    ∀ x dx, H1 x = none → H1 dx = none → dx ≠ x → spInit K AA (.ref x :: ([k, w] ++ [])) (upd (upd H1 dx (.own x)) x (.ins AA.C_Sheet dx [])) (fun v H2 => v = .non ∧ Qx x H2) E := by
  intro x dx nx nd ne
  have e := made_ex (C := AA.C_Sheet) nx nd
  have hg : (areNamesD (namesD kz) ((3 : Nat) : Int) && areNamesD (namesD wz) ((2 : Nat) : Int)) = true := by
    rw [nk.are, nw.are]
    rfl
  refine ⟨x, dx, k, w, namesD kz, namesD wz, rfl, upd_same, dv_ex e hk, dv_ex e hw, nk.few (by decide), nw.few (by decide), fun _ ks ws H2 s1 s2 eb hs => ⟨rfl, ?_⟩, fun hb => ?_⟩
  · rw [strsD_names] at s1 s2
    exact q x H2 ks ws (made_but nx nd eb) s1 s2 hs
  · have hb' : (areNamesD (namesD kz) ((3 : Nat) : Int) && areNamesD (namesD wz) ((2 : Nat) : Int)) = false := hb
    rw [hg] at hb'
    cases hb'
theorem slA_ok {K : PySem.W.Frag} {H : Hp} {a : Addr} {xs : List V} {k : Nat} {Q : VK} (h : SqT K H a xs) (q : ∀ b H', Ex H H' → SqT K H' b (xs.take k) → Q (.ref b) H') : rSlA K (.ref a) none (some (k : Int)) H Q := by
  have e1 : HT.sIx xs.length 0 none = 0 := rfl
  have e2 : HT.sIx xs.length xs.length (some (k : Int)) = min k xs.length := HT.sIx_nat _ _ _
  refine ⟨a, xs, rfl, h, fun hw => ?_, fun _ p hp => ?_⟩
  · rw [e2] at hw
    refine q a H (Ex.refl _) ?_
    rw [List.take_of_length_le (by omega)]
    exact h
  · refine q p _ (Ex.new hp) (SqT.of ?_)
    rw [upd_same]
    unfold cutV
    rw [e1, e2, List.drop_zero, Nat.sub_zero, ← List.take_take, List.take_length]
theorem map_take (zs : List Str) (k : Nat) : (zs.map V.str).take k = (zs.take k).map V.str := (List.map_take ..).symm
def spRight : Sp := fun vs H Q _ => ∃ (a : Addr), vs = [.ref a] ∧ H a = some (diceO a) ∧ ∀ H', Ex H H' → Q (.bl true) H'
section
variable {P : Program} {w : World} {K : PySem.W.Frag} {mg : Str → Option Value} {base : Heap} {AA : Ads}
theorem ok_law_right (T : Txt K mg AA) : FnG P w K mg base 8 AA.a_law_right AA.d_law_right ["_law_dice_here"] spRight := by
  have G_Sheet_init : FnOk P w K mg base (L2.CX P w) 3 AA.a_Sheet_init AA.d_Sheet_init ["self", "kinds", "words"] (spInit K AA) := ok_Sheet_init T
  have G_Sheet_kinds : FnOk P w K mg base CX0 1 AA.a_Sheet_kinds AA.d_Sheet_kinds ["self"] (getSp AA.C_Sheet "own_kinds") := ok_Sheet_kinds T
  have G_Sheet_words : FnOk P w K mg base CX0 1 AA.a_Sheet_words AA.d_Sheet_words ["self"] (getSp AA.C_Sheet "own_words") := ok_Sheet_words T
  have G_Sheet_str : FnOk P w K mg base CX0 1 AA.a_Sheet_str AA.d_Sheet_str ["self"] (spStrS AA.C_Sheet) := ok_Sheet_str T
  have G_Sheet_eq : FnOk P w K mg base CX0 1 AA.a_Sheet_eq AA.d_Sheet_eq ["self", "other"] (spEqS K AA.C_Sheet) := ok_Sheet_eq T
  have G_is_name : FnOk P w K mg base CX0 1 AA.a_is_name AA.d_is_name ["value"] (spIsName K) := ok_is_name T
  have G_law_is_name : FnOk P w K mg base CX0 1 AA.a_law_is_name AA.d_law_is_name ["_law_value"] (spIsName K) := ok_law_is_name T
  have G_law_are_names : FnOk P w K mg base CX0 2 AA.a_law_are_names AA.d_law_are_names ["_law_value", "_law_most"] (spAre K) := ok_law_are_names T
  have G_law_mixed : FnOk P w K mg base CX0 2 AA.a_law_mixed AA.d_law_mixed ["_law_dice_here", "_law_items"] (spMixed K) := ok_law_mixed T
  have G_law_word : FnOk P w K mg base CX0 3 AA.a_law_word AA.d_law_word ["_law_dice_here"] (spWord K) := ok_law_word T
  have G_law_names : FnG P w K mg base 4 AA.a_law_names AA.d_law_names ["_law_dice_here", "_law_most"] (spNames K) := ok_law_names T
  have G_law_met : FnOk P w K mg base CX0 6 AA.a_law_met AA.d_law_met ["_law_kinds", "_law_words"] (spMet K) := ok_law_met T
  refine fnG_of T.F_law_right sc_law_right (fun vs H Q E h => ?_) (fun cdv A outer s H vs Q E hG hr h => ?_)
  · obtain ⟨a, rfl, _⟩ := h
    rfl
  · obtain ⟨a, rfl, ha, q⟩ := h
    have hu : _ + 64 < cLine := hu64 hr
    refine ⟨_, (pss_cons (ps_par (i := 5) (j := 6) rfl sc_law_right.nd rfl rfl (by decide) rfl rfl (by exact (pa_cons (pe_callG G_law_names hG (hr.mono (by decide)) (by rfl) T.g_law_names T.k_law_names T.b_law_names (pa_cons (pv 0) (pa_cons pe_int pa_nil))) (pa_cons (pe_callG G_law_names hG (hr.mono (by decide)) (by rfl) T.g_law_names T.k_law_names T.b_law_names (pa_cons (pv 0) (pa_cons pe_int pa_nil))) pa_nil))) rfl)
    (pss_cons (ps_for PassesOwn.never rfl (pi_tup (pe_tup (pa_cons (pe_call G_law_word (hr.mono (by decide)) (by rfl) T.g_law_word T.k_law_word T.b_law_word .nil pass0 (pa_cons (pv 0) pa_nil)) (pa_cons (pv 5) (pa_cons (pv 6) (pa_cons (pe_lst pa_nil) (pa_cons pe_dnewK pa_nil))))))) (pg_name (i := 1) sc_law_right.nd rfl (Or.inl rfl))
      (pss_cons (ps_set (i := 7) sc_law_right.nd rfl (Or.inl rfl) (pe_call G_is_name (hr.mono (by decide)) (by rfl) T.g_is_name T.k_is_name T.b_is_name .nil pass0 (pa_cons (pv 1) pa_nil)))
    (pss_one (ps_if (pw_or (pt_not (pt_val (pe_callB call_isi (by rfl) T.n_isinstance (by decide +kernel) (pa_cons (pv 7) (pa_cons (pe_bltn (v := .ty "bool") (u := .type "bool") (by rfl) T.n_bool (by decide +kernel) rfl) pa_nil))))) (pw_or1 (pt_cmpR op_ne (pv 7) (pe_call G_law_is_name (hr.mono (by decide)) (by rfl) T.g_law_is_name T.k_law_is_name T.b_law_is_name .nil pass0 (pa_cons (pv 1) pa_nil)) (nomark _)))).pt (pss_one (ps_ret pe_bl)) pss_nil))))
    (pss_cons (ps_if (pw_or (pt_not (pt_val (pe_call G_law_are_names (hr.mono (by decide)) (by rfl) T.g_law_are_names T.k_law_are_names T.b_law_are_names .nil pass0 (pa_cons (pv 5) (pa_cons pe_int pa_nil))))) (pw_or1 (pt_not (pt_val (pe_call G_law_are_names (hr.mono (by decide)) (by rfl) T.g_law_are_names T.k_law_are_names T.b_law_are_names .nil pass0 (pa_cons (pv 6) (pa_cons pe_int pa_nil))))))).pt (pss_one (ps_ret (pe_cmpR (op_eqD hu) (pe_call G_law_met (hr.mono (by decide)) (by rfl) T.g_law_met T.k_law_met T.b_law_met .nil pass0 (pa_cons (pv 5) (pa_cons (pv 6) pa_nil))) pe_str (nomark _)))) pss_nil)
    (pss_cons (ps_set (i := 2) sc_law_right.nd rfl (Or.inl rfl) (pe_op op_add_str (pe_op op_add_str (pe_op op_add_str (pe_op op_add_str pe_str (pe_callTy call_str_int (by rfl) T.n_str (by decide +kernel) (pa_cons (pe_callB call_len_seq (by rfl) T.n_len (by decide +kernel) (pa_cons (pv 5) pa_nil)) pa_nil))) pe_str) (pe_callTy call_str_int (by rfl) T.n_str (by decide +kernel) (pa_cons (pe_callB call_len_seq (by rfl) T.n_len (by decide +kernel) (pa_cons (pv 6) pa_nil)) pa_nil))) pe_str))
    (pss_cons (ps_if (pt_cmpR (op_neD hu) (pe_call G_law_met (hr.mono (by decide)) (by rfl) T.g_law_met T.k_law_met T.b_law_met .nil pass0 (pa_cons (pv 5) (pa_cons (pv 6) pa_nil))) (pe_lst (pa_cons (pe_callTy call_tuple_of (by rfl) T.n_tuple (by decide +kernel) (pa_cons (pe_callB cr_sortU (by rfl) T.n_sorted (by decide +kernel) (pa_cons (pv 5) pa_nil)) pa_nil)) (pa_cons (pe_callTy call_tuple_of (by rfl) T.n_tuple (by decide +kernel) (pa_cons (pe_callB cr_sortU (by rfl) T.n_sorted (by decide +kernel) (pa_cons (pv 6) pa_nil)) pa_nil)) (pa_cons (pv 2) (pa_cons (pe_cmpR (op_eqD hu) (pe_callB cr_sortU (by rfl) T.n_sorted (by decide +kernel) (pa_cons (pv 5) pa_nil)) (pe_callB cr_sortU (by rfl) T.n_sorted (by decide +kernel) (pa_cons (pv 6) pa_nil)) (nomark _)) pa_nil))))) (nomark _)) (pss_one (ps_ret pe_bl)) pss_nil)
    (pss_cons (ps_par (i := 8) (j := 9) rfl sc_law_right.nd rfl rfl (by decide) rfl rfl (by exact (pa_cons (pe_make T.M_Sheet G_Sheet_init (hr.mono (by decide)) (by rfl) T.g_Sheet T.b_Sheet_init .nil (passes_call takes0 (fun _ _ _ _ h => h)) (pa_cons (pv 5) (pa_cons (pv 6) pa_nil))) (pa_cons (pe_make T.M_Sheet G_Sheet_init (hr.mono (by decide)) (by rfl) T.g_Sheet T.b_Sheet_init .nil (passes_call takes0 (fun _ _ _ _ h => h)) (pa_cons (pe_callTy call_tuple_of (by rfl) T.n_tuple (by decide +kernel) (pa_cons (pe_call G_law_mixed (hr.mono (by decide)) (by rfl) T.g_law_mixed T.k_law_mixed T.b_law_mixed .nil pass0 (pa_cons (pv 0) (pa_cons (pv 5) pa_nil))) pa_nil)) (pa_cons (pe_callTy call_tuple_of (by rfl) T.n_tuple (by decide +kernel) (pa_cons (pe_call G_law_mixed (hr.mono (by decide)) (by rfl) T.g_law_mixed T.k_law_mixed T.b_law_mixed .nil pass0 (pa_cons (pv 0) (pa_cons (pv 6) pa_nil))) pa_nil)) pa_nil))) pa_nil))) rfl)
    (pss_cons (ps_set (i := 3) sc_law_right.nd rfl (Or.inl rfl) (pe_lst (pa_cons (pe_make T.M_Sheet G_Sheet_init (hr.mono (by decide)) (by rfl) T.g_Sheet T.b_Sheet_init .nil (passes_call takes0 (fun _ _ _ _ h => h)) (pa_cons (pv 6) (pa_cons (pv 6) pa_nil))) (pa_cons (pe_make T.M_Sheet G_Sheet_init (hr.mono (by decide)) (by rfl) T.g_Sheet T.b_Sheet_init .nil (passes_call takes0 (fun _ _ _ _ h => h)) (pa_cons (pe_slice sl_tupA (pv 5) po_none (po_some pe_int)) (pa_cons (pv 6) pa_nil))) (pa_cons (pe_make T.M_Sheet G_Sheet_init (hr.mono (by decide)) (by rfl) T.g_Sheet T.b_Sheet_init .nil (passes_call takes0 (fun _ _ _ _ h => h)) (pa_cons (pv 5) (pa_cons (pe_slice sl_tupA (pv 5) po_none (po_some pe_int)) pa_nil))) (pa_cons (pe_make T.M_Sheet G_Sheet_init (hr.mono (by decide)) (by rfl) T.g_Sheet T.b_Sheet_init .nil (passes_call takes0 (fun _ _ _ _ h => h)) (pa_cons (pe_tup (pa_cons pe_str (pa_cons pe_str pa_nil))) (pa_cons (pv 6) pa_nil))) pa_nil))))))
    (pss_cons (ps_for PassesOwn.never rfl (pi_list (pv 3)) (pg_name (i := 4) sc_law_right.nd rfl (Or.inl rfl))
      (pss_cons (ps_set (i := 10) sc_law_right.nd rfl (Or.inl rfl) (pe_and (pe_cmpR (op_eqD hu) (pe_prop (pv 4) T.cl_Sheet T.P_Sheet_kinds G_Sheet_kinds (hr.mono (by decide)) T.b_Sheet_kinds .nil pass0 rfl) (pe_prop (pv 8) T.cl_Sheet T.P_Sheet_kinds G_Sheet_kinds (hr.mono (by decide)) T.b_Sheet_kinds .nil pass0 rfl) (nomark _)) (pe_one (pe_cmpR (op_eqD hu) (pe_prop (pv 4) T.cl_Sheet T.P_Sheet_words G_Sheet_words (hr.mono (by decide)) T.b_Sheet_words .nil pass0 rfl) (pe_prop (pv 8) T.cl_Sheet T.P_Sheet_words G_Sheet_words (hr.mono (by decide)) T.b_Sheet_words .nil pass0 rfl) (nomark _)))))
    (pss_one (ps_if (pw_or (pt_cmpR op_ne (pe_cmpR (op_ownEq G_Sheet_eq (T.I_Sheet.own T.m_Sheet_eq) T.b_Sheet_eq (hr.mono (by decide))) (pv 8) (pv 4) (nomark _)) (pv 10) (nomark _)) (pw_or1 (pt_cmpR op_eq (pe_cmpR (op_ownNe G_Sheet_eq (T.I_Sheet.own T.m_Sheet_eq) T.b_Sheet_eq (hr.mono (by decide))) (pv 8) (pv 4) (nomark _)) (pv 10) (nomark _)))).pt (pss_one (ps_ret pe_bl)) pss_nil))))
    (pss_cons (ps_if (pw_or (pt_cmpR (op_ownNe G_Sheet_eq (T.I_Sheet.own T.m_Sheet_eq) T.b_Sheet_eq (hr.mono (by decide))) (pv 8) (pv 9) (nomark _)) (pw_or (pt_not (pt_cmpR (op_ownEq G_Sheet_eq (T.I_Sheet.own T.m_Sheet_eq) T.b_Sheet_eq (hr.mono (by decide))) (pv 8) (pv 9) (nomark _))) (pw_or (pt_cmpR (op_ownEq G_Sheet_eq (T.I_Sheet.own T.m_Sheet_eq) T.b_Sheet_eq (hr.mono (by decide))) (pv 8) (pv 5) (nomark _)) (pw_or (pt_cmpR (op_ownEq G_Sheet_eq (T.I_Sheet.own T.m_Sheet_eq) T.b_Sheet_eq (hr.mono (by decide))) (pv 8) (pe_tup (pa_cons (pe_prop (pv 8) T.cl_Sheet T.P_Sheet_kinds G_Sheet_kinds (hr.mono (by decide)) T.b_Sheet_kinds .nil pass0 rfl) (pa_cons (pe_prop (pv 8) T.cl_Sheet T.P_Sheet_words G_Sheet_words (hr.mono (by decide)) T.b_Sheet_words .nil pass0 rfl) pa_nil))) (nomark _)) (pw_or1 (pt_cmpR (op_ownEq G_Sheet_eq (T.I_Sheet.own T.m_Sheet_eq) T.b_Sheet_eq (hr.mono (by decide))) (pv 8) (pe_callTy (call_strOwn G_Sheet_str T.m_Sheet_str.at_ T.m_Sheet_str.fn T.b_Sheet_str (hr.mono (by decide))) (by rfl) T.n_str (by decide +kernel) (pa_cons (pv 8) pa_nil)) (nomark _))))))).pt (pss_one (ps_ret pe_bl)) pss_nil)
    (pss_one (ps_ret (pe_cmpR (op_eqD hu) (pe_prop (pv 8) T.cl_Sheet T.P_Sheet_kinds G_Sheet_kinds (hr.mono (by decide)) T.b_Sheet_kinds .nil pass0 rfl) (pe_callTy call_tuple_of (by rfl) T.n_tuple (by decide +kernel) (pa_cons (pe_callB cr_sortU (by rfl) T.n_sorted (by decide +kernel) (pa_cons (pv 5) pa_nil)) pa_nil)) (nomark _))))))))))))), ?_⟩
    refine ⟨_, rfl, a, 3, rfl, ha, by decide, by decide, fun kv dk H1 e1 hk fk sk => ⟨_, rfl, a, 2, rfl, e1 _ _ ha, by decide, by decide, fun wv dw H2 e2 hw fw sw => ⟨_, _, rfl, ?_⟩⟩⟩
    have x2 := e1.trans e2
    refine ⟨_, rfl, a, rfl, x2 _ _ ha, fun wo dwo H3 e3 hwo wok _ => ⟨_, rfl, _, rfl, (by show 0 ≤ sizeLine; decide), fun l0 n0 d0 nd0 => ⟨(by show 5 ≤ sizeLine; decide), fun t nt => ?_⟩⟩⟩
    have y1 : Ex H3 (upd H3 l0 (.lst [])) := Ex.new n0
    generalize hJ1 : upd H3 l0 (.lst []) = J1 at *
    have g1 : J1 l0 = some (.lst []) := by rw [← hJ1]; exact upd_same
    have y2 : Ex J1 (upd J1 d0 (.dK [])) := Ex.new nd0
    generalize hJ2 : upd J1 d0 (.dK []) = J2 at *
    have g2 : J2 d0 = some (.dK []) := by rw [← hJ2]; exact upd_same
    generalize hJ3 : upd J2 t _ = J3
    have y3 : Ex J2 J3 := by rw [← hJ3]; exact Ex.new nt
    have g3 : J3 t = some (.tup [wo, kv, wv, .ref l0, .ref d0]) := by rw [← hJ3]; exact upd_same
    have x3 : Ex H3 J3 := (y1.trans y2).trans y3
    have xx : Ex H J3 := (x2.trans e3).trans x3
    have hk3 : Dv K J3 kv dk := dv_ex ((e2.trans e3).trans x3) hk
    have hw3 : Dv K J3 wv dw := dv_ex (e3.trans x3) hw
    have vals : ∀ x ∈ [wo, kv, wv, .ref l0, .ref d0], ∃ d, Dv K J3 x d ∧ shortD d := by
      intro x hx
      simp only [List.mem_cons, List.not_mem_nil, or_false] at hx
      rcases hx with rfl | rfl | rfl | rfl | rfl
      · exact ⟨dwo, dv_ex x3 (.inl hwo), word_short wok⟩
      · exact ⟨dk, hk3, sk⟩
      · exact ⟨dw, hw3, sw⟩
      · exact ⟨.list [], .inl (.lst (SqL.of (y3 _ _ (y2 _ _ g1))) .nil), fun z e => by cases e⟩
      · exact ⟨.dict [], .inr ⟨d0, _, rfl, y3 _ _ g2, rfl⟩, fun z e => by cases e⟩
    refine ⟨t, rfl, ⟨_, SqT.of g3⟩, for_tup (K := K) (a := t) (xs := [wo, kv, wv, .ref l0, .ref d0]) (fun k σ J => ∃ v1 v7 : Option V, σ = [some (.ref a), v1, none, none, none, some kv, some wv, v7, none, none, none] ∧ Ex J3 J)
      ⟨none, none, rfl, Ex.refl _⟩ (fun k σ J _ ⟨_, _, _, e⟩ => ex_t e (SqT.of g3)) ?_ ?_⟩
    · rintro k x σ J hx ⟨v1, v7, rfl, e⟩
      obtain ⟨d, hd, hsd⟩ := vals x (List.mem_of_getElem? hx)
      refine ⟨_, rfl, x, d, rfl, dv_ex e hd, hsd, fun J' e' => ?_⟩
      refine ⟨_, rfl, _, _, _, _, _, rfl, .ty "bool", .base (.bl _), kit_ty (a := "bool") (b := "bool") (r := true) (by decide +kernel), _, rfl, if_f rfl ?_⟩
      refine ⟨_, rfl, _, rfl, x, d, rfl, dv_ex (e.trans e') hd, hsd, fun J'' e'' => ⟨rfl, _, rfl, ?_⟩⟩
      rw [not_self]
      exact if_f rfl ⟨_, _, rfl, (e.trans e').trans e''⟩
    · rintro σ J ⟨v1, v7, rfl, e⟩
      have xJ : Ex H J := xx.trans e
      have hkJ := dv_ex e hk3
      have hwJ := dv_ex e hw3
      refine ⟨_, rfl, kv, dk, 3, rfl, hkJ, fk, fun L1 f1 => ⟨_, rfl, ?_⟩⟩
      have bad : ∀ L2, Ex J L2 → good dk dw = false → tRet (tOp (rEqD K) (tCall (spMet K) [] E0 (tCons (tVar 5) (tCons (tVar 6) tNil))) (tC (V.str "invalid"))) { nx := fun _ H' => Q .non H', rt := Q } [some (.ref a), v1, none, none, none, some kv, some wv, v7, none, none, none] L2 := by
        intro L2 f2 hb
        refine ⟨_, rfl, _, rfl, kv, wv, dk, dw, rfl, dv_ex f2 hkJ, dv_ex f2 hwJ, fk, fw, (fun hg => by rw [hb] at hg; cases hg), fun _ L3 f3 => ⟨.str "invalid", .str "invalid", .str _, .str _, by decide +kernel, by decide +kernel, ?_⟩⟩
        have eq : PyData.eqv (.str "invalid") (.str "invalid") = true := by decide +kernel
        rw [eq]
        exact q L3 ((xJ.trans f2).trans f3)
      cases ck : areNamesD dk 3 with
      | false =>
        refine if_t rfl (if_t rfl ?_)
        exact bad L1 f1 (by unfold good; rw [ck]; rfl)
      | true =>
        refine if_f rfl ⟨_, rfl, wv, dw, 2, rfl, dv_ex f1 hwJ, fw, fun L2 f2 => ⟨_, rfl, ?_⟩⟩
        have f12 := f1.trans f2
        cases cw : areNamesD dw 2 with
        | false =>
          refine if_t rfl ?_
          exact bad L2 f12 (by unfold good; rw [ck, cw]; rfl)
        | true =>
          refine if_f rfl ?_
          obtain ⟨ak, kz, rfl, rfl, nk, tk⟩ := nm_of (m := 3) (dv_ex f12 hkJ) ck
          obtain ⟨aw, wz, rfl, rfl, nw, tw⟩ := nm_of (m := 2) (dv_ex f12 hwJ) cw
          have lk := nk.hi
          have lw := nw.hi
          have lk1 := nk.lo
          have lw1 := nw.lo
          have xL : Ex H L2 := xJ.trans f12
          -- the text
          have m1 := numS_len (n := kz.length) lk
          have m2 := numS_len (n := wz.length) (by omega)
          have z1 : (("sheet of " : Str)).length = 9 := by decide +kernel
          have z2 : ((" kinds, " : Str)).length = 8 := by decide +kernel
          have z3 : ((" words" : Str)).length = 6 := by decide +kernel
          have line : (100 : Nat) ≤ sizeLine := by decide
          refine ⟨_, rfl, ak, _, rfl, .inr tk, _, rfl, by rw [List.length_map]; exact log_small lk, _, numS kz.length, rfl, by rw [List.length_map]; rfl, by omega, _, _, rfl, rfl, by rw [len_app]; omega, _, rfl, aw, _, rfl, .inr tw, _, rfl, by rw [List.length_map]; exact log_small (by omega), _, numS wz.length, rfl, by rw [List.length_map]; rfl, by rw [len_app, len_app]; omega, _, _, rfl, rfl, by rw [len_app, len_app, len_app]; omega, ?_⟩
          rw [text_eq]
          -- what is met
          have hg : good (namesD kz) (namesD wz) = true := by
            show (areNamesD (namesD kz) ((3 : Nat) : Int) && areNamesD (namesD wz) ((2 : Nat) : Int)) = true
            rw [nk.are, nw.are]
            rfl
          refine ⟨_, rfl, _, rfl, .ref ak, .ref aw, namesD kz, namesD wz, rfl, dv_names tk, dv_names tw, nk.few (by decide), nw.few (by decide), fun _ ks ws mv L3 s1 s2 f3 hmv => ?_, fun hb => by rw [hg] at hb; cases hb⟩
          rw [strsD_names] at s1 s2
          have tk3 := ex_t f3 tk
          have tw3 := ex_t f3 tw
          have ks3 := s1.1.length_eq
          have ws3 := s2.1.length_eq
          refine ⟨_, rfl, ak, kz, rfl, .inl tk3, by omega, fun k1 p1 pm1 so1 n1 => ⟨p1, _, rfl, .inl ⟨SqL.of upd_same, fun t1 nt1 => ?_⟩⟩⟩
          obtain rfl : ks = k1 := sort_one (List.Perm.refl _) s1 ⟨pm1, so1⟩
          generalize hM1 : upd L3 p1 (.lst (ks.map V.str)) = M1 at *
          have u1 : Ex L3 M1 := by rw [← hM1]; exact Ex.new n1
          generalize hM2 : upd M1 t1 (.tup (ks.map V.str)) = M2 at *
          have u2 : Ex L3 M2 := u1.trans (by rw [← hM2]; exact Ex.new nt1)
          have g1 : M2 t1 = some (.tup (ks.map V.str)) := by rw [← hM2]; exact upd_same
          refine ⟨_, rfl, aw, wz, rfl, .inl (ex_t u2 tw3), by omega, fun w1 p2 pm2 so2 n2 => ⟨p2, _, rfl, .inl ⟨SqL.of upd_same, fun t2 nt2 => ?_⟩⟩⟩
          obtain rfl : ws = w1 := sort_one (List.Perm.refl _) s2 ⟨pm2, so2⟩
          generalize hM3 : upd M2 p2 (.lst (ws.map V.str)) = M3 at *
          have u3 : Ex M2 M3 := by rw [← hM3]; exact Ex.new n2
          generalize hM4 : upd M3 t2 (.tup (ws.map V.str)) = M4 at *
          have u4 : Ex M2 M4 := u3.trans (by rw [← hM4]; exact Ex.new nt2)
          have g2 : M4 t2 = some (.tup (ws.map V.str)) := by rw [← hM4]; exact upd_same
          have u24 := u2.trans u4
          refine ⟨_, rfl, _, rfl, ak, kz, rfl, .inl (ex_t u24 tk3), by omega, fun k2 p3 pm3 so3 n3 => ?_⟩
          obtain rfl : ks = k2 := sort_one (List.Perm.refl _) s1 ⟨pm3, so3⟩
          generalize hM5 : upd M4 p3 (.lst (ks.map V.str)) = M5 at *
          have u5 : Ex M4 M5 := by rw [← hM5]; exact Ex.new n3
          have g3 : M5 p3 = some (.lst (ks.map V.str)) := by rw [← hM5]; exact upd_same
          refine ⟨_, rfl, aw, wz, rfl, .inl (ex_t (u24.trans u5) tw3), by omega, fun w2 p4 pm4 so4 n4 => ?_⟩
          obtain rfl : ws = w2 := sort_one (List.Perm.refl _) s2 ⟨pm4, so4⟩
          have ok1 : OkS ks := (nk.perm s1.1).ok
          have ok2 : OkS ws := (nw.perm s2.1).ok
          generalize hM6 : upd M5 p4 (.lst (ws.map V.str)) = M6 at *
          have u6 : Ex M5 M6 := by rw [← hM6]; exact Ex.new n4
          have g4 : M6 p4 = some (.lst (ws.map V.str)) := by rw [← hM6]; exact upd_same
          refine ⟨_, _, .lst (SqL.of (u6 _ _ g3)) (dpAll_strs ks), .lst (SqL.of g4) (dpAll_strs ws), shaped_ls ok1, shaped_ls ok2, (by show 4 ≤ sizeLine; decide), fun p5 n5 => ?_⟩
          rw [eqv_lists]
          generalize hM7 : upd M6 p5 _ = M7
          have u7 : Ex M6 M7 := by rw [← hM7]; exact Ex.new n5
          have g5 : M7 p5 = some (.lst [.ref t1, .ref t2, .str (sheetStr kz.length wz.length), .bl (decide (ks = ws))]) := by rw [← hM7]; exact upd_same
          have u47 := (u5.trans u6).trans u7
          have u27 := u4.trans u47
          have u37 := u2.trans u27
          have due : Dp K M7 (.ref p5) (metD ks ws) := by
            refine .lst (SqL.of g5) (.cons (.tup (SqT.of (u27 _ _ g1)) (dpAll_strs ks)) (.cons (.tup (SqT.of (u47 _ _ g2)) (dpAll_strs ws)) (.cons ?_ (.cons (.bl _) .nil))))
            rw [ks3, ws3]
            exact .str _
          refine ⟨_, _, dp_ex u37 _ _ hmv, due, met_shaped ok1 ok2 (by omega) (by omega), met_shaped ok1 ok2 (by omega) (by omega), _, rfl, ?_⟩
          rw [met_self]
          refine if_f rfl ?_
          have tk7 := ex_t u37 tk3
          have tw7 := ex_t u37 tw3
          have x7 : Ex H M7 := (xL.trans f3).trans u37
          -- one and same
          refine ⟨_, rfl, _, rfl, mk_ok (dv_names tk7) (dv_names tw7) nk nw fun o N1 ko wo v1' s3 s4 ho => ?_⟩
          obtain rfl : ks = ko := sort_one (List.Perm.refl _) s1 s3
          obtain rfl : ws = wo := sort_one (List.Perm.refl _) s2 s4
          have x8 := x7.trans v1'
          have tk8 := ex_t v1' tk7
          have tw8 := ex_t v1' tw7
          refine ⟨_, rfl, _, rfl, a, ak, _, rfl, x8 _ _ ha, .inr tk8, by rw [List.length_map]; omega, fun ys q1 N2 pm5 v2 hq1 => ?_⟩
          obtain ⟨yk, pyk, rfl⟩ := perm_map pm5
          refine ⟨q1, _, rfl, .inl ⟨SqL.of hq1, fun r1 nr1 => ?_⟩⟩
          generalize hN3 : upd N2 r1 (.tup (yk.map V.str)) = N3 at *
          have v3 : Ex N1 N3 := v2.trans (by rw [← hN3]; exact Ex.new nr1)
          have gr1 : N3 r1 = some (.tup (yk.map V.str)) := by rw [← hN3]; exact upd_same
          refine ⟨_, rfl, _, rfl, a, aw, _, rfl, v3 _ _ (x8 _ _ ha), .inr (ex_t v3 tw8), by rw [List.length_map]; omega, fun ys2 q2 N4 pm6 v4 hq2 => ?_⟩
          obtain ⟨yw, pyw, rfl⟩ := perm_map pm6
          refine ⟨q2, _, rfl, .inl ⟨SqL.of hq2, fun r2 nr2 => ?_⟩⟩
          generalize hN5 : upd N4 r2 (.tup (yw.map V.str)) = N5 at *
          have v5 : Ex N3 N5 := v4.trans (by rw [← hN5]; exact Ex.new nr2)
          have gr2 : N5 r2 = some (.tup (yw.map V.str)) := by rw [← hN5]; exact upd_same
          refine mk_ok (dv_names (SqT.of (v5 _ _ gr1))) (dv_names (SqT.of gr2)) (nk.perm pyk) (nw.perm pyw) fun o2 N6 k6 w6 v6 s5 s6 ho2 => ?_
          obtain rfl : ks = k6 := sort_one pyk.symm s1 s5
          obtain rfl : ws = w6 := sort_one pyw.symm s2 s6
          refine ⟨_, _, rfl, ?_⟩
          have v16 := (v3.trans v5).trans v6
          have x9 := x8.trans v16
          have tk9 := ex_t v16 tk8
          have tw9 := ex_t v16 tw8
          have ho9 := ho.ex v16
          -- more
          refine ⟨_, rfl, _, rfl, mk_ok (dv_names tw9) (dv_names tw9) (nw.le (by decide)) nw fun b1 R1 kb1 wb1 z1' sb1 sb1' hb1 => ?_⟩
          refine ⟨_, rfl, _, rfl, slA_ok (k := 1) (ex_t z1' tk9) fun sl1 R2 z2' hsl1 => ?_⟩
          rw [map_take] at hsl1
          have z12 := z1'.trans z2'
          refine ⟨_, rfl, mk_ok (dv_names hsl1) (dv_names (ex_t z12 tw9)) ((nk.take (k := 1) (by decide)).le (by decide)) nw fun b2 R3 kb2 wb2 z3' sb2 sb2' hb2 => ?_⟩
          have z13 := z12.trans z3'
          refine ⟨_, rfl, _, rfl, _, rfl, slA_ok (k := 2) (ex_t z13 tk9) fun sl2 R4 z4' hsl2 => ?_⟩
          rw [map_take] at hsl2
          have z14 := z13.trans z4'
          refine mk_ok (dv_names (ex_t z14 tk9)) (dv_names hsl2) nk (nk.take (k := 2) (by decide)) fun b3 R5 kb3 wb3 z5' sb3 sb3' hb3 => ?_
          have z15 := z14.trans z5'
          refine ⟨(by show 2 ≤ sizeLine; decide), fun tq ntq => ⟨_, rfl, ?_⟩⟩
          generalize hR6 : upd R5 tq (.tup [.str "a", .str "q"]) = R6 at *
          have z6' : Ex R5 R6 := by rw [← hR6]; exact Ex.new ntq
          have gtq : R6 tq = some (.tup ((["a", "q"] : List Str).map V.str)) := by rw [← hR6]; exact upd_same
          have z16 := z15.trans z6'
          have naq : Nm (["a", "q"] : List Str) 3 := ⟨by decide, by decide, by decide +kernel, by decide +kernel⟩
          refine mk_ok (dv_names (SqT.of gtq)) (dv_names (ex_t z16 tw9)) naq nw fun b4 R7 kb4 wb4 z7' sb4 sb4' hb4 => ?_
          refine ⟨(by show 4 ≤ sizeLine; decide), fun pm npm => ?_⟩
          generalize hS0 : upd R7 pm (.lst [.ref b1, .ref b2, .ref b3, .ref b4]) = S0 at *
          have z8' : Ex R7 S0 := by rw [← hS0]; exact Ex.new npm
          have gpm : S0 pm = some (.lst [.ref b1, .ref b2, .ref b3, .ref b4]) := by rw [← hS0]; exact upd_same
          have z78 := z7'.trans z8'
          have z68 := z6'.trans z78
          have z58 := z5'.trans z68
          have z48 := z4'.trans z58
          have z38 := z3'.trans z48
          have z28 := z2'.trans z38
          have z18 := z1'.trans z28
          have hoS := ho9.ex z18
          have ho2S := ho2.ex z18
          have tkS := ex_t z18 tk9
          have xS := x9.trans z18
          have others : ∀ x ∈ [V.ref b1, .ref b2, .ref b3, .ref b4], ∃ b ks' ws', x = V.ref b ∧ SheetAt AA.C_Sheet S0 b ks' ws' ∧ OkS ks' ∧ OkS ws' := by
            intro x hx
            simp only [List.mem_cons, List.not_mem_nil, or_false] at hx
            rcases hx with rfl | rfl | rfl | rfl
            · exact ⟨b1, kb1, wb1, rfl, hb1.ex z28, (nw.perm sb1.1).ok, (nw.perm sb1'.1).ok⟩
            · exact ⟨b2, kb2, wb2, rfl, hb2.ex z48, ((nk.take (k := 1) (by decide)).perm sb2.1).ok, (nw.perm sb2'.1).ok⟩
            · exact ⟨b3, kb3, wb3, rfl, hb3.ex z68, (nk.perm sb3.1).ok, ((nk.take (k := 2) (by decide)).perm sb3'.1).ok⟩
            · exact ⟨b4, kb4, wb4, rfl, hb4.ex z8', (naq.perm sb4.1).ok, (nw.perm sb4'.1).ok⟩
          refine ⟨_, rfl, pm, rfl, ⟨_, SqL.of gpm⟩, for_list (K := K) (a := pm) (xs := [.ref b1, .ref b2, .ref b3, .ref b4]) (fun k σ J => ∃ v4 v10 : Option V, σ = [some (.ref a), v1, some (.str (sheetStr kz.length wz.length)), some (.ref pm), v4, some (.ref ak), some (.ref aw), v7, some (.ref o), some (.ref o2), v10] ∧ Ex S0 J)
            ⟨none, none, rfl, Ex.refl _⟩ (fun k σ J _ ⟨_, _, _, e⟩ => ex_l e (SqL.of gpm)) ?_ ?_⟩
          · rintro k x σ J hx ⟨v4, v10, rfl, e⟩
            obtain ⟨b, ks', ws', rfl, hb, ok3, ok4⟩ := others x (List.mem_of_getElem? hx)
            have hb' := hb.ex e
            have ho' := hoS.ex e
            obtain ⟨db, fb, pkb, pwb, b1', b2', b3', b4', b5'⟩ := hb'.at_
            obtain ⟨dxo, fo, pko, pwo, o1', o2', o3', o4', o5'⟩ := ho'.at_
            have test : ∀ due : Bool, due = decide (some (ks', ws') = some (ks, ws)) → ∀ (D : Ends), (∀ J', Ex J J' → D.nx [some (.ref a), v1, some (.str (sheetStr kz.length wz.length)), some (.ref pm), some (.ref b), some (.ref ak), some (.ref aw), v7, some (.ref o), some (.ref o2), some (.bl due)] J') →
                tIfS (tOr (tTest (tOp rNe (tOp (rOwnC K AA.C_Sheet (spEqS K AA.C_Sheet) id) (tVar 8) (tVar 4)) (tVar 10))) (tTest (tOp rEq (tOp (rOwnC K AA.C_Sheet (spEqS K AA.C_Sheet) not) (tVar 8) (tVar 4)) (tVar 10)))) (tRet (tC (V.bl false))) tNext D
                  [some (.ref a), v1, some (.str (sheetStr kz.length wz.length)), some (.ref pm), some (.ref b), some (.ref ak), some (.ref aw), v7, some (.ref o), some (.ref o2), some (.bl due)] J := by
              intro due hdue D hD
              subst hdue
              refine ⟨_, rfl, _, rfl, o, dxo, fo, _, rfl, o1', T.I_Sheet.ty b1', not_first_self, o, .ref b, ks, ws, some (ks', ws'), rfl, ho', ok1, ok2, .inr ⟨b, ks', ws', rfl, hb', ok3, ok4, rfl⟩, _, rfl, _, rfl, rfl, _, rfl, ?_⟩
              rw [show (!decide (V.bl (id (decide (some (ks', ws') = some (ks, ws)))) = V.bl (decide (some (ks', ws') = some (ks, ws))))) = false from not_self _]
              refine if_f rfl ?_
              refine ⟨_, rfl, _, rfl, o, dxo, fo, _, rfl, o1', T.I_Sheet.ty b1', not_first_self, o, .ref b, ks, ws, some (ks', ws'), rfl, ho', ok1, ok2, .inr ⟨b, ks', ws', rfl, hb', ok3, ok4, rfl⟩, _, rfl, _, rfl, rfl, _, rfl, ?_⟩
              have e1 : decide (V.bl (!decide (some (ks', ws') = some (ks, ws))) = V.bl (decide (some (ks', ws') = some (ks, ws)))) = false := by
                cases decide (some (ks', ws') = some (ks, ws)) <;> decide
              rw [e1]
              exact if_f rfl (hD J (Ex.refl _))
            refine ⟨_, rfl, b, db, fb, rfl, b1', b, db, fb, _, rfl, b1', b2', _, rfl, o, dxo, fo, rfl, o1', o, dxo, fo, _, rfl, o1', o2', _, _, .tup (SqT.of b4') (dpAll_strs ks'), .tup (SqT.of o4') (dpAll_strs ks), shaped_ts ok3, shaped_ts ok1, _, rfl, ?_⟩
            rw [eqv_tups]
            by_cases c1 : ks' = ks
            · refine if_t (decide_eq_true c1) ?_
              refine ⟨_, rfl, b, db, fb, rfl, b1', b, db, fb, _, rfl, b1', b3', _, rfl, o, dxo, fo, rfl, o1', o, dxo, fo, _, rfl, o1', o3', _, _, .tup (SqT.of b5') (dpAll_strs ws'), .tup (SqT.of o5') (dpAll_strs ws), shaped_ts ok4, shaped_ts ok2, ?_⟩
              rw [eqv_tups]
              refine test _ (decide_eq_decide.mpr ⟨fun z => by rw [c1, z], fun z => (Prod.mk.inj (Option.some.inj z)).2⟩) _ fun J' e' => ⟨_, _, rfl, e.trans e'⟩
            · refine if_f (decide_eq_false c1) ?_
              refine test _ (decide_eq_false fun z => c1 (Prod.mk.inj (Option.some.inj z)).1).symm _ fun J' e' => ⟨_, _, rfl, e.trans e'⟩
          · rintro σ J ⟨v4, v10, rfl, e⟩
            have ho' := hoS.ex e
            have ho2' := ho2S.ex e
            have tkJ := ex_t e tkS
            have xE := xS.trans e
            obtain ⟨dxo, fo, pko, pwo, o1', o2', o3', o4', o5'⟩ := ho'.at_
            obtain ⟨dy, gy, pky, pwy, y1', y2', y3', y4', y5'⟩ := ho2'.at_
            -- one != same
            refine ⟨_, rfl, _, rfl, o, dxo, fo, _, rfl, o1', T.I_Sheet.ty y1', not_first_self, o, .ref o2, ks, ws, some (ks, ws), rfl, ho', ok1, ok2, .inr ⟨o2, ks, ws, rfl, ho2', ok1, ok2, rfl⟩, _, rfl, _, rfl, ?_⟩
            rw [decide_eq_true rfl]
            refine if_f rfl ?_
            -- not one == same
            refine ⟨_, rfl, _, rfl, o, dxo, fo, _, rfl, o1', T.I_Sheet.ty y1', not_first_self, o, .ref o2, ks, ws, some (ks, ws), rfl, ho', ok1, ok2, .inr ⟨o2, ks, ws, rfl, ho2', ok1, ok2, rfl⟩, _, rfl, _, rfl, ?_⟩
            rw [decide_eq_true rfl]
            refine if_f rfl ?_
            -- one == kinds
            refine ⟨_, rfl, _, rfl, o, dxo, fo, _, rfl, o1', tyX_of (dv_names tkJ), not_first (namesD kz), o, .ref ak, ks, ws, none, rfl, ho', ok1, ok2, .inl ⟨_, dv_names tkJ, rfl⟩, _, rfl, _, rfl, ?_⟩
            rw [decide_eq_false (fun z => by cases z)]
            refine if_f rfl ?_
            -- one == (one.kinds, one.words)
            refine ⟨_, rfl, _, rfl, o, dxo, fo, rfl, o1', o, dxo, fo, _, rfl, o1', o2', _, rfl, o, dxo, fo, rfl, o1', o, dxo, fo, _, rfl, o1', o3', (by show 2 ≤ sizeLine; decide), fun tt ntt => ?_⟩
            generalize hS1 : upd J tt (.tup [.ref pko, .ref pwo]) = S1 at *
            have w1 : Ex J S1 := by rw [← hS1]; exact Ex.new ntt
            have gtt : S1 tt = some (.tup [.ref pko, .ref pwo]) := by rw [← hS1]; exact upd_same
            have dtt : Dv K S1 (.ref tt) (.tuple [.tuple (ks.map PyData.str), .tuple (ws.map PyData.str)]) := .inl (.tup (SqT.of gtt) (.cons (.tup (SqT.of (w1 _ _ o4')) (dpAll_strs ks)) (.cons (.tup (SqT.of (w1 _ _ o5')) (dpAll_strs ws)) .nil)))
            have ho3 := ho'.ex w1
            refine ⟨o, dxo, fo, _, rfl, w1 _ _ o1', tyX_of dtt, not_first (.tuple _), o, .ref tt, ks, ws, none, rfl, ho3, ok1, ok2, .inl ⟨_, dtt, rfl⟩, _, rfl, _, rfl, ?_⟩
            rw [decide_eq_false (fun z => by cases z)]
            refine if_f rfl ?_
            -- one == str(one)
            refine ⟨_, rfl, _, rfl, o, dxo, fo, rfl, w1 _ _ o1', o, ks, ws, rfl, ho3, by omega, by omega, _, rfl, ?_⟩
            refine ⟨o, dxo, fo, _, rfl, w1 _ _ o1', tyX_of (.inl (.str _)), not_first (.str _), o, .str _, ks, ws, none, rfl, ho3, ok1, ok2, .inl ⟨_, .inl (.str _), rfl⟩, _, rfl, _, rfl, ?_⟩
            rw [decide_eq_false (fun z => by cases z)]
            refine if_f rfl ?_
            -- return one.kinds == tuple(sorted(kinds))
            refine ⟨_, rfl, o, dxo, fo, rfl, w1 _ _ o1', o, dxo, fo, _, rfl, w1 _ _ o1', o2', _, rfl, ak, kz, rfl, .inl (ex_t w1 tkJ), by omega, fun k9 p9 pm9 so9 n9 => ⟨p9, _, rfl, .inl ⟨SqL.of upd_same, fun t9 nt9 => ?_⟩⟩⟩
            obtain rfl : ks = k9 := sort_one (List.Perm.refl _) s1 ⟨pm9, so9⟩
            have w2 : Ex S1 (upd (upd S1 p9 (.lst (ks.map V.str))) t9 (.tup (ks.map V.str))) := (Ex.new n9).trans (Ex.new nt9)
            refine ⟨_, _, .tup (SqT.of (w2 _ _ (w1 _ _ o4'))) (dpAll_strs ks), .tup (SqT.of upd_same) (dpAll_strs ks), shaped_ts ok1, shaped_ts ok1, ?_⟩
            rw [eqv_tups, decide_eq_true rfl]
            exact q _ ((xE.trans w1).trans w2)
end
end K1
namespace K1
open PySem L2 Kd Evl Ks
def spLaw (K : PySem.W.Frag) : Sp := fun vs H Q _ => ∃ (a : Addr) (ns : List Int), vs = [.ref a] ∧ SqL K H a (ns.map V.int) ∧ ns.length ≤ 63 ∧ ∀ H', Q (.bl true) H'
theorem sort_ba : IsSort ["b", "a"] ["a", "b"] := ⟨List.Perm.swap _ _ _, by decide +kernel⟩
theorem sort_z : IsSort ["z"] ["z"] := ⟨List.Perm.refl _, by decide +kernel⟩
def toldD : PyData := .list [metD ["a", "b"] ["z"], .str "invalid", .str "invalid"]
def dueD : PyData := .list [.list [.tuple [.str "a", .str "b"], .tuple [.str "z"], .str "sheet of 2 kinds, 1 words", .bool false], .str "invalid", .str "invalid"]
theorem told_due : PyData.eqv toldD dueD = true ∧ SeqAt.shaped toldD = true ∧ SeqAt.shaped dueD = true := by decide +kernel
theorem few_of {zs : List Str} (h1 : zs.length ≤ 1000) (h2 : ∀ z ∈ zs, z.length ≤ 1000 ∧ PyData.strOk z = true) : fewD (namesD zs) := fun ds e => by
  cases e
  rw [List.length_map]
  refine ⟨h1, fun x hx => ?_⟩
  obtain ⟨z, hz, rfl⟩ := List.mem_map.mp hx
  intro y e
  cases e
  exact h2 z hz
section
variable {P : Program} {w : World} {K : PySem.W.Frag} {mg : Str → Option Value} {base : Heap} {AA : Ads}
theorem ok_law (T : Txt K mg AA) : FnG P w K mg base 9 AA.a_law AA.d_law ["_law_script"] (spLaw K) := by
  have G_law_dice : FnOk P w K mg base CX0 1 AA.a_law_dice AA.d_law_dice ["_law_script", "_law_at"] (spDice K) := ok_law_dice T
  have G_law_met : FnOk P w K mg base CX0 6 AA.a_law_met AA.d_law_met ["_law_kinds", "_law_words"] (spMet K) := ok_law_met T
  have G_law_right : FnG P w K mg base 8 AA.a_law_right AA.d_law_right ["_law_dice_here"] spRight := ok_law_right T
  refine fnG_of T.F_law sc_law (fun vs H Q E h => ?_) (fun cdv A outer s H vs Q E hG hr h => ?_)
  · obtain ⟨a, ns, rfl, _⟩ := h
    rfl
  · obtain ⟨a, ns, rfl, hS, hlen, q⟩ := h
    have hu : _ + 64 < cLine := hu64 hr
    refine ⟨_, (pss_cons (ps_for PassesOwn.never rfl (pi_range1 rfl T.n_range (pa_cons (pe_callB (call_max2 rfl) (by rfl) T.n_max (by decide +kernel) (pa_cons pe_int (pa_cons (pe_callB (call_min2 rfl) (by rfl) T.n_min (by decide +kernel) (pa_cons pe_int (pa_cons (pe_callB call_len_seq (by rfl) T.n_len (by decide +kernel) (pa_cons (pv 0) pa_nil)) pa_nil))) pa_nil))) pa_nil)) (pg_name (i := 1) sc_law.nd rfl (Or.inl rfl))
      (pss_cons (ps_set (i := 3) sc_law.nd rfl (Or.inl rfl) (pe_call G_law_dice (hr.mono (by decide)) (by rfl) T.g_law_dice T.k_law_dice T.b_law_dice .nil pass0 (pa_cons (pv 0) (pa_cons (pv 1) pa_nil))))
    (pss_one (ps_for PassesOwn.never rfl (pi_range1 rfl T.n_range (pa_cons pe_int pa_nil)) (pg_name (i := 4) sc_law.nd rfl (Or.inl rfl))
      (pss_one (ps_if (pt_not (pt_val (pe_callG G_law_right hG (hr.mono (by decide)) (by rfl) T.g_law_right T.k_law_right T.b_law_right (pa_cons (pv 3) pa_nil)))) (pss_one (ps_ret pe_bl)) pss_nil))))))
    (pss_cons (ps_set (i := 2) sc_law.nd rfl (Or.inl rfl) (pe_lst (pa_cons (pe_call G_law_met (hr.mono (by decide)) (by rfl) T.g_law_met T.k_law_met T.b_law_met .nil pass0 (pa_cons (pe_tup (pa_cons pe_str (pa_cons pe_str pa_nil))) (pa_cons (pe_tup (pa_cons pe_str pa_nil)) pa_nil))) (pa_cons (pe_call G_law_met (hr.mono (by decide)) (by rfl) T.g_law_met T.k_law_met T.b_law_met .nil pass0 (pa_cons (pe_tup (pa_cons pe_str (pa_cons pe_str (pa_cons pe_str (pa_cons pe_str pa_nil))))) (pa_cons (pe_tup (pa_cons pe_str pa_nil)) pa_nil))) (pa_cons (pe_call G_law_met (hr.mono (by decide)) (by rfl) T.g_law_met T.k_law_met T.b_law_met .nil pass0 (pa_cons (pe_tup (pa_cons pe_str pa_nil)) (pa_cons (pe_tup (pa_cons pe_str (pa_cons pe_str (pa_cons pe_str pa_nil)))) pa_nil))) pa_nil)))))
    (pss_one (ps_ret (pe_cmpR (op_eqD hu) (pv 2) (pe_lst (pa_cons (pe_lst (pa_cons (pe_tup (pa_cons pe_str (pa_cons pe_str pa_nil))) (pa_cons (pe_tup (pa_cons pe_str pa_nil)) (pa_cons pe_str (pa_cons pe_bl pa_nil))))) (pa_cons pe_str (pa_cons pe_str pa_nil)))) (nomark _)))))), ?_⟩
    refine ⟨_, rfl, a, _, rfl, .inl hS, _, _, rfl, _, _, rfl, _, rfl, ?_, ?_, ?_⟩
    · split <;> split <;> omega
    · rw [List.length_map]
      split <;> split <;> omega
    refine for_range (fun k σ J => ∃ v1 v3 v4 : Option V, σ = [some (.ref a), v1, none, v3, v4] ∧ Ex H J) ⟨none, none, none, rfl, Ex.refl _⟩ ?_ ?_
    · rintro k σ J hk ⟨v1, v3, v4, rfl, e⟩
      refine ⟨_, rfl, _, rfl, a, ns, _, rfl, ex_l e hS, by omega, fun p hp => ?_⟩
      have e1 : Ex J (upd J p (diceO p)) := Ex.new hp
      generalize hJ1 : upd J p (diceO p) = J1 at *
      have g1 : J1 p = some (diceO p) := by rw [← hJ1]; exact upd_same
      refine ⟨4, rfl, by decide, by decide, ?_⟩
      refine for_range (fun k2 σ J2 => ∃ v4 : Option V, σ = [some (.ref a), some (.int (0 + (k : Int))), none, some (.ref p), v4] ∧ Ex J1 J2) ⟨v4, rfl, Ex.refl _⟩ ?_ ?_
      · rintro k2 σ J2 hk2 ⟨v4, rfl, e2⟩
        refine ⟨_, rfl, p, rfl, e2 _ _ g1, fun J3 e3 => ⟨_, rfl, if_f rfl ⟨_, rfl, e2.trans e3⟩⟩⟩
      · rintro σ J2 ⟨v4, rfl, e2⟩
        exact ⟨_, _, _, rfl, (e.trans e1).trans e2⟩
    · rintro σ J ⟨v1, v3, v4, rfl, e⟩
      refine ⟨(by show 2 ≤ sizeLine; decide), fun t1 n1 => ⟨(by show 1 ≤ sizeLine; decide), fun t2 n2 => ?_⟩⟩
      generalize hA1 : upd J t1 (.tup [.str "b", .str "a"]) = A1 at *
      have x1 : Ex J A1 := by rw [← hA1]; exact Ex.new n1
      have g1 : A1 t1 = some (.tup ((["b", "a"] : List Str).map V.str)) := by rw [← hA1]; exact upd_same
      generalize hA2 : upd A1 t2 (.tup [.str "z"]) = A2 at *
      have x2 : Ex A1 A2 := by rw [← hA2]; exact Ex.new n2
      have g2 : A2 t2 = some (.tup ((["z"] : List Str).map V.str)) := by rw [← hA2]; exact upd_same
      refine ⟨.ref t1, .ref t2, namesD ["b", "a"], namesD ["z"], rfl, dv_names (SqT.of (x2 _ _ g1)), dv_names (SqT.of g2), few_of (by decide) (by decide +kernel), few_of (by decide) (by decide +kernel), fun _ ks ws mv A3 s1 s2 x3 hmv => ?_, fun hb => absurd hb (by decide +kernel)⟩
      obtain rfl : (["a", "b"] : List Str) = ks := sort_one (List.Perm.refl _) sort_ba s1
      obtain rfl : (["z"] : List Str) = ws := sort_one (List.Perm.refl _) sort_z s2
      refine ⟨(by show 4 ≤ sizeLine; decide), fun t3 n3 => ⟨(by show 1 ≤ sizeLine; decide), fun t4 n4 => ?_⟩⟩
      generalize hA4 : upd A3 t3 (.tup [.str "a", .str "b", .str "c", .str "d"]) = A4 at *
      have x4 : Ex A3 A4 := by rw [← hA4]; exact Ex.new n3
      have g3 : A4 t3 = some (.tup ((["a", "b", "c", "d"] : List Str).map V.str)) := by rw [← hA4]; exact upd_same
      generalize hA5 : upd A4 t4 (.tup [.str "z"]) = A5 at *
      have x5 : Ex A4 A5 := by rw [← hA5]; exact Ex.new n4
      have g4 : A5 t4 = some (.tup ((["z"] : List Str).map V.str)) := by rw [← hA5]; exact upd_same
      refine ⟨.ref t3, .ref t4, namesD ["a", "b", "c", "d"], namesD ["z"], rfl, dv_names (SqT.of (x5 _ _ g3)), dv_names (SqT.of g4), few_of (by decide) (by decide +kernel), few_of (by decide) (by decide +kernel), fun hb => absurd hb (by decide +kernel), fun _ A6 x6 => ?_⟩
      refine ⟨(by show 1 ≤ sizeLine; decide), fun t5 n5 => ⟨(by show 3 ≤ sizeLine; decide), fun t6 n6 => ?_⟩⟩
      generalize hA7 : upd A6 t5 (.tup [.str "a"]) = A7 at *
      have x7 : Ex A6 A7 := by rw [← hA7]; exact Ex.new n5
      have g5 : A7 t5 = some (.tup ((["a"] : List Str).map V.str)) := by rw [← hA7]; exact upd_same
      generalize hA8 : upd A7 t6 (.tup [.str "x", .str "y", .str "z"]) = A8 at *
      have x8 : Ex A7 A8 := by rw [← hA8]; exact Ex.new n6
      have g6 : A8 t6 = some (.tup ((["x", "y", "z"] : List Str).map V.str)) := by rw [← hA8]; exact upd_same
      refine ⟨.ref t5, .ref t6, namesD ["a"], namesD ["x", "y", "z"], rfl, dv_names (SqT.of (x8 _ _ g5)), dv_names (SqT.of g6), few_of (by decide) (by decide +kernel), few_of (by decide) (by decide +kernel), fun hb => absurd hb (by decide +kernel), fun _ A9 x9 => ?_⟩
      refine ⟨(by show 3 ≤ sizeLine; decide), fun pt npt => ?_⟩
      generalize hB0 : upd A9 pt (.lst [mv, .str "invalid", .str "invalid"]) = B0 at *
      have y0 : Ex A9 B0 := by rw [← hB0]; exact Ex.new npt
      have gpt : B0 pt = some (.lst [mv, .str "invalid", .str "invalid"]) := by rw [← hB0]; exact upd_same
      have up : Ex A3 B0 := ((((x4.trans x5).trans x6).trans (x7.trans x8)).trans x9).trans y0
      have dt : Dp K B0 (.ref pt) toldD := .lst (SqL.of gpt) (.cons (dp_ex up _ _ hmv) (.cons (.str _) (.cons (.str _) .nil)))
      refine ⟨_, rfl, (by show 2 ≤ sizeLine; decide), fun u1 m1 => ⟨(by show 1 ≤ sizeLine; decide), fun u2 m2 => ⟨(by show 4 ≤ sizeLine; decide), fun u3 m3 => ⟨(by show 3 ≤ sizeLine; decide), fun u4 m4 => ?_⟩⟩⟩⟩
      generalize hB1 : upd B0 u1 (.tup [.str "a", .str "b"]) = B1 at *
      have y1 : Ex B0 B1 := by rw [← hB1]; exact Ex.new m1
      have h1 : B1 u1 = some (.tup [.str "a", .str "b"]) := by rw [← hB1]; exact upd_same
      generalize hB2 : upd B1 u2 (.tup [.str "z"]) = B2 at *
      have y2 : Ex B1 B2 := by rw [← hB2]; exact Ex.new m2
      have h2 : B2 u2 = some (.tup [.str "z"]) := by rw [← hB2]; exact upd_same
      generalize hB3 : upd B2 u3 _ = B3 at *
      have y3 : Ex B2 B3 := by rw [← hB3]; exact Ex.new m3
      have h3 : B3 u3 = some (.lst [.ref u1, .ref u2, .str "sheet of 2 kinds, 1 words", .bl false]) := by rw [← hB3]; exact upd_same
      generalize hB4 : upd B3 u4 _ = B4
      have y4 : Ex B3 B4 := by rw [← hB4]; exact Ex.new m4
      have h4 : B4 u4 = some (.lst [.ref u3, .str "invalid", .str "invalid"]) := by rw [← hB4]; exact upd_same
      have dd : Dp K B4 (.ref u4) dueD := .lst (SqL.of h4) (.cons (.lst (SqL.of (y4 _ _ h3)) (.cons (.tup (SqT.of (y4 _ _ (y3 _ _ (y2 _ _ h1)))) (.cons (.str _) (.cons (.str _) .nil))) (.cons (.tup (SqT.of (y4 _ _ (y3 _ _ h2))) (.cons (.str _) .nil)) (.cons (.str _) (.cons (.bl _) .nil))))) (.cons (.str _) (.cons (.str _) .nil)))
      refine ⟨_, _, dp_ex (((y1.trans y2).trans y3).trans y4) _ _ dt, dd, told_due.2.1, told_due.2.2, ?_⟩
      rw [told_due.1]
      exact q _
end
theorem all_mk {l : PySem.W.OpenLaw} {w : World} {K : PySem.W.Frag} {h : Heap} {mg : Str → Option Value} {fa : Addr} {C_Sheet C_ShapeError C_InvalidSheet f_is_name f_are_names f_Sheet_init f_Sheet_kinds f_Sheet_words f_Sheet_eq f_Sheet_str f_law_dice f_law_roll f_law_one_of f_law_mixed f_law_is_name f_law_word f_law_names f_law_are_names f_law_met f_law_right f_law r_Sheet_kinds r_Sheet_words : Addr} (X : K.In h) (G : h.Ns mainGlobals mg) (hfa : mg "law" = some (.ref fa))
    {od_is_name an_is_name od_are_names an_are_names od_Sheet_init an_Sheet_init od_Sheet_kinds an_Sheet_kinds od_Sheet_words an_Sheet_words od_Sheet_eq an_Sheet_eq od_Sheet_str an_Sheet_str od_law_dice an_law_dice od_law_roll an_law_roll od_law_one_of an_law_one_of od_law_mixed an_law_mixed od_law_is_name an_law_is_name od_law_word an_law_word od_law_names an_law_names od_law_are_names an_law_are_names od_law_met an_law_met od_law_right an_law_right od_law an_law : Option Addr} {sl_is_name sl_are_names sl_Sheet_init sl_Sheet_kinds sl_Sheet_words sl_Sheet_eq sl_Sheet_str sl_law_dice sl_law_roll sl_law_one_of sl_law_mixed sl_law_is_name sl_law_word sl_law_names sl_law_are_names sl_law_met sl_law_right sl_law : Array (Option Value)} {oc_is_name kV_is_name dc_is_name pm_is_name cd_is_name ct_is_name oc_are_names kV_are_names dc_are_names pm_are_names cd_are_names ct_are_names oc_Sheet_init kV_Sheet_init dc_Sheet_init pm_Sheet_init cd_Sheet_init ct_Sheet_init oc_Sheet_kinds kV_Sheet_kinds dc_Sheet_kinds pm_Sheet_kinds cd_Sheet_kinds ct_Sheet_kinds oc_Sheet_words kV_Sheet_words dc_Sheet_words pm_Sheet_words cd_Sheet_words ct_Sheet_words oc_Sheet_eq kV_Sheet_eq dc_Sheet_eq pm_Sheet_eq cd_Sheet_eq ct_Sheet_eq oc_Sheet_str kV_Sheet_str dc_Sheet_str pm_Sheet_str cd_Sheet_str ct_Sheet_str oc_law_dice kV_law_dice dc_law_dice pm_law_dice cd_law_dice ct_law_dice oc_law_roll kV_law_roll dc_law_roll pm_law_roll cd_law_roll ct_law_roll oc_law_one_of kV_law_one_of dc_law_one_of pm_law_one_of cd_law_one_of ct_law_one_of oc_law_mixed kV_law_mixed dc_law_mixed pm_law_mixed cd_law_mixed ct_law_mixed oc_law_is_name kV_law_is_name dc_law_is_name pm_law_is_name cd_law_is_name ct_law_is_name oc_law_word kV_law_word dc_law_word pm_law_word cd_law_word ct_law_word oc_law_names kV_law_names dc_law_names pm_law_names cd_law_names ct_law_names oc_law_are_names kV_law_are_names dc_law_are_names pm_law_are_names cd_law_are_names ct_law_are_names oc_law_met kV_law_met dc_law_met pm_law_met cd_law_met ct_law_met oc_law_right kV_law_right dc_law_right pm_law_right cd_law_right ct_law_right oc_law kV_law dc_law pm_law cd_law ct_law : Value} {rs_Sheet_kinds rs_Sheet_words : List Value} {t_MAX_KINDS t_MAX_WORDS t_MAX_LETTERS t_LETTERS : Tok}
    (gC_Sheet : PySem.W.nsIn K mainGlobals "Sheet" = some (some (.ref C_Sheet)))
    (gC_ShapeError : PySem.W.nsIn K mainGlobals "ShapeError" = some (some (.ref C_ShapeError)))
    (gC_InvalidSheet : PySem.W.nsIn K mainGlobals "InvalidSheet" = some (some (.ref C_InvalidSheet)))
    (a_is_name : PySem.W.nsIn K mainGlobals "is_name" = some (some (.ref f_is_name)))
    (l_is_name : K.lookup f_is_name = some ⟨oc_is_name, od_is_name, .func (PySem.W.fnOf "is_name" "is_name" (defArgs s_is_name) (defBody s_is_name) (defScope s_is_name) .none kV_is_name dc_is_name pm_is_name an_is_name cd_is_name ct_is_name), sl_is_name⟩)
    (c_is_name : PySem.W.codeIn K cd_is_name "is_name" = true)
    (k_is_name : PySem.W.keepIn K (.ref f_is_name) = true)
    (a_are_names : PySem.W.nsIn K mainGlobals "are_names" = some (some (.ref f_are_names)))
    (l_are_names : K.lookup f_are_names = some ⟨oc_are_names, od_are_names, .func (PySem.W.fnOf "are_names" "are_names" (defArgs s_are_names) (defBody s_are_names) (defScope s_are_names) .none kV_are_names dc_are_names pm_are_names an_are_names cd_are_names ct_are_names), sl_are_names⟩)
    (c_are_names : PySem.W.codeIn K cd_are_names "are_names" = true)
    (k_are_names : PySem.W.keepIn K (.ref f_are_names) = true)
    (a_Sheet_init : PySem.W.findIn K (.ref C_Sheet) "__init__" = some (some (.ref f_Sheet_init)))
    (i_Sheet_init : PySem.W.isFn K (.ref f_Sheet_init) = true)
    (l_Sheet_init : K.lookup f_Sheet_init = some ⟨oc_Sheet_init, od_Sheet_init, .func (PySem.W.fnOf "__init__" "Sheet.__init__" (defArgs s_Sheet_init) (defBody s_Sheet_init) (defScope s_Sheet_init) .none kV_Sheet_init dc_Sheet_init pm_Sheet_init an_Sheet_init cd_Sheet_init ct_Sheet_init), sl_Sheet_init⟩)
    (c_Sheet_init : PySem.W.codeIn K cd_Sheet_init "Sheet.__init__" = true)
    (k_Sheet_init : PySem.W.keepIn K (.ref f_Sheet_init) = true)
    (at_Sheet_kinds : PySem.W.findIn K (.ref C_Sheet) "kinds" = some (some (.ref r_Sheet_kinds)))
    (gt_Sheet_kinds : PySem.W.specialIn K (.ref r_Sheet_kinds) "__get__" = some (some (.builtin "property.__get__")))
    (tk_Sheet_kinds : PySem.W.takesIn K (.ref r_Sheet_kinds) = some true)
    (rc_Sheet_kinds : PySem.W.recIn K r_Sheet_kinds "property" = some (.ref f_Sheet_kinds :: rs_Sheet_kinds))
    (l_Sheet_kinds : K.lookup f_Sheet_kinds = some ⟨oc_Sheet_kinds, od_Sheet_kinds, .func (PySem.W.fnOf "kinds" "Sheet.kinds" (defArgs s_Sheet_kinds) (defBody s_Sheet_kinds) (defScope s_Sheet_kinds) .none kV_Sheet_kinds dc_Sheet_kinds pm_Sheet_kinds an_Sheet_kinds cd_Sheet_kinds ct_Sheet_kinds), sl_Sheet_kinds⟩)
    (c_Sheet_kinds : PySem.W.codeIn K cd_Sheet_kinds "Sheet.kinds" = true)
    (k_Sheet_kinds : PySem.W.keepIn K (.ref f_Sheet_kinds) = true)
    (at_Sheet_words : PySem.W.findIn K (.ref C_Sheet) "words" = some (some (.ref r_Sheet_words)))
    (gt_Sheet_words : PySem.W.specialIn K (.ref r_Sheet_words) "__get__" = some (some (.builtin "property.__get__")))
    (tk_Sheet_words : PySem.W.takesIn K (.ref r_Sheet_words) = some true)
    (rc_Sheet_words : PySem.W.recIn K r_Sheet_words "property" = some (.ref f_Sheet_words :: rs_Sheet_words))
    (l_Sheet_words : K.lookup f_Sheet_words = some ⟨oc_Sheet_words, od_Sheet_words, .func (PySem.W.fnOf "words" "Sheet.words" (defArgs s_Sheet_words) (defBody s_Sheet_words) (defScope s_Sheet_words) .none kV_Sheet_words dc_Sheet_words pm_Sheet_words an_Sheet_words cd_Sheet_words ct_Sheet_words), sl_Sheet_words⟩)
    (c_Sheet_words : PySem.W.codeIn K cd_Sheet_words "Sheet.words" = true)
    (k_Sheet_words : PySem.W.keepIn K (.ref f_Sheet_words) = true)
    (a_Sheet_eq : PySem.W.findIn K (.ref C_Sheet) "__eq__" = some (some (.ref f_Sheet_eq)))
    (i_Sheet_eq : PySem.W.isFn K (.ref f_Sheet_eq) = true)
    (l_Sheet_eq : K.lookup f_Sheet_eq = some ⟨oc_Sheet_eq, od_Sheet_eq, .func (PySem.W.fnOf "__eq__" "Sheet.__eq__" (defArgs s_Sheet_eq) (defBody s_Sheet_eq) (defScope s_Sheet_eq) .none kV_Sheet_eq dc_Sheet_eq pm_Sheet_eq an_Sheet_eq cd_Sheet_eq ct_Sheet_eq), sl_Sheet_eq⟩)
    (c_Sheet_eq : PySem.W.codeIn K cd_Sheet_eq "Sheet.__eq__" = true)
    (k_Sheet_eq : PySem.W.keepIn K (.ref f_Sheet_eq) = true)
    (a_Sheet_str : PySem.W.findIn K (.ref C_Sheet) "__str__" = some (some (.ref f_Sheet_str)))
    (i_Sheet_str : PySem.W.isFn K (.ref f_Sheet_str) = true)
    (l_Sheet_str : K.lookup f_Sheet_str = some ⟨oc_Sheet_str, od_Sheet_str, .func (PySem.W.fnOf "__str__" "Sheet.__str__" (defArgs s_Sheet_str) (defBody s_Sheet_str) (defScope s_Sheet_str) .none kV_Sheet_str dc_Sheet_str pm_Sheet_str an_Sheet_str cd_Sheet_str ct_Sheet_str), sl_Sheet_str⟩)
    (c_Sheet_str : PySem.W.codeIn K cd_Sheet_str "Sheet.__str__" = true)
    (k_Sheet_str : PySem.W.keepIn K (.ref f_Sheet_str) = true)
    (a_law_dice : PySem.W.nsIn K mainGlobals "_law_dice" = some (some (.ref f_law_dice)))
    (l_law_dice : K.lookup f_law_dice = some ⟨oc_law_dice, od_law_dice, .func (PySem.W.fnOf "_law_dice" "_law_dice" (defArgs s_law_dice) (defBody s_law_dice) (defScope s_law_dice) .none kV_law_dice dc_law_dice pm_law_dice an_law_dice cd_law_dice ct_law_dice), sl_law_dice⟩)
    (c_law_dice : PySem.W.codeIn K cd_law_dice "_law_dice" = true)
    (k_law_dice : PySem.W.keepIn K (.ref f_law_dice) = true)
    (a_law_roll : PySem.W.nsIn K mainGlobals "_law_roll" = some (some (.ref f_law_roll)))
    (l_law_roll : K.lookup f_law_roll = some ⟨oc_law_roll, od_law_roll, .func (PySem.W.fnOf "_law_roll" "_law_roll" (defArgs s_law_roll) (defBody s_law_roll) (defScope s_law_roll) .none kV_law_roll dc_law_roll pm_law_roll an_law_roll cd_law_roll ct_law_roll), sl_law_roll⟩)
    (c_law_roll : PySem.W.codeIn K cd_law_roll "_law_roll" = true)
    (k_law_roll : PySem.W.keepIn K (.ref f_law_roll) = true)
    (a_law_one_of : PySem.W.nsIn K mainGlobals "_law_one_of" = some (some (.ref f_law_one_of)))
    (l_law_one_of : K.lookup f_law_one_of = some ⟨oc_law_one_of, od_law_one_of, .func (PySem.W.fnOf "_law_one_of" "_law_one_of" (defArgs s_law_one_of) (defBody s_law_one_of) (defScope s_law_one_of) .none kV_law_one_of dc_law_one_of pm_law_one_of an_law_one_of cd_law_one_of ct_law_one_of), sl_law_one_of⟩)
    (c_law_one_of : PySem.W.codeIn K cd_law_one_of "_law_one_of" = true)
    (k_law_one_of : PySem.W.keepIn K (.ref f_law_one_of) = true)
    (a_law_mixed : PySem.W.nsIn K mainGlobals "_law_mixed" = some (some (.ref f_law_mixed)))
    (l_law_mixed : K.lookup f_law_mixed = some ⟨oc_law_mixed, od_law_mixed, .func (PySem.W.fnOf "_law_mixed" "_law_mixed" (defArgs s_law_mixed) (defBody s_law_mixed) (defScope s_law_mixed) .none kV_law_mixed dc_law_mixed pm_law_mixed an_law_mixed cd_law_mixed ct_law_mixed), sl_law_mixed⟩)
    (c_law_mixed : PySem.W.codeIn K cd_law_mixed "_law_mixed" = true)
    (k_law_mixed : PySem.W.keepIn K (.ref f_law_mixed) = true)
    (a_law_is_name : PySem.W.nsIn K mainGlobals "_law_is_name" = some (some (.ref f_law_is_name)))
    (l_law_is_name : K.lookup f_law_is_name = some ⟨oc_law_is_name, od_law_is_name, .func (PySem.W.fnOf "_law_is_name" "_law_is_name" (defArgs s_law_is_name) (defBody s_law_is_name) (defScope s_law_is_name) .none kV_law_is_name dc_law_is_name pm_law_is_name an_law_is_name cd_law_is_name ct_law_is_name), sl_law_is_name⟩)
    (c_law_is_name : PySem.W.codeIn K cd_law_is_name "_law_is_name" = true)
    (k_law_is_name : PySem.W.keepIn K (.ref f_law_is_name) = true)
    (a_law_word : PySem.W.nsIn K mainGlobals "_law_word" = some (some (.ref f_law_word)))
    (l_law_word : K.lookup f_law_word = some ⟨oc_law_word, od_law_word, .func (PySem.W.fnOf "_law_word" "_law_word" (defArgs s_law_word) (defBody s_law_word) (defScope s_law_word) .none kV_law_word dc_law_word pm_law_word an_law_word cd_law_word ct_law_word), sl_law_word⟩)
    (c_law_word : PySem.W.codeIn K cd_law_word "_law_word" = true)
    (k_law_word : PySem.W.keepIn K (.ref f_law_word) = true)
    (a_law_names : PySem.W.nsIn K mainGlobals "_law_names" = some (some (.ref f_law_names)))
    (l_law_names : K.lookup f_law_names = some ⟨oc_law_names, od_law_names, .func (PySem.W.fnOf "_law_names" "_law_names" (defArgs s_law_names) (defBody s_law_names) (defScope s_law_names) .none kV_law_names dc_law_names pm_law_names an_law_names cd_law_names ct_law_names), sl_law_names⟩)
    (c_law_names : PySem.W.codeIn K cd_law_names "_law_names" = true)
    (k_law_names : PySem.W.keepIn K (.ref f_law_names) = true)
    (a_law_are_names : PySem.W.nsIn K mainGlobals "_law_are_names" = some (some (.ref f_law_are_names)))
    (l_law_are_names : K.lookup f_law_are_names = some ⟨oc_law_are_names, od_law_are_names, .func (PySem.W.fnOf "_law_are_names" "_law_are_names" (defArgs s_law_are_names) (defBody s_law_are_names) (defScope s_law_are_names) .none kV_law_are_names dc_law_are_names pm_law_are_names an_law_are_names cd_law_are_names ct_law_are_names), sl_law_are_names⟩)
    (c_law_are_names : PySem.W.codeIn K cd_law_are_names "_law_are_names" = true)
    (k_law_are_names : PySem.W.keepIn K (.ref f_law_are_names) = true)
    (a_law_met : PySem.W.nsIn K mainGlobals "_law_met" = some (some (.ref f_law_met)))
    (l_law_met : K.lookup f_law_met = some ⟨oc_law_met, od_law_met, .func (PySem.W.fnOf "_law_met" "_law_met" (defArgs s_law_met) (defBody s_law_met) (defScope s_law_met) .none kV_law_met dc_law_met pm_law_met an_law_met cd_law_met ct_law_met), sl_law_met⟩)
    (c_law_met : PySem.W.codeIn K cd_law_met "_law_met" = true)
    (k_law_met : PySem.W.keepIn K (.ref f_law_met) = true)
    (a_law_right : PySem.W.nsIn K mainGlobals "_law_right" = some (some (.ref f_law_right)))
    (l_law_right : K.lookup f_law_right = some ⟨oc_law_right, od_law_right, .func (PySem.W.fnOf "_law_right" "_law_right" (defArgs s_law_right) (defBody s_law_right) (defScope s_law_right) .none kV_law_right dc_law_right pm_law_right an_law_right cd_law_right ct_law_right), sl_law_right⟩)
    (c_law_right : PySem.W.codeIn K cd_law_right "_law_right" = true)
    (k_law_right : PySem.W.keepIn K (.ref f_law_right) = true)
    (a_law : PySem.W.nsIn K mainGlobals "law" = some (some (.ref f_law)))
    (l_law : K.lookup f_law = some ⟨oc_law, od_law, .func (PySem.W.fnOf "law" "law" (defArgs s_law) (defBody s_law) (defScope s_law) .none kV_law dc_law pm_law an_law cd_law ct_law), sl_law⟩)
    (c_law : PySem.W.codeIn K cd_law "law" = true)
    (k_law : PySem.W.keepIn K (.ref f_law) = true)
    (pg_Sheet : PySem.W.plainGet K C_Sheet Str.empty = true)
    (hd_Sheet : PySem.W.hasDictIn K C_Sheet = true)
    (po_Sheet : PySem.W.plainOver K C_Sheet = true)
    (sa_Sheet : PySem.W.findIn K (.ref C_Sheet) "__setattr__" = some (some (.builtin "object.__setattr__")))
    (cc_Sheet : PySem.W.findIn K (.ref C_Sheet) "__class__" = some (some (.builtin "object.__class__")))
    (cg_Sheet : PySem.W.specialIn K (.builtin "object.__class__") "__get__" = some (some (.builtin "getset_descriptor.__get__")))
    (ct_Sheet : PySem.W.takesIn K (.builtin "object.__class__") = some true)
    (mr_Sheet : PySem.W.mroIn K C_Sheet (.type "object") = some true)
    (ne_Sheet : PySem.W.findIn K (.ref C_Sheet) "__ne__" = some (some (.builtin "object.__ne__")))
    (ic_Sheet : PySem.W.isClsIn K C_Sheet = true)
    (it_Sheet : PySem.W.typeIn K (.ref C_Sheet) = some (.type "type"))
    (mk_Sheet : PySem.W.makesIn K C_Sheet = true)
    (kc_Sheet : PySem.W.keepIn K (.ref C_Sheet) = true)
    (n_Sheet_own_kinds : PySem.W.findIn K (.ref C_Sheet) "own_kinds" = some none)
    (n_Sheet_own_words : PySem.W.findIn K (.ref C_Sheet) "own_words" = some none)
    (x_ShapeError : PySem.W.excIn K C_ShapeError [.type "ValueError", .type "Exception", .type "BaseException", .type "object"] "ValueError.__new__" = true)
    (k_ShapeError : PySem.W.keepIn K (.ref C_ShapeError) = true)
    (s_ShapeError : PySem.W.subIn K (.ref C_ShapeError) (.type "BaseException") = some true)
    (t_ShapeError : PySem.W.typeIn K (.ref C_ShapeError) = some (.type "type"))
    (i_ShapeError : PySem.W.isClsIn K C_ShapeError = true)
    (ss_ShapeError : PySem.W.subIn K (.ref C_ShapeError) (.ref C_ShapeError) = some true)
    (x_InvalidSheet : PySem.W.excIn K C_InvalidSheet [.type "ValueError", .type "Exception", .type "BaseException", .type "object"] "ValueError.__new__" = true)
    (k_InvalidSheet : PySem.W.keepIn K (.ref C_InvalidSheet) = true)
    (s_InvalidSheet : PySem.W.subIn K (.ref C_InvalidSheet) (.type "BaseException") = some true)
    (t_InvalidSheet : PySem.W.typeIn K (.ref C_InvalidSheet) = some (.type "type"))
    (i_InvalidSheet : PySem.W.isClsIn K C_InvalidSheet = true)
    (ss_InvalidSheet : PySem.W.subIn K (.ref C_InvalidSheet) (.ref C_InvalidSheet) = some true)
    (v_MAX_KINDS : PySem.W.nsIn K mainGlobals "MAX_KINDS" = some (some (.int 3 t_MAX_KINDS)))
    (v_MAX_WORDS : PySem.W.nsIn K mainGlobals "MAX_WORDS" = some (some (.int 2 t_MAX_WORDS)))
    (v_MAX_LETTERS : PySem.W.nsIn K mainGlobals "MAX_LETTERS" = some (some (.int 8 t_MAX_LETTERS)))
    (v_LETTERS : PySem.W.nsIn K mainGlobals "LETTERS" = some (some (.str "abcdefghijklmnopqrstuvwxyz" t_LETTERS)))
    (z_abs : PySem.W.nsIn K mainGlobals "abs" = some none)
    (z_all : PySem.W.nsIn K mainGlobals "all" = some none)
    (z_bool : PySem.W.nsIn K mainGlobals "bool" = some none)
    (z_int : PySem.W.nsIn K mainGlobals "int" = some none)
    (z_isinstance : PySem.W.nsIn K mainGlobals "isinstance" = some none)
    (z_len : PySem.W.nsIn K mainGlobals "len" = some none)
    (z_list : PySem.W.nsIn K mainGlobals "list" = some none)
    (z_max : PySem.W.nsIn K mainGlobals "max" = some none)
    (z_min : PySem.W.nsIn K mainGlobals "min" = some none)
    (z_property : PySem.W.nsIn K mainGlobals "property" = some none)
    (z_range : PySem.W.nsIn K mainGlobals "range" = some none)
    (z_repr : PySem.W.nsIn K mainGlobals "repr" = some none)
    (z_set : PySem.W.nsIn K mainGlobals "set" = some none)
    (z_sorted : PySem.W.nsIn K mainGlobals "sorted" = some none)
    (z_str : PySem.W.nsIn K mainGlobals "str" = some none)
    (z_tuple : PySem.W.nsIn K mainGlobals "tuple" = some none)
    : ∃ fd : FuncData, (∀ (s : Shared) (v : Value), BindsTo s fd ⟨[v], []⟩ [("_law_script", v)]) ∧ ∀ base : Heap, K.In base → base.Ns mainGlobals mg → FnG l.prog w K mg base 9 fa fd ["_law_script"] (spLaw K) := by
  have e : f_law = fa := by
    have e := hfa.symm.trans (PySem.W.mg_of X G a_law)
    cases e
    rfl
  subst e
  have F_is_name := fun_mk (st := s_is_name) l_is_name c_is_name k_is_name
  have b_is_name := F_is_name.binds (ps := ["value"]) fun _ _ _ _ _ _ us hl => match us, hl with | [_], _ => rfl
  have F_are_names := fun_mk (st := s_are_names) l_are_names c_are_names k_are_names
  have b_are_names := F_are_names.binds (ps := ["value", "most"]) fun _ _ _ _ _ _ us hl => match us, hl with | [_, _], _ => rfl
  have F_Sheet_init := fun_mk (st := s_Sheet_init) l_Sheet_init c_Sheet_init k_Sheet_init
  have b_Sheet_init := F_Sheet_init.binds (ps := ["self", "kinds", "words"]) fun _ _ _ _ _ _ us hl => match us, hl with | [_, _, _], _ => rfl
  have F_Sheet_kinds := fun_mk (st := s_Sheet_kinds) l_Sheet_kinds c_Sheet_kinds k_Sheet_kinds
  have b_Sheet_kinds := F_Sheet_kinds.binds (ps := ["self"]) fun _ _ _ _ _ _ us hl => match us, hl with | [_], _ => rfl
  have F_Sheet_words := fun_mk (st := s_Sheet_words) l_Sheet_words c_Sheet_words k_Sheet_words
  have b_Sheet_words := F_Sheet_words.binds (ps := ["self"]) fun _ _ _ _ _ _ us hl => match us, hl with | [_], _ => rfl
  have F_Sheet_eq := fun_mk (st := s_Sheet_eq) l_Sheet_eq c_Sheet_eq k_Sheet_eq
  have b_Sheet_eq := F_Sheet_eq.binds (ps := ["self", "other"]) fun _ _ _ _ _ _ us hl => match us, hl with | [_, _], _ => rfl
  have F_Sheet_str := fun_mk (st := s_Sheet_str) l_Sheet_str c_Sheet_str k_Sheet_str
  have b_Sheet_str := F_Sheet_str.binds (ps := ["self"]) fun _ _ _ _ _ _ us hl => match us, hl with | [_], _ => rfl
  have F_law_dice := fun_mk (st := s_law_dice) l_law_dice c_law_dice k_law_dice
  have b_law_dice := F_law_dice.binds (ps := ["_law_script", "_law_at"]) fun _ _ _ _ _ _ us hl => match us, hl with | [_, _], _ => rfl
  have F_law_roll := fun_mk (st := s_law_roll) l_law_roll c_law_roll k_law_roll
  have b_law_roll := F_law_roll.binds (ps := ["_law_dice_here", "_law_total"]) fun _ _ _ _ _ _ us hl => match us, hl with | [_, _], _ => rfl
  have F_law_one_of := fun_mk (st := s_law_one_of) l_law_one_of c_law_one_of k_law_one_of
  have b_law_one_of := F_law_one_of.binds (ps := ["_law_dice_here", "_law_items"]) fun _ _ _ _ _ _ us hl => match us, hl with | [_, _], _ => rfl
  have F_law_mixed := fun_mk (st := s_law_mixed) l_law_mixed c_law_mixed k_law_mixed
  have b_law_mixed := F_law_mixed.binds (ps := ["_law_dice_here", "_law_items"]) fun _ _ _ _ _ _ us hl => match us, hl with | [_, _], _ => rfl
  have F_law_is_name := fun_mk (st := s_law_is_name) l_law_is_name c_law_is_name k_law_is_name
  have b_law_is_name := F_law_is_name.binds (ps := ["_law_value"]) fun _ _ _ _ _ _ us hl => match us, hl with | [_], _ => rfl
  have F_law_word := fun_mk (st := s_law_word) l_law_word c_law_word k_law_word
  have b_law_word := F_law_word.binds (ps := ["_law_dice_here"]) fun _ _ _ _ _ _ us hl => match us, hl with | [_], _ => rfl
  have F_law_names := fun_mk (st := s_law_names) l_law_names c_law_names k_law_names
  have b_law_names := F_law_names.binds (ps := ["_law_dice_here", "_law_most"]) fun _ _ _ _ _ _ us hl => match us, hl with | [_, _], _ => rfl
  have F_law_are_names := fun_mk (st := s_law_are_names) l_law_are_names c_law_are_names k_law_are_names
  have b_law_are_names := F_law_are_names.binds (ps := ["_law_value", "_law_most"]) fun _ _ _ _ _ _ us hl => match us, hl with | [_, _], _ => rfl
  have F_law_met := fun_mk (st := s_law_met) l_law_met c_law_met k_law_met
  have b_law_met := F_law_met.binds (ps := ["_law_kinds", "_law_words"]) fun _ _ _ _ _ _ us hl => match us, hl with | [_, _], _ => rfl
  have F_law_right := fun_mk (st := s_law_right) l_law_right c_law_right k_law_right
  have b_law_right := F_law_right.binds (ps := ["_law_dice_here"]) fun _ _ _ _ _ _ us hl => match us, hl with | [_], _ => rfl
  have F_law := fun_mk (st := s_law) l_law c_law k_law
  have b_law := F_law.binds (ps := ["_law_script"]) fun _ _ _ _ _ _ us hl => match us, hl with | [_], _ => rfl
  have cl_Sheet : Cls K C_Sheet := ⟨pg_Sheet, hd_Sheet, po_Sheet, sa_Sheet⟩
  have T : Txt K mg { a_is_name := f_is_name, d_is_name := PySem.W.fnOf "is_name" "is_name" (defArgs s_is_name) (defBody s_is_name) (defScope s_is_name) .none kV_is_name dc_is_name pm_is_name an_is_name cd_is_name ct_is_name, a_are_names := f_are_names, d_are_names := PySem.W.fnOf "are_names" "are_names" (defArgs s_are_names) (defBody s_are_names) (defScope s_are_names) .none kV_are_names dc_are_names pm_are_names an_are_names cd_are_names ct_are_names, a_Sheet_init := f_Sheet_init, d_Sheet_init := PySem.W.fnOf "__init__" "Sheet.__init__" (defArgs s_Sheet_init) (defBody s_Sheet_init) (defScope s_Sheet_init) .none kV_Sheet_init dc_Sheet_init pm_Sheet_init an_Sheet_init cd_Sheet_init ct_Sheet_init, a_Sheet_kinds := f_Sheet_kinds, d_Sheet_kinds := PySem.W.fnOf "kinds" "Sheet.kinds" (defArgs s_Sheet_kinds) (defBody s_Sheet_kinds) (defScope s_Sheet_kinds) .none kV_Sheet_kinds dc_Sheet_kinds pm_Sheet_kinds an_Sheet_kinds cd_Sheet_kinds ct_Sheet_kinds, p_Sheet_kinds := r_Sheet_kinds, a_Sheet_words := f_Sheet_words, d_Sheet_words := PySem.W.fnOf "words" "Sheet.words" (defArgs s_Sheet_words) (defBody s_Sheet_words) (defScope s_Sheet_words) .none kV_Sheet_words dc_Sheet_words pm_Sheet_words an_Sheet_words cd_Sheet_words ct_Sheet_words, p_Sheet_words := r_Sheet_words, a_Sheet_eq := f_Sheet_eq, d_Sheet_eq := PySem.W.fnOf "__eq__" "Sheet.__eq__" (defArgs s_Sheet_eq) (defBody s_Sheet_eq) (defScope s_Sheet_eq) .none kV_Sheet_eq dc_Sheet_eq pm_Sheet_eq an_Sheet_eq cd_Sheet_eq ct_Sheet_eq, a_Sheet_str := f_Sheet_str, d_Sheet_str := PySem.W.fnOf "__str__" "Sheet.__str__" (defArgs s_Sheet_str) (defBody s_Sheet_str) (defScope s_Sheet_str) .none kV_Sheet_str dc_Sheet_str pm_Sheet_str an_Sheet_str cd_Sheet_str ct_Sheet_str, a_law_dice := f_law_dice, d_law_dice := PySem.W.fnOf "_law_dice" "_law_dice" (defArgs s_law_dice) (defBody s_law_dice) (defScope s_law_dice) .none kV_law_dice dc_law_dice pm_law_dice an_law_dice cd_law_dice ct_law_dice, a_law_roll := f_law_roll, d_law_roll := PySem.W.fnOf "_law_roll" "_law_roll" (defArgs s_law_roll) (defBody s_law_roll) (defScope s_law_roll) .none kV_law_roll dc_law_roll pm_law_roll an_law_roll cd_law_roll ct_law_roll, a_law_one_of := f_law_one_of, d_law_one_of := PySem.W.fnOf "_law_one_of" "_law_one_of" (defArgs s_law_one_of) (defBody s_law_one_of) (defScope s_law_one_of) .none kV_law_one_of dc_law_one_of pm_law_one_of an_law_one_of cd_law_one_of ct_law_one_of, a_law_mixed := f_law_mixed, d_law_mixed := PySem.W.fnOf "_law_mixed" "_law_mixed" (defArgs s_law_mixed) (defBody s_law_mixed) (defScope s_law_mixed) .none kV_law_mixed dc_law_mixed pm_law_mixed an_law_mixed cd_law_mixed ct_law_mixed, a_law_is_name := f_law_is_name, d_law_is_name := PySem.W.fnOf "_law_is_name" "_law_is_name" (defArgs s_law_is_name) (defBody s_law_is_name) (defScope s_law_is_name) .none kV_law_is_name dc_law_is_name pm_law_is_name an_law_is_name cd_law_is_name ct_law_is_name, a_law_word := f_law_word, d_law_word := PySem.W.fnOf "_law_word" "_law_word" (defArgs s_law_word) (defBody s_law_word) (defScope s_law_word) .none kV_law_word dc_law_word pm_law_word an_law_word cd_law_word ct_law_word, a_law_names := f_law_names, d_law_names := PySem.W.fnOf "_law_names" "_law_names" (defArgs s_law_names) (defBody s_law_names) (defScope s_law_names) .none kV_law_names dc_law_names pm_law_names an_law_names cd_law_names ct_law_names, a_law_are_names := f_law_are_names, d_law_are_names := PySem.W.fnOf "_law_are_names" "_law_are_names" (defArgs s_law_are_names) (defBody s_law_are_names) (defScope s_law_are_names) .none kV_law_are_names dc_law_are_names pm_law_are_names an_law_are_names cd_law_are_names ct_law_are_names, a_law_met := f_law_met, d_law_met := PySem.W.fnOf "_law_met" "_law_met" (defArgs s_law_met) (defBody s_law_met) (defScope s_law_met) .none kV_law_met dc_law_met pm_law_met an_law_met cd_law_met ct_law_met, a_law_right := f_law_right, d_law_right := PySem.W.fnOf "_law_right" "_law_right" (defArgs s_law_right) (defBody s_law_right) (defScope s_law_right) .none kV_law_right dc_law_right pm_law_right an_law_right cd_law_right ct_law_right, a_law := f_law, d_law := PySem.W.fnOf "law" "law" (defArgs s_law) (defBody s_law) (defScope s_law) .none kV_law dc_law pm_law an_law cd_law ct_law, C_Sheet := C_Sheet, C_ShapeError := C_ShapeError, C_InvalidSheet := C_InvalidSheet, c_MAX_KINDS := .int 3 t_MAX_KINDS, c_MAX_WORDS := .int 2 t_MAX_WORDS, c_MAX_LETTERS := .int 8 t_MAX_LETTERS, c_LETTERS := .str "abcdefghijklmnopqrstuvwxyz" t_LETTERS : Ads } := { F_is_name := F_is_name, b_is_name := b_is_name, g_is_name := PySem.W.mg_of X G a_is_name, k_is_name := k_is_name, F_are_names := F_are_names, b_are_names := b_are_names, g_are_names := PySem.W.mg_of X G a_are_names, k_are_names := k_are_names, F_Sheet_init := F_Sheet_init, b_Sheet_init := b_Sheet_init, m_Sheet_init := ⟨a_Sheet_init, i_Sheet_init, k_Sheet_init⟩, F_Sheet_kinds := F_Sheet_kinds, b_Sheet_kinds := b_Sheet_kinds, P_Sheet_kinds := ⟨at_Sheet_kinds, gt_Sheet_kinds, tk_Sheet_kinds, _, rc_Sheet_kinds⟩, F_Sheet_words := F_Sheet_words, b_Sheet_words := b_Sheet_words, P_Sheet_words := ⟨at_Sheet_words, gt_Sheet_words, tk_Sheet_words, _, rc_Sheet_words⟩, F_Sheet_eq := F_Sheet_eq, b_Sheet_eq := b_Sheet_eq, m_Sheet_eq := ⟨a_Sheet_eq, i_Sheet_eq, k_Sheet_eq⟩, F_Sheet_str := F_Sheet_str, b_Sheet_str := b_Sheet_str, m_Sheet_str := ⟨a_Sheet_str, i_Sheet_str, k_Sheet_str⟩, F_law_dice := F_law_dice, b_law_dice := b_law_dice, g_law_dice := PySem.W.mg_of X G a_law_dice, k_law_dice := k_law_dice, F_law_roll := F_law_roll, b_law_roll := b_law_roll, g_law_roll := PySem.W.mg_of X G a_law_roll, k_law_roll := k_law_roll, F_law_one_of := F_law_one_of, b_law_one_of := b_law_one_of, g_law_one_of := PySem.W.mg_of X G a_law_one_of, k_law_one_of := k_law_one_of, F_law_mixed := F_law_mixed, b_law_mixed := b_law_mixed, g_law_mixed := PySem.W.mg_of X G a_law_mixed, k_law_mixed := k_law_mixed, F_law_is_name := F_law_is_name, b_law_is_name := b_law_is_name, g_law_is_name := PySem.W.mg_of X G a_law_is_name, k_law_is_name := k_law_is_name, F_law_word := F_law_word, b_law_word := b_law_word, g_law_word := PySem.W.mg_of X G a_law_word, k_law_word := k_law_word, F_law_names := F_law_names, b_law_names := b_law_names, g_law_names := PySem.W.mg_of X G a_law_names, k_law_names := k_law_names, F_law_are_names := F_law_are_names, b_law_are_names := b_law_are_names, g_law_are_names := PySem.W.mg_of X G a_law_are_names, k_law_are_names := k_law_are_names, F_law_met := F_law_met, b_law_met := b_law_met, g_law_met := PySem.W.mg_of X G a_law_met, k_law_met := k_law_met, F_law_right := F_law_right, b_law_right := b_law_right, g_law_right := PySem.W.mg_of X G a_law_right, k_law_right := k_law_right, F_law := F_law, b_law := b_law, g_law := PySem.W.mg_of X G a_law, k_law := k_law, g_Sheet := PySem.W.mg_of X G gC_Sheet, cl_Sheet := cl_Sheet, I_Sheet := ⟨cl_Sheet, cc_Sheet, cg_Sheet, ct_Sheet, mr_Sheet, ne_Sheet, ic_Sheet, it_Sheet⟩, M_Sheet := ⟨mk_Sheet, a_Sheet_init, i_Sheet_init, kc_Sheet⟩, n_Sheet_own_kinds := n_Sheet_own_kinds, n_Sheet_own_words := n_Sheet_own_words, g_ShapeError := PySem.W.mg_of X G gC_ShapeError, x_ShapeError := x_ShapeError, k_ShapeError := k_ShapeError, s_ShapeError := s_ShapeError, t_ShapeError := t_ShapeError, e_ShapeError := Kd.exm_own s_ShapeError i_ShapeError t_ShapeError s_ShapeError ss_ShapeError, g_InvalidSheet := PySem.W.mg_of X G gC_InvalidSheet, x_InvalidSheet := x_InvalidSheet, k_InvalidSheet := k_InvalidSheet, s_InvalidSheet := s_InvalidSheet, t_InvalidSheet := t_InvalidSheet, e_InvalidSheet := Kd.exm_own s_InvalidSheet i_InvalidSheet t_InvalidSheet s_InvalidSheet ss_InvalidSheet, c_MAX_KINDS := PySem.W.mg_of X G v_MAX_KINDS, r_MAX_KINDS := ⟨_, rfl⟩, c_MAX_WORDS := PySem.W.mg_of X G v_MAX_WORDS, r_MAX_WORDS := ⟨_, rfl⟩, c_MAX_LETTERS := PySem.W.mg_of X G v_MAX_LETTERS, r_MAX_LETTERS := ⟨_, rfl⟩, c_LETTERS := PySem.W.mg_of X G v_LETTERS, r_LETTERS := ⟨_, rfl⟩, n_abs := PySem.W.mg_none_of X G z_abs, n_all := PySem.W.mg_none_of X G z_all, n_bool := PySem.W.mg_none_of X G z_bool, n_int := PySem.W.mg_none_of X G z_int, n_isinstance := PySem.W.mg_none_of X G z_isinstance, n_len := PySem.W.mg_none_of X G z_len, n_list := PySem.W.mg_none_of X G z_list, n_max := PySem.W.mg_none_of X G z_max, n_min := PySem.W.mg_none_of X G z_min, n_property := PySem.W.mg_none_of X G z_property, n_range := PySem.W.mg_none_of X G z_range, n_repr := PySem.W.mg_none_of X G z_repr, n_set := PySem.W.mg_none_of X G z_set, n_sorted := PySem.W.mg_none_of X G z_sorted, n_str := PySem.W.mg_none_of X G z_str, n_tuple := PySem.W.mg_none_of X G z_tuple }
  exact ⟨_, fun s v => .of_eq rfl, fun base _ _ => ok_law T⟩
theorem walk {l : PySem.W.OpenLaw} {q : Program} {loose : List Str} {XP : (Str → Option Value) → Heap → Prop} {YP : World → Heap → Prop} {d : DefRec} {K : Params → PySem.W.Frag} (hn : l.most = some 63) (hdf : d.params.defaults = [])
    (hY : ∀ (w : World) (h : Heap), YP w h → (K w.params).In h)
    (F : ∀ (w : World) (mg : Str → Option Value) (fa : Addr) (h : Heap), (K w.params).In h → h.Ns mainGlobals mg → mg d.name = some (.ref fa) →
      ∃ fd : FuncData, (∀ (s : Shared) (u : Value), BindsTo s fd ⟨[u], []⟩ [("_law_script", u)]) ∧ ∀ base : Heap, (K w.params).In base → base.Ns mainGlobals mg → FnG l.prog w (K w.params) mg base 9 fa fd ["_law_script"] (spLaw (K w.params))) :
    PySem.W.WalkO q loose XP YP l.row.toRowW d [] (fun f vs => PySem.call f vs) :=
  L2.walk_ofG (n := 63) (k := 9) (x := "_law_script") (sp := fun w => spLaw (K w.params)) hn (by decide) hdf ⟨rfl, by decide, by decide⟩ hY F (fun _ _ a ns hl hS => ⟨a, ns, rfl, hS, hl, fun _ => rfl⟩)
end K1
open PySem PySem.W PyProof.Rows
set_option maxRecDepth 100000 in
set_option maxHeartbeats 0 in
theorem PySem.Challenge.cw_keptshapes_k01_sheets_and_names_holds : PySem.Challenge.rw_keptshapes_k01_sheets_and_names.Holds := by
  w_on; o_law; k_head; (case hw => w_witness2)
  k_fill
  refine K1.walk (l := PySem.Challenge.rw_keptshapes_k01_sheets_and_names) rfl rfl (fun w h Y => PySem.W.kIn_of Y) ?F
  case F =>
    intro w mg fa h KX G hmg
    refine' K1.all_mk KX G hmg ?gC_Sheet ?gC_ShapeError ?gC_InvalidSheet ?a_is_name ?l_is_name ?c_is_name ?k_is_name ?a_are_names ?l_are_names ?c_are_names ?k_are_names ?a_Sheet_init ?i_Sheet_init ?l_Sheet_init ?c_Sheet_init ?k_Sheet_init ?at_Sheet_kinds ?gt_Sheet_kinds ?tk_Sheet_kinds ?rc_Sheet_kinds ?l_Sheet_kinds ?c_Sheet_kinds ?k_Sheet_kinds ?at_Sheet_words ?gt_Sheet_words ?tk_Sheet_words ?rc_Sheet_words ?l_Sheet_words ?c_Sheet_words ?k_Sheet_words ?a_Sheet_eq ?i_Sheet_eq ?l_Sheet_eq ?c_Sheet_eq ?k_Sheet_eq ?a_Sheet_str ?i_Sheet_str ?l_Sheet_str ?c_Sheet_str ?k_Sheet_str ?a_law_dice ?l_law_dice ?c_law_dice ?k_law_dice ?a_law_roll ?l_law_roll ?c_law_roll ?k_law_roll ?a_law_one_of ?l_law_one_of ?c_law_one_of ?k_law_one_of ?a_law_mixed ?l_law_mixed ?c_law_mixed ?k_law_mixed ?a_law_is_name ?l_law_is_name ?c_law_is_name ?k_law_is_name ?a_law_word ?l_law_word ?c_law_word ?k_law_word ?a_law_names ?l_law_names ?c_law_names ?k_law_names ?a_law_are_names ?l_law_are_names ?c_law_are_names ?k_law_are_names ?a_law_met ?l_law_met ?c_law_met ?k_law_met ?a_law_right ?l_law_right ?c_law_right ?k_law_right ?a_law ?l_law ?c_law ?k_law ?pg_Sheet ?hd_Sheet ?po_Sheet ?sa_Sheet ?cc_Sheet ?cg_Sheet ?ct_Sheet ?mr_Sheet ?ne_Sheet ?ic_Sheet ?it_Sheet ?mk_Sheet ?kc_Sheet ?n_Sheet_own_kinds ?n_Sheet_own_words ?x_ShapeError ?k_ShapeError ?s_ShapeError ?t_ShapeError ?i_ShapeError ?ss_ShapeError ?x_InvalidSheet ?k_InvalidSheet ?s_InvalidSheet ?t_InvalidSheet ?i_InvalidSheet ?ss_InvalidSheet ?v_MAX_KINDS ?v_MAX_WORDS ?v_MAX_LETTERS ?v_LETTERS ?z_abs ?z_all ?z_bool ?z_int ?z_isinstance ?z_len ?z_list ?z_max ?z_min ?z_property ?z_range ?z_repr ?z_set ?z_sorted ?z_str ?z_tuple
    (case gC_Sheet => k_is)
    (case gC_ShapeError => k_is)
    (case gC_InvalidSheet => k_is)
    (case a_is_name => k_is)
    (case l_is_name => k_is)
    (case c_is_name => k_is)
    (case k_is_name => k_is)
    (case a_are_names => k_is)
    (case l_are_names => k_is)
    (case c_are_names => k_is)
    (case k_are_names => k_is)
    (case a_Sheet_init => k_is)
    (case i_Sheet_init => k_is)
    (case l_Sheet_init => k_is)
    (case c_Sheet_init => k_is)
    (case k_Sheet_init => k_is)
    (case at_Sheet_kinds => k_is)
    (case gt_Sheet_kinds => k_is)
    (case tk_Sheet_kinds => k_is)
    (case rc_Sheet_kinds => k_is)
    (case l_Sheet_kinds => k_is)
    (case c_Sheet_kinds => k_is)
    (case k_Sheet_kinds => k_is)
    (case at_Sheet_words => k_is)
    (case gt_Sheet_words => k_is)
    (case tk_Sheet_words => k_is)
    (case rc_Sheet_words => k_is)
    (case l_Sheet_words => k_is)
    (case c_Sheet_words => k_is)
    (case k_Sheet_words => k_is)
    (case a_Sheet_eq => k_is)
    (case i_Sheet_eq => k_is)
    (case l_Sheet_eq => k_is)
    (case c_Sheet_eq => k_is)
    (case k_Sheet_eq => k_is)
    (case a_Sheet_str => k_is)
    (case i_Sheet_str => k_is)
    (case l_Sheet_str => k_is)
    (case c_Sheet_str => k_is)
    (case k_Sheet_str => k_is)
    (case a_law_dice => k_is)
    (case l_law_dice => k_is)
    (case c_law_dice => k_is)
    (case k_law_dice => k_is)
    (case a_law_roll => k_is)
    (case l_law_roll => k_is)
    (case c_law_roll => k_is)
    (case k_law_roll => k_is)
    (case a_law_one_of => k_is)
    (case l_law_one_of => k_is)
    (case c_law_one_of => k_is)
    (case k_law_one_of => k_is)
    (case a_law_mixed => k_is)
    (case l_law_mixed => k_is)
    (case c_law_mixed => k_is)
    (case k_law_mixed => k_is)
    (case a_law_is_name => k_is)
    (case l_law_is_name => k_is)
    (case c_law_is_name => k_is)
    (case k_law_is_name => k_is)
    (case a_law_word => k_is)
    (case l_law_word => k_is)
    (case c_law_word => k_is)
    (case k_law_word => k_is)
    (case a_law_names => k_is)
    (case l_law_names => k_is)
    (case c_law_names => k_is)
    (case k_law_names => k_is)
    (case a_law_are_names => k_is)
    (case l_law_are_names => k_is)
    (case c_law_are_names => k_is)
    (case k_law_are_names => k_is)
    (case a_law_met => k_is)
    (case l_law_met => k_is)
    (case c_law_met => k_is)
    (case k_law_met => k_is)
    (case a_law_right => k_is)
    (case l_law_right => k_is)
    (case c_law_right => k_is)
    (case k_law_right => k_is)
    (case a_law => k_is)
    (case l_law => k_is)
    (case c_law => k_is)
    (case k_law => k_is)
    (case pg_Sheet => k_is)
    (case hd_Sheet => k_is)
    (case po_Sheet => k_is)
    (case sa_Sheet => k_is)
    (case cc_Sheet => k_is)
    (case cg_Sheet => k_is)
    (case ct_Sheet => k_is)
    (case mr_Sheet => k_is)
    (case ne_Sheet => k_is)
    (case ic_Sheet => k_is)
    (case it_Sheet => k_is)
    (case mk_Sheet => k_is)
    (case kc_Sheet => k_is)
    (case n_Sheet_own_kinds => k_is)
    (case n_Sheet_own_words => k_is)
    (case x_ShapeError => k_exc)
    (case k_ShapeError => k_is)
    (case s_ShapeError => k_is)
    (case t_ShapeError => k_is)
    (case i_ShapeError => k_is)
    (case ss_ShapeError => first | rfl | k_is)
    (case x_InvalidSheet => k_exc)
    (case k_InvalidSheet => k_is)
    (case s_InvalidSheet => k_is)
    (case t_InvalidSheet => k_is)
    (case i_InvalidSheet => k_is)
    (case ss_InvalidSheet => first | rfl | k_is)
    (case v_MAX_KINDS => k_is)
    (case v_MAX_WORDS => k_is)
    (case v_MAX_LETTERS => k_is)
    (case v_LETTERS => k_is)
    (case z_abs => k_is)
    (case z_all => k_is)
    (case z_bool => k_is)
    (case z_int => k_is)
    (case z_isinstance => k_is)
    (case z_len => k_is)
    (case z_list => k_is)
    (case z_max => k_is)
    (case z_min => k_is)
    (case z_property => k_is)
    (case z_range => k_is)
    (case z_repr => k_is)
    (case z_set => k_is)
    (case z_sorted => k_is)
    (case z_str => k_is)
    (case z_tuple => k_is)

