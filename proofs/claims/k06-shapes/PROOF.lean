import PyProof.Rows.All
import Wide.All
import OpenK.AllK
import Wide.FinOn
import HandS.ForMost
import HandS.Wide
import HandS.Evl
import HandS.Walk
import HandS.IsInst
import HandS.DictComp
import HandS.More
import HandS.Set
import HandS.SetFor
import HandS.SetKeys
import PyProof.SetRoads
import PyProof.TupleOfSeq
import HandS.OwnEq
import PyProof.InstNe
import KE.KCallOwn
import PyProof.ReprRoads
import HandS.Deep
import KE.SortData
import KE.Datum
import KE.DatumMore
import KE.DatumOrd
import KE.DatumMoreOrd
import HandS.Keys
import HandS.TupLen
import KE.KDictKeyed
import HandS.Iter
import KE.KEqDict
import HandS.Defaults
import HandS.ListItems
import HandS.Property
import HandS.FStr
import HandS.Exc
import HandS.TryOnly
import HandS.ExcOwn
import HandS.WordsExc
import HandS.WordsDict
import HandS.Finally
import HandS.Conv
import HandS.Style
import PySem.Challenge.RW_keptshapes_k06_shapes_made_and_asked
set_option Elab.async false
set_option linter.all false
set_option maxRecDepth 100000
set_option maxHeartbeats 4000000
/-! The dice of the laws: a list of three ints of which nothing else is told. -/
namespace Kd
open PySem L2
theorem if_t {c : Bool} {A B : Prop} (h : c = true) (a : A) : if c = true then A else B := by rw [if_pos h]; exact a
theorem if_f {c : Bool} {A B : Prop} (h : c = false) (b : B) : if c = true then A else B := by rw [if_neg (by rw [h]; exact Bool.false_ne_true)]; exact b
/-- a list of three ints, whichever -/
def diceO (a : Addr) : HO := .ext fun h => ∃ (x y z : Int) (its : List Value) (n : Nat), Vals [.int x, .int y, .int z] its ∧ h.get? a = some { cls := .type "list", data := .seq its.toArray n }
theorem upd_back {H : Hp} {a : Addr} {o u : HO} (e : H a = some o) : upd (upd H a u) a o = H := by
  rw [upd_upd]
  funext b
  unfold upd
  split
  · rename_i h
    rw [h, e]
  · rfl
section
variable {X : Cx} {pins : List (Addr × Obj)} {σ : St} {H : Hp} {s : Shared} {a : Addr}
theorem open_dice (I : Inv X pins σ H s) (e : H a = some (diceO a)) : ∃ x y z : Int, Inv X pins σ (upd H a (.lst [.int x, .int y, .int z])) s := by
  obtain ⟨⟨x, y, z, its, n, r, ho⟩, _, _⟩ := I.hok a _ e
  refine ⟨x, y, z, ?_⟩
  have mu : Mut (H a) := by rw [e]; exact True.intro
  have hk : HOk X.prog X.w (upd H a (.lst [.int x, .int y, .int z])) s.heap :=
    I.hok.write (e := a) mu (.inl rfl) (fun _ _ _ q => q) ⟨_, ho⟩ ⟨by show 3 ≤ sizeLine; decide, its, n, r, ho⟩
  exact I.un (h' := s.heap) (t' := s.toks) (Un.write mu (.inl rfl) (fun _ _ _ q => q) ⟨_, ho⟩) hk
theorem shut_dice {x y z : Int} (I : Inv X pins σ H s) (e : H a = some (.lst [.int x, .int y, .int z])) : Inv X pins σ (upd H a (diceO a)) s := by
  obtain ⟨_, its, n, r, ho⟩ := I.hok a _ e
  have mu : Mut (H a) := by rw [e]; exact True.intro
  have hk : HOk X.prog X.w (upd H a (diceO a)) s.heap :=
    I.hok.write (e := a) mu (.inl rfl) (fun _ _ _ q => q) ⟨_, ho⟩ ⟨⟨x, y, z, its, n, r, ho⟩, ⟨_, ho⟩, fun h1 h2 ⟨x, y, z, its, n, r, q⟩ k => ⟨x, y, z, its, n, r, k _ q⟩⟩
  exact I.un (h' := s.heap) (t' := s.toks) (Un.write mu (.inl rfl) (fun _ _ _ q => q) ⟨_, ho⟩) hk
end
def rIxDice : R2 := fun x y H Q => ∃ (p : Addr) (k : Int), x = .ref p ∧ y = .int k ∧ H p = some (diceO p) ∧ (k = 0 ∨ k = 1 ∨ k = 2) ∧ ∀ i : Int, Q (.int i) H
theorem ix_dice {X : Cx} : IxR X rIxDice := by
  intro value slice pins s σ H x y v u Q I rx ry h hs
  obtain ⟨p, k, rfl, rfl, hp, hk, q⟩ := h
  obtain ⟨x, y, z, I'⟩ := open_dice I hp
  have key : ∃ i : Int, atI [V.int x, V.int y, V.int z] k = some (.int i) := by
    rcases hk with rfl | rfl | rfl
    · exact ⟨x, rfl⟩
    · exact ⟨y, rfl⟩
    · exact ⟨z, rfl⟩
  obtain ⟨i, hi⟩ := key
  refine thn (ix_list value slice pins s σ _ _ _ v u (fun v' H' => v' = .int i ∧ H' = upd H p (.lst [.int x, .int y, .int z])) I' rx ry ⟨p, _, k, _, rfl, rfl, SqL.of upd_same, hi, rfl, rfl⟩ hs) fun u s' h => ?_
  obtain ⟨v', H', I2, r2, rfl, rfl⟩ := h
  refine ⟨_, H, ?_, r2, q i⟩
  have J := shut_dice (a := p) I2 upd_same
  rw [upd_back hp] at J
  exact J
def rSetDice : TSet := fun o i v H Q => ∃ (p : Addr) (k j : Int), o = .ref p ∧ i = .int k ∧ v = .int j ∧ H p = some (diceO p) ∧ (k = 0 ∨ k = 1 ∨ k = 2) ∧ Q H
theorem set_dice {X : Cx} : PSet X rSetDice := by
  intro pins s σ H o i v ov iv u Q I ro ri rv h
  obtain ⟨p, k, j, rfl, rfl, rfl, hp, hk, q⟩ := h
  obtain ⟨x, y, z, I'⟩ := open_dice I hp
  have key : ∃ (n : Nat) (x' y' z' : Int), ixN 3 k = some n ∧ [V.int x, V.int y, V.int z].set n (.int j) = [.int x', .int y', .int z'] := by
    rcases hk with rfl | rfl | rfl
    · exact ⟨0, j, y, z, rfl, rfl⟩
    · exact ⟨1, x, j, z, rfl, rfl⟩
    · exact ⟨2, x, y, j, rfl, rfl⟩
  obtain ⟨n, x', y', z', hn, hs⟩ := key
  refine thn (set_list pins s σ _ _ _ _ ov iv u (fun H' => H' = upd H p (.lst [.int x', .int y', .int z'])) I' ro ri rv ⟨p, _, k, n, rfl, rfl, upd_same, hn, ?_⟩) fun u s' h => ?_
  · rw [upd_upd, hs]
  · obtain ⟨H', I2, rfl⟩ := h
    refine ⟨H, ?_, q⟩
    have J := shut_dice (a := p) I2 upd_same
    rw [upd_back hp] at J
    exact J
def CPowW (i j : Int) : Prop := 0 ≤ j ∧ (Builtin.Int.intBits i : Int) * j ≤ 2 ^ 27
theorem op_powW {X : Cx} : OpR X (binaryOp .Pow) (rI CPowW fun i j => .int (i ^ j.toNat)) := opI fun _ _ _ _ _ _ _ hc q => PyProof.Rows.pow_int hc.1 hc.2 q
/-- a new list of three ints is taken as a dice -/
def tShut (te : TE) : TE := fun σ H Q => te σ H fun v H1 => ∃ (p : Addr) (x y z : Int), v = .ref p ∧ H1 p = some (.lst [.int x, .int y, .int z]) ∧ Q v (upd H1 p (diceO p))
theorem pe_shut {X : Cx} {e : Expr} {te : TE} (h : PE X e te) : PE X e (tShut te) := ⟨fun pins s σ H Q I q => thn (h.run pins s σ H _ I q) fun u s1 ⟨v, H1, I1, r, p, x, y, z, ev, hp, q1⟩ => ⟨v, _, shut_dice I1 hp, r, q1⟩⟩
end Kd
namespace Kd
open PySem L2 Evl
/-- the type's name of a datum -/
def tyN : PyData → String
  | .none => "NoneType" | .bool _ => "bool" | .int _ => "int" | .str _ => "str" | .list _ => "list" | .tuple _ => "tuple" | .dict _ => "dict"
/-- data, dicts without their content -/
def Dv (K : PySem.W.Frag) (H : Hp) (v : V) (d : PyData) : Prop := Dp K H v d ∨ (∃ a kvs, v = .ref a ∧ H a = some (.dK kvs) ∧ d = .dict [])
theorem tyX_of {K : PySem.W.Frag} {H : Hp} {v : V} {d : PyData} (h : Dv K H v d) : TyX K H v (.type (tyN d)) := by
  rcases h with h | ⟨a, kvs, rfl, e, rfl⟩
  · cases h with
    | non => exact .base .non
    | bl b => exact .base (.bl b)
    | int i => exact .base (.int i)
    | str x => exact .base (.str x)
    | lst hs _ =>
      rcases hs with (e | ⟨o, e⟩) | ⟨o, its, n, e, c, _⟩
      · exact .base (.lst e)
      · exact .base (.frz e)
      · exact .kList e c
    | tup hs _ =>
      rcases hs with (e | ⟨o, e⟩) | ⟨o, its, n, e, c, _⟩
      · exact .base (.tup e)
      · exact .fTuple e
      · exact .kTuple e c
  · exact .base (.dK e)
mutual
theorem dp_ex {K : PySem.W.Frag} {H H' : Hp} (x : Ex H H') : ∀ (d : PyData) (v : V), Dp K H v d → Dp K H' v d
  | .none, _, h => by cases h; exact .non
  | .bool b, _, h => by cases h; exact .bl b
  | .int i, _, h => by cases h; exact .int i
  | .str s, _, h => by cases h; exact .str s
  | .list ds, _, h => by cases h with | lst hs ha => exact .lst (ex_l x hs) (dpAll_ex x ds _ ha)
  | .tuple ds, _, h => by cases h with | tup hs ha => exact .tup (ex_t x hs) (dpAll_ex x ds _ ha)
  | .dict _, _, h => by cases h
theorem dpAll_ex {K : PySem.W.Frag} {H H' : Hp} (x : Ex H H') : ∀ (ds : List PyData) (vs : List V), DpAll K H vs ds → DpAll K H' vs ds
  | [], _, h => by cases h; exact .nil
  | d :: ds, _, h => by cases h with | cons h1 h2 => exact .cons (dp_ex x d _ h1) (dpAll_ex x ds _ h2)
end
theorem dv_ex {K : PySem.W.Frag} {H H' : Hp} (x : Ex H H') {d : PyData} {v : V} (h : Dv K H v d) : Dv K H' v d := by
  rcases h with h | ⟨a, kvs, e1, e2, e3⟩
  · exact .inl (dp_ex x d v h)
  · exact .inr ⟨a, kvs, e1, x _ _ e2, e3⟩
theorem dpAll_strs {K : PySem.W.Frag} {H : Hp} : ∀ (zs : List Str), DpAll K H (zs.map V.str) (zs.map PyData.str)
  | [] => .nil
  | z :: zs => .cons (.str z) (dpAll_strs zs)
theorem isi_kit {d : PyData} (T : String) (r : Bool) (h : kitB (tyN d) T = some r) {K : PySem.W.Frag} : PySem.W.kitOne K (.type (tyN d)) (.type T) = some r := kit_ty h
theorem kit_str : ∀ d : PyData, kitB (tyN d) "str" = some (decide (tyN d = "str"))
  | .none => (by decide +kernel : kitB "NoneType" "str" = some (decide ("NoneType" = "str")))
  | .bool _ => (by decide +kernel : kitB "bool" "str" = some (decide ("bool" = "str")))
  | .int _ => (by decide +kernel : kitB "int" "str" = some (decide ("int" = "str")))
  | .str _ => (by decide +kernel : kitB "str" "str" = some (decide ("str" = "str")))
  | .list _ => (by decide +kernel : kitB "list" "str" = some (decide ("list" = "str")))
  | .tuple _ => (by decide +kernel : kitB "tuple" "str" = some (decide ("tuple" = "str")))
  | .dict _ => (by decide +kernel : kitB "dict" "str" = some (decide ("dict" = "str")))
theorem kit_tuple : ∀ d : PyData, kitB (tyN d) "tuple" = some (decide (tyN d = "tuple"))
  | .none => (by decide +kernel : kitB "NoneType" "tuple" = some (decide ("NoneType" = "tuple")))
  | .bool _ => (by decide +kernel : kitB "bool" "tuple" = some (decide ("bool" = "tuple")))
  | .int _ => (by decide +kernel : kitB "int" "tuple" = some (decide ("int" = "tuple")))
  | .str _ => (by decide +kernel : kitB "str" "tuple" = some (decide ("str" = "tuple")))
  | .list _ => (by decide +kernel : kitB "list" "tuple" = some (decide ("list" = "tuple")))
  | .tuple _ => (by decide +kernel : kitB "tuple" "tuple" = some (decide ("tuple" = "tuple")))
  | .dict _ => (by decide +kernel : kitB "dict" "tuple" = some (decide ("dict" = "tuple")))
theorem kit_bool : ∀ d : PyData, kitB (tyN d) "bool" = some (decide (tyN d = "bool"))
  | .none => (by decide +kernel : kitB "NoneType" "bool" = some (decide ("NoneType" = "bool")))
  | .bool _ => (by decide +kernel : kitB "bool" "bool" = some (decide ("bool" = "bool")))
  | .int _ => (by decide +kernel : kitB "int" "bool" = some (decide ("int" = "bool")))
  | .str _ => (by decide +kernel : kitB "str" "bool" = some (decide ("str" = "bool")))
  | .list _ => (by decide +kernel : kitB "list" "bool" = some (decide ("list" = "bool")))
  | .tuple _ => (by decide +kernel : kitB "tuple" "bool" = some (decide ("tuple" = "bool")))
  | .dict _ => (by decide +kernel : kitB "dict" "bool" = some (decide ("dict" = "bool")))
/-- [f(x) for x in .. if p(x)], scalars, nothing is changed but new things come -/
theorem lcS {J : It} {n : Nat} {G : Hp → Prop} {Y : Nat → Hp → V → Hp → Prop} (w : Walk J n G Y) {i : Nat} {tt : TT} {te : TE} {σ : L2.St} {H1 : Hp} {D : Addr} {Qd : Hp → Prop} (hD : H1 D = none) (xs : List V) (hn : xs.length = n) (hz : n < sizeLine)
    (p : V → Bool) (f : V → V) (hG : ∀ H, Ex H1 H → G H) (hY : ∀ k H x H', Y k H x H' → H' = H ∧ xs[k]? = some x) (hw : ∀ v, wipe ((wipe σ [i]).set i v) [i] = wipe σ [i])
    (ht : ∀ x H, x ∈ xs → Ex H1 H → EvT tt ((wipe σ [i]).set i (some x)) H (p x)) (he : ∀ x H, x ∈ xs → p x = true → Ex H1 H → Ev te ((wipe σ [i]).set i (some x)) H (f x))
    (hq : ∀ H, Ex H1 H → H D = some (.lst ((xs.filter p).map f)) → Qd H) :
    ∃ W : Nat → Nat → Hp → Prop, (∃ m, W 0 m (upd H1 D (.lst []))) ∧ ∀ k m H, W k m H →
      (J.stop k H ∧ Qd H) ∨ (J.go k H ∧ ∃ Nx : Hp → Prop, (∀ H', Nx H' → ∃ m', m' < m ∧ W (k + 1) m' H') ∧ ∀ x H', J.yld k H x H' → gName i x (wipe σ [i]) H' fun σ2 H2 => wipe σ2 [i] = wipe σ [i] ∧ tt σ2 H2 fun b H3 =>
        if b = true then te σ2 H3 fun y H4 => ∃ acc, H4 D = some (.lst acc) ∧ acc.length < sizeLine ∧ Nx (upd H4 D (.lst (acc ++ [y]))) else Nx H3) := by
  refine lc_it w (fun k H => Ex H1 H ∧ H D = some (.lst (((xs.take k).filter p).map f))) ⟨Ex.mut (Ex.refl H1) hD, upd_same⟩ (fun k H _ h => hG H h.1) ?_ (fun H h => hq H h.1 (by rw [h.2, List.take_of_length_le (by omega)]))
  rintro k x H H' hk ⟨e, hd⟩ y
  obtain ⟨rfl, hx⟩ := hY k H x H' y
  have hm : x ∈ xs := List.mem_of_getElem? hx
  have ht1 : xs.take (k + 1) = xs.take k ++ [x] := by
    rw [List.take_add_one, hx]
    rfl
  refine ⟨hw (some x), ht x H' hm e H' (Ex.refl _) _ fun H3 e3 => ?_⟩
  cases hp : p x with
  | false =>
    refine if_f rfl ⟨e.trans e3, ?_⟩
    rw [e3 _ _ hd, ht1, List.filter_append]
    simp [hp]
  | true =>
    refine if_t rfl (he x H' hm hp e H3 e3 _ fun H4 e4 => ⟨_, e4 _ _ (e3 _ _ hd), ?_, Ex.mut ((e.trans e3).trans e4) hD, ?_⟩)
    · rw [List.length_map]
      have h1 := List.length_filter_le p (xs.take k)
      have h2 : (xs.take k).length ≤ n := by rw [List.length_take, hn]; exact Nat.min_le_right _ _
      omega
    · rw [upd_same, ht1, List.filter_append, List.map_append]
      simp [hp]
end Kd
/-! set(t) of a tuple of ints and texts, and its len -/
namespace Ks
open PySem PySem.Spec PyProof.Rows L2
/-- x is one of l -/
def has {α : Type} [DecidableEq α] (l : List α) (x : α) : Bool := l.any fun y => decide (y = x)
theorem has_iff {α : Type} [DecidableEq α] {l : List α} {x : α} : has l x = true ↔ x ∈ l := by
  unfold has
  rw [List.any_eq_true]
  exact ⟨fun ⟨y, h, e⟩ => by rw [← of_decide_eq_true e]; exact h, fun h => ⟨x, h, decide_eq_true rfl⟩⟩
theorem has_snoc {α : Type} [DecidableEq α] (l : List α) (x y : α) : has (l ++ [x]) y = (has l y || decide (y = x)) := by
  unfold has
  rw [List.any_append]
  by_cases h : x = y
  · subst h; simp
  · have h' : ¬ y = x := fun e => h e.symm
    simp [h, h']
/-- one more, if it is not there -/
def add1 {α : Type} [DecidableEq α] (acc : List α) (x : α) : List α := if has acc x = true then acc else acc ++ [x]
/-- each once, in the order of first coming -/
def uniq {α : Type} [DecidableEq α] (l : List α) : List α := l.foldl add1 []
theorem uniq_snoc {α : Type} [DecidableEq α] (l : List α) (x : α) : uniq (l ++ [x]) = add1 (uniq l) x := by
  unfold uniq
  rw [List.foldl_append]
  rfl
theorem has_add1 {α : Type} [DecidableEq α] (acc : List α) (x y : α) : has (add1 acc x) y = (has acc y || decide (y = x)) := by
  unfold add1
  split
  · rename_i h
    by_cases e : y = x
    · subst e; rw [h]; rfl
    · rw [decide_eq_false e, Bool.or_false]
  · exact has_snoc acc x y
theorem has_foldl {α : Type} [DecidableEq α] (y : α) : ∀ (l acc : List α), has (l.foldl add1 acc) y = (has acc y || has l y)
  | [], acc => by
    show has acc y = (has acc y || false)
    rw [Bool.or_false]
  | x :: l, acc => by
    rw [List.foldl_cons, has_foldl y l, has_add1]
    show _ = (has acc y || (decide (x = y) || has l y))
    rw [Bool.or_assoc]
    congr 2
    exact decide_eq_decide.mpr ⟨fun e => e.symm, fun e => e.symm⟩
theorem has_uniq {α : Type} [DecidableEq α] (l : List α) (y : α) : has (uniq l) y = has l y := by
  unfold uniq
  rw [has_foldl]
  rfl
theorem len_foldl {α : Type} [DecidableEq α] : ∀ (l acc : List α), (l.foldl add1 acc).length ≤ acc.length + l.length
  | [], _ => Nat.le_refl _
  | x :: l, acc => by
    refine Nat.le_trans (len_foldl l _) ?_
    unfold add1
    rw [List.length_cons]
    split
    · omega
    · rw [List.length_append, List.length_singleton]; omega
theorem len_uniq {α : Type} [DecidableEq α] (l : List α) : (uniq l).length ≤ l.length := by
  have h := len_foldl l []
  rw [List.length_nil, Nat.zero_add] at h
  exact h
theorem len_eq_foldl {α : Type} [DecidableEq α] : ∀ (l acc : List α), (l.foldl add1 acc).length = acc.length + l.length ↔ (l.Nodup ∧ ∀ x ∈ l, has acc x = false)
  | [], _ => ⟨fun _ => ⟨List.nodup_nil, fun _ h => nomatch h⟩, fun _ => rfl⟩
  | x :: l, acc => by
    rw [List.foldl_cons, List.nodup_cons, List.length_cons]
    have ih := len_eq_foldl l (add1 acc x)
    cases hx : has acc x with
    | true =>
      have e : add1 acc x = acc := if_pos hx
      have hl := len_foldl l acc
      rw [e]
      constructor
      · intro h; omega
      · intro h
        have z := h.2 x List.mem_cons_self
        rw [hx] at z; cases z
    | false =>
      have e : add1 acc x = acc ++ [x] := if_neg (by rw [hx]; exact Bool.false_ne_true)
      rw [e] at ih ⊢
      rw [List.length_append, List.length_singleton] at ih
      constructor
      · intro h
        obtain ⟨h1, h2⟩ := ih.mp (by omega)
        refine ⟨⟨fun hm => ?_, h1⟩, fun y hy => ?_⟩
        · have z := h2 x hm
          rw [has_snoc, decide_eq_true rfl, Bool.or_true] at z; cases z
        · rcases List.mem_cons.mp hy with rfl | hy
          · exact hx
          · have z := h2 y hy
            rw [has_snoc] at z
            exact (Bool.or_eq_false_iff.mp z).1
      · intro ⟨⟨h1, h2⟩, h3⟩
        have z := ih.mpr ⟨h2, fun y hy => ?_⟩
        · omega
        · rw [has_snoc, h3 y (List.mem_cons_of_mem _ hy), Bool.false_or]
          exact decide_eq_false fun e => h1 (by rw [← e]; exact hy)
theorem len_eq_uniq {α : Type} [DecidableEq α] (l : List α) : (uniq l).length = l.length ↔ l.Nodup := by
  have h := len_eq_foldl l []
  unfold uniq
  rw [List.length_nil, Nat.zero_add] at h
  exact h.trans ⟨fun q => q.1, fun q => ⟨q, fun _ _ => rfl⟩⟩
theorem setOf_same {P : Program} {w : World} {h : Heap} {a : Addr} {S S' : Key → Bool} {n n' : Nat} (q : h.SetOf (mixKind P w) a S n) (e : S = S') (en : n = n') : h.SetOf (mixKind P w) a S' n' := by
  subst e; subst en; exact q
section
variable {P : Program} {w : World} {A : Around} {E : Value → Shared → Prop} {s : Shared}
theorem upd_loop {I : Addr} {fp wr : List Addr} {G : Array GenState → Array GenState → Prop} {n : Nat} {Pv : Nat → Value → Prop} {St : Nat → Shared → Prop} {R : Result → Shared → Prop} (W : WalksS P w A.in1 I fp wr G n Pv St) (S : Addr) (hS : S ∉ fp)
    (ks : List Key) (hn : n = ks.length) (hb : ks.length + 1 < scanBound) (hv : ∀ i v, Pv i v → ∃ k, ks[i]? = some k ∧ RelV (kV k) v) :
    ∀ (j i : Nat) (s : Shared), n - i = j → i ≤ n → St i s → s.heap.SetOf (mixKind P w) S (has (ks.take i)) (uniq (ks.take i)).length →
      (∀ s', Moved (S :: wr) G s s' → s'.heap.SetOf (mixKind P w) S (has ks) (uniq ks).length → R (.ok (.ret .none)) s') → codeAny (model P w) A (.builtin "set.update.loop" ⟨[.ref S, .ref I], []⟩) R s := by
  have hw : S ∉ wr := fun h => hS (W.sub _ h)
  have up : ∀ b ∈ wr, b ∈ S :: wr := fun b h => List.mem_cons_of_mem _ h
  have keepS : ∀ {s₁ s₂ : Shared} {T : Key → Bool} {c : Nat}, Moved wr G s₁ s₂ → s₁.heap.SetOf (mixKind P w) S T c → s₂.heap.SetOf (mixKind P w) S T c := fun m q => setOf_at q fun o e => m.heap S o hw e
  intro j
  induction j with
  | zero =>
    intro i s hj hi hst hset hR
    obtain rfl : i = n := by omega
    have e : ks.take i = ks := List.take_of_length_le (by omega)
    rw [e] at hset
    refine codeAny_builtin F.entry_set_update_loop ?_
    rw [Around.under_plainId F.plain_set_update_loop _]
    show wpAny _ A.in1 (pyNext (.ref I) >>= _) _ _ s
    refine wpAny_bind (W.done s _ _ hst fun s' hm => ?_)
    exact wpAny_pure (hR s' (hm.mono up) (keepS hm hset))
  | succ j ih =>
    intro i s hj hi hst hset hR
    have hlt : i < n := by omega
    refine codeAny_builtin F.entry_set_update_loop ?_
    rw [Around.under_plainId F.plain_set_update_loop _]
    show wpAny _ A.in1 (pyNext (.ref I) >>= _) _ _ s
    refine wpAny_bind (W.item i s _ _ hlt hst fun v s' hP hst' hm => ?_)
    obtain ⟨k, hk, rk⟩ := hv i v hP
    have hset' := keepS hm hset
    have hcnt : (uniq (ks.take i)).length + 1 < scanBound := by
      have z := len_uniq (ks.take i)
      rw [List.length_take] at z
      omega
    show wpAny _ A.in1 (holding [v] (setAdd S v) >>= _) _ _ s'
    refine wpAny_bind (wpAny_holding ?_)
    unfold setAdd
    refine wpAny_holding (wpAny_bind ((mixKind P w).pyHash (k := k) (kV_is rk) ?_))
    refine wpAny_setAddHashed_of (knd := mixKind P w) (s := { s' with toks := s'.toks + 1 }) (kV_is rk) (key_scan rk) hset' hcnt fun h' sb new => ?_
    have e1 : ks.take (i + 1) = ks.take i ++ [k] := by rw [List.take_add_one, hk]; rfl
    have new' : h'.SetOf (mixKind P w) S (has (ks.take (i + 1))) (uniq (ks.take (i + 1))).length := by
      refine setOf_same new (funext fun k' => ?_) ?_
      · rw [e1, has_snoc]
      · rw [e1, uniq_snoc]
        unfold add1
        rw [has_uniq]
        cases has (ks.take i) k with
        | true => rfl
        | false =>
          rw [if_neg Bool.false_ne_true, if_neg Bool.false_ne_true, List.length_append]
          rfl
    refine wpAny_pure ⟨plainId_quiet F.plain_set_update_loop _, ih (i + 1) _ (by omega) hlt (W.frame _ s' _ _ hst' (Nat.le_succ _) fun b hb o e => ?_) new' fun s'' hm'' q => ?_⟩
    · rw [sb.2 b (fun z : b = S => hS (by rw [← z]; exact hb))]
      exact e
    · refine hR s'' (Moved.trans W.gtrans ((hm.mono up).then_heap (Nat.le_succ _) fun b o hb e => ?_) hm'') q
      rw [sb.2 b (fun z : b = S => hb (by rw [z]; exact List.mem_cons_self))]
      exact e
abbrev eset (w : World) : Obj := { cls := .type "set", dict := none, data := .set #[] 0 (.fresh 0 0 (!w.params.followText "set-order")) }
theorem set_new {h : Heap} {a : Addr} (e : h.get? a = some (eset w)) : h.SetOf (mixKind P w) a (has []) 0 :=
  ⟨_, #[], 0, _, e, ⟨rfl, rfl, rfl⟩, rfl, (fun z hz => by simp at hz), (fun k => ⟨(fun q => by cases q), (fun ⟨z, hz, _⟩ => by simp at hz)⟩), (by decide), (by rfl), rfl⟩
theorem call_setK {l : Addr} {items : Array Value} (ks : List Key) {Q : Value → Shared → Prop} (hh : A.handled = none) (hl : s.heap.IsTuple l items) (hk : Vals (ks.map kV) items.toList) (hb : ks.length + 1 < scanBound)
    (h : ∀ (h' : Heap) (tk : Nat), h'.SetOf (mixKind P w) s.heap.objs.size (has ks) (uniq ks).length → (∀ b o, s.heap.get? b = some o → h'.get? b = some o) → Q (.ref s.heap.objs.size) { s with heap := h', toks := tk }) :
    wpAny (model P w) A (call (.type "set") [.ref l]) Q E s := by
  have size : items.size = ks.length := by
    have q := hk.length
    rw [List.length_map, Array.length_toList] at q
    exact q.symm
  obtain ⟨c, tl, hmro⟩ := F.called_set.mro
  have f1 := F.called_set.made
  have f2 := F.called_set.sub
  refine wpAny_call (codeAny_of_tree ?_)
  show wpAny _ _ (callAny (.type "set") _) _ _ _
  refine wpAny_pure ⟨Code.quiet_builtin _ (by decide +kernel), codeAny_builtin F.entry_type_call ?_⟩
  rw [Around.under_plain (weight_type_call_type "set" [.ref l] []) rfl]
  have f3 := F.called_set.notType
  have f4 := F.called_set.canCreate
  have f5 := F.typeCall_set_1 (.ref l)
  repeat (any_goals (first | assumption | wp_step))
  refine codeAny_mono (code_set_led1 (.ref l) (E := E) (Q₁ := fun v s₁ => v = .ref s.heap.objs.size ∧ s₁ = { s with heap := s.heap.push (eset w) }) ⟨rfl, rfl⟩) fun r s₁ hr => ?_
  cases r with
  | error e => exact hr
  | ok fl =>
    cases fl with
    | ret v =>
      obtain ⟨rfl, rfl⟩ := hr
      have got : (s.heap.push (eset w)).get? s.heap.objs.size = some (eset w) := Heap.get?_push_size _ rfl
      have ty : Shared.TypeIs { s with heap := s.heap.push (eset w) } (.ref s.heap.objs.size) "set" := ⟨_, got, rfl⟩
      have g1 := F.called_set.init.lookup
      have g2 := F.called_set.init.bind (.ref s.heap.objs.size)
      repeat (any_goals (first | assumption | wp_step))
      refine codeAny_mono (codeAny_call_builtin (R := wants (fun r s₂ => r = .none ∧ ∃ h' tk, s₂ = { s with heap := h', toks := tk } ∧ h'.SetOf (mixKind P w) s.heap.objs.size (has ks) (uniq ks).length ∧ (∀ b o, s.heap.get? b = some o → h'.get? b = some o)) E)
        F.called_set.init.plain F.entry_set_init (check_set_init_1 ty ?_)) fun r₂ s₂ hr₂ => ?_
      · obtain ⟨⟨ocls, odict, odata, oslots⟩, hol, hcl, nl, hdl⟩ := hl
        simp only at hcl hdl
        subst hcl; subst hdl
        have hol' := Heap.get?_push_of_some (eset w) hol
        have f6 := F.sub_tuple_set
        have f7 := F.sub_tuple_frozenset
        have f8 : (Value.type "tuple" == Value.type "dict") = false := by decide
        have tup1 : (s.heap.push (eset w)).IsTuple l items := ⟨_, hol', rfl, nl, rfl⟩
        unfold Builtin.«set.__init__» noKeywords Builtin.Frozenset.updateFrom
        generalize hPI : pyIter = PI
        wp_walk
        subst hPI
        refine wpAny_pyIter_tuple tup1 (wpAny_bind (wpAny_runValue ?_))
        have lS : l < s.heap.objs.size := Heap.lt_size hol
        have sz1 : (s.heap.push (eset w)).objs.size = s.heap.objs.size + 1 := Heap.size_push ..
        have n1 : l ≠ (s.heap.push (eset w)).objs.size := by rw [sz1]; exact Nat.ne_of_lt (Nat.lt_succ_of_lt lS)
        have n2 : s.heap.objs.size ∉ [(s.heap.push (eset w)).objs.size, l] := by
          rw [sz1]
          simp only [List.mem_cons, List.not_mem_nil, or_false, not_or]
          exact ⟨Nat.ne_of_lt (Nat.lt_succ_self _), Nat.ne_of_gt lS⟩
        have vals : ∀ (i : Nat) (v : Value), items[i]? = some v → ∃ k, ks[i]? = some k ∧ RelV (kV k) v := by
          intro i v hv
          have hi : i < ks.length := by rw [← size]; exact (Array.getElem?_eq_some_iff.mp hv).1
          obtain ⟨u, e1, e2⟩ := hk.get (i := i) (x := kV ks[i]) (by rw [List.getElem?_map, List.getElem?_eq_getElem hi]; rfl)
          rw [Array.getElem?_toList, hv] at e1
          cases e1
          exact ⟨_, List.getElem?_eq_getElem hi, e2⟩
        refine upd_loop ((Walks.tuple (by simp [hh]) _ l n1 items).toS) s.heap.objs.size n2 ks size hb vals (items.size - 0) 0 _ (by omega) (Nat.zero_le _) ⟨⟨_, Heap.get?_push_size _ rfl, rfl, rfl⟩, (tup1.push _)⟩ ?new ?fin
        case new => exact set_new (Heap.get?_push_of_some _ got)
        case fin =>
          intro s' hm hS'
          obtain ⟨h', g', d', tk', os'⟩ := s'
          obtain rfl : g' = s.gens := hm.gens
          obtain rfl : d' = s.drawn := hm.drawn
          obtain rfl : os' = s.os := hm.os
          show wpAny _ _ _ _ _ _
          refine wpAny_pure ?_
          show wpAny _ _ (ret Value.none) _ _ _
          refine wpAny_pure ⟨rfl, h', tk', rfl, hS', fun b o e => ?_⟩
          have hb0 : b < s.heap.objs.size := Heap.lt_size e
          exact hm.heap b o (by rw [sz1]; simp only [List.mem_cons, List.not_mem_nil, or_false, not_or]; exact ⟨Nat.ne_of_lt hb0, Nat.ne_of_lt (Nat.lt_succ_of_lt hb0)⟩) (Heap.get?_push_of_some _ (Heap.get?_push_of_some _ e))
      · cases r₂ with
        | error z => exact hr₂
        | ok f₂ =>
          cases f₂ with
          | ret v₂ =>
            obtain ⟨rfl, h', tk, rfl, q1, q2⟩ := hr₂
            repeat (any_goals (first | assumption | wp_step))
            exact h _ _ q1 q2
          | next => exact hr₂.elim
          | brk => exact hr₂.elim
          | cont => exact hr₂.elim
    | next => exact hr.elim
    | brk => exact hr.elim
    | cont => exact hr.elim
end
end Ks
namespace L2
open PySem PySem.Spec PyProof.Rows Ks
section
variable {X : Cx}
/-- set(t), t a tuple of ints and texts -/
def rSetT (K : PySem.W.Frag) (P : Program) (w : World) : List V → Hp → VK → Prop := fun xs H Q => ∃ (l : Addr) (ks : List Key), xs = [.ref l] ∧ SqT K H l (ks.map kV) ∧ ks.length + 1 < scanBound ∧ ∀ p, H p = none → Q (.ref p) (upd H p (SetK P w p (has ks) (uniq ks).length))
theorem cr_setT (hc : X.calm = true) : CallR X (.type "set") (rSetT X.K X.prog X.w) := by
  intro pins s σ H xs us Q I r ⟨l, ks, e, hs, hb, q⟩
  subst e
  rw [Vals.ref1 r]
  obtain ⟨its, rv, tp, _⟩ := I.tuple hs
  refine call_setK (P := X.prog) (w := X.w) ks (I.ok.hd hc) tp (by simpa using rv) hb fun h' tk S k => ?_
  exact ⟨.ref s.heap.objs.size, _, I.laid (t' := tk) k (Nat.le_refl _) (setK_new S), rfl, q _ (I.hok.fresh (Nat.le_refl _))⟩
/-- len of such a set -/
def rLenSetK (P : Program) (w : World) : List V → Hp → VK → Prop := fun xs H Q => ∃ (a : Addr) (S : Key → Bool) (n : Nat), xs = [.ref a] ∧ H a = some (SetK P w a S n) ∧ Q (.int n) H
theorem cr_lenSetK : CallR X (.builtin "len") (rLenSetK X.prog X.w) := by
  intro pins s σ H xs us Q I r ⟨a, S, n, e, ha, q⟩
  subst e
  rw [Vals.ref1 r]
  obtain ⟨o, es, ep, t, ho, hx, hd, _, _, hz, hf, hn⟩ := setK_get I ha
  refine call_len_set ho hx hd hf (by have h1 : es.size < 2 ^ 62 := Nat.lt_of_lt_of_le hz (by decide); omega) ?_
  rw [hn]
  exact ⟨.int n, H, I.tok _, ⟨_, rfl⟩, q⟩
end
end L2
namespace Kd
open PySem L2 Evl Ks
/-- [e for x in .. if t]: what each item gives is told by a list rs (whether it is taken, the value) -/
theorem lcR {J : It} {n : Nat} {G : Hp → Prop} {Y : Nat → Hp → V → Hp → Prop} (w : Walk J n G Y) {i : Nat} {tt : TT} {te : TE} {σ : L2.St} {H1 : Hp} {D : Addr} {Qd : Hp → Prop} (hD : H1 D = none) (xs : List V) (rs : List (Bool × V)) (hn : rs.length = n) (hz : n < sizeLine)
    (hG : ∀ H, Ex H1 H → G H) (hY : ∀ k H x H', Y k H x H' → H' = H ∧ xs[k]? = some x) (hw : ∀ v, wipe ((wipe σ [i]).set i v) [i] = wipe σ [i])
    (ht : ∀ (k : Nat) x b y H, xs[k]? = some x → rs[k]? = some (b, y) → Ex H1 H → EvT tt ((wipe σ [i]).set i (some x)) H b) (he : ∀ (k : Nat) x y H, xs[k]? = some x → rs[k]? = some (true, y) → Ex H1 H → Ev te ((wipe σ [i]).set i (some x)) H y)
    (hq : ∀ H, Ex H1 H → H D = some (.lst ((rs.filter (·.1)).map (·.2))) → Qd H) :
    ∃ W : Nat → Nat → Hp → Prop, (∃ m, W 0 m (upd H1 D (.lst []))) ∧ ∀ k m H, W k m H →
      (J.stop k H ∧ Qd H) ∨ (J.go k H ∧ ∃ Nx : Hp → Prop, (∀ H', Nx H' → ∃ m', m' < m ∧ W (k + 1) m' H') ∧ ∀ x H', J.yld k H x H' → gName i x (wipe σ [i]) H' fun σ2 H2 => wipe σ2 [i] = wipe σ [i] ∧ tt σ2 H2 fun b H3 =>
        if b = true then te σ2 H3 fun y H4 => ∃ acc, H4 D = some (.lst acc) ∧ acc.length < sizeLine ∧ Nx (upd H4 D (.lst (acc ++ [y]))) else Nx H3) := by
  refine lc_it w (fun k H => Ex H1 H ∧ H D = some (.lst (((rs.take k).filter (·.1)).map (·.2)))) ⟨Ex.mut (Ex.refl H1) hD, upd_same⟩ (fun k H _ h => hG H h.1) ?_ (fun H h => hq H h.1 (by rw [h.2, List.take_of_length_le (by omega)]))
  rintro k x H H' hk ⟨e, hd⟩ y
  obtain ⟨rfl, hx⟩ := hY k H x H' y
  have hk' : k < rs.length := by omega
  obtain ⟨⟨b, z⟩, hr⟩ : ∃ q, rs[k]? = some q := ⟨rs[k], List.getElem?_eq_getElem hk'⟩
  have ht1 : rs.take (k + 1) = rs.take k ++ [(b, z)] := by
    rw [List.take_add_one, hr]
    rfl
  refine ⟨hw (some x), ht k x b z H' hx hr e H' (Ex.refl _) _ fun H3 e3 => ?_⟩
  cases b with
  | false =>
    refine if_f rfl ⟨e.trans e3, ?_⟩
    rw [e3 _ _ hd, ht1, List.filter_append]
    simp
  | true =>
    refine if_t rfl (he k x z H' hx hr e H3 e3 _ fun H4 e4 => ⟨_, e4 _ _ (e3 _ _ hd), ?_, Ex.mut ((e.trans e3).trans e4) hD, ?_⟩)
    · rw [List.length_map]
      have h1 := List.length_filter_le (fun q : Bool × V => q.1) (rs.take k)
      have h2 : (rs.take k).length ≤ n := by rw [List.length_take, hn]; exact Nat.min_le_right _ _
      omega
    · rw [upd_same, ht1, List.filter_append, List.map_append]
      simp
theorem lcR_all {α : Type} (ds : List α) (f : α → V) : ((ds.map fun d => (true, f d)).filter (·.1)).map (·.2) = ds.map f := by
  induction ds with
  | nil => rfl
  | cons d r ih =>
    rw [List.map_cons, List.filter_cons]
    show (_ :: ((r.map fun d => (true, f d)).filter (·.1))).map (·.2) = _
    rw [List.map_cons, ih]
    rfl
theorem put_const (z : V) (l : List Key) (k : Key) : putK (l.map fun q => (q, z)) k z = (add1 l k).map fun q => (q, z) := by
  unfold putK add1
  have e : ((l.map fun q => (q, z)).any fun kv => decide (kv.1 = k)) = has l k := by
    unfold has
    rw [List.any_map]
    rfl
  rw [e]
  cases has l k with
  | true =>
    rw [if_pos rfl, if_pos rfl, List.map_map]
    refine List.map_congr_left fun q _ => ?_
    show (if q = k then (q, z) else (q, z)) = (q, z)
    split <;> rfl
  | false =>
    rw [if_neg Bool.false_ne_true, if_neg Bool.false_ne_true, List.map_append]
    rfl
/-- {x: z for x in t}, z one scalar -/
theorem dcS {K : PySem.W.Frag} {a : Addr} {i : Nat} {tk tv : TE} {σ : L2.St} {H1 : Hp} {D : Addr} {Qd : Hp → Prop} (hD : H1 D = none) (ks : List Key) (z : V) (hz : ks.length < sizeLine) (hs : SqT K H1 a (ks.map kV)) (hw : ∀ v, wipe ((wipe σ [i]).set i v) [i] = wipe σ [i])
    (hk : ∀ x H, x ∈ ks → Ex H1 H → Ev tk ((wipe σ [i]).set i (some (kV x))) H (kV x)) (hv : ∀ x H, x ∈ ks → Ex H1 H → Ev tv ((wipe σ [i]).set i (some (kV x))) H z)
    (hq : ∀ H, Ex H1 H → H D = some (.dK ((uniq ks).map fun k => (k, z))) → Qd H) :
    ∃ W : Nat → Nat → Hp → Prop, (∃ m, W 0 m (upd H1 D (.dK []))) ∧ ∀ k m H, W k m H →
      ((Itt K a).stop k H ∧ Qd H) ∨ ((Itt K a).go k H ∧ ∃ Nx : Hp → Prop, (∀ H', Nx H' → ∃ m', m' < m ∧ W (k + 1) m' H') ∧ ∀ x H', (Itt K a).yld k H x H' → gName i x (wipe σ [i]) H' fun σ2 H2 => wipe σ2 [i] = wipe σ [i] ∧ tYes σ2 H2 fun b H3 =>
        if b = true then tk σ2 H3 fun y H4 => tv σ2 H4 fun z H5 => ∃ kvs k, y = kV k ∧ H5 D = some (.dK kvs) ∧ kvs.length < sizeLine ∧ Nx (upd H5 D (.dK (putK kvs k z))) else Nx H3) := by
  refine dc_tup (xs := ks.map kV) (fun k H => Ex H1 H ∧ H D = some (.dK ((uniq (ks.take k)).map fun q => (q, z)))) ⟨Ex.mut (Ex.refl H1) hD, upd_same⟩ (fun k H _ h => ex_t h.1 hs) ?_ (fun H h => hq H h.1 (by rw [h.2, List.take_of_length_le (by rw [List.length_map]; exact Nat.le_refl _)]))
  rintro k x H hx ⟨e, hd⟩
  rw [List.getElem?_map] at hx
  obtain ⟨y, hy, rfl⟩ : ∃ y, ks[k]? = some y ∧ x = kV y := by
    cases q : ks[k]? with
    | none => rw [q] at hx; cases hx
    | some y => rw [q] at hx; exact ⟨y, rfl, (Option.some.inj hx).symm⟩
  have hm : y ∈ ks := List.mem_of_getElem? hy
  refine ⟨hw (some (kV y)), hk y H hm e H (Ex.refl _) _ fun H4 e4 => hv y H hm e H4 e4 _ fun H5 e5 => ⟨_, y, rfl, e5 _ _ (e4 _ _ hd), ?_, Ex.mut ((e.trans e4).trans e5) hD, ?_⟩⟩
  · rw [List.length_map]
    have h1 := len_uniq (ks.take k)
    rw [List.length_take] at h1
    omega
  · rw [upd_same, put_const, List.take_add_one, hy]
    show _ = some (HO.dK ((uniq (ks.take k ++ [y])).map _))
    rw [uniq_snoc]
end Kd
namespace L2
open PySem PySem.Spec PyProof.Rows
section
variable {X : Cx}
/-- sorted(t), t a tuple or a list of texts, fewer than 64 -/
def rSortU (K : PySem.W.Frag) : List V → Hp → VK → Prop := fun vs H Q => ∃ (a : Addr) (xs : List Str), vs = [V.ref a] ∧ (SqT K H a (xs.map V.str) ∨ SqL K H a (xs.map V.str)) ∧ xs.length < 64 ∧
  ∀ (ys : List Str) (p : Addr), ys.Perm xs → sortedS ys = true → H p = none → Q (.ref p) (upd H p (.lst (ys.map V.str)))
theorem cr_sortU : CallR X (.builtin "sorted") (rSortU X.K) := by
  intro pins s σ H vs us Q I r ⟨a, xs, e, hs, few, q⟩
  subst e
  rw [Vals.ref1 r]
  have hsq : ∃ (its : List Value) (T : String) (o : Obj) (n : Nat), Vals (xs.map V.str) its ∧ (T = "list" ∨ T = "tuple") ∧ s.heap.get? a = some o ∧ o.cls = .type T ∧ o.data = .seq its.toArray n := by
    rcases hs with hs | hs
    · obtain ⟨its, rv, ⟨o, ho, hc, n, hd⟩, _⟩ := I.tuple hs
      exact ⟨its, "tuple", o, n, rv, .inr rfl, ho, hc, hd⟩
    · obtain ⟨its, rv, ⟨o, n, ho, hc, _, hd⟩, _⟩ := I.list hs
      exact ⟨its, "list", o, n, rv, .inl rfl, ho, hc, hd⟩
  obtain ⟨its, T, o, n, rv, hT, ho, hc, hd⟩ := hsq
  have hS : StrsAre its xs := rv.strs
  have hlen : its.length = xs.length := by have e := rv.length; rw [List.length_map] at e; exact e.symm
  have hsz : its.length < 64 := by rw [hlen]; exact few
  have hln : its.length ≤ sizeLine := small64 hsz
  refine Calls.call_function_entry kind_sorted plain_sorted entry_sorted (args_sorted1 _) ?_
  unfold Builtin.«sorted»
  refine wpAny_bind (m := checkCount "sorted" 1 1 _) (wpAny_pure ?_)
  refine wpAny_bind (wpAny_collect_seq a hT ho hc hd (fun h1 kp => ?_) (by rw [List.size_toArray]; exact hln))
  refine wpAny_bind (wpAny_newList ?_ hln)
  have J : Inv X pins σ H { s with heap := h1 } := I.kept (t' := s.toks) kp
  have hnew : (h1.push (seqObj "list" its.toArray 0)).get? h1.objs.size = some (seqObj "list" its.toArray 0) := Heap.get?_push_size _ rfl
  show wpAny _ _ _ _ _ { s with heap := h1.push (seqObj "list" its.toArray 0) }
  refine wpAny_bind (wpAny_holding (wpAny_call_entry slot_list_sort ⟨_, hnew, rfl⟩ entry_list_sort
    (list_sort_treeK strKind_oneLt (s := { s with heap := h1.push (seqObj "list" its.toArray 0) }) hnew hS.keysOf (fun x y l e => keyKind_strs (by rw [← e]; exact hS)) hsz fun st hp ho => ⟨_, rfl, ?_⟩) (args_list_sort _)))
  obtain ⟨ys, g1, g2, g3⟩ := sorted_out_str hS hp ho
  obtain ⟨n', h'⟩ := sortedHeap_at (vs := its) (out := (arrOf st).map (·.2)) hnew
  have hfin : (ys.map V.str).length ≤ sizeLine := by rw [List.length_map, g2.length_eq]; exact small64 few
  refine wpAny_pure ⟨_, rfl, .ref h1.objs.size, upd H h1.objs.size (.lst (ys.map V.str)), J.laid (t' := s.toks) (fun b u e => ?_) (Nat.le_refl _)
    (show ObjOk X.prog X.w _ _ _ (.lst (ys.map V.str)) from ⟨hfin, ((arrOf st).map (·.2)).toList, n', vals_of_strs g1, by rw [Array.toArray_toList]; exact h'⟩), rfl, q ys _ g2 g3 (J.hok.fresh (Nat.le_refl _))⟩
  have hb : b < h1.objs.size := Heap.lt_size e
  rw [sortedHeap_old (Nat.ne_of_lt hb) (by rw [size_push']; exact Nat.lt_succ_of_lt hb)]
  exact Heap.get?_push_of_some _ e
end
end L2
/-! The order of texts: what is sorted is one. -/
namespace Kd
open PySem PySem.Spec PyProof.Rows
theorem lt_irrefl_c : ∀ a : List Nat, ltCps a a = false
  | [] => rfl
  | x :: r => by
    show (decide (x < x) || (x == x && ltCps r r)) = false
    rw [lt_irrefl_c r, decide_eq_false (Nat.lt_irrefl x)]
    simp
theorem lt_total_c : ∀ a b : List Nat, ltCps a b = false → ltCps b a = false → a = b
  | [], [], _, _ => rfl
  | [], _ :: _, h, _ => by cases h
  | _ :: _, [], _, h => by cases h
  | x :: r, y :: t, h1, h2 => by
    have a1 : (decide (x < y) || (x == y && ltCps r t)) = false := h1
    have a2 : (decide (y < x) || (y == x && ltCps t r)) = false := h2
    obtain ⟨p1, q1⟩ := Bool.or_eq_false_iff.mp a1
    obtain ⟨p2, q2⟩ := Bool.or_eq_false_iff.mp a2
    have e : x = y := by
      have := of_decide_eq_false p1
      have := of_decide_eq_false p2
      omega
    subst e
    rw [beq_self_eq_true, Bool.true_and] at q1 q2
    rw [lt_total_c r t q1 q2]
theorem lt_trans_c : ∀ a b c : List Nat, ltCps a b = true → ltCps b c = true → ltCps a c = true
  | [], [], _, h, _ => by cases h
  | [], _ :: _, [], _, h => by cases h
  | [], _ :: _, _ :: _, _, _ => rfl
  | _ :: _, [], _, h, _ => by cases h
  | _ :: _, _ :: _, [], _, h => by cases h
  | x :: r, y :: t, z :: u, h1, h2 => by
    have a1 : (decide (x < y) || (x == y && ltCps r t)) = true := h1
    have a2 : (decide (y < z) || (y == z && ltCps t u)) = true := h2
    show (decide (x < z) || (x == z && ltCps r u)) = true
    rcases Bool.or_eq_true_iff.mp a1 with p | p <;> rcases Bool.or_eq_true_iff.mp a2 with q | q
    · rw [decide_eq_true (Nat.lt_trans (of_decide_eq_true p) (of_decide_eq_true q))]; rfl
    · obtain ⟨q1, _⟩ := Bool.and_eq_true_iff.mp q
      rw [decide_eq_true (by rw [← beq_iff_eq.mp q1]; exact of_decide_eq_true p)]; rfl
    · obtain ⟨p1, _⟩ := Bool.and_eq_true_iff.mp p
      rw [decide_eq_true (by rw [beq_iff_eq.mp p1]; exact of_decide_eq_true q)]; rfl
    · obtain ⟨p1, p2⟩ := Bool.and_eq_true_iff.mp p
      obtain ⟨q1, q2⟩ := Bool.and_eq_true_iff.mp q
      rw [beq_iff_eq.mp p1, beq_iff_eq.mp q1, lt_trans_c r t u p2 q2]
      simp
/-- a stands not behind b -/
def leS (a b : Str) : Prop := ltCps b.cps.toList a.cps.toList = false
theorem leS_trans {a b c : Str} (h1 : leS a b) (h2 : leS b c) : leS a c := by
  unfold leS at *
  cases h : ltCps c.cps.toList a.cps.toList with
  | false => rfl
  | true =>
    -- c < a, a ≤ b, b ≤ c
    cases hab : ltCps a.cps.toList b.cps.toList with
    | true => rw [lt_trans_c _ _ _ h hab] at h2; cases h2
    | false =>
      rw [← lt_total_c _ _ hab h1, h] at h2
      cases h2
theorem leS_anti {a b : Str} (h1 : leS a b) (h2 : leS b a) : a = b := by
  have e := lt_total_c _ _ h2 h1
  cases a with | mk x => cases b with | mk y =>
    have e1 : x.toList = y.toList := e
    rw [Array.toList_inj.mp e1]
theorem rising_pair : ∀ (l : List Str) (p : Str), risingS p l = true → (p :: l).Pairwise leS
  | [], p, _ => List.pairwise_singleton _ _
  | x :: r, p, h => by
    have h' : (!ltCps x.cps.toList p.cps.toList && risingS x r) = true := h
    obtain ⟨h1, h2⟩ := Bool.and_eq_true_iff.mp h'
    have ih := rising_pair r x h2
    have hpx : leS p x := by
      unfold leS
      rw [Bool.not_eq_true'] at h1
      exact h1
    refine List.pairwise_cons.mpr ⟨fun y hy => ?_, ih⟩
    rcases List.mem_cons.mp hy with rfl | hy
    · exact hpx
    · exact leS_trans hpx ((List.pairwise_cons.mp ih).1 y hy)
theorem sorted_pair {l : List Str} (h : sortedS l = true) : l.Pairwise leS := by
  cases l with
  | nil => exact List.Pairwise.nil
  | cons x r => exact rising_pair r x h
/-- ys is xs, sorted -/
def IsSort (xs ys : List Str) : Prop := ys.Perm xs ∧ sortedS ys = true
theorem sort_one {xs zs ys us : List Str} (hp : xs.Perm zs) (h1 : IsSort xs ys) (h2 : IsSort zs us) : ys = us :=
  List.Perm.eq_of_pairwise (le := leS) (fun a b _ _ => leS_anti) (sorted_pair h1.2) (sorted_pair h2.2) ((h1.1.trans hp).trans h2.1.symm)
end Kd
/-! == and != by an own __eq__, whatever it answers -/
namespace Ko
open PySem PySem.Spec PyProof.Rows PySem.SeqAt
section
variable {M : Model} {prog : Program} {w : World} {A : Around} {E : Value → Shared → Prop} {s : Shared} {K : PySem.W.Frag} {x C f L : Addr} {ox : Obj} {od : Option Obj} {b tb : Value} {h₀ : Heap} {m : Str → Option Value}
/-- object.__ne__ where the class has an own __eq__ -/
theorem ne_entry {Q : Fin → Shared → Prop} (hu : A.units < cLine) (X : K.In s.heap) (I : PySem.W.InstAt s.heap x ox C od) (hs : PySem.W.findIn K (.ref C) "__eq__" = some (some (.ref f))) (hf : PySem.W.isFn K (.ref f) = true)
    (h : wpAny M A (call (.ref f) [.ref x, b]) (fun v s' => ∃ c, v = .bool c ∧ Q (.done (.ret (.bool (!c)))) s') E s) : wpAny M A (Builtin.«object.__ne__» ⟨[.ref x, b], []⟩) Q E s := by
  unfold Builtin.«object.__ne__»
  repeat (first
    | with_reducible refine wpAny_cRoomFor hu ?_
    | (refine wpAny_bind (m := callSpecialIfBound? (.ref x) (Str.ofString "__eq__") [b]) (PySem.W.ifBound_K X I hs hf (wpAny_mono h (fun r s' hr => by
          obtain ⟨c, rfl, hq⟩ := hr
          repeat (first | exact hq | exact wpAny_pure hq | exact wpAny_truthy_bool hq | (refine wpAny_bind (m := truthy (.bool _)) (wpAny_truthy_bool ?_)) | wp_step)) fun _ _ e => e)))
    | wp_step)
theorem call_ne {Q : Value → Shared → Prop} (hu : A.units + 1 < cLine) (X : K.In s.heap) (I : PySem.W.InstAt s.heap x ox C od) (hm : PySem.W.mroIn K C (.type "object") = some true) (hs : PySem.W.findIn K (.ref C) "__eq__" = some (some (.ref f))) (hf : PySem.W.isFn K (.ref f) = true)
    (h : wpAny (model prog w) A.in1 (call (.ref f) [.ref x, b]) (fun v s' => ∃ c, v = .bool c ∧ Q (.bool (!c)) s') E s) : wpAny (model prog w) A (call (.builtin "object.__ne__") [.ref x, b]) Q E s :=
  wpAny_call (codeAny_call_builtin F.cmp_object.ne.plain F.cmpEntry_ne (PySem.W.check_slot F.cmpKind_ne F.cmpSplit_ne (I.type.andThen (PySem.W.looks_mroIn X hm)) (F.cmpArgs_ne _ _)
    (ne_entry (A := A.in1) hu X I hs hf (wpAny_mono h (fun v s' ⟨c, e, q⟩ => ⟨c, e, q⟩) fun _ _ e => e))))
theorem ifBound_ne {args : List Value} {Q : Option Value → Shared → Prop} (X : K.In s.heap) (I : PySem.W.InstAt s.heap x ox C od) (hs : PySem.W.findIn K (.ref C) "__ne__" = some (some (.builtin "object.__ne__")))
    (h : wpAny M A (call (.builtin "object.__ne__") (.ref x :: args)) (fun v => Q (some v)) E s) : wpAny M A (callSpecialIfBound? (.ref x) "__ne__" args) Q E s := by
  have fin : wpAny M A (call (.builtin "object.__ne__") ([.ref x] ++ args) >>= fun v => pure (some v)) Q E s := wpAny_bind (wpAny_mono h (fun _ _ q => wpAny_pure q) fun _ _ q => q)
  simp only [callSpecialIfBound?, bindSpecialIfBound?]
  refine wpAny_holding (wpAny_bind (wpAny_bind (wpAny_bind (I.type.here ((PySem.W.looks_findIn X hs).here (wpAny_bind (wpAny_askSetting (wpAny_ite ?_))))))))
  split
  · exact wpAny_bind (wpAny_of_eq (F.cmp_object.ne.bind _) (wpAny_pure (by exact fin)))
  · exact wpAny_tryCatch (wpAny_bind (wpAny_of_eq (F.cmp_object.ne.bind _) (wpAny_pure (by exact fin))))
theorem ne_own {Q : Value → Shared → Prop} (hu : A.units + 1 < cLine) (X : K.In s.heap) (I : PySem.W.InstAt s.heap x ox C od) (hb : PySem.W.Looks (model prog w) s.heap (typeOf b) tb) (hn : PySem.W.notFirst K C tb = true)
    (hm : PySem.W.mroIn K C (.type "object") = some true) (hne : PySem.W.findIn K (.ref C) "__ne__" = some (some (.builtin "object.__ne__"))) (hs : PySem.W.findIn K (.ref C) "__eq__" = some (some (.ref f))) (hf : PySem.W.isFn K (.ref f) = true)
    (h : wpAny (model prog w) A.in1 (call (.ref f) [.ref x, b]) (fun v s' => ∃ c, v = .bool c ∧ Q (.bool (!c)) s') E s) : wpAny (model prog w) A (richCompare .NotEq (.ref x) b) Q E s := by
  have one : wpAny (model prog w) A (tryCompare (.ref x) "__ne__" b) (fun r s' => ∃ c, r = some (.bool c) ∧ Q (.bool c) s') E s := by
    unfold tryCompare
    refine wpAny_bind (ifBound_ne X I hne (call_ne hu X I hm hs hf (wpAny_mono h (fun v s' z => ?_) fun _ _ e => e)))
    obtain ⟨c, rfl, q⟩ := z
    exact ⟨c, rfl, wpAny_pure ⟨!c, rfl, q⟩⟩
  simp only [richCompare, cmpInfo_NotEq, oneThing_ref]
  refine wpAny_holding (wpAny_bind (wpAny_cRoomFor (by omega) (wpAny_bind (I.type.here (wpAny_bind (hb.here ?_))))))
  split
  · rename_i q
    have e : PySem.W.subIn K tb (.ref C) = some false := by
      rcases Bool.or_eq_true_iff.mp hn with z | z
      · rw [beq_iff_eq.mp z] at q; simp at q
      · exact beq_iff_eq.mp z
    refine wpAny_bind ((PySem.W.looks_subIn X e).here ?_)
    simp only [Bool.false_eq_true, if_false]
    refine wpAny_bind (wpAny_mono one (fun r s' z => ?_) fun _ _ e => e)
    obtain ⟨c, rfl, hq⟩ := z
    exact wpAny_pure hq
  · refine wpAny_bind (wpAny_pure ?_)
    simp only [Bool.false_eq_true, if_false]
    refine wpAny_bind (wpAny_mono one (fun r s' z => ?_) fun _ _ e => e)
    obtain ⟨c, rfl, hq⟩ := z
    exact wpAny_pure hq
end
end Ko
namespace L2
open PySem PySem.Spec PyProof.Rows
section
variable {X : Cx} {C f : Addr} {fd : FuncData} {ps : List Str} {sp : Sp} {n : Nat}
/-- what an own class tells of its == -/
structure OwnCmp (K : PySem.W.Frag) (C f : Addr) : Prop where
  eq : PySem.W.findIn K (.ref C) "__eq__" = some (some (.ref f))
  fn : PySem.W.isFn K (.ref f) = true
  ne : PySem.W.findIn K (.ref C) "__ne__" = some (some (.builtin "object.__ne__"))
  mr : PySem.W.mroIn K C (.type "object") = some true
/-- x == y, x != y: x an instance of C, y of the type t -/
def rOwnC (K : PySem.W.Frag) (C : Addr) (sp : Sp) (g : Bool → Bool) : R2 := fun x y H Q => ∃ a dx fs t, x = .ref a ∧ H a = some (.ins C dx fs) ∧ TyX K H y t ∧ PySem.W.notFirst K C t = true ∧ sp [x, y] H (fun v H' => ∃ c, v = .bl c ∧ Q (.bl (g c)) H') fun _ _ _ => False
theorem typeLook {pins : List (Addr × Obj)} {σ : St} {H : Hp} {s : Shared} {M : Model} {x : V} {u t : Value} (I : Inv X pins σ H s) (rx : RelV x u) (ty : TyX X.K H x t) : PySem.W.Looks M s.heap (typeOf u) t := by
  obtain ⟨P, kx, hp, _⟩ := kit_of I rx ty
  exact kx.ty M _ I.kIn hp
/-- a def of the text, called at another depth -/
theorem run_at {CX : CXT} {E : XK} {pins : List (Addr × Obj)} {σ : St} {H : Hp} {s : Shared} {vs : List V} {us : List Value} {Q : VK} {A : Around} (F : FnOk X.prog X.w X.K X.mg X.base CX n f fd ps sp) (hb : Binds X.K fd ps []) (hx : Passes CX X E) (hA : A.frames = X.A.frames) (hr : Room n A)
    (I : Inv X pins σ H s) (r : Vals vs us) (q : sp vs H Q E) : wpAny (model X.prog X.w) A (call (.ref f) us) (EP X pins σ Q) X.xe s := by
  have e0 : Env0 X.prog X.w X.K X.mg X.base A X.stack s H := by
    have e := I.env0
    exact ⟨hA.trans e.frames, e.mod, e.bs, e.bsz, e.funs, e.frf, e.hok, e.bare⟩
  have hl := F.len _ _ _ _ q
  have hlu : us.length = ps.length := by rw [← r.length]; exact hl
  refine wpAny_call (codeAny_mono (F.run A X.stack s H ⟨us, []⟩ us vs Q E hr e0 (by simpa using hb s us I.kIn (by simpa using hlu)) r q) fun r' s' hq => ?_)
  cases r' with
  | error e => exact hx pins σ H s e s' I hq
  | ok fl =>
    cases fl with
    | ret w => exact I.after hq
    | next => exact hq.elim
    | brk => exact hq.elim
    | cont => exact hq.elim
theorem own_at {pins : List (Addr × Obj)} {σ : St} {H : Hp} {s : Shared} {a dx : Addr} {fs : List (Str × V)} (I : Inv X pins σ H s) (ha : H a = some (.ins C dx fs)) : ∃ (ox : Obj) (od : Option Obj), PySem.W.InstAt s.heap a ox C od := by
  obtain ⟨mA, J, _⟩ := ins_get I.hok ha
  obtain ⟨od, J, _⟩ := J.look
  exact ⟨_, _, J⟩
theorem op_ownEq (F : FnOk X.prog X.w X.K X.mg X.base CX0 n f fd ps sp) (O : OwnCmp X.K C f) (hb : Binds X.K fd ps []) (hr : Room n X.A) : OpR X (compareOp .Eq) (rOwnC X.K C sp id) := by
  intro pins s σ H x y v u Q I rx ry ⟨a, dx, fs, t, ex, ha, ht, hn, q⟩
  subst ex
  cases rx
  obtain ⟨ox, od, J⟩ := own_at I ha
  obtain ⟨m, hF⟩ := I.fr
  refine PySem.W.cmp_ofEq (PySem.W.cmp_K (op := .Eq) (tb := t) hr.units0 hF I.ok.mod.kin J (typeLook I ry ht) hn O.eq O.fn ?_)
  refine wpAny_mono (run_at F hb pass0 rfl hr I (vs := [.ref a, y]) (.cons rfl (.cons ry .nil)) q) (fun r s' z => ?_) fun _ _ z => z
  obtain ⟨v', H', I', rv, c, e, q'⟩ := z
  subst e
  cases rv
  exact ⟨.bl c, H', I', rfl, q'⟩
theorem op_ownNe (F : FnOk X.prog X.w X.K X.mg X.base CX0 n f fd ps sp) (O : OwnCmp X.K C f) (hb : Binds X.K fd ps []) (hr : Room (n + 1) X.A) : OpR X (compareOp .NotEq) (rOwnC X.K C sp not) := by
  intro pins s σ H x y v u Q I rx ry ⟨a, dx, fs, t, ex, ha, ht, hn, q⟩
  subst ex
  cases rx
  obtain ⟨ox, od, J⟩ := own_at I ha
  refine PySem.W.cmp_ofNotEq (Ko.ne_own (by have := hr.un; omega) I.kIn J (typeLook I ry ht) hn O.mr O.ne O.eq O.fn ?_)
  refine wpAny_mono (run_at (A := X.A.in1) F hb pass0 rfl hr.in1 I (vs := [.ref a, y]) (.cons rfl (.cons ry .nil)) q) (fun r s' z => ?_) fun _ _ z => z
  obtain ⟨v', H', I', rv, c, e, q'⟩ := z
  subst e
  cases rv
  exact ⟨c, rfl, .bl (!c), H', I', rfl, q'⟩
end
end L2
namespace L2
open PySem PySem.Spec PyProof.Rows
section
variable {X : Cx} {C f : Addr} {fd : FuncData} {ps : List Str} {sp : Sp} {n : Nat}
/-- str(o) by an own __str__ -/
def rStrOwn (C : Addr) (sp : Sp) : List V → Hp → VK → Prop := fun xs H Q => ∃ a dx fs, xs = [.ref a] ∧ H a = some (.ins C dx fs) ∧ sp [.ref a] H (fun v H' => ∃ z, v = .str z ∧ Q v H') fun _ _ _ => False
theorem call_strOwn (F : FnOk X.prog X.w X.K X.mg X.base CX0 n f fd ps sp) (hs : PySem.W.findIn X.K (.ref C) "__str__" = some (some (.ref f))) (hf : PySem.W.isFn X.K (.ref f) = true) (hb : Binds X.K fd ps []) (hr : Room (n + 2) X.A) :
    CallR X (.type "str") (rStrOwn C sp) := by
  intro pins s σ H xs us Q I r ⟨a, dx, fs, e, ha, q⟩
  subst e
  rw [Vals.ref1 r]
  obtain ⟨ox, od, J⟩ := own_at I ha
  refine PySem.W.kso_call (by have h := hr.un; show X.A.units + 1 + 1 < cLine; omega) I.kIn J hs hf ?_
  refine wpAny_mono (run_at (A := X.A.in1.in1) F hb pass0 rfl hr.in1.in1 I (vs := [.ref a]) (.cons rfl .nil) q) (fun v s' z => ?_) fun _ _ z => z
  obtain ⟨v', H', I', rv, y, e, q'⟩ := z
  subst e
  obtain ⟨t, rfl⟩ := rv
  exact ⟨.str y, H', I', ⟨t, rfl⟩, q'⟩
end
end L2
/-! Defs whose run knows that nothing is being shown (repr) around them. -/
namespace L2
open PySem PySem.Spec PyProof.Rows
/-- the promise, where no container is being shown around -/
structure FnG (P : Program) (w : World) (K : PySem.W.Frag) (mg : Str → Option Value) (base : Heap) (k : Nat) (f : Addr) (fd : FuncData) (ps : List Str) (sp : Sp) : Prop where
  len : ∀ vs H Q E, sp vs H Q E → vs.length = ps.length
  run : ∀ (A : Around) (outer : List Env) (s : Shared) (H : Hp) (args : Args) (us : List Value) (vs : List V) (Q : VK) (E : XK), A.guards = some [] → Room k A → Env0 P w K mg base A outer s H → BindsTo s fd args (ps.zip us) → Vals vs us → sp vs H Q E →
    codeAny (model P w) A (.call (.ref f) args) (CR CX0 outer P w H s Q E) s
section
variable {P : Program} {w : World} {K : PySem.W.Frag} {mg : Str → Option Value} {base : Heap}
theorem FnOk.g {k : Nat} {f : Addr} {fd : FuncData} {ps : List Str} {sp : Sp} (F : FnOk P w K mg base CX0 k f fd ps sp) : FnG P w K mg base k f fd ps sp :=
  ⟨F.len, fun A outer s H args us vs Q E _ => F.run A outer s H args us vs Q E⟩
theorem fnG_of {x qual : Str} {st : Stmt} {f : Addr} {fd : FuncData} {N ps : List Str} {k : Nat} {sp : Sp} (F : Fun K x qual st f fd) (S : FnScope N ps (defScope st)) (len : ∀ vs H Q E, sp vs H Q E → vs.length = ps.length)
    (hbody : ∀ (cdv : Value) (A : Around) (outer : List Env) (s : Shared) (H : Hp) (vs : List V) (Q : VK) (E : XK), A.guards = some [] → Room k (A.deeper (envOfC qual (defScope st) s.heap.objs.size f cdv)) → sp vs H Q E →
      ∃ t, PSs (cxOf CX0 P w K mg base N qual (defScope st) f cdv A outer s H E).nox (defBody st) t ∧ t { nx := fun _ H' => Q .non H', rt := Q } (start N vs) H) : FnG P w K mg base (k + 1) f fd ps sp := by
  refine ⟨len, fun A outer s H args us vs Q E hG hr e0 hb r hsp => ?_⟩
  obtain ⟨oc, od, kV, doc, pm, an, cdv, ct, osl, efd, lk, hcd⟩ := F.ex
  subst efd
  have kin : K.In s.heap := e0.mod.kin.keeps fun c q z => (e0.bs c q z).1
  have nl : s.heap.NoLimit := e0.mod.nolimit.keeps fun c q z => (e0.bs c q z).1
  have par : ∀ y ∈ ps.zip us, (defScope st).names.lookup y.1 = some .local ∨ ((defScope st).names.lookup y.1 = some .cell ∧ ((cellsFrom (s.heap.objs.size + 1) (defScope st).names []).lookup y.1).isSome = true) := by
    rintro ⟨z, v⟩ hz
    exact (S.par z (List.of_mem_zip hz).1).elim .inl fun q => .inr ⟨q, PySem.W.cellsFrom_some _ _ _ (.inl q)⟩
  refine codeAny_call_function hr.depth (kin _ _ lk) rfl S.co S.gen rfl (PySem.W.codeRec_of kin hcd) (hb _ _ _ _ (wpAny_newFunctionEnv_cells S.kind par fun env he s1 x => ?_))
  subst he
  refine ⟨nl.keeps x.toInCall.keep, codeAny_func ?_⟩
  obtain ⟨t, ht, hq⟩ := hbody cdv A outer s H vs Q E hG (hr.deeper _) hsp
  have J := inv_start (CX := CX0) (E := E) S hr.hd e0 (len _ _ _ _ hsp) r x
  refine wpAny_mono (ht.nox.run [] s1 (start N vs) H _ J hq) (fun fl s' hs => ?_) fun e s' hs => hs
  cases fl with
  | ret u => obtain ⟨v, σ', H', J', rv, q⟩ := hs; exact ⟨v, H', J'.os, J'.bare, J'.base, J'.hok, rv, q⟩
  | next => obtain ⟨σ', H', J', q⟩ := hs; exact ⟨V.non, H', J'.os, J'.bare, J'.base, J'.hok, rfl, q⟩
  | brk => obtain ⟨_, _, _, q⟩ := hs; exact q.elim
  | cont => obtain ⟨_, _, _, q⟩ := hs; exact q.elim
end
section
variable {X : Cx} {x : Str} {p pos : Pos} {e : Expr} {es : List Expr} {t : TA} {k : Nat} {f : Addr} {fd : FuncData} {ps : List Str} {sp : Sp}
/-- f(e, ..) of such a def -/
theorem pe_callG (F : FnG X.prog X.w X.K X.mg X.base k f fd ps sp) (hG : X.A.guards = some []) (hr : Room k X.A) (hg : Gl X x) (hm : X.mg x = some (.ref f)) (hk : PySem.W.keepIn X.K (.ref f) = true) (hb : Binds X.K fd ps []) (ha : PA X (e :: es) t)
    (hdb : (x == ("__debug__" : Str)) = false := by decide) (he : starEach (e :: es) X.env = (false, eval e X.env) :: starEach es X.env := by rfl) (hpl : (backTo pos (starEach es X.env)).any (·.1) = false := by rfl) :
    PE X (.Call (.Name x p) (e :: es) [] pos) (tCall sp [] E0 t) := by
  refine ⟨fun pins s σ H Q I h => wpAny_Call_Name_kw (ld_glob I hg hm (PySem.W.callWith_K (h₀ := X.base) I.ok.mod.kin hk (thn (ha.run pos pins s σ H _ I h) fun us s1 ⟨vs, H1, I1, r, q⟩ => ⟨I1.kIn, ?_⟩) he hpl) hdb)⟩
  have q' : sp vs H1 Q E0 := by simpa using q
  have hlu : us.length = ps.length := by rw [← r.length]; exact F.len _ _ _ _ q'
  refine wpAny_call (codeAny_mono (F.run X.A X.stack s1 H1 ⟨us, []⟩ us vs Q E0 hG hr I1.env0 (by simpa using hb s1 us I1.kIn (by simpa using hlu)) r q') fun r' s' hq => ?_)
  cases r' with
  | error z => exact hq.elim
  | ok fl =>
    cases fl with
    | ret w => exact I1.after hq
    | next => exact hq.elim
    | brk => exact hq.elim
    | cont => exact hq.elim
mutual
theorem noDict {K : PySem.W.Frag} {H : Hp} : ∀ (d : PyData) (v : V), Dp K H v d → d.hasDict = false
  | .none, _, _ => rfl
  | .bool _, _, _ => rfl
  | .int _, _, _ => rfl
  | .str _, _, _ => rfl
  | .list ds, _, h => by cases h with | lst _ ha => exact noDicts ds _ ha
  | .tuple ds, _, h => by cases h with | tup _ ha => exact noDicts ds _ ha
  | .dict _, _, h => by cases h
theorem noDicts {K : PySem.W.Frag} {H : Hp} : ∀ (ds : List PyData) (vs : List V), DpAll K H vs ds → PyData.hasDictAll ds = false
  | [], _, _ => rfl
  | d :: ds, _, h => by
    cases h with
    | cons h1 h2 =>
      show (d.hasDict || PyData.hasDictAll ds) = false
      rw [noDict d _ h1, noDicts ds _ h2]
      rfl
end
/-- repr(x), x a list, a tuple or a scalar -/
def rReprD (K : PySem.W.Frag) : List V → Hp → VK → Prop := fun xs H Q => ∃ v d, xs = [v] ∧ Dp K H v d ∧ d.showable = true ∧ d.depth ≤ 40 ∧ d.shown.length ≤ sizeLine ∧ Q (.str d.shown) H
theorem call_reprD (hG : X.A.guards = some []) (hu : X.A.units + 64 < cLine) : CallR X (.builtin "repr") (rReprD X.K) := by
  intro pins s σ H xs us Q I r ⟨v, d, ex, hd, hs, hdp, hz, q⟩
  subst ex
  obtain ⟨u, rfl, ru⟩ := r.one
  obtain ⟨as, hr⟩ := Dp.reads I d v u hd ru
  have hnd : d.hasDict = true → sysModules ∉ as := fun z => by rw [noDict d v hd] at z; cases z
  have big : ∀ (a : Addr), u = .ref a → wpAny (model X.prog X.w) X.A (call (.builtin "repr") [u]) (EP X pins σ Q) X.xe s := by
    intro a ea
    subst ea
    exact repr_of_reads' hr hs hnd hG (by omega) (fun _ _ z => z) (fun h' t tk k => ⟨.str d.shown, H, I.kept (t' := tk) k, ⟨t, rfl⟩, q⟩) hz
  cases hd with
  | non => cases ru; exact PySem.P.repr_of_none ⟨.str _, H, I.tok _, ⟨_, rfl⟩, q⟩
  | bl b => cases ru; exact PySem.P.repr_of_bool ⟨.str _, H, I.tok _, ⟨_, rfl⟩, q⟩
  | int i =>
    obtain ⟨t, rfl⟩ := ru
    exact PySem.P.repr_of_int (of_decide_eq_true hs) ⟨.str _, H, I.tok _, ⟨_, rfl⟩, q⟩
  | str z =>
    obtain ⟨t, rfl⟩ := ru
    exact PySem.P.repr_of_str ⟨.str _, H, I.tok _, ⟨_, rfl⟩, q⟩ hz
  | lst _ _ => exact big _ ru
  | tup _ _ => exact big _ ru
end
end L2
/-! The layer's rules with the written part as a letter of its own (within a comprehension the context's own field is no name). -/
namespace Kv
open PySem L2
section
variable {X : Cx} {K : PySem.W.Frag}
def rLen (K : PySem.W.Frag) : List V → Hp → VK → Prop := fun xs H Q => ∃ p ys, xs = [.ref p] ∧ (SqL K H p ys ∨ SqT K H p ys) ∧ Q (.int ys.length) H
theorem call_len (h : X.K = K) : CallR X (.builtin "len") (rLen K) := by subst h; exact call_len_seq
def rList (K : PySem.W.Frag) : List V → Hp → VK → Prop := fun xs H Q => ∃ p ys, xs = [.ref p] ∧ (SqL K H p ys ∨ SqT K H p ys) ∧ ∀ l, H l = none → Q (.ref l) (upd H l (.lst ys))
theorem call_list (h : X.K = K) : CallR X (.type "list") (rList K) := by subst h; exact call_list_of
def rTuple (K : PySem.W.Frag) : List V → Hp → VK → Prop := fun xs H Q => ∃ p ys, xs = [.ref p] ∧ ((SqL K H p ys ∧ ∀ l, H l = none → Q (.ref l) (upd H l (.tup ys))) ∨ (SqT K H p ys ∧ Q (.ref p) H))
theorem call_tuple (h : X.K = K) : CallR X (.type "tuple") (rTuple K) := by subst h; exact call_tuple_of
theorem call_isi (h : X.K = K) : CallR X (.builtin "isinstance") (rIsi K) := by subst h; exact L2.call_isi
theorem call_sort (h : X.K = K) : CallR X (.builtin "sorted") (rSortU K) := by subst h; exact cr_sortU
theorem call_all (h : X.K = K) (hc : X.calm = true) : CallR X (.builtin "all") (rAll K) := by subst h; exact cr_all hc
theorem call_repr (h : X.K = K) (hG : X.A.guards = some []) (hu : X.A.units + 64 < cLine) : CallR X (.builtin "repr") (rReprD K) := by subst h; exact call_reprD hG hu
theorem ix_list (h : X.K = K) : IxR X (rIxL K) := by subst h; exact L2.ix_list
theorem ix_tup (h : X.K = K) : IxR X (rIxT K) := by subst h; exact L2.ix_tup
theorem ix_seq (h : X.K = K) : IxR X (rIx K) := by subst h; exact L2.ix_seq
theorem op_in (h : X.K = K) : OpR X (compareOp .In) (rIn K false) := by subst h; exact op_in_seq
theorem op_notIn (h : X.K = K) : OpR X (compareOp .NotIn) (rIn K true) := by subst h; exact op_notIn_seq
theorem op_eqD (h : X.K = K) (hu : X.A.units + 64 < cLine) : OpR X (compareOp .Eq) (rEqD K) := by subst h; exact L2.op_eqD hu
theorem op_neD (h : X.K = K) (hu : X.A.units + 64 < cLine) : OpR X (compareOp .NotEq) (rNeD K) := by subst h; exact L2.op_neD hu
theorem sl_list (h : X.K = K) : SlR X (rSlL K) := by subst h; exact L2.sl_list
theorem sl_tup (h : X.K = K) : SlR X (rSlT K) := by subst h; exact L2.sl_tup
variable {e o : Expr} {es : List Expr} {ta to : TE} {t : TA} {pos apos cpos : Pos} {f name : Str} {T id : String} {r : V → List V → Hp → VK → Prop}
theorem pe_fld (h : X.K = K) (he : PE X e ta) (hl : attributeBase e f X.env (eval e X.env) = eval e X.env) : PE X (.Attribute e f pos) (tFld K ta f) := by subst h; exact L2.pe_fld he hl
theorem pe_bm (h : X.K = K) (pa : PlainAttrs T) (slot : Slot T name id) (hty : typeOf (.builtin id) = pure (.type "method_descriptor")) (hm : MtR X id r) (ho : PE X o to) (ha : PA X (e :: es) t) (hb : attributeBase o name X.env (eval o X.env) = eval o X.env := by rfl)
    (hw : ((backTo cpos (starEach (e :: es) X.env)).all (fun x => !x.1) && (backToKw cpos (keywordEach [] X.env)).all (fun x => x.1.isSome) && decide ((e :: es).length + ([] : List Keyword).length + (if ([] : List Keyword).isEmpty then 0 else 1) < 30)) = true := by rfl)
    (hn : (apos.endLine == cpos.line) = true := by rfl) (hs : starEach (e :: es) X.env = (false, eval e X.env) :: starEach es X.env := by rfl) (hp : (backTo cpos (starEach es X.env)).any (·.1) = false := by rfl) :
    PE X (.Call (.Attribute o name apos) (e :: es) [] cpos) (tBM K T r to t) := by subst h; exact L2.pe_bm pa slot hty hm ho ha hb hw hn hs hp
end
end Kv
namespace Kd
open PySem L2
/-- what a class tells of its instances' type -/
structure InsT (K : PySem.W.Frag) (C : Addr) : Prop where
  cl : Cls K C
  cc : PySem.W.findIn K (.ref C) "__class__" = some (some (.builtin "object.__class__"))
  cg : PySem.W.specialIn K (.builtin "object.__class__") "__get__" = some (some (.builtin "getset_descriptor.__get__"))
  ct : PySem.W.takesIn K (.builtin "object.__class__") = some true
  mr : PySem.W.mroIn K C (.type "object") = some true
  ne : PySem.W.findIn K (.ref C) "__ne__" = some (some (.builtin "object.__ne__"))
  ic : PySem.W.isClsIn K C = true
  it : PySem.W.typeIn K (.ref C) = some (.type "type")
theorem InsT.ty {K : PySem.W.Frag} {C : Addr} (i : InsT K C) {H : Hp} {a dx : Addr} {fs : List (Str × V)} (e : H a = some (.ins C dx fs)) : TyX K H (.ref a) (.ref C) := .base (.ins e i.cl i.cc i.cg i.ct i.mr)
theorem kit_self {K : PySem.W.Frag} {C : Addr} : PySem.W.kitOne K (.ref C) (.ref C) = some true := by
  show (if (Value.ref C == Value.ref C) = true then some true else _) = some true
  rw [if_pos (by simp)]
theorem sub_data {K : PySem.W.Frag} {C : Addr} : ∀ d : PyData, PySem.W.subIn K (.type (tyN d)) (.ref C) = some false
  | .none => by have e : fastBuiltinMro "NoneType" = some [.type "NoneType", .type "object"] := by decide +kernel
                show (fastBuiltinMro "NoneType").map (·.contains (.ref C)) = some false; rw [e]; simp
  | .bool _ => by have e : fastBuiltinMro "bool" = some [.type "bool", .type "int", .type "object"] := by decide +kernel
                  show (fastBuiltinMro "bool").map (·.contains (.ref C)) = some false; rw [e]; simp
  | .int _ => by have e : fastBuiltinMro "int" = some [.type "int", .type "object"] := by decide +kernel
                 show (fastBuiltinMro "int").map (·.contains (.ref C)) = some false; rw [e]; simp
  | .str _ => by have e : fastBuiltinMro "str" = some [.type "str", .type "object"] := by decide +kernel
                 show (fastBuiltinMro "str").map (·.contains (.ref C)) = some false; rw [e]; simp
  | .list _ => by have e : fastBuiltinMro "list" = some [.type "list", .type "object"] := by decide +kernel
                  show (fastBuiltinMro "list").map (·.contains (.ref C)) = some false; rw [e]; simp
  | .tuple _ => by have e : fastBuiltinMro "tuple" = some [.type "tuple", .type "object"] := by decide +kernel
                   show (fastBuiltinMro "tuple").map (·.contains (.ref C)) = some false; rw [e]; simp
  | .dict _ => by have e : fastBuiltinMro "dict" = some [.type "dict", .type "object"] := by decide +kernel
                  show (fastBuiltinMro "dict").map (·.contains (.ref C)) = some false; rw [e]; simp
theorem kitCls_own {K : PySem.W.Frag} {C : Addr} {t : Value} (h1 : PySem.W.isClsIn K C = true) (h2 : PySem.W.typeIn K (.ref C) = some (.type "type")) : PySem.W.kitCls K t (.ref C) = PySem.W.subIn K t (.ref C) := by
  have h1' : (PySem.W.clsIn K C).isSome = true := h1
  unfold PySem.W.kitCls
  dsimp only
  rw [if_pos]
  simp [h1', h2]
/-- isinstance(data, C) is false -/
theorem InsT.no {K : PySem.W.Frag} {C : Addr} (i : InsT K C) (d : PyData) : PySem.W.kitOne K (.type (tyN d)) (.ref C) = some false := by
  have h1 : PySem.W.kitOne K (.type (tyN d)) (.ref C) = PySem.W.kitCls K (.type (tyN d)) (.ref C) := by
    show (if (Value.type (tyN d) == Value.ref C) = true then some true else _) = _
    rw [if_neg (by simp)]
  rw [h1, kitCls_own i.ic i.it]
  exact sub_data d
theorem exm_own {K : PySem.W.Frag} {S : Addr} (h1 : PySem.W.subIn K (.ref S) (.type "BaseException") = some true) (h2 : PySem.W.isClsIn K S = true) (h3 : PySem.W.typeIn K (.ref S) = some (.type "type")) {E : Addr} {r : Bool} (h0 : PySem.W.subIn K (.ref E) (.type "BaseException") = some true) (h4 : PySem.W.subIn K (.ref E) (.ref S) = some r) :
    PySem.W.exmOne K (.ref E) (.ref S) = some r := by
  have e1 : (PySem.W.subIn K (.ref S) (.type "BaseException") == some true) = true := by rw [h1] <;> rfl
  have e2 : ((PySem.W.clsIn K S).isSome && PySem.W.typeIn K (.ref S) == some (.type "type")) = true := by
    have h2' : (PySem.W.clsIn K S).isSome = true := h2
    rw [h2', h3] <;> rfl
  show (if (PySem.W.subIn K (.ref S) (.type "BaseException") == some true) = true then (if ((PySem.W.clsIn K S).isSome && PySem.W.typeIn K (.ref S) == some (.type "type")) = true then PySem.W.subIn K (.ref E) (.ref S) else none) else none) = some r
  rw [if_pos e1, if_pos e2]
  exact h4
theorem not_first {K : PySem.W.Frag} {C : Addr} (d : PyData) : PySem.W.notFirst K C (.type (tyN d)) = true := by
  unfold PySem.W.notFirst
  rw [sub_data d]
  simp
theorem not_first_self {K : PySem.W.Frag} {C : Addr} : PySem.W.notFirst K C (.ref C) = true := by
  unfold PySem.W.notFirst
  simp
theorem InsT.own {K : PySem.W.Frag} {C f : Addr} (i : InsT K C) (m : Meth K C "__eq__" f) : OwnCmp K C f := ⟨m.at_, m.fn, i.ne, i.mr⟩
end Kd
namespace L2
open PySem PySem.Spec PyProof.Rows
/-- what is known of the heap at the law's entry: the script alone, or nothing -/
structure AtEntry (P : Program) (w : World) (K : PySem.W.Frag) (h : Heap) (a : Addr) (ns : List Int) (H : Hp) : Prop where
  only : Only H
  sq : SqL K H a (ns.map V.int)
  ok : HOk P w H h
  here : ∀ b, H b ≠ none → b = a
  out : H a ≠ none → K.lookup a = none
theorem atEntry {P : Program} {w : World} {K : PySem.W.Frag} {h : Heap} {a : Addr} {vs : List Value} {ns : List Int} (KX : K.In h) (ha : h.get? a = some { cls := .type "list", data := .seq vs.toArray }) (hi : IntsAre vs ns) (hl : ns.length ≤ sizeLine) :
    ∃ H, AtEntry P w K h a ns H := by
  have rv := vals_ints hi
  cases hk : K.lookup a with
  | some o =>
    have e := (KX a o hk).symm.trans ha
    cases e
    refine ⟨fun _ => none, fun _ => .inl rfl, .inr ⟨_, vs.toArray, _, hk, rfl, rfl, rfl, ?_, by simpa using rv⟩, fun b u z => ?_, fun b z => absurd rfl z, fun z => absurd rfl z⟩
    · have n1 := hi.length
      rw [List.size_toArray]
      omega
    · have z1 : (none : Option HO) = some u := z
      cases z1
  | none =>
    have at_ : ∀ b u, (if b = a then some (HO.frz { cls := .type "list", data := .seq vs.toArray } (.lst (ns.map V.int))) else none) = some u → b = a ∧ u = .frz { cls := .type "list", data := .seq vs.toArray } (.lst (ns.map V.int)) := by
      intro b u z
      by_cases hb : b = a
      · rw [if_pos hb] at z; exact ⟨hb, (Option.some.inj z).symm⟩
      · rw [if_neg hb] at z; cases z
    refine ⟨fun b => if b = a then some (.frz { cls := .type "list", data := .seq vs.toArray } (.lst (ns.map V.int))) else none, fun b => ?_, .inl (.inr ⟨_, if_pos rfl⟩), fun b u z => ?_, fun b z => ?_, fun _ => hk⟩
    · by_cases hb : b = a
      · exact .inr ⟨_, _, if_pos hb⟩
      · exact .inl (if_neg hb)
    · obtain ⟨e1, e2⟩ := at_ b u z
      subst e1 e2
      exact ⟨ha, by rw [List.length_map]; exact hl, vs, _, rv, ha⟩
    · by_cases hb : b = a
      · exact hb
      · exact absurd (if_neg hb) z
theorem walk_ofG {l : PySem.W.OpenLaw} {n k : Nat} {q : Program} {loose : List Str} {XP : (Str → Option Value) → Heap → Prop} {YP : World → Heap → Prop} {d : DefRec} {K : Params → PySem.W.Frag} {sp : World → Sp} {x : Str}
    (hn : l.most = some n) (hn2 : n ≤ sizeLine) (hdf : d.params.defaults = []) (hr : Room k callerA) (hY : ∀ (w : World) (h : Heap), YP w h → (K w.params).In h)
    (F : ∀ (w : World) (mg : Str → Option Value) (fa : Addr) (h : Heap), (K w.params).In h → h.Ns mainGlobals mg → mg d.name = some (.ref fa) →
      ∃ fd : FuncData, (∀ (s : Shared) (u : Value), BindsTo s fd ⟨[u], []⟩ [(x, u)]) ∧ ∀ base : Heap, (K w.params).In base → base.Ns mainGlobals mg → FnG l.prog w (K w.params) mg base k fa fd [x] (sp w))
    (hsp : ∀ (w : World) (H : Hp) (a : Addr) (ns : List Int), ns.length ≤ n → SqL (K w.params) H a (ns.map V.int) → sp w [.ref a] H (fun v _ => v = .bl true) fun _ _ _ => False) :
    PySem.W.WalkO q loose XP YP l.row.toRowW d [] (fun f vs => PySem.call f vs) := by
  refine Att.attach_call hn hdf fun w s₀ s₁ mg mb fa o pm cd doc a vs ns G Y ho hd hcd hmg hobj hints hlen hg => ?_
  have kin := hY w _ Y
  obtain ⟨fd, hbind, hF⟩ := F w mg fa _ kin G.T.g hmg
  obtain ⟨H, S⟩ := atEntry (P := l.prog) (w := w) (K := K w.params) kin hobj hints (Nat.le_trans hlen hn2)
  -- no dict is tracked
  have noD : ∀ {b : Addr} {u : Obj} {es : Array DictEntry} {ep : Nat}, s₁.heap.get? b = some u → u.data = .dict es ep → H b = none := by
    intro b u es ep e1 e2
    cases z : H b with
    | none => rfl
    | some y =>
      have e3 : b = a := S.here b (by rw [z]; exact fun q => nomatch q)
      rw [e3, hobj] at e1
      cases e1
      cases e2
  have ns_ : ∀ {b : Addr} {m : Str → Option Value}, s₁.heap.Ns b m → (hidT s₁.heap H).Ns b m := by
    intro b m ⟨u, es, ep, e1, e2, e3⟩
    exact ⟨u, es, ep, hidT_get e1 (noD e1 e2), e2, e3⟩
  have kb : (K w.params).In (hidT s₁.heap H) := by
    intro b u e
    refine hidT_get (kin b u e) ?_
    cases z : H b with
    | none => rfl
    | some y =>
      have e3 : b = a := S.here b (by rw [z]; exact fun q => nomatch q)
      have e4 := S.out (by rw [← e3, z]; exact fun q => nomatch q)
      rw [e3, e4] at e
      cases e
  have md : Mod (K w.params) mg (hidT s₁.heap H) := ⟨kb, ns_ G.T.g, ⟨mb, ns_ G.T.b, G.T.builtins⟩, G.T.nolimit.elim fun c z => ⟨c, ns_ z.1, z.2⟩⟩
  have en : Env0 l.prog w (K w.params) mg (hidT s₁.heap H) callerA [] s₁ H := by
    refine ⟨rfl, md, fun b u e => of_hidT e, Nat.le_of_eq (hidT_size _ _), trivial, fun b hb => ?_, S.ok, .of_eq hg⟩
    have hb' : b ∈ ([] : List Addr) := hb
    cases hb'
  refine codeAny_mono ((hF _ kb (ns_ G.T.g)).run callerA [] s₁ H ⟨[.ref a], []⟩ [.ref a] [.ref a] _ _ rfl hr en (hbind s₁ (.ref a)) (.cons rfl .nil) (hsp w H a ns hlen S.sq)) fun r s' h => ?_
  cases r with
  | error e => exact h.elim
  | ok fl =>
    cases fl with
    | next => exact h.elim
    | brk => exact h.elim
    | cont => exact h.elim
    | ret u =>
      obtain ⟨v, H', os, bare, un, ok', rv, ev⟩ := h
      have ev' : v = .bl true := ev
      subst ev'
      cases rv
      refine ⟨rfl, OldK.of_keep fun b y e => ?_, os, bare⟩
      rcases S.only b with z | ⟨ob, xs, z⟩
      · exact un.keep b y e z (fun m => nomatch (show b ∈ ([] : List Addr) from m)) (fun m => nomatch m)
      · obtain ⟨e1, _⟩ := S.ok b _ z
        obtain ⟨e2, _⟩ := ok' b _ (un.frzs b ob _ z)
        exact e2.trans (e1.symm.trans e)
end L2
/-! sorted(xs), xs a list of data of one kind -/
namespace Kd
open PySem PySem.W PyProof.Rows L2
/-- the sorted data -/
def srtD (ds : List PyData) : List PyData := ds.mergeSort (dataLe false id)
/-- data that sorted takes -/
structure SortOk (ds : List PyData) : Prop where
  al : AllAlike ds
  so : Sortable ds
  dp : ∀ d ∈ ds, d.depth ≤ 8
theorem each_of {K : PySem.W.Frag} {H : Hp} : ∀ {xs : List V} {ds : List PyData} {us : List Value}, DpAll K H xs ds → Vals xs us → EachIs (fun v (b : V × PyData) => RelV b.1 v) us (xs.zip ds)
  | [], _, _, h, r => by cases h; cases r; exact .nil
  | x :: xs, _, _, h, r => by
    cases h with
    | cons _ h2 =>
      cases r with
      | cons r1 r2 => exact .cons r1 (each_of h2 r2)
theorem reads_of {X : Cx} {pins : List (Addr × Obj)} {σ : L2.St} {H : Hp} {s : Shared} (I : Inv X pins σ H s) : ∀ {xs : List V} {ds : List PyData} {us : List Value}, DpAll X.K H xs ds → Vals xs us → EachIs (fun v (b : V × PyData) => ∃ as, Reads s.heap v b.2 as) us (xs.zip ds)
  | [], _, _, h, r => by cases h; cases r; exact .nil
  | x :: xs, _, _, h, r => by
    cases h with
    | cons h1 h2 =>
      cases r with
      | cons r1 r2 => exact .cons (Dp.reads I _ _ _ h1 r1) (reads_of I h2 r2)
theorem zip_fst : ∀ {xs : List V} {ds : List PyData}, xs.length = ds.length → (xs.zip ds).map (·.1) = xs
  | [], [], _ => rfl
  | x :: xs, d :: ds, h => by rw [List.zip_cons_cons, List.map_cons, zip_fst (Nat.succ.inj h)]
  | [], _ :: _, h => by cases h
  | _ :: _, [], h => by cases h
theorem zip_snd : ∀ {xs : List V} {ds : List PyData}, xs.length = ds.length → (xs.zip ds).map (·.2) = ds
  | [], [], _ => rfl
  | x :: xs, d :: ds, h => by rw [List.zip_cons_cons, List.map_cons, zip_snd (Nat.succ.inj h)]
  | [], _ :: _, h => by cases h
  | _ :: _, [], h => by cases h
theorem dpAll_len' {K : PySem.W.Frag} {H : Hp} : ∀ {xs : List V} {ds : List PyData}, DpAll K H xs ds → xs.length = ds.length
  | [], _, h => by cases h; rfl
  | x :: xs, _, h => by cases h with | cons _ h2 => exact congrArg Nat.succ (dpAll_len' h2)
theorem dp_mem {K : PySem.W.Frag} {H : Hp} : ∀ {xs : List V} {ds : List PyData}, DpAll K H xs ds → ∀ b ∈ xs.zip ds, Dp K H b.1 b.2
  | [], _, h, b, hb => by cases h; cases hb
  | x :: xs, _, h, b, hb => by
    cases h with
    | cons h1 h2 =>
      rw [List.zip_cons_cons] at hb
      rcases List.mem_cons.mp hb with rfl | hb
      · exact h1
      · exact dp_mem h2 b hb
theorem dp_maps {K : PySem.W.Frag} {H : Hp} : ∀ {bs : List (V × PyData)}, (∀ b ∈ bs, Dp K H b.1 b.2) → DpAll K H (bs.map (·.1)) (bs.map (·.2))
  | [], _ => .nil
  | b :: bs, h => .cons (h b List.mem_cons_self) (dp_maps fun c hc => h c (List.mem_cons_of_mem _ hc))
theorem vals_each : ∀ {bs : List (V × PyData)} {us : List Value}, EachIs (fun v (b : V × PyData) => RelV b.1 v) us bs → Vals (bs.map (·.1)) us
  | [], _, h => by cases h; exact .nil
  | b :: bs, _, h => by cases h with | cons h1 h2 => exact .cons h1 (vals_each h2)
@[irreducible] def rSortD (K : PySem.W.Frag) : List V → Hp → VK → Prop := fun vs H Q => ∃ (a : Addr) (xs : List V) (ds : List PyData), vs = [V.ref a] ∧ SqL K H a xs ∧ DpAll K H xs ds ∧ SortOk ds ∧
  ∀ (bs : List (V × PyData)) (p : Addr), bs.Perm (xs.zip ds) → bs.map (·.2) = srtD ds → H p = none → Q (.ref p) (upd H p (.lst (bs.map (·.1))))
theorem cr_sortD {X : Cx} {K : PySem.W.Frag} (hK : X.K = K) (hu : X.A.units + 64 < cLine) : CallR X (.builtin "sorted") (rSortD K) := by
  intro pins s σ H vs us Q I r h
  unfold rSortD at h
  obtain ⟨a, xs, ds, e, hs, hd, ok, q⟩ := h
  subst e
  subst hK
  rw [Vals.ref1 r]
  obtain ⟨its, rv, hl, hz⟩ := I.list hs
  have len := dpAll_len' hd
  have lz : (xs.zip ds).length = xs.length := by rw [List.length_zip, len]; exact Nat.min_self _
  have es := each_of hd rv
  have er := reads_of I hd rv
  have e2 : (xs.zip ds).map (fun b => b.2) = ds := zip_snd len
  refine sorted_data (enc := fun b : V × PyData => b.2) (R := fun v b => RelV b.1 v) hl.isList es er (by rw [e2]; exact ok.al) (by rw [e2]; exact ok.so) (by rw [lz]; exact hz) (fun b hb => ?_) fun out ho eo => ?_
  · have hm : b.2 ∈ ds := (List.of_mem_zip hb).2
    have := ok.dp _ hm
    omega
  · obtain ⟨ep, he⟩ := sortedAll_at s.heap its out.toArray
    have pm : ((xs.zip ds).mergeSort (dataLe false fun b : V × PyData => b.2)).Perm (xs.zip ds) := List.mergeSort_perm _ _
    have hy := vals_each eo
    have hp : (((xs.zip ds).mergeSort (dataLe false fun b : V × PyData => b.2)).map (·.1)).length = xs.length := by rw [List.length_map, pm.length_eq, lz]
    have hsnd : ((xs.zip ds).mergeSort (dataLe false fun b : V × PyData => b.2)).map (fun b : V × PyData => b.2) = srtD ds := by
      unfold srtD
      have z := sort_maps (r := dataLe false fun b : V × PyData => b.2) (s := dataLe false (id : PyData → PyData)) (fun b : V × PyData => b.2) (l := xs.zip ds) (fun _ _ _ _ => rfl)
      rw [z, e2]
    exact ⟨.ref _, upd H (s.heap.objs.size + 1) (.lst (((xs.zip ds).mergeSort (dataLe false fun b : V × PyData => b.2)).map (·.1))), I.laid (t' := s.toks) (fun _ _ => sortedAll_old) (Nat.le_succ _) ⟨by rw [hp]; exact hz, out, ep, hy, he⟩, rfl,
      q _ _ pm hsnd (I.hok.fresh (Nat.le_succ _))⟩
end Kd
/-! Data with a Lean type over the layer: what a value holds, what ==, in and sorted say of it. -/
namespace Ky
open PySem L2 Evl Kd
open PySem.W (Datum DatumOrd T3)
section
variable {α β γ : Type} [DecidableEq α] [Datum α] [DecidableEq β] [Datum β] [DecidableEq γ] [Datum γ] {K : PySem.W.Frag} {H H' : Hp} {v : V} {vs : List V}
/-- v holds x -/
def Hd (K : PySem.W.Frag) (H : Hp) (v : V) (x : α) : Prop := Dp K H v (Datum.toD x)
/-- item by item -/
def HdL (K : PySem.W.Frag) (H : Hp) (vs : List V) (xs : List α) : Prop := DpAll K H vs (xs.map Datum.toD)
theorem Hd.ex {x : α} (h : Hd K H v x) (e : Ex H H') : Hd K H' v x := dp_ex e _ _ h
theorem HdL.ex {xs : List α} (h : HdL K H vs xs) (e : Ex H H') : HdL K H' vs xs := dpAll_ex e _ _ h
theorem HdL.nil : HdL K H [] ([] : List α) := DpAll.nil
theorem HdL.cons {x : α} {xs : List α} (h : Hd K H v x) (t : HdL K H vs xs) : HdL K H (v :: vs) (x :: xs) := DpAll.cons h t
theorem HdL.head {x : α} {xs : List α} (h : HdL K H (v :: vs) (x :: xs)) : Hd K H v x := by cases h with | cons h1 _ => exact h1
theorem HdL.tail {x : α} {xs : List α} (h : HdL K H (v :: vs) (x :: xs)) : HdL K H vs xs := by cases h with | cons _ h2 => exact h2
theorem HdL.len : ∀ {vs : List V} {xs : List α}, HdL K H vs xs → vs.length = xs.length
  | [], [], _ => rfl
  | [], _ :: _, h => by cases h
  | _ :: _, [], h => by cases h
  | _ :: _, _ :: _, h => congrArg Nat.succ (HdL.len h.tail)
theorem HdL.app : ∀ {vs us : List V} {xs ys : List α}, HdL K H vs xs → HdL K H us ys → HdL K H (vs ++ us) (xs ++ ys)
  | [], _, [], _, _, h => h
  | [], _, _ :: _, _, h, _ => by cases h
  | _ :: _, _, [], _, h, _ => by cases h
  | _ :: _, _, _ :: _, _, h, t => .cons h.head (HdL.app h.tail t)
theorem HdL.get : ∀ {vs : List V} {xs : List α} {i : Nat} {v : V}, HdL K H vs xs → vs[i]? = some v → ∃ x, xs[i]? = some x ∧ Hd K H v x
  | [], _, _, _, _, e => by cases e
  | _ :: _, [], _, _, h, _ => by cases h
  | _ :: _, x :: _, 0, _, h, e => ⟨x, rfl, by cases e; exact h.head⟩
  | _ :: _, _ :: _, i + 1, _, h, e => HdL.get (i := i) h.tail e
theorem HdL.at : ∀ {vs : List V} {xs : List α} {i : Nat} {x : α}, HdL K H vs xs → xs[i]? = some x → ∃ v, vs[i]? = some v ∧ Hd K H v x
  | _, [], _, _, _, e => by cases e
  | [], _ :: _, _, _, h, _ => by cases h
  | v :: _, _ :: _, 0, _, h, e => ⟨v, rfl, by cases e; exact h.head⟩
  | _ :: _, _ :: _, i + 1, _, h, e => HdL.at (i := i) h.tail e
theorem HdL.mem {xs : List α} {v : V} (h : HdL K H vs xs) (m : v ∈ vs) : ∃ x ∈ xs, Hd K H v x := by
  obtain ⟨i, hi⟩ := List.getElem?_of_mem m
  obtain ⟨x, hx, hv⟩ := h.get hi
  exact ⟨x, List.mem_of_getElem? hx, hv⟩
theorem HdL.take (n : Nat) : ∀ {vs : List V} {xs : List α}, HdL K H vs xs → HdL K H (vs.take n) (xs.take n) := by
  induction n with
  | zero => intro _ _ _; exact .nil
  | succ n ih =>
    intro vs xs h
    cases vs with
    | nil => cases xs with
      | nil => exact .nil
      | cons => cases h
    | cons => cases xs with
      | nil => cases h
      | cons => exact .cons h.head (ih h.tail)
theorem HdL.drop (n : Nat) : ∀ {vs : List V} {xs : List α}, HdL K H vs xs → HdL K H (vs.drop n) (xs.drop n) := by
  induction n with
  | zero => intro _ _ h; exact h
  | succ n ih =>
    intro vs xs h
    cases vs with
    | nil => cases xs with
      | nil => exact .nil
      | cons => cases h
    | cons => cases xs with
      | nil => cases h
      | cons => exact ih h.tail
/-- what is mixed holds the same, mixed -/
theorem HdL.perm : ∀ {us vs : List V}, us.Perm vs → ∀ {xs : List α}, HdL K H vs xs → ∃ ys : List α, ys.Perm xs ∧ HdL K H us ys := by
  intro us vs p
  induction p with
  | nil => intro xs h; exact ⟨xs, .refl _, h⟩
  | cons x _ ih =>
    intro xs h
    cases xs with
    | nil => cases h
    | cons z zs =>
      obtain ⟨ys, p, hy⟩ := ih h.tail
      exact ⟨z :: ys, p.cons z, .cons h.head hy⟩
  | swap a b l =>
    intro xs h
    cases xs with
    | nil => cases h
    | cons z zs => cases zs with
      | nil => cases h.tail
      | cons u us => exact ⟨u :: z :: us, List.Perm.swap .., .cons h.tail.head (.cons h.head h.tail.tail)⟩
  | trans _ _ ih1 ih2 =>
    intro xs h
    obtain ⟨ys, p, hy⟩ := ih2 h
    obtain ⟨zs, q, hz⟩ := ih1 hy
    exact ⟨zs, q.trans p, hz⟩
theorem hd_str (z : Str) : Hd K H (.str z) z := Dp.str z
theorem Hd.str {z : Str} (h : Hd K H v z) : v = .str z := by cases h; rfl
theorem hd_int (i : Int) : Hd K H (.int i) i := Dp.int i
theorem Hd.int {i : Int} (h : Hd K H v i) : v = .int i := by cases h; rfl
theorem HdL.strs : ∀ {vs : List V} {zs : List Str}, HdL K H vs zs → vs = zs.map V.str
  | [], [], _ => rfl
  | [], _ :: _, h => by cases h
  | _ :: _, [], h => by cases h
  | _ :: _, _ :: _, h => by rw [h.head.str, HdL.strs h.tail]; rfl
theorem hdL_strs : ∀ zs : List Str, HdL K H (zs.map V.str) zs
  | [] => .nil
  | z :: zs => .cons (Dp.str z) (hdL_strs zs)
theorem hd_list {a : Addr} {xs : List α} (h : SqL K H a vs) (t : HdL K H vs xs) : Hd K H (.ref a) xs := Dp.lst h t
theorem Hd.list {xs : List α} (h : Hd K H v xs) : ∃ a vs, v = .ref a ∧ SqL K H a vs ∧ HdL K H vs xs := by cases h with | lst h t => exact ⟨_, _, rfl, h, t⟩
theorem hd_pair {a : Addr} {u w : V} {x : α} {y : β} (h : SqT K H a [u, w]) (hx : Hd K H u x) (hy : Hd K H w y) : Hd K H (.ref a) (x, y) := Dp.tup h (DpAll.cons hx (DpAll.cons hy DpAll.nil))
theorem Hd.pair {p : α × β} (h : Hd K H v p) : ∃ a u w, v = .ref a ∧ SqT K H a [u, w] ∧ Hd K H u p.1 ∧ Hd K H w p.2 := by
  cases h with
  | tup h t =>
    cases t with
    | cons h1 t => cases t with
      | cons h2 t => cases t; exact ⟨_, _, _, rfl, h, h1, h2⟩
theorem hd_t3 {a : Addr} {u w z : V} {x : α} {y : β} {c : γ} (h : SqT K H a [u, w, z]) (hx : Hd K H u x) (hy : Hd K H w y) (hz : Hd K H z c) : Hd K H (.ref a) (T3.mk x y c) := Dp.tup h (DpAll.cons hx (DpAll.cons hy (DpAll.cons hz DpAll.nil)))
theorem Hd.t3 {p : T3 α β γ} (h : Hd K H v p) : ∃ a u w z, v = .ref a ∧ SqT K H a [u, w, z] ∧ Hd K H u p.a ∧ Hd K H w p.b ∧ Hd K H z p.c := by
  cases h with
  | tup h t =>
    cases t with
    | cons h1 t => cases t with
      | cons h2 t => cases t with
        | cons h3 t => cases t; exact ⟨_, _, _, _, rfl, h, h1, h2, h3⟩
end
/-! == and in, by what is held -/
section
variable {X : Cx} {K : PySem.W.Frag}
def deepOk (d : PyData) : Prop := d.plain = true ∧ d.depth ≤ 40
@[irreducible] def rEqP (K : PySem.W.Frag) : R2 := fun x y H Q => ∃ d e, Dp K H x d ∧ Dp K H y e ∧ deepOk d ∧ deepOk e ∧ Q (.bl (PyData.eqv d e)) H
@[irreducible] def rNeP (K : PySem.W.Frag) : R2 := fun x y H Q => ∃ d e, Dp K H x d ∧ Dp K H y e ∧ deepOk d ∧ deepOk e ∧ Q (.bl (!PyData.eqv d e)) H
@[irreducible] def rInP (K : PySem.W.Frag) : R2 := fun x y H Q => ∃ d ds, Dp K H x d ∧ (Dp K H y (.list ds) ∨ Dp K H y (.tuple ds)) ∧ deepOk d ∧ deepOk (.list ds) ∧ Q (.bl (ds.any fun z => PyData.eqv z d)) H
@[irreducible] def rNotInP (K : PySem.W.Frag) : R2 := fun x y H Q => ∃ d ds, Dp K H x d ∧ (Dp K H y (.list ds) ∨ Dp K H y (.tuple ds)) ∧ deepOk d ∧ deepOk (.list ds) ∧ Q (.bl (!ds.any fun z => PyData.eqv z d)) H
theorem op_eqP (hK : X.K = K) (hu : X.A.units + 64 < cLine) : OpR X (compareOp .Eq) (rEqP K) := by
  intro pins s σ H x y v u Q I rx ry h
  unfold rEqP at h
  obtain ⟨d, e, hd, he, od, oe, q⟩ := h
  subst hK
  obtain ⟨as, r1⟩ := Dp.reads I d x v hd rx
  obtain ⟨bs, r2⟩ := Dp.reads I e y u he ry
  have := od.2
  exact SeqAt.eq_plain r1 r2 od.1 oe.1 (by omega) ⟨.bl _, H, I, rfl, q⟩
theorem op_neP (hK : X.K = K) (hu : X.A.units + 64 < cLine) : OpR X (compareOp .NotEq) (rNeP K) := by
  intro pins s σ H x y v u Q I rx ry h
  unfold rNeP at h
  obtain ⟨d, e, hd, he, od, oe, q⟩ := h
  subst hK
  obtain ⟨as, r1⟩ := Dp.reads I d x v hd rx
  obtain ⟨bs, r2⟩ := Dp.reads I e y u he ry
  have := od.2
  exact SeqAt.ne_plain r1 r2 od.1 oe.1 (by omega) ⟨.bl _, H, I, rfl, q⟩
theorem op_inP (hK : X.K = K) (hu : X.A.units + 64 < cLine) : OpR X (compareOp .In) (rInP K) := by
  intro pins s σ H x y v u Q I rx ry h
  unfold rInP at h
  obtain ⟨d, ds, hd, he, od, oe, q⟩ := h
  subst hK
  obtain ⟨as, r1⟩ := Dp.reads I d x v hd rx
  have := od.2
  rcases he with he | he
  · obtain ⟨bs, r2⟩ := Dp.reads I _ y u he ry
    exact SeqAt.in_list_data r2 r1 oe.1 od.1 (by omega) ⟨.bl _, H, I, rfl, q⟩
  · obtain ⟨bs, r2⟩ := Dp.reads I _ y u he ry
    exact SeqAt.in_tuple_data r2 r1 oe.1 od.1 (by omega) ⟨.bl _, H, I, rfl, q⟩
theorem op_notInP (hK : X.K = K) (hu : X.A.units + 64 < cLine) : OpR X (compareOp .NotIn) (rNotInP K) := by
  intro pins s σ H x y v u Q I rx ry h
  unfold rNotInP at h
  obtain ⟨d, ds, hd, he, od, oe, q⟩ := h
  subst hK
  obtain ⟨as, r1⟩ := Dp.reads I d x v hd rx
  have := od.2
  rcases he with he | he
  · obtain ⟨bs, r2⟩ := Dp.reads I _ y u he ry
    exact SeqAt.notIn_list_data r2 r1 oe.1 od.1 (by omega) ⟨.bl _, H, I, rfl, q⟩
  · obtain ⟨bs, r2⟩ := Dp.reads I _ y u he ry
    exact SeqAt.notIn_tuple_data r2 r1 oe.1 od.1 (by omega) ⟨.bl _, H, I, rfl, q⟩
end
section
variable {α : Type} [DecidableEq α] [Datum α] {K : PySem.W.Frag} {H : Hp} {x y : V} {a b : α} {xs : List α} {Q : VK}
/-- its data are flat enough -/
class Low (α : Type) [DecidableEq α] [Datum α] : Prop where
  low : Datum.depth α ≤ 30
theorem deep_of [Low α] (a : α) : deepOk (Datum.toD a) := ⟨Datum.plain a, Nat.le_trans (Datum.depth_le a) (Nat.le_trans Low.low (by decide))⟩
theorem deep_all [Low α] (xs : List α) : deepOk (.list (xs.map Datum.toD)) := by
  refine ⟨by simp only [PyData.plain]; exact PySem.W.plainAll_map xs, ?_⟩
  have h1 := PySem.W.depthAll_map xs
  have h2 := Low.low (α := α)
  simp only [PyData.depth]
  omega
theorem any_eqv (xs : List α) (a : α) : ((xs.map Datum.toD).any fun z => PyData.eqv z (Datum.toD a)) = decide (a ∈ xs) := by
  induction xs with
  | nil => rfl
  | cons x r ih =>
    rw [List.map_cons, List.any_cons, ih, Datum.eqv, Bool.eq_iff_iff]
    simp only [Bool.or_eq_true, decide_eq_true_eq, List.mem_cons]
    constructor
    · rintro (rfl | h)
      · exact .inl rfl
      · exact .inr h
    · rintro (rfl | h)
      · exact .inl rfl
      · exact .inr h
theorem eqP [Low α] (hx : Hd K H x a) (hy : Hd K H y b) (q : Q (.bl (decide (a = b))) H) : rEqP K x y H Q := by unfold rEqP; exact ⟨_, _, hx, hy, deep_of a, deep_of b, by rw [Datum.eqv]; exact q⟩
theorem neP [Low α] (hx : Hd K H x a) (hy : Hd K H y b) (q : Q (.bl (!decide (a = b))) H) : rNeP K x y H Q := by unfold rNeP; exact ⟨_, _, hx, hy, deep_of a, deep_of b, by rw [Datum.eqv]; exact q⟩
theorem inLP [Low α] (hx : Hd K H x a) {p : Addr} {vs : List V} (hl : SqL K H p vs) (hy : HdL K H vs xs) (q : Q (.bl (decide (a ∈ xs))) H) : rInP K x (.ref p) H Q := by unfold rInP; exact ⟨_, _, hx, .inl (.lst hl hy), deep_of a, deep_all xs, by rw [any_eqv]; exact q⟩
theorem notInLP [Low α] (hx : Hd K H x a) {p : Addr} {vs : List V} (hl : SqL K H p vs) (hy : HdL K H vs xs) (q : Q (.bl (!decide (a ∈ xs))) H) : rNotInP K x (.ref p) H Q := by unfold rNotInP; exact ⟨_, _, hx, .inl (.lst hl hy), deep_of a, deep_all xs, by rw [any_eqv]; exact q⟩
theorem inTP [Low α] (hx : Hd K H x a) {p : Addr} {vs : List V} (hl : SqT K H p vs) (hy : HdL K H vs xs) (q : Q (.bl (decide (a ∈ xs))) H) : rInP K x (.ref p) H Q := by unfold rInP; exact ⟨_, _, hx, .inr (.tup hl hy), deep_of a, deep_all xs, by rw [any_eqv]; exact q⟩
theorem notInTP [Low α] (hx : Hd K H x a) {p : Addr} {vs : List V} (hl : SqT K H p vs) (hy : HdL K H vs xs) (q : Q (.bl (!decide (a ∈ xs))) H) : rNotInP K x (.ref p) H Q := by unfold rNotInP; exact ⟨_, _, hx, .inr (.tup hl hy), deep_of a, deep_all xs, by rw [any_eqv]; exact q⟩
instance : Low Int := ⟨by decide⟩
instance : Low Str := ⟨by decide⟩
instance : Low (Option Str) := ⟨by decide⟩
instance : Low (T3 Str Str Str) := ⟨by decide⟩
instance : Low (T3 Int Str Int) := ⟨by decide⟩
instance : Low (Str × Option Str) := ⟨by decide⟩
instance : Low (List Str) := ⟨by decide⟩
instance : Low (List (Option Str)) := ⟨by decide⟩
instance : Low (List (T3 Str Str Str)) := ⟨by decide⟩
instance : Low (List (T3 Int Str Int)) := ⟨by decide⟩
instance : Low (List (Str × Option Str)) := ⟨by decide⟩
end
end Ky
/-! sorted, by what is held -/
namespace Ky
open PySem L2 Evl Kd
open PySem.W (Datum DatumOrd T3)
section
variable {α β γ : Type} [DecidableEq α] [DatumOrd α] [DecidableEq β] [DatumOrd β] [DecidableEq γ] [DatumOrd γ]
/-- a stands not behind b -/
def le (a b : α) : Bool := !DatumOrd.lt b a
def srt (xs : List α) : List α := xs.mergeSort le
theorem le_dataLe (a b : α) : le a b = PySem.W.dataLe false id (Datum.toD a) (Datum.toD b) := by
  unfold le
  rw [← DatumOrd.lt_eq]
  rfl
theorem le_trans (a b c : α) (h1 : le a b = true) (h2 : le b c = true) : le a c = true := by
  rw [le_dataLe] at *
  exact (PySem.W.sortLe_total _ false _).trans _ _ _ h1 h2
theorem le_total (a b : α) : (le a b || le b a) = true := by
  rw [le_dataLe, le_dataLe, Bool.or_eq_true_iff]
  exact (PySem.W.sortLe_total _ false _).total _ _
theorem srt_perm (xs : List α) : (srt xs).Perm xs := List.mergeSort_perm _ _
theorem srt_up (xs : List α) : (srt xs).Pairwise fun a b => le a b = true := List.pairwise_mergeSort le_trans le_total xs
theorem srt_toD (xs : List α) : srtD (xs.map Datum.toD) = (srt xs).map Datum.toD := by
  unfold srtD srt
  exact (PySem.W.sort_maps (r := le) (s := PySem.W.dataLe false (id : PyData → PyData)) Datum.toD (l := xs) fun a _ b _ => le_dataLe a b).symm
/-- sorted as the program sorts, and one order alone -/
class Lin (α : Type) [DecidableEq α] [DatumOrd α] : Prop where
  anti : ∀ a b : α, DatumOrd.lt a b = false → DatumOrd.lt b a = false → a = b
theorem le_anti [Lin α] {a b : α} (h1 : le a b = true) (h2 : le b a = true) : a = b := by
  unfold le at h1 h2
  rw [Bool.not_eq_true'] at h1 h2
  exact Lin.anti a b h2 h1
theorem up_one [Lin α] {xs ys : List α} (h1 : xs.Pairwise fun a b => le a b = true) (h2 : ys.Pairwise fun a b => le a b = true) (p : xs.Perm ys) : xs = ys :=
  List.Perm.eq_of_pairwise (le := fun a b => le a b = true) (fun a b _ _ => le_anti) h1 h2 p
theorem srt_one [Lin α] {xs ys : List α} (p : xs.Perm ys) : srt xs = srt ys := up_one (srt_up xs) (srt_up ys) (((srt_perm xs).trans p).trans (srt_perm ys).symm)
theorem srt_of [Lin α] {xs ys : List α} (p : ys.Perm xs) (h : ys.Pairwise fun a b => le a b = true) : srt xs = ys := up_one (srt_up xs) h ((srt_perm xs).trans p.symm)
instance : Lin Int := ⟨fun a b h1 h2 => by
  have e1 := of_decide_eq_false (show decide (a < b) = false from h1)
  have e2 := of_decide_eq_false (show decide (b < a) = false from h2)
  omega⟩
instance : Lin Str := ⟨fun a b h1 h2 => by
  have e1 := of_decide_eq_false (show decide (a.cps.toList < b.cps.toList) = false from h1)
  have e2 := of_decide_eq_false (show decide (b.cps.toList < a.cps.toList) = false from h2)
  have e : a.cps.toList = b.cps.toList := List.le_antisymm e2 e1
  obtain ⟨x⟩ := a
  obtain ⟨y⟩ := b
  rw [Array.toList_inj.mp (show x.toList = y.toList from e)]⟩
theorem lt_self [Lin α] (a : α) : DatumOrd.lt a a = false := by
  rw [← DatumOrd.lt_eq]
  exact PySem.W.dataLt_self _
instance [Lin α] [Lin β] [Lin γ] : Lin (T3 α β γ) := ⟨fun p q h1 h2 => by
  obtain ⟨a, b, c⟩ := p
  obtain ⟨d, e, f⟩ := q
  have h1 : (if a = d then (if b = e then DatumOrd.lt c f else DatumOrd.lt b e) else DatumOrd.lt a d) = false := h1
  have h2 : (if d = a then (if e = b then DatumOrd.lt f c else DatumOrd.lt e b) else DatumOrd.lt d a) = false := h2
  by_cases ha : a = d
  · subst ha
    rw [if_pos rfl] at h1 h2
    by_cases hb : b = e
    · subst hb
      rw [if_pos rfl] at h1 h2
      rw [Lin.anti c f h1 h2]
    · rw [if_neg hb] at h1
      rw [if_neg (Ne.symm hb)] at h2
      exact absurd (Lin.anti b e h1 h2) hb
  · rw [if_neg ha] at h1
    rw [if_neg (Ne.symm ha)] at h2
    exact absurd (Lin.anti a d h1 h2) ha⟩
/-- what sorted takes -/
class Sorts (α : Type) [DecidableEq α] [DatumOrd α] : Prop where
  so : ∀ xs : List α, PySem.W.Sortable (xs.map Datum.toD)
  dp : Datum.depth α ≤ 8
theorem sort_ok [Sorts α] (xs : List α) : SortOk (xs.map Datum.toD) := by
  refine ⟨(PySem.W.alikeAll_datum xs).1, Sorts.so xs, fun d hd => ?_⟩
  obtain ⟨a, _, rfl⟩ := List.mem_map.mp hd
  exact Nat.le_trans (Datum.depth_le a) Sorts.dp
instance : Sorts Int := ⟨fun xs => .inr fun d hd => by obtain ⟨a, _, rfl⟩ := List.mem_map.mp hd; exact ⟨(fun z => by cases z), fun _ z => by cases z⟩, by decide⟩
instance : Sorts Str := ⟨fun xs => .inr fun d hd => by obtain ⟨a, _, rfl⟩ := List.mem_map.mp hd; exact ⟨(fun z => by cases z), fun _ z => by cases z⟩, by decide⟩
instance : Sorts (T3 Str Str Str) := ⟨fun xs => .inl fun d hd => by obtain ⟨a, _, rfl⟩ := List.mem_map.mp hd; exact ⟨_, _, rfl⟩, by decide⟩
instance : Sorts (T3 Int Str Int) := ⟨fun xs => .inl fun d hd => by obtain ⟨a, _, rfl⟩ := List.mem_map.mp hd; exact ⟨_, _, rfl⟩, by decide⟩
theorem toD_inj {a b : α} (h : (Datum.toD a : PyData) = Datum.toD b) : a = b := by
  have z := Datum.eqv a b
  rw [h, Datum.eqv b b, decide_eq_true rfl] at z
  exact of_decide_eq_true z.symm
theorem toDs_inj : ∀ {xs ys : List α}, xs.map (Datum.toD : α → PyData) = ys.map Datum.toD → xs = ys
  | [], [], _ => rfl
  | [], _ :: _, h => by cases h
  | _ :: _, [], h => by cases h
  | x :: xs, y :: ys, h => by
    rw [List.map_cons, List.map_cons] at h
    rw [toD_inj (List.cons.inj h).1, toDs_inj (List.cons.inj h).2]
theorem zip_map_toD : ∀ (vs : List V) (xs : List α), (vs.zip xs).map (fun b => (b.1, (Datum.toD b.2 : PyData))) = vs.zip (xs.map Datum.toD)
  | [], _ => rfl
  | _ :: _, [] => rfl
  | v :: vs, x :: xs => by rw [List.zip_cons_cons, List.map_cons, zip_map_toD vs xs]; rfl
theorem paired_zip {R : V → α → Prop} : ∀ {vs : List V} {xs : List α}, Paired R vs xs → ∀ b ∈ vs.zip xs, R b.1 b.2
  | _, _, .nil, _, h => by cases h
  | _, _, .cons h1 h2, b, h => by
    rw [List.zip_cons_cons] at h
    rcases List.mem_cons.mp h with rfl | h
    · exact h1
    · exact paired_zip h2 b h
theorem paired_maps {R : V → α → Prop} : ∀ {bs : List (V × α)}, (∀ b ∈ bs, R b.1 b.2) → Paired R (bs.map (·.1)) (bs.map (·.2))
  | [], _ => .nil
  | b :: bs, h => .cons (h b List.mem_cons_self) (paired_maps fun c hc => h c (List.mem_cons_of_mem _ hc))
/-- sorted(l), l's items standing in R with xs -/
theorem sortedR [Sorts α] {K : PySem.W.Frag} {H : Hp} {p : Addr} {vs : List V} {xs : List α} {Q : VK} {R : V → α → Prop} (h : SqL K H p vs) (hy : HdL K H vs xs) (r : Paired R vs xs) (q : ∀ us l, Paired R us (srt xs) → us.Perm vs → H l = none → Q (.ref l) (upd H l (.lst us))) : rSortD K [.ref p] H Q := by
  unfold rSortD
  refine ⟨p, vs, _, rfl, h, hy, sort_ok xs, fun bs l pm hb hl => ?_⟩
  rw [← zip_map_toD] at pm
  obtain ⟨cs, pc, ec⟩ := perm_lift (fun b : V × α => (b.1, (Datum.toD b.2 : PyData))) pm _ rfl
  subst ec
  have e2 : cs.map (·.2) = srt xs := by
    refine toDs_inj ?_
    rw [← srt_toD, ← hb, List.map_map, List.map_map]
    rfl
  have e1 : (cs.map fun b : V × α => (b.1, (Datum.toD b.2 : PyData))).map (·.1) = cs.map (·.1) := by rw [List.map_map]; rfl
  have hlen : vs.length = xs.length := hy.len
  have pv : (cs.map (·.1)).Perm vs := by
    have z := pc.map (fun b : V × α => b.1)
    rw [List.map_fst_zip (by omega)] at z
    exact z
  rw [e1]
  refine q _ l ?_ pv hl
  rw [← e2]
  exact paired_maps fun b hb => paired_zip r b (pc.mem_iff.mp hb)
theorem HdL.paired {K : PySem.W.Frag} {H : Hp} : ∀ {vs : List V} {xs : List α}, HdL K H vs xs → Paired (fun v x => Hd K H v x) vs xs
  | [], [], _ => .nil
  | [], _ :: _, h => by cases h
  | _ :: _, [], h => by cases h
  | _ :: _, _ :: _, h => .cons h.head (HdL.paired h.tail)
theorem hdL_of {K : PySem.W.Frag} {H : Hp} : ∀ {vs : List V} {xs : List α}, Paired (fun v x => Hd K H v x) vs xs → HdL K H vs xs
  | _, _, .nil => .nil
  | _, _, .cons h t => .cons h (hdL_of t)
theorem sortedP [Sorts α] {K : PySem.W.Frag} {H : Hp} {p : Addr} {vs : List V} {xs : List α} {Q : VK} (h : SqL K H p vs) (hy : HdL K H vs xs) (q : ∀ us l, HdL K H us (srt xs) → us.Perm vs → H l = none → Q (.ref l) (upd H l (.lst us))) : rSortD K [.ref p] H Q :=
  sortedR h hy hy.paired fun us l r pm hl => q us l (hdL_of r) pm hl
end
/-! rows that stand in a relation, item by item -/
section
variable {α β : Type} {R S : V → β → Prop}
theorem paired_imp (f : ∀ v x, R v x → S v x) : ∀ {vs : List V} {xs : List β}, Paired R vs xs → Paired S vs xs
  | _, _, .nil => .nil
  | _, _, .cons h t => .cons (f _ _ h) (paired_imp f t)
theorem paired_app : ∀ {vs us : List V} {xs ys : List β}, Paired R vs xs → Paired R us ys → Paired R (vs ++ us) (xs ++ ys)
  | _, _, _, _, .nil, h => h
  | _, _, _, _, .cons h t, k => .cons h (paired_app t k)
theorem paired_len : ∀ {vs : List V} {xs : List β}, Paired R vs xs → vs.length = xs.length
  | _, _, .nil => rfl
  | _, _, .cons _ t => congrArg Nat.succ (paired_len t)
theorem paired_get2 : ∀ {vs : List V} {xs : List β} {i : Nat} {v : V}, Paired R vs xs → vs[i]? = some v → ∃ x, xs[i]? = some x ∧ R v x
  | _, _, _, _, .nil, e => by cases e
  | _, _, 0, _, .cons h _, e => ⟨_, rfl, by cases e; exact h⟩
  | _, _, i + 1, _, .cons _ t, e => paired_get2 (i := i) t e
theorem paired_at2 : ∀ {vs : List V} {xs : List β} {i : Nat} {x : β}, Paired R vs xs → xs[i]? = some x → ∃ v, vs[i]? = some v ∧ R v x
  | _, _, _, _, .nil, e => by cases e
  | _, _, 0, _, .cons h _, e => ⟨_, rfl, by cases e; exact h⟩
  | _, _, i + 1, _, .cons _ t, e => paired_at2 (i := i) t e
theorem paired_mem {vs : List V} {xs : List β} {v : V} (h : Paired R vs xs) (m : v ∈ vs) : ∃ x ∈ xs, R v x := by
  obtain ⟨i, hi⟩ := List.getElem?_of_mem m
  obtain ⟨x, hx, hv⟩ := paired_get2 h hi
  exact ⟨x, List.mem_of_getElem? hx, hv⟩
theorem paired_take (n : Nat) : ∀ {vs : List V} {xs : List β}, Paired R vs xs → Paired R (vs.take n) (xs.take n) := by
  induction n with
  | zero => intro _ _ _; exact .nil
  | succ n ih =>
    intro vs xs h
    cases h with
    | nil => exact .nil
    | cons h t => exact .cons h (ih t)
theorem paired_drop (n : Nat) : ∀ {vs : List V} {xs : List β}, Paired R vs xs → Paired R (vs.drop n) (xs.drop n) := by
  induction n with
  | zero => intro _ _ h; exact h
  | succ n ih =>
    intro vs xs h
    cases h with
    | nil => exact .nil
    | cons h t => exact ih t
theorem paired_perm : ∀ {us vs : List V}, us.Perm vs → ∀ {xs : List β}, Paired R vs xs → ∃ ys : List β, ys.Perm xs ∧ Paired R us ys := by
  intro us vs p
  induction p with
  | nil => intro xs h; exact ⟨xs, .refl _, h⟩
  | cons x _ ih =>
    intro xs h
    cases h with
    | @cons _ z _ zs h t =>
      obtain ⟨ys, p, hy⟩ := ih t
      exact ⟨z :: ys, p.cons z, .cons h hy⟩
  | swap a b l =>
    intro xs h
    cases h with
    | @cons _ z _ zs h t =>
      cases t with
      | @cons _ u _ us h2 t => exact ⟨u :: z :: us, List.Perm.swap .., .cons h2 (.cons h t)⟩
  | trans _ _ ih1 ih2 =>
    intro xs h
    obtain ⟨ys, p, hy⟩ := ih2 h
    obtain ⟨zs, q, hz⟩ := ih1 hy
    exact ⟨zs, q.trans p, hz⟩
end
end Ky
namespace Kt
open PySem L2 Evl PySem.Spec PyProof.Rows
/-! one entry laid by a comprehension, its key a text, an int or a tuple of them -/
theorem put_any {X : Cx} {pins : List (Addr × Obj)} {σ : L2.St} {H H' : Hp} {s : Shared} {E : Value → Shared → Prop} {a : Addr} {y v : V} {u r : Value} {Q : Unit → Shared → Prop} (hu : X.A.units < cLine)
    (I : Inv X pins σ H s) (g : DPut H a y v H') (ry : RelV y u) (rv : RelV v r) (h : ∀ t, Inv X pins σ H' t → Q () t) : wpAny (model X.prog X.w) X.A (dictSet a u r) Q E s := by
  rcases g with ⟨ps, k, e, rfl, hl, rfl⟩ | ⟨ps, k, b, e, rfl, eb, hl, rfl⟩
  · exact d_dictSet I e hl ry rv h
  · cases (show u = Value.ref b from ry)
    obtain ⟨hz, ha, zs, hr, dd⟩ := dt_of I.hok e
    have hn : ps.length = zs.length := Paired.length hr
    have hb : (putK ps k v).length ≤ sizeLine := Nat.le_trans (length_putK ps k v) hl
    refine wpAny_dictSet_heap (hsz := by omega) (knd := tupleKind (mixKind X.prog X.w)) hu (key_of I.hok eb) dd fun g' dg sb => h _ ?_
    obtain ⟨o, es, ep, h1, h2, h3, h4, _, h6⟩ := dg
    have kp : ∀ c zs', H c = some (.tup zs') → upd H a (.dT (putK ps k v)) c = some (.tup zs') := fun c zs' ec => by
      rw [upd_ne (fun z => by rw [z, e] at ec; cases ec)]
      exact ec
    exact d_write I (by rw [e]; exact trivial) sb ⟨o, h1⟩ ⟨hb, ha, _, (hr.put k eb rv).keeps kp, o, es, ep, h1, h2, h3, h4, h6⟩
/-! two dicts whose keys are tuples and whose values are all True -/
section
variable {prog : Program} {w : World} {K : Type} [DecidableEq K] {knd : HeapKind prog w K} {A : Around} {E : Value → Shared → Prop} {s : Shared}
def inAll (ys xs : List (K × Addr × Value)) : Bool := xs.all fun x => (atKey ys x.1).isSome
theorem same_tup {nm : String} {a b : Addr} {xs ys : List (K × Addr × Value)} {Q : Bool → Shared → Prop} (hu : knd.room A) (ha : (a == sysModules) = false) (hb : (b == sysModules) = false) (da : s.heap.DictOfH knd a xs) (db : s.heap.DictOfH knd b ys)
    (tx : ∀ x ∈ xs, x.2.2 = .bool true) (ty : ∀ y ∈ ys, y.2.2 = .bool true) (h : Q (xs.length == ys.length && inAll ys xs) s) : wpAny (model prog w) A (Builtin.Dict.samePairs nm a b) Q E s := by
  obtain ⟨oa, es, ep, ga, _, dta, ea, ia, _⟩ := da
  obtain ⟨ob, fs, eq, gb, _, dtb, eb, ib, nb⟩ := db
  have la : es.size = xs.length := size_of_entries ea
  have lb : fs.size = ys.length := size_of_entries eb
  rw [← la, ← lb] at h
  unfold Builtin.Dict.samePairs Builtin.Dict.showsAll
  rw [ha, hb]
  simp only [Bool.false_eq_true, if_false]
  refine wpAny_bind (wpAny_pure (wpAny_bind (wpAny_pure (wpAny_bind (wpAny_dictEntries ga dta ?_)))))
  refine wpAny_bind (wpAny_dictEntries gb dtb ?_)
  by_cases c : es.size = fs.size
  case neg =>
    have c' : (es.size == fs.size) = false := beq_eq_false_iff_ne.mpr c
    rw [c', Bool.false_and] at h
    rw [if_pos (show (es.size != fs.size) = true by unfold bne; rw [c']; rfl)]
    exact wpAny_bind (wpAny_rule (wpAny_pure h))
  case pos =>
    have c' : (es.size == fs.size) = true := beq_iff_eq.mpr c
    rw [c', Bool.true_and] at h
    rw [if_neg (show ¬ (es.size != fs.size) = true by unfold bne; rw [c']; exact Bool.false_ne_true)]
    refine wpAny_bind (wpAny_dictEpoch ga dta (wpAny_bind ?_))
    rw [Std.Legacy.Range.forIn_eq_forIn_range']
    simp only [Std.Legacy.Range.size, Nat.sub_zero, Nat.add_sub_cancel, Nat.div_one]
    refine wpAny_forIn_list _ (fun rest q t => t = s ∧ q = (none, ()) ∧ ∃ n, rest = List.range' n (es.size - n) ∧ n ≤ es.size ∧ inAll ys xs = inAll ys (xs.drop n)) _ ?_ ?_ _ _ ⟨rfl, rfl, 0, by simp, Nat.zero_le _, rfl⟩
    · rintro x rest q t ⟨rfl, rfl, n, er, hn, ei⟩
      have hlt : n < es.size := by
        by_cases z : n < es.size
        · exact z
        · rw [show es.size - n = 0 by omega] at er
          cases er
      obtain ⟨rfl, er2⟩ : x = n ∧ rest = List.range' (n + 1) (es.size - (n + 1)) := by
        rw [show es.size - n = es.size - (n + 1) + 1 by omega, List.range'_succ] at er
        exact ⟨(List.cons.inj er).1, (List.cons.inj er).2⟩
      obtain ⟨⟨k, p, v⟩, hk⟩ : ∃ z, xs[x]? = some z := ⟨xs[x]'(by omega), List.getElem?_eq_getElem _⟩
      have hm : (k, p, v) ∈ xs := List.mem_of_getElem? hk
      have he : es[x]? = some ⟨knd.hash k, .ref p, v⟩ := by rw [entry_at ea x, hk]; rfl
      have hv : v = .bool true := tx _ hm
      have hdr : xs.drop x = (k, p, v) :: xs.drop (x + 1) := by
        obtain ⟨hx, e2⟩ := List.getElem?_eq_some_iff.mp hk
        rw [List.drop_eq_getElem_cons hx, e2]
      have ei2 : inAll ys xs = ((atKey ys k).isSome && inAll ys (xs.drop (x + 1))) := by
        rw [ei, hdr]
        rfl
      refine wpAny_bind (wpAny_dictEntries ga dta ?_)
      rw [he]
      dsimp only
      refine wpAny_bind (wpAny_holding (wpAny_bind (wpAny_dictFind_heap hu (ia _ hm) gb dtb eb ib nb (fun hno => ?_) fun j q hj => ?_)))
      · rw [atKey_none_of_get hno] at ei2
        refine wpAny_pure ?_
        show wpAny _ _ (if (!false) = true then _ else _) _ _ _
        rw [if_pos (show (!false) = true by decide)]
        refine wpAny_pure (wpAny_pure ?_)
        rw [ei2] at h
        exact h
      · have hj2 : atKey ys k = some q := atKey_of_get nb hj
        rw [hj2] at ei2
        refine wpAny_bind (wpAny_dictEntries gb dtb ?_)
        rw [entry_at eb j, hj]
        have hw : q.2 = .bool true := ty _ (List.mem_of_getElem? hj)
        show wpAny _ _ (holding [q.2] (eqBool v q.2)) _ _ _
        rw [hv, hw]
        refine wpAny_holding (SeqAt.EqAt.same (Value.bool true) _ _ _ _ ?_)
        show wpAny _ _ (if (!true) = true then _ else _) _ _ _
        rw [if_neg (by decide)]
        refine wpAny_bind (wpAny_dictEpoch ga dta ?_)
        rw [if_neg (by simp)]
        exact wpAny_pure ⟨rfl, rfl, x + 1, er2, hlt, ei2⟩
    · rintro q t ⟨rfl, rfl, n, er, hn, ei⟩
      have hnn : n = es.size := by
        by_cases z : n < es.size
        · rw [show es.size - n = es.size - (n + 1) + 1 by omega, List.range'_succ] at er
          cases er
        · omega
      rw [ei, hnn, la, List.drop_length] at h
      exact wpAny_pure h
theorem dictH_type {d : Addr} {xs : List (K × Addr × Value)} (m : s.heap.DictOfH knd d xs) : s.TypeIs (.ref d) "dict" := let ⟨o, _, _, g, x, _⟩ := m; ⟨o, g, x.1⟩
theorem eq_tup {a b : Addr} {xs ys : List (K × Addr × Value)} {Q : Value → Shared → Prop} (hr : knd.room A.in1) (hu : A.units < cLine) (ha : (a == sysModules) = false) (hb : (b == sysModules) = false) (da : s.heap.DictOfH knd a xs) (db : s.heap.DictOfH knd b ys)
    (tx : ∀ x ∈ xs, x.2.2 = .bool true) (ty : ∀ y ∈ ys, y.2.2 = .bool true) (h : Q (.bool (xs.length == ys.length && inAll ys xs)) s) : wpAny (model prog w) A (compareOp .Eq (.ref a) (.ref b)) Q E s := by
  have t1 := dictH_type da
  have t2 := dictH_type db
  refine wpAny_richCompare_same_room (op := .Eq) t1 t2 F.slot_dict_eq (wpAny_call_entry F.slot_dict_eq t1 F.entry_dict_eq ?_ (F.args_dict_eq_2 _ _)) hu
  refine show wpAny _ _ (Builtin.Dict.dictSlotArgs "__eq__" ⟨[.ref a, .ref b], []⟩ >>= _) _ _ s from wpAny_bind ?_
  unfold Builtin.Dict.dictSlotArgs
  refine wpAny_bind (wpAny_notOrdered_dict t1 (show wpAny _ _ (pure (Value.ref a, Value.ref b)) _ _ s from wpAny_pure (wpAny_bind (wpAny_isInstance (T := "dict") t2 F.sub_dict_dict ?_))))
  simp only [Bool.not_true, if_false, Bool.false_eq_true]
  refine wpAny_bind (wpAny_pure (wpAny_bind (wpAny_pure (wpAny_bind (same_tup hr ha hb da db tx ty (wpAny_pure ⟨_, rfl, (fun z => nomatch z), ?_⟩))))))
  simpa using h
theorem ne_tup {a b : Addr} {xs ys : List (K × Addr × Value)} {Q : Value → Shared → Prop} (hr : knd.room A.in1) (hu : A.units < cLine) (ha : (a == sysModules) = false) (hb : (b == sysModules) = false) (da : s.heap.DictOfH knd a xs) (db : s.heap.DictOfH knd b ys)
    (tx : ∀ x ∈ xs, x.2.2 = .bool true) (ty : ∀ y ∈ ys, y.2.2 = .bool true) (h : Q (.bool (!(xs.length == ys.length && inAll ys xs))) s) : wpAny (model prog w) A (compareOp .NotEq (.ref a) (.ref b)) Q E s := by
  have t1 := dictH_type da
  have t2 := dictH_type db
  refine wpAny_richCompare_same_room (op := .NotEq) t1 t2 F.slot_dict_ne (wpAny_call_entry F.slot_dict_ne t1 F.entry_dict_ne ?_ (F.args_dict_ne_2 _ _)) hu
  refine show wpAny _ _ (Builtin.Dict.dictSlotArgs "__ne__" ⟨[.ref a, .ref b], []⟩ >>= _) _ _ s from wpAny_bind ?_
  unfold Builtin.Dict.dictSlotArgs
  refine wpAny_bind (wpAny_notOrdered_dict t1 (show wpAny _ _ (pure (Value.ref a, Value.ref b)) _ _ s from wpAny_pure (wpAny_bind (wpAny_isInstance (T := "dict") t2 F.sub_dict_dict ?_))))
  simp only [Bool.not_true, if_false, Bool.false_eq_true]
  refine wpAny_bind (wpAny_pure (wpAny_bind (wpAny_pure (wpAny_bind (same_tup hr ha hb da db tx ty (wpAny_pure ⟨_, rfl, (fun z => nomatch z), ?_⟩))))))
  simpa using h
end
/-! the rules over the layer -/
def tru (ks : List (List Key)) : HO := .dT (ks.map fun k => (k, V.bl true))
/-- the same keys, whatever their order (each list without repeats) -/
def sameK {K : Type} [DecidableEq K] (ks ls : List K) : Bool := ks.length == ls.length && ks.all fun k => decide (k ∈ ls)
theorem kt_tru {H : Hp} : ∀ {ks : List (List Key)} {xs : List (List Key × Addr × Value)}, KT H (ks.map fun k => (k, V.bl true)) xs → xs.map (·.1) = ks ∧ ∀ x ∈ xs, x.2.2 = .bool true
  | [], xs, h => by cases h; exact ⟨rfl, fun _ z => nomatch z⟩
  | k :: ks, xs, h => by
    cases h with
    | @cons _ y _ ys hq t =>
      obtain ⟨e1, e2⟩ := kt_tru t
      refine ⟨by rw [List.map_cons, e1, ← hq.1], fun x hx => ?_⟩
      rcases List.mem_cons.mp hx with rfl | hx
      · exact hq.2.2
      · exact e2 x hx
theorem atKey_mem {K : Type} [DecidableEq K] (k : K) (ys : List (K × Addr × Value)) : (atKey ys k).isSome = decide (k ∈ ys.map (·.1)) := by
  rw [← any_pairsH]
  unfold pairsH
  rw [List.any_map, Bool.eq_iff_iff, List.any_eq_true, decide_eq_true_iff, List.mem_map]
  constructor
  · rintro ⟨x, h1, h2⟩
    exact ⟨x, h1, of_decide_eq_true h2⟩
  · rintro ⟨x, h1, h2⟩
    exact ⟨x, h1, decide_eq_true h2⟩
theorem inAll_mem {K : Type} [DecidableEq K] (xs ys : List (K × Addr × Value)) : inAll ys xs = (xs.map (·.1)).all fun k => decide (k ∈ ys.map (·.1)) := by
  unfold inAll
  rw [List.all_map]
  congr 1
  funext x
  exact atKey_mem x.1 ys
section
variable {X : Cx}
def rEqT : R2 := fun x y H Q => ∃ a b ks ls, x = .ref a ∧ y = .ref b ∧ H a = some (tru ks) ∧ H b = some (tru ls) ∧ Q (.bl (sameK ks ls)) H
def rNeT : R2 := fun x y H Q => ∃ a b ks ls, x = .ref a ∧ y = .ref b ∧ H a = some (tru ks) ∧ H b = some (tru ls) ∧ Q (.bl (!sameK ks ls)) H
theorem op_eqT (hu : X.A.units + 1 < cLine) : OpR X (compareOp .Eq) rEqT := by
  intro pins s σ H x y v u Q I rx ry h
  obtain ⟨a, b, ks, ls, rfl, rfl, ea, eb, q⟩ := h
  cases (show v = Value.ref a from rx)
  cases (show u = Value.ref b from ry)
  obtain ⟨_, ya, za, ra, da⟩ := dt_of I.hok ea
  obtain ⟨_, yb, zb, rb, db⟩ := dt_of I.hok eb
  obtain ⟨e1, t1⟩ := kt_tru ra
  obtain ⟨e2, t2⟩ := kt_tru rb
  refine eq_tup (knd := tupleKind (mixKind X.prog X.w)) (show X.A.units + 1 < cLine from hu) (by omega) ya yb da db t1 t2 ⟨.bl _, H, I, rfl, ?_⟩
  rw [inAll_mem, e1, e2, ← List.length_map (f := (·.1)) (as := za), ← List.length_map (f := (·.1)) (as := zb), e1, e2]
  exact q
theorem op_neT (hu : X.A.units + 1 < cLine) : OpR X (compareOp .NotEq) rNeT := by
  intro pins s σ H x y v u Q I rx ry h
  obtain ⟨a, b, ks, ls, rfl, rfl, ea, eb, q⟩ := h
  cases (show v = Value.ref a from rx)
  cases (show u = Value.ref b from ry)
  obtain ⟨_, ya, za, ra, da⟩ := dt_of I.hok ea
  obtain ⟨_, yb, zb, rb, db⟩ := dt_of I.hok eb
  obtain ⟨e1, t1⟩ := kt_tru ra
  obtain ⟨e2, t2⟩ := kt_tru rb
  refine ne_tup (knd := tupleKind (mixKind X.prog X.w)) (show X.A.units + 1 < cLine from hu) (by omega) ya yb da db t1 t2 ⟨.bl _, H, I, rfl, ?_⟩
  rw [inAll_mem, e1, e2, ← List.length_map (f := (·.1)) (as := za), ← List.length_map (f := (·.1)) (as := zb), e1, e2]
  exact q
end
end Kt
namespace Kt
open PySem L2 Evl PySem.Spec PyProof.Rows
/-- {k: v for .. in .. if ..}: the keys texts, ints or tuples of them (o0 the empty dict of that kind) -/
def tDcP (o0 : HO) (wi : TI) (g : TG) (tt : TT) (tk tv : TE) (ns : List Nat) : TE := fun σ H Q => wi σ H fun J H1 => ∀ D, H1 D = none → ∃ W : Nat → Nat → Hp → Prop, (∃ m, W 0 m (upd H1 D o0)) ∧ ∀ n m G, W n m G →
  (J.stop n G ∧ Q (.ref D) G) ∨ (J.go n G ∧ ∃ Nx : Hp → Prop, (∀ G', Nx G' → ∃ m', m' < m ∧ W (n + 1) m' G') ∧ ∀ x G', J.yld n G x G' → g x (wipe σ ns) G' fun τ G2 => wipe τ ns = wipe σ ns ∧ tt τ G2 fun b G3 =>
    if b = true then tk τ G3 fun y G4 => tv τ G4 fun z G5 => ∃ G6, DPut G5 D y z G6 ∧ Nx G6 else Nx G3)
def Bare (o0 : HO) : Prop := o0 = .dK [] ∨ o0 = .dT []
theorem Bare.ok {o0 : HO} (b : Bare o0) {P : Program} {w : World} {H : Hp} (h : Heap) (hb : sysModules < h.objs.size) : ObjOk P w H (h.push { cls := .type "dict", data := .dict #[] }) h.objs.size o0 := by
  rcases b with rfl | rfl
  · exact dk_empty h hb
  · exact dt_empty h hb
section
variable {X : Cx}
theorem pe_dcP {o0 : HO} {kx vx tg iter : Expr} {ifs : List Expr} {scope : Scope} {own : List (Str × Nat)} {pos : Pos} {wi : TI} {g : TG} {tt : TT} {tk tv : TE} (b0 : Bare o0) (hu : X.A.units < cLine) (hc : X.calm = true) (hN : X.N.Nodup) (hi : PI X tg iter wi) (ok : BlkOk X.N X.env.scope scope own)
    (hg : ∀ (t : Shared) (G : Hp) (C : Addr) (cl : List (Str × Addr)) (fp : List Addr), PG (X.blk t G scope (compEnvC scope cl C X.env) fp) tg g) (ht : ∀ (t : Shared) (G : Hp) (C : Addr) (cl : List (Str × Addr)) (fp : List Addr), PTs (X.blk t G scope (compEnvC scope cl C X.env) fp) ifs tt)
    (hk : ∀ (t : Shared) (G : Hp) (C : Addr) (cl : List (Str × Addr)) (fp : List Addr), PE (X.blk t G scope (compEnvC scope cl C X.env) fp) kx tk) (hv : ∀ (t : Shared) (G : Hp) (C : Addr) (cl : List (Str × Addr)) (fp : List Addr), PE (X.blk t G scope (compEnvC scope cl C X.env) fp) vx tv)
    (hs : ∀ x, foldedSetIterable iter X.env x = pure x := by intro _; rfl) : PE X (.DictComp kx vx [⟨tg, iter, ifs, 0⟩] scope pos) (tDcP o0 wi g tt tk tv (own.map (·.2))) := by
  refine ⟨fun pins s σ H Q I h => ?_⟩
  rw [arm_eval_DictComp]
  have free : ∀ y ∈ scope.names, y.2 = .free → ∃ c, X.env.cells.lookup y.1 = some c := fun y hy e => (ok.free y hy e).elim (fun z => I.ok.has _ (.inl z)) fun z => I.ok.has _ (.inr z)
  refine wpAny_comprehension_free rfl hs (closure_ok free) ok.kind (fun y hy e => by rw [ok.uniq y hy, e]) (thn (hi.run pins s σ H _ I h) fun _ _ hx => thn hx fun _ t ht2 => ?_)
  obtain ⟨it, fp, tn, J, H2, rfl, I2, T, st, fpk, q⟩ := ht2
  refine wpAny_newObj_type (newEnv_comp ?_)
  obtain ⟨D, hD⟩ : ∃ D, D = t.heap.objs.size := ⟨_, rfl⟩
  have freshD : H2 D = none := I2.hok.fresh (Nat.le_of_eq hD.symm)
  obtain ⟨W, ⟨m0, w0⟩, turn⟩ := q D freshD
  obtain ⟨G3, hG3⟩ : ∃ G3, G3 = upd H2 D o0 := ⟨_, rfl⟩
  obtain ⟨t3, ht3⟩ : ∃ t3 : Shared, t3 = { t with heap := t.heap.push { cls := .type "dict", data := .dict #[] } } := ⟨_, rfl⟩
  have hp3 : t3.heap = t.heap.push { cls := .type "dict", data := .dict #[] } := by rw [ht3]
  have I3 : Inv X pins σ G3 t3 := by
    rw [ht3, hG3]
    refine I2.laid (t' := t.toks) (fun _ _ e => Heap.get?_push_of_some _ e) (Nat.le_of_eq hD.symm) ?_
    rw [hD]
    exact b0.ok t.heap I2.big
  have old : ∀ b ∈ fp, b < t.heap.objs.size := fun b hb => let ⟨_, e, _⟩ := T.obj _ _ st b hb; Heap.lt_size e
  have fpk3 : ∀ b ∈ fp, FpOk X pins G3 b ∧ b < t3.heap.objs.size := fun b hb => by
    have lt := old b hb
    have ne : b ≠ D := by rw [hD]; exact Nat.ne_of_lt lt
    have e3 : G3 b = none := by rw [hG3, upd_ne ne]; exact (fpk b hb).1
    exact ⟨⟨e3, (fpk b hb).2⟩, by rw [hp3, Heap.size_push]; exact Nat.lt_succ_of_lt lt⟩
  have st3 : tn 0 t3.heap := T.keep _ _ _ st fun _ _ _ e => by rw [hp3]; exact Heap.get?_push_of_some _ e
  have I4 := block_start I3 ok hN fpk3
  obtain ⟨cl, hcl⟩ : ∃ cl, cl = cellsFrom (t3.heap.objs.size + 1) scope.names (cloFrom X.env.cells scope.names []) := ⟨_, rfl⟩
  obtain ⟨ce, hce⟩ : ∃ ce, ce = compEnvC scope cl t3.heap.objs.size X.env := ⟨_, rfl⟩
  have pg := hg t3 G3 t3.heap.objs.size cl fp
  have pt := ht t3 G3 t3.heap.objs.size cl fp
  have pk := hk t3 G3 t3.heap.objs.size cl fp
  have pv := hv t3 G3 t3.heap.objs.size cl fp
  have hloc : ce.locals = t3.heap.objs.size := by rw [hce]; rfl
  obtain ⟨t4, ht4⟩ : ∃ t4 : Shared, t4 = { t3 with heap := pushCells (t3.heap.push { cls := .type "dict", data := .dict #[] }) scope.names } := ⟨_, rfl⟩
  rw [← hcl, ← hce, ← ht4] at I4
  rw [← hce] at pg pt pk pv
  have w3 : W 0 m0 G3 := by rw [hG3]; exact w0
  have none3 : ∀ b ∈ fp, G3 b = none := fun b hb => (fpk3 b hb).1.1
  have st4 : tn 0 t4.heap := T.keep _ _ _ st3 fun _ _ _ e => by rw [ht4]; exact pushCells_keeps _ _ _ _ (Heap.get?_push_of_some _ e)
  have stays : ∀ {τ : L2.St} {G : Hp} {r : Shared}, Inv (X.blk t3 G3 scope ce fp) [] τ G r → (∀ b ∈ fp, G b = none) → ∀ b ∈ fp, FpOk (X.blk t3 G3 scope ce fp) [] G b := fun {τ G r} J' hn b hb =>
    ⟨hn b hb, (J'.ok.exf b hb).1, J'.ok.exfs b hb, .inl hb, fun x c e => (J'.ok.exf b hb).2 x c e, fun p hp => absurd (show p ∈ ([] : List (Addr × Obj)) ++ [] from hp) (by simp)⟩
  have loop : codeAny (model X.prog X.w) X.A (.compLoop (.DictComp kx vx [⟨tg, iter, ifs, 0⟩] scope pos) 0 (.ref it) (.ref D) ce) (compPost (model X.prog X.w) X.A X.xe none (fun v s' => ∃ x H', Inv X pins σ H' s' ∧ RelV x v ∧ Q x H') (.ref D) t3.heap.objs.size) t4 := by
    refine compLoop_anyD (fun n r => ∃ i G, Inv (X.blk t3 G3 scope ce fp) [] (wipe σ (own.map (·.2))) G r ∧ tn i r.heap ∧ (∀ b ∈ fp, G b = none) ∧ W i n G) ?_ m0 ⟨0, G3, I4, st4, none3, w3⟩
    rintro n r5 ⟨i, G5, I5, st5, none5, w5⟩
    rcases turn i n G5 w5 with ⟨stop, fin⟩ | ⟨go, Nx, down, step⟩
    · refine thnF (T.done (X.blk t3 G3 scope ce fp) rfl rfl rfl hc i [] r5 _ G5 (fun _ _ => False) I5 (stays I5 none5) st5 stop) fun _ r6 ⟨hr, I6⟩ => ?_
      subst hr
      have I7 : Inv X pins σ G5 r6 := I3.call' (ch := fp) I6.os I6.base I6.hok I6.bare fun b hb => let z := (fpk3 b hb).1; ⟨z.2.2.2.1, z.2.1, z.2.2.2.2.1, z.2.2.2.2.2⟩
      have hC : G5 t3.heap.objs.size = none := by rw [← hloc]; exact I6.free
      obtain ⟨m, hn, _⟩ := I6.loc
      have hn2 : r6.heap.Ns t3.heap.objs.size m := by rw [← hloc]; exact hn
      obtain ⟨f0, f1, f2, f3, f4, f5⟩ := I3.fpOk (Nat.le_refl _) hC
      exact ⟨m, hn2, fun h'' sb => ⟨.ref D, G5, I7.turned (t' := r6.toks) (fun b o hb e => (sb.2 b hb).trans e) f0 f1 f3 f4 f5, rfl, fin⟩⟩
    · refine thnF (T.item (X.blk t3 G3 scope ce fp) rfl rfl rfl hc i [] r5 _ G5 (fun _ _ => False) I5 (stays I5 none5) st5 go) fun _ r6 ⟨u, hr, h6⟩ => ?_
      subst hr
      refine thnF h6 fun _ r7 ⟨x, G7, I7, rel7, y7, st7, none7⟩ => ?_
      refine thnF (pg.run _ r7 _ G7 x u _ (I7.pinned (stays I7 none7) (T.obj _ _ st7)) rel7 (step x G7 y7)) fun _ r8 ⟨τ, G8, I8, same, q8⟩ => ?_
      refine thnF (pt.run _ r8 τ G8 _ I8 q8) fun b r9 ⟨G9, I9, q9⟩ => ?_
      have back : ∀ {r : Shared} {G : Hp}, Inv (X.blk t3 G3 scope ce fp) ([] ++ pinsAt fp r7.heap) τ G r → Nx G → ∃ m, m < n ∧ ∃ i G, Inv (X.blk t3 G3 scope ce fp) [] (wipe σ (own.map (·.2))) G r ∧ tn i r.heap ∧ (∀ b ∈ fp, G b = none) ∧ W i m G := fun {r G} J' nx => by
        obtain ⟨m', lt, w'⟩ := down G nx
        have pin : ∀ b ∈ fp, ∀ o, r7.heap.get? b = some o → r.heap.get? b = some o ∧ G b = none := fun b hb o e => let z := J'.pin (b, o) (List.mem_append_right _ (List.mem_append_right _ (mem_pinsAt hb e))); ⟨z.1, z.2.1⟩
        have len : (wipe σ (own.map (·.2))).length = τ.length := by rw [← same]; exact wipe_length ..
        refine ⟨m', lt, i + 1, G, (J'.unpinned (pins := [])).weak len (fun j v e => (wipe_some (by rw [same]; exact e)).1), T.keep _ _ _ st7 fun b hb o e => (pin b hb o e).1, fun b hb => ?_, w'⟩
        obtain ⟨o, e, _⟩ := T.obj _ _ st7 b hb
        exact (pin b hb o e).2
      cases b with
      | false => exact back I9 (by simpa using q9)
      | true =>
        rw [if_pos rfl] at q9 ⊢
        refine thnF (pk.run _ r9 τ G9 _ I9 q9) fun ku r10 ⟨yk, G10, I10, rk, q10⟩ => ?_
        refine thnF (pv.run _ r10 τ G10 _ I10 q10) fun vu r11 ⟨yv, G11, I11, rv, G12, put, nx⟩ => ?_
        exact put_any (X := X.blk t3 G3 scope ce fp) hu I11 put rk rv fun r12 I12 => back I12 nx
  have start := codeAny_compStart_dict loop (T.self X.A 0 _ _ _ st4 loop)
  rw [hD] at start
  subst ht3 hce hcl ht4
  exact start
end
end Kt
/-! dicts from texts (or ints) to texts and None: ==, locks, what a lock keeps -/
namespace Kt
open PySem L2 Evl PySem.Spec PyProof.Rows Kd
/-- None or a text -/
def plV : V → Bool
  | .non | .str _ => true
  | _ => false
def eqV : V → V → Bool
  | .non, .non => true
  | .str a, .str b => decide (a = b)
  | _, _ => false
theorem eqV_iff {x y : V} (hx : plV x = true) (hy : plV y = true) : eqV x y = true ↔ x = y := by
  cases x <;> cases y <;> simp_all [plV, eqV]
def hitB (ls : List (Key × V)) : List (Key × V) → Bool
  | [] => true
  | (k, v) :: r => match valV ls k with
    | none => false
    | some y => eqV v y && hitB ls r
theorem eqAt_pl {A : Around} {s : Shared} {x y : V} {u v : Value} (hx : plV x = true) (hy : plV y = true) (rx : RelV x u) (ry : RelV y v) : SeqAt.EqAt A s u v (eqV x y) := by
  cases x with
  | non =>
    cases (show u = Value.none from rx)
    cases y with
    | non =>
      cases (show v = Value.none from ry)
      exact SeqAt.EqAt.same _
    | str b =>
      obtain ⟨t, rfl⟩ := ry
      exact SeqAt.EqAt.none_str b t
    | _ => cases hy
  | str a =>
    obtain ⟨t, rfl⟩ := rx
    cases y with
    | non =>
      cases (show v = Value.none from ry)
      have z := PySem.W.keq_flat (A := A) (s := s) (v := Value.str a t) (y := Value.none) (d := .str a) (e := .none) (fun h => Reads.str a t) (fun h => Reads.none)
      simpa [PyData.eqv, eqV] using z
    | str b =>
      obtain ⟨t', rfl⟩ := ry
      have z := PySem.W.keq_flat (A := A) (s := s) (v := Value.str a t) (y := Value.str b t') (d := .str a) (e := .str b) (fun h => Reads.str a t) (fun h => Reads.str b t')
      rw [show PyData.eqv (.str a) (.str b) = decide (a = b) by simp only [PyData.eqv]; exact PySem.W.beq_decide a b] at z
      exact z
    | _ => cases hy
  | _ => cases hx
theorem hits_of {A : Around} {s : Shared} {ls : List (Key × V)} {vb : List (Key × Value)} (rb : KV ls vb) (pb : ∀ p ∈ ls, plV p.2 = true) : ∀ {ks : List (Key × V)} {va : List (Key × Value)}, KV ks va → (∀ p ∈ ks, plV p.2 = true) → PySem.W.KeqHits A s vb va (hitB ls ks)
  | [], _, h, _ => by cases h; exact .nil
  | (k, v) :: r, _, h, pa => by
    cases h with
    | @cons _ q _ qs hq t =>
      obtain ⟨k', u⟩ := q
      obtain ⟨e1, e2⟩ := hq
      cases (show k = k' from e1)
      have rel := rb.val k
      show PySem.W.KeqHits A s vb ((k, u) :: qs) (match valV ls k with | none => false | some y => eqV v y && hitB ls r)
      cases hv : valV ls k with
      | none =>
        rw [hv] at rel
        refine .miss ?_
        cases hw : valueAt vb k with
        | none => rfl
        | some z => rw [hw] at rel; cases rel
      | some y =>
        rw [hv] at rel
        cases hw : valueAt vb k with
        | none => rw [hw] at rel; cases rel
        | some z =>
          rw [hw] at rel
          have hy : plV y = true := by
            unfold valV at hv
            obtain ⟨p, hp, rfl⟩ := Option.map_eq_some_iff.mp hv
            exact pb p (List.mem_of_find?_eq_some hp)
          exact .hit hw (eqAt_pl (pa (k, v) List.mem_cons_self) hy e2 rel) (hits_of rb pb t fun p hp => pa p (List.mem_cons_of_mem _ hp))
section
variable {X : Cx}
def sameD (ks ls : List (Key × V)) : Bool := ks.length == ls.length && hitB ls ks
def rEqK : R2 := fun x y H Q => ∃ a b ks ls, x = .ref a ∧ y = .ref b ∧ Rd H a (.dK ks) ∧ Rd H b (.dK ls) ∧ (∀ p ∈ ks, plV p.2 = true) ∧ (∀ p ∈ ls, plV p.2 = true) ∧ Q (.bl (sameD ks ls)) H
def rNeK : R2 := fun x y H Q => ∃ a b ks ls, x = .ref a ∧ y = .ref b ∧ Rd H a (.dK ks) ∧ Rd H b (.dK ls) ∧ (∀ p ∈ ks, plV p.2 = true) ∧ (∀ p ∈ ls, plV p.2 = true) ∧ Q (.bl (!sameD ks ls)) H
theorem op_eqK (hu : X.A.units + 1 < cLine) : OpR X (compareOp .Eq) rEqK := by
  intro pins s σ H x y v u Q I rx ry ⟨a, b, ks, ls, ex, ey, ea, eb, pa, pb, q⟩
  subst ex ey
  cases (show v = Value.ref a from rx)
  cases (show u = Value.ref b from ry)
  obtain ⟨_, ya, va, ra, da⟩ := dk_rd I.hok ea
  obtain ⟨_, yb, vb, rb, db⟩ := dk_rd I.hok eb
  refine PySem.W.keq_eq (knd := mixKind X.prog X.w) ya yb da db (by omega) (fun _ => hits_of rb pb ra pa) ⟨.bl _, H, I, rfl, ?_⟩
  rw [← ra.length, ← rb.length]
  exact q
theorem op_neK (hu : X.A.units + 1 < cLine) : OpR X (compareOp .NotEq) rNeK := by
  intro pins s σ H x y v u Q I rx ry ⟨a, b, ks, ls, ex, ey, ea, eb, pa, pb, q⟩
  subst ex ey
  cases (show v = Value.ref a from rx)
  cases (show u = Value.ref b from ry)
  obtain ⟨_, ya, va, ra, da⟩ := dk_rd I.hok ea
  obtain ⟨_, yb, vb, rb, db⟩ := dk_rd I.hok eb
  refine PySem.W.keq_ne (knd := mixKind X.prog X.w) ya yb da db (by omega) (fun _ => hits_of rb pb ra pa) ⟨.bl _, H, I, rfl, ?_⟩
  rw [← ra.length, ← rb.length]
  exact q
end
/-! k in d, k not in d -/
section
variable {X : Cx}
def rInK : R2 := fun y x H Q => ∃ a o, x = .ref a ∧ DGet H a y o ∧ Q (.bl o.isSome) H
def rNotInK : R2 := fun y x H Q => ∃ a o, x = .ref a ∧ DGet H a y o ∧ Q (.bl (!o.isSome)) H
theorem op_inK (hu : X.A.units + 1 < cLine) : OpR X (compareOp .In) rInK := by
  intro pins s σ H y x u v Q I ry rx ⟨a, o, ex, g, q⟩
  subst ex
  cases (show v = Value.ref a from rx)
  exact d_in hu I g ry fun t I' => ⟨.bl _, H, I', rfl, q⟩
theorem op_notInK (hu : X.A.units + 1 < cLine) : OpR X (compareOp .NotIn) rNotInK := by
  intro pins s σ H y x u v Q I ry rx ⟨a, o, ex, g, q⟩
  subst ex
  cases (show v = Value.ref a from rx)
  exact d_notIn hu I g ry fun t I' => ⟨.bl _, H, I', rfl, q⟩
/-- d[k], k there -/
def rIxK : R2 := fun x y H Q => ∃ a v, x = .ref a ∧ DGet H a y (some v) ∧ Q v H
end
/-! what is known through a lock -/
theorem ex_unlock {H H' : Hp} {d : Addr} {o : Obj} {u : HO} (hd : H d = some u) (e : Ex (upd H d (.frz o u)) H') : Ex H (upd H' d u) := fun a v ha => by
  by_cases c : a = d
  · subst c
    rw [upd_same]
    rw [hd] at ha
    exact ha
  · rw [upd_ne c]
    exact e a v (by rw [upd_ne c]; exact ha)
theorem un_at {H' : Hp} {d a : Addr} {o : Obj} {u v : HO} (hd : H' d = some (.frz o u)) (ha : H' a = some v) (hv : ∀ o' u', v ≠ .frz o' u') : upd H' d u a = some v := by
  rw [upd_ne (fun z => by rw [z, hd] at ha; cases ha; exact hv _ _ rfl)]
  exact ha
theorem lock_at {H : Hp} {d a : Addr} {o : Obj} {kvs : List (Key × V)} {v : HO} (hd : H d = some (.dK kvs)) (ha : H a = some v) (hv : ∀ l, v ≠ .dK l) : upd H d (.frz o (.dK kvs)) a = some v := by
  rw [upd_ne (fun z => by rw [z, hd] at ha; cases ha; exact hv _ rfl)]
  exact ha
section
variable {K : PySem.W.Frag} {H' : Hp} {d : Addr} {o : Obj} {kvs : List (Key × V)}
theorem sqL_un {a : Addr} {xs : List V} (hd : H' d = some (.frz o (.dK kvs))) (h : SqL K H' a xs) : SqL K (upd H' d (.dK kvs)) a xs := by
  rcases h with (h | ⟨q, h⟩) | h
  · exact .inl (.inl (un_at hd h fun _ _ z => by cases z))
  · refine .inl (.inr ⟨q, ?_⟩)
    rw [upd_ne (fun z => by rw [z, hd] at h; cases h)]
    exact h
  · exact .inr h
theorem sqT_un {a : Addr} {xs : List V} (hd : H' d = some (.frz o (.dK kvs))) (h : SqT K H' a xs) : SqT K (upd H' d (.dK kvs)) a xs := by
  rcases h with (h | ⟨q, h⟩) | h
  · exact .inl (.inl (un_at hd h fun _ _ z => by cases z))
  · refine .inl (.inr ⟨q, ?_⟩)
    rw [upd_ne (fun z => by rw [z, hd] at h; cases h)]
    exact h
  · exact .inr h
mutual
theorem dp_un (hd : H' d = some (.frz o (.dK kvs))) : ∀ (x : PyData) (v : V), Dp K H' v x → Dp K (upd H' d (.dK kvs)) v x
  | .none, _, h => by cases h; exact .non
  | .bool b, _, h => by cases h; exact .bl b
  | .int i, _, h => by cases h; exact .int i
  | .str z, _, h => by cases h; exact .str z
  | .list ds, _, h => by cases h with | lst hs ha => exact .lst (sqL_un hd hs) (dpAll_un hd ds _ ha)
  | .tuple ds, _, h => by cases h with | tup hs ha => exact .tup (sqT_un hd hs) (dpAll_un hd ds _ ha)
  | .dict _, _, h => by cases h
theorem dpAll_un (hd : H' d = some (.frz o (.dK kvs))) : ∀ (ds : List PyData) (vs : List V), DpAll K H' vs ds → DpAll K (upd H' d (.dK kvs)) vs ds
  | [], _, h => by cases h; exact .nil
  | x :: ds, _, h => by cases h with | cons h1 h2 => exact .cons (dp_un hd x _ h1) (dpAll_un hd ds _ h2)
end
end
end Kt
namespace Kt
open PySem L2 Evl Kd Ks
/-- {k: v for x in ..}, no test: o tells the dict by the turn -/
theorem dcR {J : It} {n : Nat} {G : Hp → Prop} {Y : Nat → Hp → V → Hp → Prop} (w : Walk J n G Y) {i : Nat} {tk tv : TE} {σ : L2.St} {H1 : Hp} {D : Addr} {Qd : Hp → Prop} (hD : H1 D = none) (xs : List V) (o : Nat → HO) (hn : xs.length = n)
    (hG : ∀ H, Ex H1 H → G H) (hY : ∀ k H x H', Y k H x H' → H' = H ∧ xs[k]? = some x) (hw : ∀ v, wipe ((wipe σ [i]).set i v) [i] = wipe σ [i])
    (step : ∀ (k : Nat) x H, xs[k]? = some x → Ex H1 H → H D = some (o k) → tk ((wipe σ [i]).set i (some x)) H fun y H4 => tv ((wipe σ [i]).set i (some x)) H4 fun z H5 => ∃ H6, DPut H5 D y z H6 ∧ Ex H1 H6 ∧ H6 D = some (o (k + 1)))
    (hq : ∀ H, Ex H1 H → H D = some (o n) → Qd H) :
    ∃ W : Nat → Nat → Hp → Prop, (∃ m, W 0 m (upd H1 D (o 0))) ∧ ∀ k m H, W k m H →
      (J.stop k H ∧ Qd H) ∨ (J.go k H ∧ ∃ Nx : Hp → Prop, (∀ H', Nx H' → ∃ m', m' < m ∧ W (k + 1) m' H') ∧ ∀ x H', J.yld k H x H' → gName i x (wipe σ [i]) H' fun σ2 H2 => wipe σ2 [i] = wipe σ [i] ∧ tYes σ2 H2 fun b H3 =>
        if b = true then tk σ2 H3 fun y H4 => tv σ2 H4 fun z H5 => ∃ H6, DPut H5 D y z H6 ∧ Nx H6 else Nx H3) := by
  refine ⟨fun k m H => m = n - k ∧ k ≤ n ∧ Ex H1 H ∧ H D = some (o k), ⟨n, by simp, Nat.zero_le _, Ex.mut (Ex.refl H1) hD, upd_same⟩, ?_⟩
  rintro k m H ⟨rfl, hk, e, hd⟩
  have g := hG H e
  by_cases c : k < n
  · refine .inr ⟨w.goes k H c g, fun H' => Ex H1 H' ∧ H' D = some (o (k + 1)), fun H' p => ⟨n - (k + 1), by omega, rfl, c, p⟩, fun x H' y => ?_⟩
    obtain ⟨rfl, hx⟩ := hY k H x H' (w.yields k H x H' c g y)
    exact ⟨hw (some x), step k x H' hx e hd⟩
  · obtain rfl : k = n := by omega
    exact .inl ⟨w.stops H g, hq H e hd⟩
/-- each once, in the order of the first -/
def once {α : Type} [DecidableEq α] : List α → List α
  | [] => []
  | x :: r => x :: (once r).filter fun y => decide (y ≠ x)
def addO {α : Type} [DecidableEq α] (l : List α) (k : α) : List α := if k ∈ l then l else l ++ [k]
/-- the keys of a row of ties, each once, in their order -/
theorem put_tru {κ : Type} [DecidableEq κ] (l : List κ) (k : κ) : putK (l.map fun q => (q, V.bl true)) k (.bl true) = (addO l k).map fun q => (q, V.bl true) := by
  unfold putK addO
  have e : ((l.map fun q => (q, V.bl true)).any fun kv => decide (kv.1 = k)) = decide (k ∈ l) := by
    rw [List.any_map, Bool.eq_iff_iff, List.any_eq_true, decide_eq_true_iff]
    constructor
    · rintro ⟨x, h1, h2⟩
      rw [← of_decide_eq_true h2]
      exact h1
    · intro h
      exact ⟨k, h, decide_eq_true rfl⟩
  rw [e]
  by_cases c : k ∈ l
  · rw [decide_eq_true c, if_pos rfl, if_pos c, List.map_map]
    refine List.map_congr_left fun q _ => ?_
    show (if q = k then (q, V.bl true) else (q, V.bl true)) = (q, V.bl true)
    split <;> rfl
  · rw [decide_eq_false c, if_neg Bool.false_ne_true, if_neg c, List.map_append]
    rfl
theorem mem_once {α : Type} [DecidableEq α] {y : α} : ∀ {l : List α}, y ∈ once l ↔ y ∈ l
  | [] => Iff.rfl
  | x :: r => by
    unfold once
    rw [List.mem_cons, List.mem_cons, List.mem_filter, decide_eq_true_iff, mem_once (l := r)]
    constructor
    · rintro (h | h)
      · exact .inl h
      · exact .inr h.1
    · rintro (h | h)
      · exact .inl h
      · by_cases c : y = x
        · exact .inl c
        · exact .inr ⟨h, c⟩
theorem nodup_once {α : Type} [DecidableEq α] : ∀ l : List α, (once l).Nodup
  | [] => List.nodup_nil
  | x :: r => by
    unfold once
    refine List.nodup_cons.mpr ⟨fun h => ?_, (nodup_once r).filter _⟩
    exact of_decide_eq_true (List.mem_filter.mp h).2 rfl
theorem once_snoc {α : Type} [DecidableEq α] (k : α) : ∀ l : List α, once (l ++ [k]) = addO (once l) k
  | [] => rfl
  | x :: r => by
    show x :: (once (r ++ [k])).filter (fun y => decide (y ≠ x)) = addO (x :: (once r).filter fun y => decide (y ≠ x)) k
    rw [once_snoc k r]
    unfold addO
    by_cases c : k = x
    · subst c
      rw [if_pos List.mem_cons_self]
      by_cases c2 : k ∈ once r
      · rw [if_pos c2]
      · rw [if_neg c2, List.filter_append]
        simp
    · by_cases c2 : k ∈ once r
      · rw [if_pos c2, if_pos (List.mem_cons_of_mem _ (List.mem_filter.mpr ⟨c2, decide_eq_true c⟩))]
      · rw [if_neg c2, if_neg (fun z => by
          rcases List.mem_cons.mp z with z | z
          · exact c z
          · exact c2 (List.mem_filter.mp z).1), List.filter_append]
        simp [c]
theorem once_map {α β : Type} [DecidableEq α] [DecidableEq β] (f : α → β) (hf : ∀ a b, f a = f b → a = b) : ∀ l : List α, once (l.map f) = (once l).map f
  | [] => rfl
  | x :: r => by
    show f x :: (once (r.map f)).filter (fun y => decide (y ≠ f x)) = (x :: (once r).filter fun y => decide (y ≠ x)).map f
    rw [once_map f hf r, List.map_cons, List.filter_map]
    congr 2
    refine List.filter_congr fun y _ => ?_
    show decide (f y ≠ f x) = decide (y ≠ x)
    rw [decide_eq_decide]
    exact ⟨fun h z => h (by rw [z]), fun h z => h (hf _ _ z)⟩
theorem once_nodup {α : Type} [DecidableEq α] : ∀ {l : List α}, l.Nodup → once l = l
  | [], _ => rfl
  | x :: r, h => by
    obtain ⟨h1, h2⟩ := List.nodup_cons.mp h
    show x :: (once r).filter (fun y => decide (y ≠ x)) = x :: r
    have e : r.filter (fun y => decide (y ≠ x)) = r := List.filter_eq_self.mpr fun y hy => decide_eq_true (show y ≠ x from fun z => h1 (by rw [← z]; exact hy))
    rw [once_nodup h2, e]
theorem once_sub {α : Type} [DecidableEq α] : ∀ l : List α, (once l).Sublist l
  | [] => .slnil
  | x :: r => (List.filter_sublist.trans (once_sub r)).cons_cons x
theorem once_len {α : Type} [DecidableEq α] (l : List α) : (once l).length ≤ l.length := (once_sub l).length_le
end Kt
/-! what a def binds whose defaults stand in a known tuple -/
namespace Kd
open PySem L2
theorem dfl_binds {K : PySem.W.Frag} {x qual : Str} {params : Arguments} {body : List Stmt} {scope : Scope} {dvs : List V} {f T : Addr} {kV doc pm cdv ct to : Value} {an td : Option Addr} {its : List Value} {m : Nat} {sl : Array (Option Value)} {ps : List Str}
    (F : FunD K x qual params body scope dvs [] f (PySem.W.fnOf x qual params body scope (.ref T) kV doc pm an cdv ct)) (lT : K.lookup T = some ⟨to, td, .seq its.toArray m, sl⟩) (n j : Nat) (hn : n + (its.length - j) = ps.length)
    (h : ∀ us zs : List Value, us.length = n → zs.length = its.length → ∃ k, bindArgs (PySem.W.fnOf x qual params body scope (.ref T) kV doc pm an cdv ct) ⟨us, []⟩ = seqItems? (.ref T) >>= k ∧ k (some zs.toArray) = pure (ps.zip (us ++ zs.drop j))) :
    Binds K (PySem.W.fnOf x qual params body scope (.ref T) kV doc pm an cdv ct) ps (its.drop j) := fun s us hK hl => by
  rw [List.length_append, List.length_drop] at hl
  obtain ⟨k, e1, e2⟩ := h us its (by omega) rfl
  refine BindsTo.of_looks fun M => ?_
  rw [e1]
  exact looks_items hK lT rfl (.of_pure e2)
end Kd
/-! len(o) by an own __len__ -/
namespace L2
open PySem PySem.W PyProof.Rows PySem.Calls
section
variable {X : Cx} {C f : Addr} {fd : FuncData} {ps : List Str} {sp : Sp} {n : Nat}
def rLenOwn (C : Addr) (sp : Sp) : List V → Hp → VK → Prop := fun xs H Q => ∃ a dx fs, xs = [.ref a] ∧ H a = some (.ins C dx fs) ∧ sp [.ref a] H (fun v H' => ∃ i : Int, v = .int i ∧ 0 ≤ i ∧ i < 2 ^ 63 ∧ Q v H') fun _ _ _ => False
theorem call_lenOwn (F : FnOk X.prog X.w X.K X.mg X.base CX0 n f fd ps sp) (hs : PySem.W.findIn X.K (.ref C) "__len__" = some (some (.ref f))) (hf : PySem.W.isFn X.K (.ref f) = true) (hb : Binds X.K fd ps []) (hr : Room (n + 1) X.A) :
    CallR X (.builtin "len") (rLenOwn C sp) := by
  intro pins s σ H xs us Q I r ⟨a, dx, fs, e, ha, q⟩
  subst e
  rw [Vals.ref1 r]
  obtain ⟨ox, od, J⟩ := own_at I ha
  refine Calls.call_function_entry kind_len plain_len entry_len (args_len1 _) ?_
  unfold Builtin.«len»
  refine wpAny_bind (m := oneArg "len" _) (wpAny_pure (wpAny_bind (m := callSpecial? (.ref a) (Str.ofString "__len__")) (special_fn I.kIn J hs (beq_iff_eq.mp hf) (wpAny_mono (run_at (A := X.A.in1) F hb pass0 rfl hr.in1 I (vs := [.ref a]) (.cons rfl .nil) q) (fun v s' z => ?_) fun _ _ z => z))))
  obtain ⟨v', H', I', rv, i, e, i0, i1, q'⟩ := z
  subst e
  obtain ⟨t, rfl⟩ := rv
  refine wpAny_bind (wpAny_holding (wpAny_pure (wpAny_bind (wpAny_letGo ?_))))
  show wpAny _ _ (if i < 0 then _ else _) _ _ _
  rw [if_neg (show ¬ i < 0 by omega)]
  show wpAny _ _ (if i ≥ 2 ^ 63 then _ else _) _ _ _
  rw [if_neg (show ¬ i ≥ 2 ^ 63 by omega)]
  exact wpAny_bind (wpAny_mkInt (wpAny_pure ⟨_, rfl, .int i, H', I'.tok _, ⟨_, rfl⟩, q'⟩))
end
end L2
/-! list(d.items()), d perhaps locked by a walk. -/
namespace Kt
open PySem L2 LiI
def rItR : V → Hp → VK → Prop := fun x H Q => ∃ (d : Addr) (kvs : List (Key × V)), x = .ref d ∧ Rd H d (.dK kvs) ∧
  ∀ (H' : Hp) (p : Addr) (ts : List Addr), (∀ b o, H b = some o → H' b = some o) → H p = none → H' p = some (.lst (ts.map V.ref)) → Paired (fun (t : Addr) (q : Key × V) => H' t = some (.tup [kV q.1, q.2])) ts kvs → Q (.ref p) H'
def tItR (te : TE) : TE := fun σ H Q => te σ H fun x H1 => rItR x H1 Q
theorem pe_itemsR {X : Cx} {e : Expr} {te : TE} {p apos cpos pos : Pos} (calm : X.calm = true) (pe : PE X e te) (gl : Gl X "list") (mn : X.mg "list" = none) (bo : bootBuiltins "list" = some (.type "list")) (ab : attributeBase e "items" X.env (eval e X.env) = eval e X.env := by rfl) (li : (apos.endLine == cpos.line) = true := by rfl)
    (st : starEach [.Call (.Attribute e "items" apos) [] [] cpos] X.env = (false, eval (.Call (.Attribute e "items" apos) [] [] cpos) X.env) :: starEach [] X.env := by rfl) : PE X (.Call (.Name "list" p) [.Call (.Attribute e "items" apos) [] [] cpos] [] pos) (tItR te) := by
  constructor
  intro pins s σ H Q I ask
  refine wpAny_Call_Name_kw (ld_blt I gl mn bo (PyProof.Rows.callWith_type1 ?_ st rfl))
  rw [st]
  show wpAny _ _ (spliced ((false, eval (.Call (.Attribute e "items" apos) [] [] cpos) X.env) :: backTo pos (starEach [] X.env))) _ _ s
  refine Calls.spliced_cons ?_
  refine (wpAny_Call_method (T := "dict") (id := "dict.items") ab rfl li F.plainAttrs_dict F.slot_dict_items F.type_dict_items (thn (pe.run pins s σ H _ I ask) ?_))
  rintro u s1 ⟨x, H1, J, rx, d, kvs, rfl, rd, q⟩
  obtain rfl : u = Value.ref d := rx
  obtain ⟨size, notSys, vs, rel, isD⟩ := dk_rd J.hok rd
  obtain ⟨ep, isAt⟩ := isD.dictAt
  have len : kvs.length = vs.length := Paired.length rel
  have J2 : Inv X pins σ H1 { s1 with heap := s1.heap.push { cls := .type "dict_items", data := .fields #[.ref d] } } := J.kept (t' := s1.toks) fun _ _ z => Heap.get?_push_of_some _ z
  refine ⟨isD.typeIs, isD.mapOf.noDict, ?_⟩
  show wpAny _ _ (callWith cpos (.builtin "dict.items") [.ref d] [] []) _ X.xe s1
  refine method_meetsIn F.slot_dict_items F.entry_dict_items rfl (PySem.evalArgs_none ⟨rfl, isD.typeIs, F.args_dict_items_1 _, _, meets_dict_items (mixKind X.prog X.w) d notSys, ⟨vs, isD⟩, Calls.spliced_nil ?_⟩)
  refine PySem.W.kdx_call (knd := mixKind X.prog X.w) (kvs := vs) (ep := ep) (J.ok.hd calm) ⟨_, Heap.get?_push_size _ rfl, rfl, rfl⟩ (isAt.push _) (by omega) ?_
  intro h' tk acc c as hk hS hl hG hacc
  obtain ⟨H', k1, k2, _, _, k5, k6, J3⟩ := items_laid (tk := tk) J2 size rel hk hS hl hG hacc
  exact ⟨.ref _, H', J3, rfl, q H' _ as k1 k2 k5 k6⟩
end Kt
/-! A statement with a word of its own for what stands behind it (where two ways meet). -/
namespace L2
open PySem
def tJoin (t : TS) : TS := fun D σ H => ∃ J : St → Hp → Prop, t { D with nx := J } σ H ∧ ∀ σ' H', J σ' H' → D.nx σ' H'
theorem ps_join {X : Cx} {st : Stmt} {t : TS} (h : PS X st t) : PS X st (tJoin t) := by
  constructor
  rintro pins s σ H D I ⟨J, h1, h2⟩
  refine thn (h.run pins s σ H { D with nx := J } I h1) fun f s1 q => ?_
  cases f with
  | next =>
    obtain ⟨σ', H', I2, q⟩ := q
    exact ⟨σ', H', I2, h2 _ _ q⟩
  | brk => exact q
  | cont => exact q
  | ret u => exact q
end L2
namespace K6
open PySem L2 Kd
def top (i : Nat) : Stmt := PySem.Challenge.pw_keptshapes_k06_shapes_made_and_asked.main.body.getD i (.Pass ⟨0, 0, 0, 0⟩)
abbrev s_is_name : Stmt := top 10
abbrev N_is_name : List Str := ["value", "letter"]
theorem sc_is_name : FnScope N_is_name ["value"] (defScope s_is_name) := ⟨rfl, rfl, rfl, by decide +kernel, rfl, by decide +kernel, by decide +kernel⟩
abbrev s_are_names : Stmt := top 11
abbrev N_are_names : List Str := ["value", "most", "name"]
theorem sc_are_names : FnScope N_are_names ["value", "most"] (defScope s_are_names) := ⟨rfl, rfl, rfl, by decide +kernel, rfl, by decide +kernel, by decide +kernel⟩
abbrev s_Sheet_init : Stmt := inClass (top 12) 0
abbrev N_Sheet_init : List Str := ["self", "kinds", "words"]
theorem sc_Sheet_init : FnScope N_Sheet_init ["self", "kinds", "words"] (defScope s_Sheet_init) := ⟨rfl, rfl, rfl, by decide +kernel, rfl, by decide +kernel, by decide +kernel⟩
abbrev s_Sheet_kinds : Stmt := inClass (top 12) 1
abbrev N_Sheet_kinds : List Str := ["self"]
theorem sc_Sheet_kinds : FnScope N_Sheet_kinds ["self"] (defScope s_Sheet_kinds) := ⟨rfl, rfl, rfl, by decide +kernel, rfl, by decide +kernel, by decide +kernel⟩
abbrev s_Sheet_words : Stmt := inClass (top 12) 2
abbrev N_Sheet_words : List Str := ["self"]
theorem sc_Sheet_words : FnScope N_Sheet_words ["self"] (defScope s_Sheet_words) := ⟨rfl, rfl, rfl, by decide +kernel, rfl, by decide +kernel, by decide +kernel⟩
abbrev s_Sheet_eq : Stmt := inClass (top 12) 3
abbrev N_Sheet_eq : List Str := ["self", "other"]
theorem sc_Sheet_eq : FnScope N_Sheet_eq ["self", "other"] (defScope s_Sheet_eq) := ⟨rfl, rfl, rfl, by decide +kernel, rfl, by decide +kernel, by decide +kernel⟩
abbrev s_Sheet_str : Stmt := inClass (top 12) 4
abbrev N_Sheet_str : List Str := ["self"]
theorem sc_Sheet_str : FnScope N_Sheet_str ["self"] (defScope s_Sheet_str) := ⟨rfl, rfl, rfl, by decide +kernel, rfl, by decide +kernel, by decide +kernel⟩
abbrev s_require_sheet : Stmt := top 13
abbrev N_require_sheet : List Str := ["sheet"]
theorem sc_require_sheet : FnScope N_require_sheet ["sheet"] (defScope s_require_sheet) := ⟨rfl, rfl, rfl, by decide +kernel, rfl, by decide +kernel, by decide +kernel⟩
abbrev s_is_kind : Stmt := top 14
abbrev N_is_kind : List Str := ["sheet", "value"]
theorem sc_is_kind : FnScope N_is_kind ["sheet", "value"] (defScope s_is_kind) := ⟨rfl, rfl, rfl, by decide +kernel, rfl, by decide +kernel, by decide +kernel⟩
abbrev s_is_tie : Stmt := top 15
abbrev N_is_tie : List Str := ["sheet", "value"]
theorem sc_is_tie : FnScope N_is_tie ["sheet", "value"] (defScope s_is_tie) := ⟨rfl, rfl, rfl, by decide +kernel, rfl, by decide +kernel, by decide +kernel⟩
abbrev s_are_posts : Stmt := top 18
abbrev N_are_posts : List Str := ["sheet", "value", "kind", "name"]
theorem sc_are_posts : FnScope N_are_posts ["sheet", "value"] (defScope s_are_posts) := ⟨rfl, rfl, rfl, by decide +kernel, rfl, by decide +kernel, by decide +kernel⟩
abbrev s_is_triple_of : Stmt := top 19
abbrev N_is_triple_of : List Str := ["sheet", "names", "value"]
theorem sc_is_triple_of : FnScope N_is_triple_of ["sheet", "names", "value"] (defScope s_is_triple_of) := ⟨rfl, rfl, rfl, by decide +kernel, rfl, by decide +kernel, by decide +kernel⟩
abbrev s_are_triples : Stmt := top 20
abbrev N_are_triples : List Str := ["sheet", "names", "value", "triple"]
theorem sc_are_triples : FnScope N_are_triples ["sheet", "names", "value"] (defScope s_are_triples) := ⟨rfl, rfl, rfl, by decide +kernel, rfl, by decide +kernel, by decide +kernel⟩
abbrev s_Shape_init : Stmt := inClass (top 21) 0
abbrev N_Shape_init : List Str := ["self", "sheet", "posts", "there", "lacking", "name", "triple"]
theorem sc_Shape_init : FnScope N_Shape_init ["self", "sheet", "posts", "there", "lacking"] (defScope s_Shape_init) := ⟨rfl, rfl, rfl, by decide +kernel, rfl, by decide +kernel, by decide +kernel⟩
abbrev s_Shape_sheet : Stmt := inClass (top 21) 1
abbrev N_Shape_sheet : List Str := ["self"]
theorem sc_Shape_sheet : FnScope N_Shape_sheet ["self"] (defScope s_Shape_sheet) := ⟨rfl, rfl, rfl, by decide +kernel, rfl, by decide +kernel, by decide +kernel⟩
abbrev s_Shape_posts : Stmt := inClass (top 21) 2
abbrev N_Shape_posts : List Str := ["self"]
theorem sc_Shape_posts : FnScope N_Shape_posts ["self"] (defScope s_Shape_posts) := ⟨rfl, rfl, rfl, by decide +kernel, rfl, by decide +kernel, by decide +kernel⟩
abbrev s_Shape_there : Stmt := inClass (top 21) 3
abbrev N_Shape_there : List Str := ["self"]
theorem sc_Shape_there : FnScope N_Shape_there ["self"] (defScope s_Shape_there) := ⟨rfl, rfl, rfl, by decide +kernel, rfl, by decide +kernel, by decide +kernel⟩
abbrev s_Shape_lacking : Stmt := inClass (top 21) 4
abbrev N_Shape_lacking : List Str := ["self"]
theorem sc_Shape_lacking : FnScope N_Shape_lacking ["self"] (defScope s_Shape_lacking) := ⟨rfl, rfl, rfl, by decide +kernel, rfl, by decide +kernel, by decide +kernel⟩
abbrev s_Shape_names : Stmt := inClass (top 21) 5
abbrev N_Shape_names : List Str := ["self"]
theorem sc_Shape_names : FnScope N_Shape_names ["self"] (defScope s_Shape_names) := ⟨rfl, rfl, rfl, by decide +kernel, rfl, by decide +kernel, by decide +kernel⟩
abbrev s_Shape_is_sure : Stmt := inClass (top 21) 6
abbrev N_Shape_is_sure : List Str := ["self"]
theorem sc_Shape_is_sure : FnScope N_Shape_is_sure ["self"] (defScope s_Shape_is_sure) := ⟨rfl, rfl, rfl, by decide +kernel, rfl, by decide +kernel, by decide +kernel⟩
abbrev s_Shape_len : Stmt := inClass (top 21) 17
abbrev N_Shape_len : List Str := ["self"]
theorem sc_Shape_len : FnScope N_Shape_len ["self"] (defScope s_Shape_len) := ⟨rfl, rfl, rfl, by decide +kernel, rfl, by decide +kernel, by decide +kernel⟩
abbrev s_Shape_eq : Stmt := inClass (top 21) 18
abbrev N_Shape_eq : List Str := ["self", "other"]
theorem sc_Shape_eq : FnScope N_Shape_eq ["self", "other"] (defScope s_Shape_eq) := ⟨rfl, rfl, rfl, by decide +kernel, rfl, by decide +kernel, by decide +kernel⟩
abbrev s_Shape_str : Stmt := inClass (top 21) 19
abbrev N_Shape_str : List Str := ["self"]
theorem sc_Shape_str : FnScope N_Shape_str ["self"] (defScope s_Shape_str) := ⟨rfl, rfl, rfl, by decide +kernel, rfl, by decide +kernel, by decide +kernel⟩
abbrev s_is_sure_in : Stmt := top 22
abbrev N_is_sure_in : List Str := ["shape", "kind"]
theorem sc_is_sure_in : FnScope N_is_sure_in ["shape"] (defScope s_is_sure_in) := ⟨rfl, rfl, rfl, by decide +kernel, rfl, by decide +kernel, by decide +kernel⟩
abbrev s_law_dice : Stmt := top 24
abbrev N_law_dice : List Str := ["_law_script", "_law_at", "_law_cell", "_law_great", "_law_blend"]
theorem sc_law_dice : FnScope N_law_dice ["_law_script", "_law_at"] (defScope s_law_dice) := ⟨rfl, rfl, rfl, by decide +kernel, rfl, by decide +kernel, by decide +kernel⟩
abbrev s_law_roll : Stmt := top 25
abbrev N_law_roll : List Str := ["_law_dice_here", "_law_upto", "_law_one", "_law_two", "_law_found"]
theorem sc_law_roll : FnScope N_law_roll ["_law_dice_here", "_law_upto"] (defScope s_law_roll) := ⟨rfl, rfl, rfl, by decide +kernel, rfl, by decide +kernel, by decide +kernel⟩
abbrev s_law_pick : Stmt := top 26
abbrev N_law_pick : List Str := ["_law_dice_here", "_law_items"]
theorem sc_law_pick : FnScope N_law_pick ["_law_dice_here", "_law_items"] (defScope s_law_pick) := ⟨rfl, rfl, rfl, by decide +kernel, rfl, by decide +kernel, by decide +kernel⟩
abbrev s_law_mixed : Stmt := top 27
abbrev N_law_mixed : List Str := ["_law_dice_here", "_law_items", "_law_left", "_law_turn"]
theorem sc_law_mixed : FnScope N_law_mixed ["_law_dice_here", "_law_items"] (defScope s_law_mixed) := ⟨rfl, rfl, rfl, by decide +kernel, rfl, by decide +kernel, by decide +kernel⟩
abbrev s_law_labels : Stmt := top 28
abbrev N_law_labels : List Str := ["_law_dice_here", "_law_many", "_law_found", "_law_turn", "_law_name", "_law_at"]
theorem sc_law_labels : FnScope N_law_labels ["_law_dice_here", "_law_many"] (defScope s_law_labels) := ⟨rfl, rfl, rfl, by decide +kernel, rfl, by decide +kernel, by decide +kernel⟩
abbrev s_law_drawn : Stmt := top 29
abbrev N_law_drawn : List Str := ["_law_dice_here", "_law_kinds", "_law_words", "_law_posts", "_law_turn", "_law_names", "_law_some", "_law_others", "_law_triple", "_law_name"]
theorem sc_law_drawn : FnScope N_law_drawn ["_law_dice_here", "_law_kinds", "_law_words"] (defScope s_law_drawn) := ⟨rfl, rfl, rfl, by decide +kernel, rfl, by decide +kernel, by decide +kernel⟩
abbrev s_law_is : Stmt := top 30
abbrev N_law_is : List Str := ["_law_shape", "_law_sheet", "_law_posts", "_law_some", "_law_others", "_law_told", "_law_sure", "_law_text", "_law_value", "_law_due", "_law_name"]
theorem sc_law_is : FnScope N_law_is ["_law_shape", "_law_sheet", "_law_posts", "_law_some", "_law_others"] (defScope s_law_is) := ⟨rfl, rfl, rfl, by decide +kernel, rfl, by decide +kernel, by decide +kernel⟩
abbrev s_law_unlike : Stmt := top 31
abbrev N_law_unlike : List Str := ["_law_dice_here", "_law_kinds", "_law_words", "_law_plain", "_law_fresh", "_law_name", "_law_triple", "_law_posts", "_law_some", "_law_others", "_law_found", "_law_more", "_law_wide", "_law_kind", "_law_mine", "_law_less", "_law_other", "_law_one"]
theorem sc_law_unlike : FnScope N_law_unlike ["_law_dice_here", "_law_kinds", "_law_words", "_law_plain"] (defScope s_law_unlike) := ⟨rfl, rfl, rfl, by decide +kernel, rfl, by decide +kernel, by decide +kernel⟩
abbrev s_law_right : Stmt := top 32
abbrev N_law_right : List Str := ["_law_dice_here", "_law_kinds", "_law_words", "_law_passed", "_law_told", "_law_untold", "_law_given", "_law_other", "_law_half", "_law_sheet", "_law_plain", "_law_posts", "_law_some", "_law_others", "_law_shape", "_law_same", "_law_unlike_here", "_law_bare", "_law_fresh", "_law_value", "_law_word"]
theorem sc_law_right : FnScope N_law_right ["_law_dice_here"] (defScope s_law_right) := ⟨rfl, rfl, rfl, by decide +kernel, rfl, by decide +kernel, by decide +kernel⟩
abbrev s_law : Stmt := top 33
abbrev N_law : List Str := ["_law_script", "_law_at"]
theorem sc_law : FnScope N_law ["_law_script"] (defScope s_law) := ⟨rfl, rfl, rfl, by decide +kernel, rfl, by decide +kernel, by decide +kernel⟩
structure Ads where
  a_is_name : Addr
  d_is_name : FuncData
  a_are_names : Addr
  d_are_names : FuncData
  a_Sheet_init : Addr
  d_Sheet_init : FuncData
  a_Sheet_kinds : Addr
  d_Sheet_kinds : FuncData
  a_Sheet_words : Addr
  d_Sheet_words : FuncData
  a_Sheet_eq : Addr
  d_Sheet_eq : FuncData
  a_Sheet_str : Addr
  d_Sheet_str : FuncData
  a_require_sheet : Addr
  d_require_sheet : FuncData
  a_is_kind : Addr
  d_is_kind : FuncData
  a_is_tie : Addr
  d_is_tie : FuncData
  a_are_posts : Addr
  d_are_posts : FuncData
  a_is_triple_of : Addr
  d_is_triple_of : FuncData
  a_are_triples : Addr
  d_are_triples : FuncData
  a_Shape_init : Addr
  d_Shape_init : FuncData
  a_Shape_sheet : Addr
  d_Shape_sheet : FuncData
  a_Shape_posts : Addr
  d_Shape_posts : FuncData
  a_Shape_there : Addr
  d_Shape_there : FuncData
  a_Shape_lacking : Addr
  d_Shape_lacking : FuncData
  a_Shape_names : Addr
  d_Shape_names : FuncData
  a_Shape_is_sure : Addr
  d_Shape_is_sure : FuncData
  a_Shape_len : Addr
  d_Shape_len : FuncData
  a_Shape_eq : Addr
  d_Shape_eq : FuncData
  a_Shape_str : Addr
  d_Shape_str : FuncData
  a_is_sure_in : Addr
  d_is_sure_in : FuncData
  a_law_dice : Addr
  d_law_dice : FuncData
  a_law_roll : Addr
  d_law_roll : FuncData
  a_law_pick : Addr
  d_law_pick : FuncData
  a_law_mixed : Addr
  d_law_mixed : FuncData
  a_law_labels : Addr
  d_law_labels : FuncData
  a_law_drawn : Addr
  d_law_drawn : FuncData
  a_law_is : Addr
  d_law_is : FuncData
  a_law_unlike : Addr
  d_law_unlike : FuncData
  a_law_right : Addr
  d_law_right : FuncData
  a_law : Addr
  d_law : FuncData
  e_Shape_init_0 : Addr
  e_Shape_init_1 : Addr
  C_Sheet : Addr
  C_Shape : Addr
  C_ShapeError : Addr
  C_InvalidSheet : Addr
  C_InvalidShape : Addr
  p_Sheet_kinds : Addr
  p_Sheet_words : Addr
  p_Shape_sheet : Addr
  p_Shape_posts : Addr
  p_Shape_there : Addr
  p_Shape_lacking : Addr
  p_Shape_names : Addr
  p_Shape_is_sure : Addr
  c_MAX_KINDS : Value
  c_MAX_WORDS : Value
  c_MAX_LETTERS : Value
  c_LETTERS : Value
  c_MAX_NAMES : Value
structure Txt (K : PySem.W.Frag) (mg : Str → Option Value) (A : Ads) : Prop where
  F_is_name : Fun K "is_name" "is_name" s_is_name A.a_is_name A.d_is_name
  b_is_name : Binds K A.d_is_name ["value"] []
  g_is_name : mg "is_name" = some (.ref A.a_is_name)
  k_is_name : PySem.W.keepIn K (.ref A.a_is_name) = true
  F_are_names : Fun K "are_names" "are_names" s_are_names A.a_are_names A.d_are_names
  b_are_names : Binds K A.d_are_names ["value", "most"] []
  g_are_names : mg "are_names" = some (.ref A.a_are_names)
  k_are_names : PySem.W.keepIn K (.ref A.a_are_names) = true
  F_Sheet_init : Fun K "__init__" "Sheet.__init__" s_Sheet_init A.a_Sheet_init A.d_Sheet_init
  b_Sheet_init : Binds K A.d_Sheet_init ["self", "kinds", "words"] []
  F_Sheet_kinds : Fun K "kinds" "Sheet.kinds" s_Sheet_kinds A.a_Sheet_kinds A.d_Sheet_kinds
  b_Sheet_kinds : Binds K A.d_Sheet_kinds ["self"] []
  F_Sheet_words : Fun K "words" "Sheet.words" s_Sheet_words A.a_Sheet_words A.d_Sheet_words
  b_Sheet_words : Binds K A.d_Sheet_words ["self"] []
  F_Sheet_eq : Fun K "__eq__" "Sheet.__eq__" s_Sheet_eq A.a_Sheet_eq A.d_Sheet_eq
  b_Sheet_eq : Binds K A.d_Sheet_eq ["self", "other"] []
  F_Sheet_str : Fun K "__str__" "Sheet.__str__" s_Sheet_str A.a_Sheet_str A.d_Sheet_str
  b_Sheet_str : Binds K A.d_Sheet_str ["self"] []
  F_require_sheet : Fun K "require_sheet" "require_sheet" s_require_sheet A.a_require_sheet A.d_require_sheet
  b_require_sheet : Binds K A.d_require_sheet ["sheet"] []
  g_require_sheet : mg "require_sheet" = some (.ref A.a_require_sheet)
  k_require_sheet : PySem.W.keepIn K (.ref A.a_require_sheet) = true
  F_is_kind : Fun K "is_kind" "is_kind" s_is_kind A.a_is_kind A.d_is_kind
  b_is_kind : Binds K A.d_is_kind ["sheet", "value"] []
  g_is_kind : mg "is_kind" = some (.ref A.a_is_kind)
  k_is_kind : PySem.W.keepIn K (.ref A.a_is_kind) = true
  F_is_tie : Fun K "is_tie" "is_tie" s_is_tie A.a_is_tie A.d_is_tie
  b_is_tie : Binds K A.d_is_tie ["sheet", "value"] []
  g_is_tie : mg "is_tie" = some (.ref A.a_is_tie)
  k_is_tie : PySem.W.keepIn K (.ref A.a_is_tie) = true
  F_are_posts : Fun K "are_posts" "are_posts" s_are_posts A.a_are_posts A.d_are_posts
  b_are_posts : Binds K A.d_are_posts ["sheet", "value"] []
  g_are_posts : mg "are_posts" = some (.ref A.a_are_posts)
  k_are_posts : PySem.W.keepIn K (.ref A.a_are_posts) = true
  F_is_triple_of : Fun K "is_triple_of" "is_triple_of" s_is_triple_of A.a_is_triple_of A.d_is_triple_of
  b_is_triple_of : Binds K A.d_is_triple_of ["sheet", "names", "value"] []
  g_is_triple_of : mg "is_triple_of" = some (.ref A.a_is_triple_of)
  k_is_triple_of : PySem.W.keepIn K (.ref A.a_is_triple_of) = true
  F_are_triples : Fun K "are_triples" "are_triples" s_are_triples A.a_are_triples A.d_are_triples
  b_are_triples : Binds K A.d_are_triples ["sheet", "names", "value"] []
  g_are_triples : mg "are_triples" = some (.ref A.a_are_triples)
  k_are_triples : PySem.W.keepIn K (.ref A.a_are_triples) = true
  F_Shape_init : FunD K "__init__" "Shape.__init__" (defArgs s_Shape_init) (defBody s_Shape_init) (defScope s_Shape_init) [.ref A.e_Shape_init_0, .ref A.e_Shape_init_1] [] A.a_Shape_init A.d_Shape_init
  b_Shape_init_1 : Binds K A.d_Shape_init ["self", "sheet", "posts", "there", "lacking"] [.ref A.e_Shape_init_1]
  b_Shape_init_2 : Binds K A.d_Shape_init ["self", "sheet", "posts", "there", "lacking"] [.ref A.e_Shape_init_0, .ref A.e_Shape_init_1]
  q_Shape_init_0 : ∀ H : Hp, SqT K H A.e_Shape_init_0 []
  q_Shape_init_1 : ∀ H : Hp, SqT K H A.e_Shape_init_1 []
  b_Shape_init : Binds K A.d_Shape_init ["self", "sheet", "posts", "there", "lacking"] []
  F_Shape_sheet : Fun K "sheet" "Shape.sheet" s_Shape_sheet A.a_Shape_sheet A.d_Shape_sheet
  b_Shape_sheet : Binds K A.d_Shape_sheet ["self"] []
  F_Shape_posts : Fun K "posts" "Shape.posts" s_Shape_posts A.a_Shape_posts A.d_Shape_posts
  b_Shape_posts : Binds K A.d_Shape_posts ["self"] []
  F_Shape_there : Fun K "there" "Shape.there" s_Shape_there A.a_Shape_there A.d_Shape_there
  b_Shape_there : Binds K A.d_Shape_there ["self"] []
  F_Shape_lacking : Fun K "lacking" "Shape.lacking" s_Shape_lacking A.a_Shape_lacking A.d_Shape_lacking
  b_Shape_lacking : Binds K A.d_Shape_lacking ["self"] []
  F_Shape_names : Fun K "names" "Shape.names" s_Shape_names A.a_Shape_names A.d_Shape_names
  b_Shape_names : Binds K A.d_Shape_names ["self"] []
  F_Shape_is_sure : Fun K "is_sure" "Shape.is_sure" s_Shape_is_sure A.a_Shape_is_sure A.d_Shape_is_sure
  b_Shape_is_sure : Binds K A.d_Shape_is_sure ["self"] []
  F_Shape_len : Fun K "__len__" "Shape.__len__" s_Shape_len A.a_Shape_len A.d_Shape_len
  b_Shape_len : Binds K A.d_Shape_len ["self"] []
  F_Shape_eq : Fun K "__eq__" "Shape.__eq__" s_Shape_eq A.a_Shape_eq A.d_Shape_eq
  b_Shape_eq : Binds K A.d_Shape_eq ["self", "other"] []
  F_Shape_str : Fun K "__str__" "Shape.__str__" s_Shape_str A.a_Shape_str A.d_Shape_str
  b_Shape_str : Binds K A.d_Shape_str ["self"] []
  F_is_sure_in : Fun K "is_sure_in" "is_sure_in" s_is_sure_in A.a_is_sure_in A.d_is_sure_in
  b_is_sure_in : Binds K A.d_is_sure_in ["shape"] []
  g_is_sure_in : mg "is_sure_in" = some (.ref A.a_is_sure_in)
  k_is_sure_in : PySem.W.keepIn K (.ref A.a_is_sure_in) = true
  F_law_dice : Fun K "_law_dice" "_law_dice" s_law_dice A.a_law_dice A.d_law_dice
  b_law_dice : Binds K A.d_law_dice ["_law_script", "_law_at"] []
  g_law_dice : mg "_law_dice" = some (.ref A.a_law_dice)
  k_law_dice : PySem.W.keepIn K (.ref A.a_law_dice) = true
  F_law_roll : Fun K "_law_roll" "_law_roll" s_law_roll A.a_law_roll A.d_law_roll
  b_law_roll : Binds K A.d_law_roll ["_law_dice_here", "_law_upto"] []
  g_law_roll : mg "_law_roll" = some (.ref A.a_law_roll)
  k_law_roll : PySem.W.keepIn K (.ref A.a_law_roll) = true
  F_law_pick : Fun K "_law_pick" "_law_pick" s_law_pick A.a_law_pick A.d_law_pick
  b_law_pick : Binds K A.d_law_pick ["_law_dice_here", "_law_items"] []
  g_law_pick : mg "_law_pick" = some (.ref A.a_law_pick)
  k_law_pick : PySem.W.keepIn K (.ref A.a_law_pick) = true
  F_law_mixed : Fun K "_law_mixed" "_law_mixed" s_law_mixed A.a_law_mixed A.d_law_mixed
  b_law_mixed : Binds K A.d_law_mixed ["_law_dice_here", "_law_items"] []
  g_law_mixed : mg "_law_mixed" = some (.ref A.a_law_mixed)
  k_law_mixed : PySem.W.keepIn K (.ref A.a_law_mixed) = true
  F_law_labels : Fun K "_law_labels" "_law_labels" s_law_labels A.a_law_labels A.d_law_labels
  b_law_labels : Binds K A.d_law_labels ["_law_dice_here", "_law_many"] []
  g_law_labels : mg "_law_labels" = some (.ref A.a_law_labels)
  k_law_labels : PySem.W.keepIn K (.ref A.a_law_labels) = true
  F_law_drawn : Fun K "_law_drawn" "_law_drawn" s_law_drawn A.a_law_drawn A.d_law_drawn
  b_law_drawn : Binds K A.d_law_drawn ["_law_dice_here", "_law_kinds", "_law_words"] []
  g_law_drawn : mg "_law_drawn" = some (.ref A.a_law_drawn)
  k_law_drawn : PySem.W.keepIn K (.ref A.a_law_drawn) = true
  F_law_is : Fun K "_law_is" "_law_is" s_law_is A.a_law_is A.d_law_is
  b_law_is : Binds K A.d_law_is ["_law_shape", "_law_sheet", "_law_posts", "_law_some", "_law_others"] []
  g_law_is : mg "_law_is" = some (.ref A.a_law_is)
  k_law_is : PySem.W.keepIn K (.ref A.a_law_is) = true
  F_law_unlike : Fun K "_law_unlike" "_law_unlike" s_law_unlike A.a_law_unlike A.d_law_unlike
  b_law_unlike : Binds K A.d_law_unlike ["_law_dice_here", "_law_kinds", "_law_words", "_law_plain"] []
  g_law_unlike : mg "_law_unlike" = some (.ref A.a_law_unlike)
  k_law_unlike : PySem.W.keepIn K (.ref A.a_law_unlike) = true
  F_law_right : Fun K "_law_right" "_law_right" s_law_right A.a_law_right A.d_law_right
  b_law_right : Binds K A.d_law_right ["_law_dice_here"] []
  g_law_right : mg "_law_right" = some (.ref A.a_law_right)
  k_law_right : PySem.W.keepIn K (.ref A.a_law_right) = true
  F_law : Fun K "law" "law" s_law A.a_law A.d_law
  b_law : Binds K A.d_law ["_law_script"] []
  g_law : mg "law" = some (.ref A.a_law)
  k_law : PySem.W.keepIn K (.ref A.a_law) = true
  g_Sheet : mg "Sheet" = some (.ref A.C_Sheet)
  cl_Sheet : Cls K A.C_Sheet
  I_Sheet : Kd.InsT K A.C_Sheet
  M_Sheet : Mk K A.C_Sheet A.a_Sheet_init
  n_Sheet_own_kinds : NoAttr K A.C_Sheet "own_kinds"
  n_Sheet_own_words : NoAttr K A.C_Sheet "own_words"
  P_Sheet_kinds : PropOf K A.C_Sheet "kinds" A.p_Sheet_kinds A.a_Sheet_kinds
  P_Sheet_words : PropOf K A.C_Sheet "words" A.p_Sheet_words A.a_Sheet_words
  m_Sheet_init : Meth K A.C_Sheet "__init__" A.a_Sheet_init
  m_Sheet_eq : Meth K A.C_Sheet "__eq__" A.a_Sheet_eq
  m_Sheet_str : Meth K A.C_Sheet "__str__" A.a_Sheet_str
  g_Shape : mg "Shape" = some (.ref A.C_Shape)
  cl_Shape : Cls K A.C_Shape
  I_Shape : Kd.InsT K A.C_Shape
  M_Shape : Mk K A.C_Shape A.a_Shape_init
  n_Shape_own_sheet : NoAttr K A.C_Shape "own_sheet"
  n_Shape_own_posts : NoAttr K A.C_Shape "own_posts"
  n_Shape_own_there : NoAttr K A.C_Shape "own_there"
  n_Shape_own_lacking : NoAttr K A.C_Shape "own_lacking"
  P_Shape_sheet : PropOf K A.C_Shape "sheet" A.p_Shape_sheet A.a_Shape_sheet
  P_Shape_posts : PropOf K A.C_Shape "posts" A.p_Shape_posts A.a_Shape_posts
  P_Shape_there : PropOf K A.C_Shape "there" A.p_Shape_there A.a_Shape_there
  P_Shape_lacking : PropOf K A.C_Shape "lacking" A.p_Shape_lacking A.a_Shape_lacking
  P_Shape_names : PropOf K A.C_Shape "names" A.p_Shape_names A.a_Shape_names
  P_Shape_is_sure : PropOf K A.C_Shape "is_sure" A.p_Shape_is_sure A.a_Shape_is_sure
  m_Shape_init : Meth K A.C_Shape "__init__" A.a_Shape_init
  m_Shape_len : Meth K A.C_Shape "__len__" A.a_Shape_len
  m_Shape_eq : Meth K A.C_Shape "__eq__" A.a_Shape_eq
  m_Shape_str : Meth K A.C_Shape "__str__" A.a_Shape_str
  g_ShapeError : mg "ShapeError" = some (.ref A.C_ShapeError)
  x_ShapeError : PySem.W.excIn K A.C_ShapeError [.type "ValueError", .type "Exception", .type "BaseException", .type "object"] "ValueError.__new__" = true
  k_ShapeError : PySem.W.keepIn K (.ref A.C_ShapeError) = true
  s_ShapeError : PySem.W.subIn K (.ref A.C_ShapeError) (.type "BaseException") = some true
  t_ShapeError : PySem.W.typeIn K (.ref A.C_ShapeError) = some (.type "type")
  e_ShapeError : PySem.W.exmOne K (.ref A.C_ShapeError) (.ref A.C_ShapeError) = some true
  g_InvalidSheet : mg "InvalidSheet" = some (.ref A.C_InvalidSheet)
  x_InvalidSheet : PySem.W.excIn K A.C_InvalidSheet [.type "ValueError", .type "Exception", .type "BaseException", .type "object"] "ValueError.__new__" = true
  k_InvalidSheet : PySem.W.keepIn K (.ref A.C_InvalidSheet) = true
  s_InvalidSheet : PySem.W.subIn K (.ref A.C_InvalidSheet) (.type "BaseException") = some true
  t_InvalidSheet : PySem.W.typeIn K (.ref A.C_InvalidSheet) = some (.type "type")
  e_InvalidSheet : PySem.W.exmOne K (.ref A.C_InvalidSheet) (.ref A.C_InvalidSheet) = some true
  g_InvalidShape : mg "InvalidShape" = some (.ref A.C_InvalidShape)
  x_InvalidShape : PySem.W.excIn K A.C_InvalidShape [.type "ValueError", .type "Exception", .type "BaseException", .type "object"] "ValueError.__new__" = true
  k_InvalidShape : PySem.W.keepIn K (.ref A.C_InvalidShape) = true
  s_InvalidShape : PySem.W.subIn K (.ref A.C_InvalidShape) (.type "BaseException") = some true
  t_InvalidShape : PySem.W.typeIn K (.ref A.C_InvalidShape) = some (.type "type")
  e_InvalidShape : PySem.W.exmOne K (.ref A.C_InvalidShape) (.ref A.C_InvalidShape) = some true
  c_MAX_KINDS : mg "MAX_KINDS" = some A.c_MAX_KINDS
  r_MAX_KINDS : RelV (.int 3) A.c_MAX_KINDS
  c_MAX_WORDS : mg "MAX_WORDS" = some A.c_MAX_WORDS
  r_MAX_WORDS : RelV (.int 2) A.c_MAX_WORDS
  c_MAX_LETTERS : mg "MAX_LETTERS" = some A.c_MAX_LETTERS
  r_MAX_LETTERS : RelV (.int 8) A.c_MAX_LETTERS
  c_LETTERS : mg "LETTERS" = some A.c_LETTERS
  r_LETTERS : RelV (.str "abcdefghijklmnopqrstuvwxyz") A.c_LETTERS
  c_MAX_NAMES : mg "MAX_NAMES" = some A.c_MAX_NAMES
  r_MAX_NAMES : RelV (.int 12) A.c_MAX_NAMES
  n_abs : mg "abs" = none
  n_all : mg "all" = none
  n_any : mg "any" = none
  n_dict : mg "dict" = none
  n_int : mg "int" = none
  n_isinstance : mg "isinstance" = none
  n_len : mg "len" = none
  n_list : mg "list" = none
  n_max : mg "max" = none
  n_min : mg "min" = none
  n_property : mg "property" = none
  n_range : mg "range" = none
  n_repr : mg "repr" = none
  n_sorted : mg "sorted" = none
  n_str : mg "str" = none
  n_tuple : mg "tuple" = none
  ss_no : PySem.W.subIn K (.ref A.C_Sheet) (.ref A.C_Shape) = some false
  ss_ne : (Value.ref A.C_Sheet == Value.ref A.C_Shape) = false
end K6
namespace K6
open PySem L2 Kd Evl
abbrev LET : List Nat := ("abcdefghijklmnopqrstuvwxyz" : Str).cps.toList
def isName (z : Str) : Bool := (decide (1 ≤ (z.length : Int)) && decide ((z.length : Int) ≤ 8)) && z.cps.toList.all fun c => decide (c ∈ LET)
def isNameD : PyData → Bool
  | .str z => isName z
  | _ => false
def shortD (d : PyData) : Prop := ∀ z, d = .str z → z.length ≤ 1000 ∧ PyData.strOk z = true
def spIsName (K : PySem.W.Frag) : Sp := fun vs H Q _ => ∃ (v : V) (d : PyData), vs = [v] ∧ Dv K H v d ∧ shortD d ∧ ∀ H', Ex H H' → Q (.bl (isNameD d)) H'
theorem dv_str {K : PySem.W.Frag} {H : Hp} {v : V} {d : PyData} (h : Dv K H v d) (e : tyN d = "str") : ∃ z, v = .str z ∧ d = .str z := by
  cases d with
  | str z =>
    rcases h with h | ⟨_, _, _, _, h⟩
    · cases h; exact ⟨z, rfl, rfl⟩
    · cases h
  | none => exact absurd (show "NoneType" = "str" from e) (by decide)
  | bool _ => exact absurd (show "bool" = "str" from e) (by decide)
  | int _ => exact absurd (show "int" = "str" from e) (by decide)
  | list _ => exact absurd (show "list" = "str" from e) (by decide)
  | tuple _ => exact absurd (show "tuple" = "str" from e) (by decide)
  | dict _ => exact absurd (show "dict" = "str" from e) (by decide)
theorem isNameD_no {d : PyData} (e : ¬ tyN d = "str") : isNameD d = false := by
  cases d <;> first | rfl | exact absurd rfl e
theorem len_line {n : Nat} (h : n ≤ 1000) : n ≤ sizeLine := Nat.le_trans h (by decide)
theorem len_lt {n : Nat} (h : n ≤ 1000) : n < sizeLine := Nat.lt_of_le_of_lt h (by decide)
theorem hu64 {k : Nat} {A : Around} (r : Room k A) : A.units + 64 < cLine := by have := r.un; omega
section
variable {P : Program} {w : World} {K : PySem.W.Frag} {mg : Str → Option Value} {base : Heap} {AA : Ads}
def signs (z : Str) : List V := z.cps.toList.map fun c => .str ⟨#[c]⟩
def signIn (L : List Nat) : V → V
  | .str x => .bl (x.cps.toList.any fun c => decide (c ∈ L))
  | _ => .non
theorem signs_mem {z : Str} {x : V} (h : x ∈ signs z) : ∃ c, x = .str ⟨#[c]⟩ := by
  obtain ⟨c, _, e⟩ := List.mem_map.mp h
  exact ⟨c, e.symm⟩
theorem signs_at (z : Str) : ∀ (k : Nat) (H : Hp) (x : V) (H' : Hp), (H' = H ∧ ∃ c, z.cps[k]? = some c ∧ x = .str ⟨#[c]⟩) → H' = H ∧ (signs z)[k]? = some x := fun k H x H' ⟨e, c, h1, h2⟩ => ⟨e, by
  unfold signs
  rw [List.getElem?_map, Array.getElem?_toList, h1, h2]
  rfl⟩
theorem signIn_one (L : List Nat) (c : Nat) : signIn L (.str ⟨#[c]⟩) = .bl (decide (c ∈ L)) := by
  show V.bl ([c].any _) = _
  simp
theorem signs_bl {z : Str} {L : List Nat} : some (HO.lst (((signs z).filter fun _ => true).map (signIn L))) = some (HO.lst ((z.cps.toList.map fun c => decide (c ∈ L)).map V.bl)) := by
  rw [List.filter_eq_self.mpr (fun _ _ => rfl)]
  unfold signs
  rw [List.map_map, List.map_map]
  congr 2
  exact List.map_congr_left fun c _ => signIn_one L c
theorem ev_true {σ : L2.St} {H : Hp} : EvT tYes σ H true := fun H1 _ Q q => q H1 (Ex.refl H1)
theorem ok_is_name (T : Txt K mg AA) : FnOk P w K mg base CX0 1 AA.a_is_name AA.d_is_name ["value"] (spIsName K) := by
  refine T.F_is_name.ok sc_is_name (fun vs H Q E h => ?_) (fun cdv A outer s H vs Q E hr h => ?_)
  · obtain ⟨v, d, rfl, _⟩ := h
    rfl
  · obtain ⟨v, d, rfl, hv, hs, k⟩ := h
    have r1 := T.r_MAX_LETTERS
    have r2 := T.r_LETTERS
    refine ⟨_, (pss_cons (ps_if (pw_or (pt_not (pt_val (pe_callB call_isi (by rfl) T.n_isinstance (by decide +kernel) (pa_cons (pv 0) (pa_cons (pe_bltn (v := .ty "str") (u := .type "str") (by rfl) T.n_str (by decide +kernel) rfl) pa_nil))))) (pw_or1 (pt_not (pt_chain op_le op_le pe_int (pe_callB call_len_str (by rfl) T.n_len (by decide +kernel) (pa_cons (pv 0) pa_nil)) (pe_glob (by rfl) T.c_MAX_LETTERS T.r_MAX_LETTERS))))).pt (pss_one (ps_ret pe_bl)) pss_nil)
    (pss_one (ps_ret (pe_callB (cr_all rfl) (by rfl) T.n_all (by decide +kernel) (pa_cons (pe_lc (own := [("letter", 1)]) (g := gName 1) rfl sc_is_name.nd (pi_str (pv 0)) (blkOk_by (N := N_is_name) (sc := defScope s_is_name) (by decide +kernel)) (fun _ _ _ _ _ => (pg_name (i := 1) sc_is_name.nd rfl (Or.inl rfl))) (fun _ _ _ _ _ => pts_nil) (fun _ _ _ _ _ => by exact (pe_cmpR op_in_sign (pv 1) (pe_glob (by rfl) T.c_LETTERS T.r_LETTERS) rfl))) pa_nil))))), ?_⟩
    refine ⟨_, rfl, _, _, _, _, _, rfl, .ty "str", tyX_of hv, isi_kit "str" _ (kit_str d), _, rfl, ?_⟩
    by_cases c : tyN d = "str"
    · refine if_f (by rw [decide_eq_true c]; rfl) ?_
      obtain ⟨z, rfl, rfl⟩ := dv_str hv c
      obtain ⟨hz, hok⟩ := hs z rfl
      refine ⟨_, rfl, z, rfl, len_line hz, _, _, rfl, rfl, _, rfl, ?_⟩
      by_cases c1 : (1 : Int) ≤ (z.length : Int)
      · refine if_t (decide_eq_true c1) ⟨_, _, rfl, rfl, _, rfl, ?_⟩
        by_cases c2 : (z.length : Int) ≤ 8
        · refine if_f (by rw [decide_eq_true c2]; rfl) ?_
          refine ⟨_, rfl, z, rfl, fun D hD => lcS walk_str hD (signs z) (by simp [signs]) (len_lt hz) (fun _ => true) (signIn LET) (fun _ _ => True.intro) (signs_at z) (fun v => rfl) (fun x H _ _ => ev_true) ?_ ?_⟩
          · intro x H1 hx _ _
            obtain ⟨c, rfl⟩ := signs_mem hx
            exact ev_op (ev_var rfl) ev_c (rv_val fun H1 _ Q q => ⟨c, _, rfl, rfl, by rw [signIn_one] at q; exact q⟩)
          · intro H1 e h1
            refine ⟨D, (z.cps.toList.map fun c => decide (c ∈ LET)), rfl, SqL.of (by rw [h1, signs_bl]), ?_⟩
            have q := k H1 e
            have e1 : isNameD (.str z) = (z.cps.toList.map fun c => decide (c ∈ LET)).all id := by
              show ((decide _ && decide _) && _) = _
              rw [decide_eq_true c1, decide_eq_true c2, List.all_map]
              rfl
            rw [e1] at q
            exact q
        · refine if_t (by rw [decide_eq_false c2]; rfl) ?_
          have q := k H (Ex.refl H)
          have e1 : isNameD (.str z) = false := by
            show ((decide _ && decide _) && _) = _
            rw [decide_eq_false c2]
            simp
          rw [e1] at q
          exact q
      · refine if_f (decide_eq_false c1) ⟨_, rfl, if_t rfl ?_⟩
        have q := k H (Ex.refl H)
        have e1 : isNameD (.str z) = false := by
          show ((decide _ && decide _) && _) = _
          rw [decide_eq_false c1]
          simp
        rw [e1] at q
        exact q
    · refine if_t (by rw [decide_eq_false c]; rfl) ?_
      have q := k H (Ex.refl H)
      rw [isNameD_no c] at q
      exact if_t rfl q
theorem ok_one {z : Str} {c : Nat} (h : PyData.strOk z = true) (hc : c ∈ z.cps.toList) : PyData.strOk ⟨#[c]⟩ = true := by
  have h1 : ∀ x ∈ z.cps, decide (x < 0x110000) = true := by
    unfold PyData.strOk at h
    rw [Array.all_eq_true'] at h
    exact h
  have h2 := h1 c (by simpa using hc)
  unfold PyData.strOk
  simpa using h2
theorem canLay_strs : ∀ (zs : List Str), (∀ z ∈ zs, PyData.strOk z = true) → PyData.canLayAll0 (zs.map PyData.str) = true
  | [], _ => rfl
  | z :: zs, h => by
    show (PyData.canLay0 (.str z) && PyData.canLayAll0 (zs.map PyData.str)) = true
    rw [canLay_strs zs fun y hy => h y (List.mem_cons_of_mem _ hy)]
    have h1 := h z List.mem_cons_self
    show (PyData.strOk z && true) = true
    rw [h1]
    rfl
theorem depth_strs : ∀ (zs : List Str), PyData.depthAll (zs.map PyData.str) = 0
  | [] => rfl
  | z :: zs => by
    show max 0 (PyData.depthAll (zs.map PyData.str)) = 0
    rw [depth_strs zs]
    rfl
theorem shaped_ls {zs : List Str} (h : ∀ z ∈ zs, PyData.strOk z = true) : SeqAt.shaped (.list (zs.map PyData.str)) = true := by
  show (PyData.canLayAll0 _ && decide (PyData.depthAll _ + 1 ≤ 64)) = true
  rw [canLay_strs zs h, depth_strs]
  rfl
theorem shaped_ts {zs : List Str} (h : ∀ z ∈ zs, PyData.strOk z = true) : SeqAt.shaped (.tuple (zs.map PyData.str)) = true := by
  show (PyData.canLayAll0 _ && decide (PyData.depthAll _ + 1 ≤ 64)) = true
  rw [canLay_strs zs h, depth_strs]
  rfl
theorem eqv_nil (ds : List PyData) : PyData.eqv (.list ds) (.list []) = ds.isEmpty := by
  cases ds <;> simp [PyData.eqv, PyData.eqvAll]
def signOut (L : List Nat) : V → Bool
  | .str x => !(x.cps.toList.any fun c => decide (c ∈ L))
  | _ => true
theorem signOut_one (L : List Nat) (c : Nat) : signOut L (.str ⟨#[c]⟩) = !decide (c ∈ L) := by
  show (!([c].any _)) = _
  simp
theorem outs_eq (L : List Nat) : ∀ (cs : List Nat), ((cs.map fun c => V.str ⟨#[c]⟩).filter (signOut L)).map id = ((cs.filter fun c => !decide (c ∈ L)).map fun c => (⟨#[c]⟩ : Str)).map V.str
  | [] => rfl
  | c :: cs => by
    have ih := outs_eq L cs
    rw [List.map_id] at ih ⊢
    rw [List.map_cons, List.filter_cons, List.filter_cons, signOut_one]
    cases hc : !decide (c ∈ L) with
    | true => rw [if_pos rfl, if_pos rfl, ih]; rfl
    | false => rw [if_neg Bool.false_ne_true, if_neg Bool.false_ne_true, ih]
theorem outs_all (L : List Nat) : ∀ (cs : List Nat), (((cs.filter fun c => !decide (c ∈ L)).map fun c => (⟨#[c]⟩ : Str)).map PyData.str).isEmpty = cs.all fun c => decide (c ∈ L)
  | [] => rfl
  | c :: cs => by
    have ih := outs_all L cs
    rw [List.filter_cons, List.all_cons]
    cases hc : decide (c ∈ L) with
    | true =>
      rw [if_neg (by simp), ih]
      rfl
    | false =>
      rw [if_pos (by simp)]
      rfl
end
end K6
namespace K6
open PySem L2 Kd Evl Ks
/-- the names of a tuple, if it is one of texts alone -/
def strsOf : List PyData → List Str
  | .str z :: r => z :: strsOf r
  | _ :: r => strsOf r
  | [] => []
def areNamesD : PyData → Int → Bool
  | .tuple ds, m => ((decide (1 ≤ (ds.length : Int)) && decide ((ds.length : Int) ≤ m)) && ds.all isNameD) && decide ((uniq ((strsOf ds).map fun z => (Sum.inr z : Key))).length = ds.length)
  | _, _ => false
def fewD (d : PyData) : Prop := ∀ ds, d = .tuple ds → ds.length ≤ 1000 ∧ ∀ e ∈ ds, shortD e
def spAre (K : PySem.W.Frag) : Sp := fun vs H Q _ => ∃ (v : V) (d : PyData) (m : Int), vs = [v, .int m] ∧ Dv K H v d ∧ fewD d ∧ ∀ H', Ex H H' → Q (.bl (areNamesD d m)) H'
theorem dv_tuple {K : PySem.W.Frag} {H : Hp} {v : V} {d : PyData} (h : Dv K H v d) (e : tyN d = "tuple") : ∃ a xs ds, v = .ref a ∧ d = .tuple ds ∧ SqT K H a xs ∧ DpAll K H xs ds := by
  cases d with
  | tuple ds =>
    rcases h with h | ⟨_, _, _, _, h⟩
    · cases h with | tup hs ha => exact ⟨_, _, ds, rfl, rfl, hs, ha⟩
    · cases h
  | none => exact absurd (show "NoneType" = "tuple" from e) (by decide)
  | bool _ => exact absurd (show "bool" = "tuple" from e) (by decide)
  | int _ => exact absurd (show "int" = "tuple" from e) (by decide)
  | list _ => exact absurd (show "list" = "tuple" from e) (by decide)
  | str _ => exact absurd (show "str" = "tuple" from e) (by decide)
  | dict _ => exact absurd (show "dict" = "tuple" from e) (by decide)
theorem areNamesD_no {d : PyData} (e : ¬ tyN d = "tuple") (m : Int) : areNamesD d m = false := by
  cases d <;> first | rfl | exact absurd rfl e
theorem dpAll_len {K : PySem.W.Frag} {H : Hp} : ∀ {xs : List V} {ds : List PyData}, DpAll K H xs ds → xs.length = ds.length
  | [], _, h => by cases h; rfl
  | x :: xs, _, h => by cases h with | cons _ h2 => exact congrArg Nat.succ (dpAll_len h2)
theorem dpAll_get {K : PySem.W.Frag} {H : Hp} : ∀ {xs : List V} {ds : List PyData} {i : Nat} {x : V}, DpAll K H xs ds → xs[i]? = some x → ∃ d, ds[i]? = some d ∧ Dp K H x d
  | [], _, i, x, _, e => by simp at e
  | y :: xs, _, 0, x, h, e => by
    cases h with
    | cons h1 _ =>
      obtain rfl : y = x := Option.some.inj e
      exact ⟨_, rfl, h1⟩
  | y :: xs, _, i + 1, x, h, e => by
    cases h with
    | cons _ h2 => exact dpAll_get (i := i) h2 e
theorem all_strs : ∀ {ds : List PyData}, ds.all isNameD = true → ds = (strsOf ds).map PyData.str
  | [], _ => rfl
  | .str z :: r, h => by
    have h1 := (Bool.and_eq_true_iff.mp (by rw [List.all_cons] at h; exact h)).2
    show _ = PyData.str z :: _
    rw [← all_strs h1]
  | .none :: r, h => by rw [List.all_cons] at h; exact absurd (Bool.and_eq_true_iff.mp h).1 Bool.false_ne_true
  | .bool _ :: r, h => by rw [List.all_cons] at h; exact absurd (Bool.and_eq_true_iff.mp h).1 Bool.false_ne_true
  | .int _ :: r, h => by rw [List.all_cons] at h; exact absurd (Bool.and_eq_true_iff.mp h).1 Bool.false_ne_true
  | .list _ :: r, h => by rw [List.all_cons] at h; exact absurd (Bool.and_eq_true_iff.mp h).1 Bool.false_ne_true
  | .tuple _ :: r, h => by rw [List.all_cons] at h; exact absurd (Bool.and_eq_true_iff.mp h).1 Bool.false_ne_true
  | .dict _ :: r, h => by rw [List.all_cons] at h; exact absurd (Bool.and_eq_true_iff.mp h).1 Bool.false_ne_true
theorem dpAll_vals {K : PySem.W.Frag} {H : Hp} : ∀ {zs : List Str} {xs : List V}, DpAll K H xs (zs.map PyData.str) → xs = zs.map V.str
  | [], _, h => by cases h; rfl
  | z :: zs, _, h => by
    cases h with
    | cons h1 h2 =>
      cases h1
      rw [dpAll_vals h2]
      rfl
section
variable {P : Program} {w : World} {K : PySem.W.Frag} {mg : Str → Option Value} {base : Heap} {AA : Ads}
theorem ok_are_names (T : Txt K mg AA) : FnOk P w K mg base CX0 2 AA.a_are_names AA.d_are_names ["value", "most"] (spAre K) := by
  have G_is_name : FnOk P w K mg base CX0 1 AA.a_is_name AA.d_is_name ["value"] (spIsName K) := ok_is_name T
  refine T.F_are_names.ok sc_are_names (fun vs H Q E h => ?_) (fun cdv A outer s H vs Q E hr h => ?_)
  · obtain ⟨v, d, m, rfl, _⟩ := h
    rfl
  · obtain ⟨v, d, m, rfl, hv, hs, k⟩ := h
    refine ⟨_, (pss_cons (ps_if (pw_or (pt_not (pt_val (pe_callB call_isi (by rfl) T.n_isinstance (by decide +kernel) (pa_cons (pv 0) (pa_cons (pe_bltn (v := .ty "tuple") (u := .type "tuple") (by rfl) T.n_tuple (by decide +kernel) rfl) pa_nil))))) (pw_or (pt_not (pt_chain op_le op_le pe_int (pe_callB call_len_seq (by rfl) T.n_len (by decide +kernel) (pa_cons (pv 0) pa_nil)) (pv 1))) (pw_or1 (pt_not (pt_val (pe_callB (cr_all rfl) (by rfl) T.n_all (by decide +kernel) (pa_cons (pe_lc (own := [("name", 2)]) (g := gName 2) rfl sc_are_names.nd (pi_tup (pv 0)) (blkOk_by (N := N_are_names) (sc := defScope s_are_names) (by decide +kernel)) (fun _ _ _ _ _ => (pg_name (i := 2) sc_are_names.nd rfl (Or.inl rfl))) (fun _ _ _ _ _ => pts_nil) (fun _ _ _ _ _ => by exact (pe_call G_is_name (hr.mono (by decide)) (by rfl) T.g_is_name T.k_is_name T.b_is_name .nil pass0 (pa_cons (pv 2) pa_nil)))) pa_nil))))))).pt (pss_one (ps_ret pe_bl)) pss_nil)
    (pss_one (ps_ret (pe_cmpR op_eq (pe_callB call_lenD (by rfl) T.n_len (by decide +kernel) (pa_cons (pe_dc (own := [("name", 2)]) (g := gName 2) rfl sc_are_names.nd (pi_tup (pv 0)) (blkOk_by (N := N_are_names) (sc := defScope s_are_names) (by decide +kernel)) (fun _ _ _ _ _ => (pg_name (i := 2) sc_are_names.nd rfl (Or.inl rfl))) (fun _ _ _ _ _ => pts_nil) (fun _ _ _ _ _ => by exact (pv 2)) (fun _ _ _ _ _ => by exact pe_bl)) pa_nil)) (pe_callB call_len_seq (by rfl) T.n_len (by decide +kernel) (pa_cons (pv 0) pa_nil)) (nomark _))))), ?_⟩
    refine ⟨_, rfl, _, _, _, _, _, rfl, .ty "tuple", tyX_of hv, isi_kit "tuple" _ (kit_tuple d), _, rfl, ?_⟩
    by_cases c : tyN d = "tuple"
    · refine if_f (by rw [decide_eq_true c]; rfl) ?_
      obtain ⟨a, xs, ds, rfl, rfl, hsq, hda⟩ := dv_tuple hv c
      obtain ⟨hlen, hsh⟩ := hs ds rfl
      have lx := dpAll_len hda
      have ln : xs.length ≤ 1000 := by rw [lx]; exact hlen
      refine ⟨_, rfl, a, xs, rfl, .inr hsq, _, _, rfl, rfl, _, rfl, ?_⟩
      rw [lx]
      by_cases c1 : (1 : Int) ≤ (ds.length : Int)
      · refine if_t (decide_eq_true c1) ⟨_, rfl, _, _, rfl, rfl, _, rfl, ?_⟩
        by_cases c2 : (ds.length : Int) ≤ m
        · refine if_f (by rw [decide_eq_true c2]; rfl) ?_
          refine ⟨_, rfl, a, rfl, ⟨_, hsq⟩, fun D hD => lcR walk_tup hD xs (ds.map fun d => (true, .bl (isNameD d))) (by rw [List.length_map, lx]) (len_lt ln) (fun H1 e => ex_t e hsq) (fun _ _ _ _ z => z) (fun v => rfl) ?_ ?_ ?_⟩
          · intro k x b y H1 _ hr _
            rw [List.getElem?_map] at hr
            cases e : ds[k]? with
            | none => rw [e] at hr; cases hr
            | some d => rw [e] at hr; cases hr; exact ev_true
          · intro k x y H1 hx hr e1
            obtain ⟨d, hd, hp⟩ := dpAll_get hda hx
            rw [List.getElem?_map, hd] at hr
            cases hr
            exact ev_call (ea_cons (ev_var rfl) ea_nil) fun H2 e2 Q q E => ⟨x, d, rfl, dv_ex (e1.trans e2) (.inl hp), hsh d (List.mem_of_getElem? hd), fun H3 e3 => q H3 e3⟩
          · intro H1 e1 h1
            rw [lcR_all] at h1
            refine ⟨D, ds.map isNameD, rfl, SqL.of (by rw [h1, List.map_map]; rfl), _, rfl, ?_⟩
            rw [List.all_map]
            by_cases c3 : ds.all isNameD = true
            · refine if_f (by rw [show ds.all (id ∘ isNameD) = true from c3]; rfl) ?_
              have hstr := all_strs c3
              have hxs : xs = (strsOf ds).map V.str := dpAll_vals (by rw [← hstr]; exact hda)
              have hxk : xs = ((strsOf ds).map fun z => (Sum.inr z : Key)).map kV := by rw [hxs, List.map_map]; rfl
              have hsq1 := ex_t e1 hsq
              refine ⟨_, rfl, a, rfl, ⟨_, hsq1⟩, fun D2 hD2 => dcS hD2 ((strsOf ds).map fun z => (Sum.inr z : Key)) (.bl true) ?_ (by rw [← hxk]; exact hsq1) (fun v => rfl) (fun x H2 _ _ => ev_var rfl) (fun x H2 _ _ => ev_c) ?_⟩
              · have e := congrArg List.length hxk
                rw [List.length_map] at e
                rw [← e]
                exact len_lt ln
              · intro H2 e2 h2
                refine ⟨D2, _, rfl, h2, _, rfl, a, xs, rfl, .inr (ex_t e2 hsq1), rfl, ?_⟩
                have q := k H2 (e1.trans e2)
                have e3 : areNamesD (.tuple ds) m = decide (V.int ((((uniq ((strsOf ds).map fun z => (Sum.inr z : Key))).map fun k => (k, V.bl true)).length : Nat) : Int) = V.int ((xs.length : Nat) : Int)) := by
                  show (((decide _ && decide _) && _) && _) = _
                  rw [decide_eq_true c1, decide_eq_true c2, c3, List.length_map, lx]
                  show decide _ = _
                  refine decide_eq_decide.mpr ⟨fun z => by rw [z], fun z => ?_⟩
                  have z1 := V.int.inj z
                  omega
                rw [e3] at q
                exact q
            · have c3' : ds.all isNameD = false := Bool.eq_false_iff.mpr c3
              refine if_t (by rw [show ds.all (id ∘ isNameD) = false from c3']; rfl) ?_
              have q := k H1 e1
              have e3 : areNamesD (.tuple ds) m = false := by
                show (((decide _ && decide _) && _) && _) = _
                rw [c3']
                simp
              rw [e3] at q
              exact q
        · refine if_t (by rw [decide_eq_false c2]; rfl) ?_
          have q := k H (Ex.refl H)
          have e3 : areNamesD (.tuple ds) m = false := by
            show (((decide _ && decide _) && _) && _) = _
            rw [decide_eq_false c2]
            simp
          rw [e3] at q
          exact q
      · refine if_f (decide_eq_false c1) ⟨_, rfl, if_t rfl ?_⟩
        have q := k H (Ex.refl H)
        have e3 : areNamesD (.tuple ds) m = false := by
          show (((decide _ && decide _) && _) && _) = _
          rw [decide_eq_false c1]
          simp
        rw [e3] at q
        exact q
    · refine if_t (by rw [decide_eq_false c]; rfl) ?_
      have q := k H (Ex.refl H)
      rw [areNamesD_no c] at q
      exact if_t rfl q
def ones (n : Nat) : List PyData := List.replicate n (.int 1)
theorem dp_ones {H : Hp} : ∀ n : Nat, DpAll K H (List.replicate n (.int 1)) (ones n)
  | 0 => .nil
  | n + 1 => .cons (.int 1) (dp_ones n)
theorem lay_ones : ∀ n : Nat, PyData.canLayAll0 (ones n) = true ∧ PyData.depthAll (ones n) = 0
  | 0 => ⟨rfl, rfl⟩
  | n + 1 => by
    obtain ⟨h1, h2⟩ := lay_ones n
    refine ⟨?_, ?_⟩
    · show (true && PyData.canLayAll0 (ones n)) = true
      rw [h1]
      rfl
    · show max 0 (PyData.depthAll (ones n)) = 0
      rw [h2]
      rfl
theorem shaped_ones (n : Nat) : SeqAt.shaped (.list (ones n)) = true := by
  obtain ⟨h1, h2⟩ := lay_ones n
  show (PyData.canLayAll0 _ && decide (PyData.depthAll _ + 1 ≤ 64)) = true
  rw [h1, h2]
  rfl
theorem bad_ones (p : PyData → Bool) : ∀ ds : List PyData, ((ds.map fun d => (p d, V.int 1)).filter (·.1)).map (·.2) = List.replicate (ds.countP p) (V.int 1)
  | [] => rfl
  | d :: ds => by
    rw [List.map_cons, List.filter_cons, List.countP_cons]
    cases hp : p d with
    | true =>
      show (_ :: ((ds.map fun d => (p d, V.int 1)).filter (·.1))).map (·.2) = _
      rw [List.map_cons, bad_ones p ds]
      rfl
    | false =>
      show ((ds.map fun d => (p d, V.int 1)).filter (·.1)).map (·.2) = _
      rw [bad_ones p ds]
      rfl
theorem bad_none : ∀ ds : List PyData, (ones (ds.countP fun d => !isNameD d)).isEmpty = ds.all isNameD
  | [] => rfl
  | d :: ds => by
    rw [List.countP_cons, List.all_cons]
    cases hd : isNameD d with
    | true =>
      show (ones (ds.countP _ + 0)).isEmpty = _
      rw [Nat.add_zero, bad_none ds]
      rfl
    | false => rfl
end
end K6
namespace K6
open PySem L2 Kd Evl Ks
def strsD : PyData → List Str
  | .tuple ds => strsOf ds
  | _ => []
/-- a sheet stands at p -/
structure SheetAt (C : Addr) (H : Hp) (p : Addr) (ks ws : List Str) : Prop where
  at_ : ∃ dx fs pk pw, H p = some (.ins C dx fs) ∧ fs.lookup ("own_kinds" : Str) = some (.ref pk) ∧ fs.lookup ("own_words" : Str) = some (.ref pw) ∧ H pk = some (.tup (ks.map V.str)) ∧ H pw = some (.tup (ws.map V.str))
theorem SheetAt.ex {C : Addr} {H H' : Hp} {p : Addr} {ks ws : List Str} (h : SheetAt C H p ks ws) (e : Ex H H') : SheetAt C H' p ks ws := by
  obtain ⟨dx, fs, pk, pw, h1, h2, h3, h4, h5⟩ := h.at_
  exact ⟨dx, fs, pk, pw, e _ _ h1, h2, h3, e _ _ h4, e _ _ h5⟩
def ExBut (p : Addr) (H H' : Hp) : Prop := ∀ b o, H b = some o → b ≠ p → H' b = some o
def spInit (K : PySem.W.Frag) (AA : Ads) : Sp := fun vs H Q E => ∃ (p dx : Addr) (k w : V) (dk dw : PyData), vs = [.ref p, k, w] ∧ H p = some (.ins AA.C_Sheet dx []) ∧ Dv K H k dk ∧ Dv K H w dw ∧ fewD dk ∧ fewD dw ∧
  ((areNamesD dk 3 && areNamesD dw 2) = true → ∀ ks ws H', IsSort (strsD dk) ks → IsSort (strsD dw) ws → ExBut p H H' → SheetAt AA.C_Sheet H' p ks ws → Q .non H') ∧
  ((areNamesD dk 3 && areNamesD dw 2) = false → ∀ H', Ex H H' → E (.ref AA.C_InvalidSheet) none H')
theorem kw_ne : ¬ (("own_kinds" : Str) = "own_words") := by decide +kernel
theorem names_tup {K : PySem.W.Frag} {H : Hp} {v : V} {d : PyData} {m : Int} (hv : Dv K H v d) (h : areNamesD d m = true) : ∃ a, v = .ref a ∧ SqT K H a ((strsD d).map V.str) ∧ d = .tuple ((strsD d).map PyData.str) ∧ ((strsD d).length : Int) ≤ m ∧ 1 ≤ (strsD d).length ∧ (strsD d).Nodup ∧ ∀ z ∈ strsD d, isName z = true := by
  have c : tyN d = "tuple" := by
    cases d <;> first | rfl | (exact absurd h Bool.false_ne_true)
  obtain ⟨a, xs, ds, rfl, rfl, hs, ha⟩ := dv_tuple hv c
  have h' : (((decide (1 ≤ (ds.length : Int)) && decide ((ds.length : Int) ≤ m)) && ds.all isNameD) && decide ((uniq ((strsOf ds).map fun z => (Sum.inr z : Key))).length = ds.length)) = true := h
  obtain ⟨h1, h2⟩ := Bool.and_eq_true_iff.mp h'
  obtain ⟨h3, h4⟩ := Bool.and_eq_true_iff.mp h1
  obtain ⟨h5, h6⟩ := Bool.and_eq_true_iff.mp h3
  have e := all_strs h4
  have el : ds.length = (strsOf ds).length := by rw [congrArg List.length e, List.length_map]
  have h2' := of_decide_eq_true h2
  have h5' := of_decide_eq_true h5
  have h6' := of_decide_eq_true h6
  refine ⟨a, rfl, ?_, congrArg PyData.tuple e, ?_, ?_, ?_, ?_⟩
  · show SqT K H a ((strsOf ds).map V.str)
    rw [← dpAll_vals (by rw [← e]; exact ha)]
    exact hs
  · show ((strsOf ds).length : Int) ≤ m
    omega
  · show 1 ≤ (strsOf ds).length
    omega
  · have hn : ((strsOf ds).map fun z => (Sum.inr z : Key)).Nodup := (len_eq_uniq _).mp (by rw [h2', List.length_map]; exact el)
    show (strsOf ds).Nodup
    exact (List.pairwise_map.mp hn).imp fun q z => q (by rw [z])
  · intro z hz
    have hz' : z ∈ strsOf ds := hz
    have hm : PyData.str z ∈ ds := by rw [e]; exact List.mem_map.mpr ⟨z, hz', rfl⟩
    exact List.all_eq_true.mp h4 _ hm
theorem sqT_but {K : PySem.W.Frag} {H H' : Hp} {p a C dx : Addr} {fs : List (Str × V)} {xs : List V} (h : SqT K H a xs) (hp : H p = some (.ins C dx fs)) (e : ExBut p H H') : SqT K H' a xs := by
  rcases h with (h | ⟨o, h⟩) | h
  · exact .inl (.inl (e _ _ h (ne_of h hp (by intro q; cases q))))
  · exact .inl (.inr ⟨o, e _ _ h (ne_of h hp (by intro q; cases q))⟩)
  · exact .inr h
section
variable {P : Program} {w : World} {K : PySem.W.Frag} {mg : Str → Option Value} {base : Heap} {AA : Ads}
theorem ok_Sheet_init (T : Txt K mg AA) : FnOk P w K mg base (L2.CX P w) 3 AA.a_Sheet_init AA.d_Sheet_init ["self", "kinds", "words"] (spInit K AA) := by
  have G_are_names : FnOk P w K mg base CX0 2 AA.a_are_names AA.d_are_names ["value", "most"] (spAre K) := ok_are_names T
  refine T.F_Sheet_init.okX sc_Sheet_init (fun vs H Q E h => ?_) (fun cdv A outer s H vs Q E hr h => ?_)
  · obtain ⟨p, dx, k, w, dk, dw, rfl, _⟩ := h
    rfl
  · obtain ⟨p, dx, k, w, dk, dw, rfl, hp, hk, hw, fk, fw, good, bad⟩ := h
    refine ⟨_, (pss_cons (ps_if (pw_or (pt_not (pt_val (pe_call G_are_names (hr.mono (by decide)) (by rfl) T.g_are_names T.k_are_names T.b_are_names .nil pass0 (pa_cons (pv 1) (pa_cons (pe_glob (by rfl) T.c_MAX_KINDS T.r_MAX_KINDS) pa_nil))))) (pw_or1 (pt_not (pt_val (pe_call G_are_names (hr.mono (by decide)) (by rfl) T.g_are_names T.k_are_names T.b_are_names .nil pass0 (pa_cons (pv 2) (pa_cons (pe_glob (by rfl) T.c_MAX_WORDS T.r_MAX_WORDS) pa_nil))))))).pt (pss_one (ps_raise rfl (takes_of rfl rfl rfl rfl) (pmk_own PySem.F.excBase_ValueError T.x_InvalidSheet T.g_InvalidSheet T.k_InvalidSheet (raises_own T.s_InvalidSheet T.t_InvalidSheet) (by rfl)))) pss_nil)
    (pss_cons (ps_fld (pv 0) (pe_callTy call_tuple_of (by rfl) T.n_tuple (by decide +kernel) (pa_cons (pe_callB cr_sortU (by rfl) T.n_sorted (by decide +kernel) (pa_cons (pv 1) pa_nil)) pa_nil)) rfl)
    (pss_one (ps_fld (pv 0) (pe_callTy call_tuple_of (by rfl) T.n_tuple (by decide +kernel) (pa_cons (pe_callB cr_sortU (by rfl) T.n_sorted (by decide +kernel) (pa_cons (pv 2) pa_nil)) pa_nil)) rfl)))), ?_⟩
    refine ⟨_, rfl, k, dk, 3, rfl, hk, fk, fun H1 e1 => ⟨_, rfl, ?_⟩⟩
    cases ck : areNamesD dk 3 with
    | false =>
      refine if_t rfl (if_t rfl ?_)
      exact bad (by rw [ck]; rfl) H1 e1
    | true =>
      refine if_f rfl ?_
      refine ⟨_, rfl, w, dw, 2, rfl, dv_ex e1 hw, fw, fun H2 e2 => ⟨_, rfl, ?_⟩⟩
      have e02 := e1.trans e2
      cases cw : areNamesD dw 2 with
      | false =>
        refine if_t rfl ?_
        exact bad (by rw [ck, cw]; rfl) H2 e02
      | true =>
        refine if_f rfl ?_
        obtain ⟨ak, rfl, sk, _, lk, _⟩ := names_tup (dv_ex e02 hk) ck
        obtain ⟨aw, rfl, sw, _, lw, _⟩ := names_tup (dv_ex e02 hw) cw
        have hp2 := e02 _ _ hp
        refine ⟨_, rfl, ak, _, rfl, .inl sk, by omega, fun ks q1 pm1 so1 hq1 => ⟨q1, _, rfl, .inl ⟨SqL.of upd_same, fun t1 ht1 => ?_⟩⟩⟩
        have x1 : Ex H2 (upd (upd H2 q1 (.lst (ks.map V.str))) t1 (.tup (ks.map V.str))) := (Ex.new hq1).trans (Ex.new ht1)
        have hp3 := x1 _ _ hp2
        refine ⟨_, rfl, p, AA.C_Sheet, dx, [], rfl, hp3, T.cl_Sheet, T.n_Sheet_own_kinds, (by show 0 < 1000; decide), ?_⟩
        have npt : t1 ≠ p := (ne_of_none hp2 (fresh_back (Ex.new hq1) ht1)).symm
        have b1 : ExBut p H2 (upd (upd (upd H2 q1 (.lst (ks.map V.str))) t1 (.tup (ks.map V.str))) p (.ins AA.C_Sheet dx (putF "own_kinds" (.ref t1) []))) := fun b o h hb => by rw [upd_ne hb]; exact x1 _ _ h
        refine ⟨_, rfl, aw, _, rfl, .inl (sqT_but sw hp2 b1), by omega, fun ws q2 pm2 so2 hq2 => ⟨q2, _, rfl, .inl ⟨SqL.of upd_same, fun t2 ht2 => ?_⟩⟩⟩
        generalize hH3 : upd (upd (upd H2 q1 (.lst (ks.map V.str))) t1 (.tup (ks.map V.str))) p (.ins AA.C_Sheet dx (putF "own_kinds" (.ref t1) [])) = H3 at *
        have hp4 : H3 p = some (.ins AA.C_Sheet dx (putF "own_kinds" (.ref t1) [])) := by rw [← hH3]; exact upd_same
        have ht1' : H3 t1 = some (.tup (ks.map V.str)) := by rw [← hH3, upd_ne npt]; exact upd_same
        have x2 : Ex H3 (upd (upd H3 q2 (.lst (ws.map V.str))) t2 (.tup (ws.map V.str))) := (Ex.new hq2).trans (Ex.new ht2)
        have npt2 : t2 ≠ p := (ne_of_none hp4 (fresh_back (Ex.new hq2) ht2)).symm
        refine ⟨_, rfl, p, AA.C_Sheet, dx, _, rfl, x2 _ _ hp4, T.cl_Sheet, T.n_Sheet_own_words, (by show 1 < 1000; decide), ?_⟩
        refine good (by rw [ck, cw]; rfl) ks ws _ ⟨pm1, so1⟩ ⟨pm2, so2⟩ (fun b o h hb => by rw [upd_ne hb]; exact x2 _ _ (b1 _ _ (e02 _ _ h) hb)) ⟨dx, _, t1, t2, upd_same, ?_, ?_, ?_, ?_⟩
        · rw [lookup_putF, if_neg kw_ne, lookup_putF, if_pos rfl]
        · rw [lookup_putF, if_pos rfl]
        · rw [upd_ne npt]; exact x2 _ _ ht1'
        · rw [upd_ne npt2]; exact upd_same
end
end K6
namespace K6
open PySem L2 Kd Evl Ks
section
variable {P : Program} {w : World} {K : PySem.W.Frag} {mg : Str → Option Value} {base : Heap} {AA : Ads}
theorem eqv_strs : ∀ (xs ys : List Str), PyData.eqvAll (xs.map PyData.str) (ys.map PyData.str) = decide (xs = ys)
  | [], [] => rfl
  | [], _ :: _ => rfl
  | _ :: _, [] => rfl
  | x :: xs, y :: ys => by
    show (PyData.eqv (.str x) (.str y) && PyData.eqvAll (xs.map PyData.str) (ys.map PyData.str)) = _
    rw [eqv_strs xs ys]
    show ((x == y) && _) = _
    by_cases h1 : x = y
    · subst h1
      rw [beq_self_eq_true, Bool.true_and]
      exact decide_eq_decide.mpr ⟨fun e => by rw [e], fun e => (List.cons.inj e).2⟩
    · rw [beq_eq_false_iff_ne.mpr h1, Bool.false_and]
      exact (decide_eq_false fun e => h1 (List.cons.inj e).1).symm
/-- texts that may be compared -/
def OkS (zs : List Str) : Prop := ∀ z ∈ zs, PyData.strOk z = true
/-- what the second one of == may be -/
def Other (K : PySem.W.Frag) (C : Addr) (H : Hp) (y : V) (r : Option (List Str × List Str)) : Prop :=
  (∃ d, Dv K H y d ∧ r = none) ∨ ∃ b ks ws, y = .ref b ∧ SheetAt C H b ks ws ∧ OkS ks ∧ OkS ws ∧ r = some (ks, ws)
def spEqS (K : PySem.W.Frag) (C : Addr) : Sp := fun vs H Q _ => ∃ (a : Addr) (y : V) (ks ws : List Str) (r : Option (List Str × List Str)), vs = [.ref a, y] ∧ SheetAt C H a ks ws ∧ OkS ks ∧ OkS ws ∧ Other K C H y r ∧ Q (.bl (decide (r = some (ks, ws)))) H
theorem ok_Sheet_eq (T : Txt K mg AA) : FnOk P w K mg base CX0 1 AA.a_Sheet_eq AA.d_Sheet_eq ["self", "other"] (spEqS K AA.C_Sheet) := by
  refine T.F_Sheet_eq.ok sc_Sheet_eq (fun vs H Q E h => ?_) (fun cdv A outer s H vs Q E hr h => ?_)
  · obtain ⟨a, y, ks, ws, r, rfl, _⟩ := h
    rfl
  · obtain ⟨a, y, ks, ws, r, rfl, ha, ok1, ok2, ho, q⟩ := h
    have hu : _ + 64 < cLine := hu64 hr
    refine ⟨_, (pss_cons (ps_if (pt_not (pt_val (pe_callB call_isi (by rfl) T.n_isinstance (by decide +kernel) (pa_cons (pv 1) (pa_cons (pe_glob (v := .ref AA.C_Sheet) (by rfl) T.g_Sheet rfl) pa_nil))))) (pss_one (ps_ret pe_bl)) pss_nil)
    (pss_one (ps_ret (pe_and (pe_cmpR (op_eqD hu) (pe_fld (pv 0) rfl) (pe_fld (pv 1) rfl) (nomark _)) (pe_one (pe_cmpR (op_eqD hu) (pe_fld (pv 0) rfl) (pe_fld (pv 1) rfl) (nomark _))))))), ?_⟩
    rcases ho with ⟨d, hd, rfl⟩ | ⟨b, ks', ws', rfl, hb, ok3, ok4, rfl⟩
    · refine ⟨_, rfl, _, _, _, _, _, rfl, .own _, tyX_of hd, T.I_Sheet.no d, _, rfl, if_t rfl ?_⟩
      rw [decide_eq_false (by intro z; cases z)] at q
      exact q
    · obtain ⟨dx, fs, pk, pw, a1, a2, a3, a4, a5⟩ := ha.at_
      obtain ⟨dy, gs, qk, qw, b1, b2, b3, b4, b5⟩ := hb.at_
      refine ⟨_, rfl, _, _, _, _, _, rfl, .own _, T.I_Sheet.ty b1, kit_self, _, rfl, if_f rfl ?_⟩
      refine ⟨_, rfl, a, _, dx, fs, _, rfl, a1, T.cl_Sheet, T.n_Sheet_own_kinds, a2, _, rfl, b, _, dy, gs, _, rfl, b1, T.cl_Sheet, T.n_Sheet_own_kinds, b2, _, _, .tup (SqT.of a4) (dpAll_strs ks), .tup (SqT.of b4) (dpAll_strs ks'), shaped_ts ok1, shaped_ts ok3, _, rfl, ?_⟩
      have e1 : PyData.eqv (.tuple (ks.map PyData.str)) (.tuple (ks'.map PyData.str)) = decide (ks = ks') := eqv_strs ks ks'
      have e2 : PyData.eqv (.tuple (ws.map PyData.str)) (.tuple (ws'.map PyData.str)) = decide (ws = ws') := eqv_strs ws ws'
      rw [e1]
      by_cases c : ks = ks'
      · refine if_t (decide_eq_true c) ?_
        refine ⟨_, rfl, a, _, dx, fs, _, rfl, a1, T.cl_Sheet, T.n_Sheet_own_words, a3, _, rfl, b, _, dy, gs, _, rfl, b1, T.cl_Sheet, T.n_Sheet_own_words, b3, _, _, .tup (SqT.of a5) (dpAll_strs ws), .tup (SqT.of b5) (dpAll_strs ws'), shaped_ts ok2, shaped_ts ok4, ?_⟩
        rw [e2]
        have e3 : decide (some (ks', ws') = some (ks, ws)) = decide (ws = ws') := decide_eq_decide.mpr ⟨fun z => (Prod.mk.inj (Option.some.inj z)).2.symm, fun z => by rw [c, z]⟩
        rw [e3] at q
        exact q
      · refine if_f (decide_eq_false c) ?_
        rw [decide_eq_false (fun z => c (Prod.mk.inj (Option.some.inj z)).1.symm)] at q
        exact q
/-- how many, as a text -/
def numS (n : Nat) : Str := Str.ofString (toString (n : Int))
theorem numS_len {n : Nat} (h : n ≤ 3) : (numS n).length = 1 := by
  match n, h with
  | 0, _ => decide +kernel
  | 1, _ => decide +kernel
  | 2, _ => decide +kernel
  | 3, _ => decide +kernel
theorem log_small {n : Nat} (h : n ≤ 3) : ((n : Int)).natAbs.log2 < 1920 := by
  match n, h with
  | 0, _ => decide +kernel
  | 1, _ => decide +kernel
  | 2, _ => decide +kernel
  | 3, _ => decide +kernel
def sheetStr (n m : Nat) : Str := ((((Str.empty ++ ("sheet of " : Str)) ++ numS n) ++ (" kinds, " : Str)) ++ numS m) ++ (" words" : Str)
theorem len_app (x y : Str) : (x ++ y).length = x.length + y.length := Str.length_append x y
def spStrS (C : Addr) : Sp := fun vs H Q _ => ∃ (a : Addr) (ks ws : List Str), vs = [.ref a] ∧ SheetAt C H a ks ws ∧ ks.length ≤ 3 ∧ ws.length ≤ 3 ∧ Q (.str (sheetStr ks.length ws.length)) H
end
end K6
namespace K6
open PySem L2 Kd Evl Ks Kt Ky
open PySem.W (Datum DatumOrd T3)
abbrev Tie := T3 Str Str Str
abbrev Posts := List (Str × Option Str)
def ov : Option Str → V
  | none => .non
  | some z => .str z
theorem ov_pl (o : Option Str) : plV (ov o) = true := by cases o <;> rfl
def kvP (ps : Posts) : List (Key × V) := ps.map fun p => (.inr p.1, ov p.2)
theorem kvP_len (ps : Posts) : (kvP ps).length = ps.length := List.length_map ..
theorem kvP_pl (ps : Posts) : ∀ p ∈ kvP ps, plV p.2 = true := fun p hp => by
  obtain ⟨q, _, rfl⟩ := List.mem_map.mp hp
  exact ov_pl q.2
def namesP (ps : Posts) : List Str := ps.map (·.1)
/-- what stands under a name -/
def look (ps : Posts) (n : Str) : Option (Option Str) := (ps.find? fun p => decide (p.1 = n)).map (·.2)
theorem val_kvP (n : Str) : ∀ ps : Posts, valV (kvP ps) (.inr n) = (look ps n).map ov
  | [] => rfl
  | p :: ps => by
    have ih := val_kvP n ps
    unfold kvP at ih ⊢
    rw [List.map_cons]
    by_cases c : p.1 = n
    · rw [valV_pos (by rw [c])]
      unfold look
      rw [List.find?_cons, decide_eq_true c]
      rfl
    · rw [valV_neg (fun z => c (Sum.inr.inj z)), ih]
      unfold look
      rw [List.find?_cons, decide_eq_false c]
theorem look_some (ps : Posts) (n : Str) : (look ps n).isSome = decide (n ∈ namesP ps) := by
  unfold look namesP
  rw [Option.isSome_map, Bool.eq_iff_iff, List.find?_isSome, decide_eq_true_iff, List.mem_map]
  constructor
  · rintro ⟨p, h1, h2⟩
    exact ⟨p, h1, of_decide_eq_true h2⟩
  · rintro ⟨p, h1, h2⟩
    exact ⟨p, h1, decide_eq_true h2⟩
def tieK (t : Tie) : List Key := [.inr t.a, .inr t.b, .inr t.c]
theorem tieK_inj (a b : Tie) (h : tieK a = tieK b) : a = b := by
  obtain ⟨x, y, z⟩ := a
  obtain ⟨u, v, w⟩ := b
  cases h
  rfl
/-- a tie as a tuple of its own -/
def TieV (H : Hp) (v : V) (t : Tie) : Prop := ∃ b, v = .ref b ∧ H b = some (.tup ((tieK t).map kV))
theorem TieV.ex {H H' : Hp} {v : V} {t : Tie} (h : TieV H v t) (e : Ex H H') : TieV H' v t := by
  obtain ⟨b, rfl, hb⟩ := h
  exact ⟨b, rfl, e _ _ hb⟩
theorem TieV.hd {K : PySem.W.Frag} {H : Hp} {v : V} {t : Tie} (h : TieV H v t) : Hd K H v t := by
  obtain ⟨b, rfl, hb⟩ := h
  exact hd_t3 (SqT.of hb) (hd_str _) (hd_str _) (hd_str _)
theorem ties_hd {K : PySem.W.Frag} {H : Hp} {vs : List V} {ts : List Tie} (h : Paired (TieV H) vs ts) : HdL K H vs ts := hdL_of (paired_imp (fun _ _ z => z.hd) h)
theorem ties_ex {H H' : Hp} {vs : List V} {ts : List Tie} (h : Paired (TieV H) vs ts) (e : Ex H H') : Paired (TieV H') vs ts := paired_imp (fun _ _ z => z.ex e) h
def kindOk (ks : List Str) : Option Str → Bool
  | none => true
  | some z => decide (z ∈ ks)
def postsOk (ks : List Str) (ps : Posts) : Bool := !decide ((ps.length : Int) > 12) && (ps.all (fun p => isName p.1) && ps.all fun p => kindOk ks p.2)
def tieOk (ws : List Str) (ps : Posts) (t : Tie) : Bool := decide (t.b ∈ ws) && ((look ps t.a).isSome && (look ps t.c).isSome)
section
variable {P : Program} {w : World} {K : PySem.W.Frag} {mg : Str → Option Value} {base : Heap} {AA : Ads}
theorem SheetAt.lock {C : Addr} {H : Hp} {p d : Addr} {o : Obj} {kvs : List (Key × V)} {ks ws : List Str} (h : SheetAt C H p ks ws) (hd : H d = some (.dK kvs)) : SheetAt C (upd H d (.frz o (.dK kvs))) p ks ws := by
  obtain ⟨dx, fs, pk, pw, a1, a2, a3, a4, a5⟩ := h.at_
  exact ⟨dx, fs, pk, pw, lock_at hd a1 (fun _ z => by cases z), a2, a3, lock_at hd a4 (fun _ z => by cases z), lock_at hd a5 (fun _ z => by cases z)⟩
def spReq (AA : Ads) : Sp := fun vs H Q _ => ∃ sh ks ws, vs = [.ref sh] ∧ SheetAt AA.C_Sheet H sh ks ws ∧ Q .non H
theorem ok_require_sheet (T : Txt K mg AA) : FnOk P w K mg base CX0 1 AA.a_require_sheet AA.d_require_sheet ["sheet"] (spReq AA) := by
  refine T.F_require_sheet.ok sc_require_sheet (fun vs H Q E h => ?_) (fun cdv A outer s H vs Q E hr h => ?_)
  · obtain ⟨sh, ks, ws, rfl, _⟩ := h
    rfl
  · obtain ⟨sh, ks, ws, rfl, hs, q⟩ := h
    obtain ⟨dx, fs, pk, pw, a1, _⟩ := hs.at_
    refine ⟨_, (pss_one (ps_if (pt_not (pt_val (pe_callB call_isi (by rfl) T.n_isinstance (by decide +kernel) (pa_cons (pv 0) (pa_cons (pe_glob (v := .ref AA.C_Sheet) (by rfl) T.g_Sheet rfl) pa_nil))))) (pss_one ps_never) pss_nil)), ?_⟩
    exact ⟨_, rfl, _, _, _, _, _, rfl, .own _, T.I_Sheet.ty a1, kit_self, _, rfl, if_f rfl q⟩
def spKind (AA : Ads) : Sp := fun vs H Q _ => ∃ sh ks ws z, vs = [.ref sh, .str z] ∧ SheetAt AA.C_Sheet H sh ks ws ∧ Q (.bl (decide (z ∈ ks))) H
theorem ok_is_kind (T : Txt K mg AA) : FnOk P w K mg base CX0 1 AA.a_is_kind AA.d_is_kind ["sheet", "value"] (spKind AA) := by
  refine T.F_is_kind.ok sc_is_kind (fun vs H Q E h => ?_) (fun cdv A outer s H vs Q E hr h => ?_)
  · obtain ⟨sh, ks, ws, z, rfl, _⟩ := h
    rfl
  · obtain ⟨sh, ks, ws, z, rfl, hs, q⟩ := h
    have hu : _ + 64 < cLine := hu64 hr
    obtain ⟨dx, fs, pk, pw, a1, a2, a3, a4, a5⟩ := hs.at_
    refine ⟨_, (pss_one (ps_ret (pe_and (pe_callB call_isi (by rfl) T.n_isinstance (by decide +kernel) (pa_cons (pv 1) (pa_cons (pe_bltn (v := .ty "str") (u := .type "str") (by rfl) T.n_str (by decide +kernel) rfl) pa_nil))) (pe_one (pe_cmpR (op_inP (K := K) rfl hu) (pv 1) (pe_fld (pv 0) rfl) rfl))))), ?_⟩
    refine ⟨_, rfl, _, _, _, _, _, rfl, .ty "str", .base (.str z), kit_ty (by decide +kernel : kitB "str" "str" = some true), _, rfl, if_t rfl ?_⟩
    exact ⟨_, rfl, _, rfl, sh, _, dx, fs, _, rfl, a1, T.cl_Sheet, T.n_Sheet_own_kinds, a2, inTP (hd_str z) (SqT.of a4) (hdL_strs ks) q⟩
def spTie (AA : Ads) : Sp := fun vs H Q _ => ∃ sh ks ws v t, vs = [.ref sh, v] ∧ SheetAt AA.C_Sheet H sh ks ws ∧ TieV H v t ∧ Q (.bl (decide (t.b ∈ ws))) H
theorem ok_is_tie (T : Txt K mg AA) : FnOk P w K mg base CX0 1 AA.a_is_tie AA.d_is_tie ["sheet", "value"] (spTie AA) := by
  refine T.F_is_tie.ok sc_is_tie (fun vs H Q E h => ?_) (fun cdv A outer s H vs Q E hr h => ?_)
  · obtain ⟨sh, ks, ws, v, t, rfl, _⟩ := h
    rfl
  · obtain ⟨sh, ks, ws, v, t, rfl, hs, ⟨b, rfl, hb⟩, q⟩ := h
    have hu : _ + 64 < cLine := hu64 hr
    obtain ⟨dx, fs, pk, pw, a1, a2, a3, a4, a5⟩ := hs.at_
    refine ⟨_, (pss_one (ps_ret (pe_and (pe_callB call_isi (by rfl) T.n_isinstance (by decide +kernel) (pa_cons (pv 1) (pa_cons (pe_bltn (v := .ty "tuple") (u := .type "tuple") (by rfl) T.n_tuple (by decide +kernel) rfl) pa_nil))) (pe_and (pe_cmpR (op_eqP (K := K) rfl hu) (pe_callB call_len_seq (by rfl) T.n_len (by decide +kernel) (pa_cons (pv 1) pa_nil)) pe_int (nomark _)) (pe_and (pe_callB call_isi (by rfl) T.n_isinstance (by decide +kernel) (pa_cons (pe_ix ix_tup (pv 1) pe_int (fun _ _ => rfl)) (pa_cons (pe_bltn (v := .ty "str") (u := .type "str") (by rfl) T.n_str (by decide +kernel) rfl) pa_nil))) (pe_one (pe_cmpR (op_inP (K := K) rfl hu) (pe_ix ix_tup (pv 1) pe_int (fun _ _ => rfl)) (pe_fld (pv 0) rfl) rfl))))))), ?_⟩
    refine ⟨_, rfl, _, _, _, _, _, rfl, .ty "tuple", .base (.tup hb), kit_ty (by decide +kernel : kitB "tuple" "tuple" = some true), _, rfl, if_t rfl ?_⟩
    refine ⟨_, rfl, b, _, rfl, .inr (SqT.of hb), eqP (hd_int _) (hd_int _) ?_⟩
    refine ⟨_, rfl, if_t (decide_eq_true rfl) ?_⟩
    refine ⟨_, rfl, b, _, 1, _, rfl, rfl, SqT.of hb, rfl, ?_⟩
    refine ⟨_, _, _, _, _, rfl, .ty "str", .base (.str _), kit_ty (by decide +kernel : kitB "str" "str" = some true), _, rfl, if_t rfl ?_⟩
    exact ⟨_, rfl, b, _, 1, _, rfl, rfl, SqT.of hb, rfl, _, rfl, sh, _, dx, fs, _, rfl, a1, T.cl_Sheet, T.n_Sheet_own_words, a3, inTP (hd_str t.b) (SqT.of a5) (hdL_strs ws) q⟩
theorem kvP_at {ps : Posts} {i : Nat} {k : Key} {v : V} (h : (kvP ps)[i]? = some (k, v)) : ∃ p, ps[i]? = some p ∧ k = .inr p.1 ∧ v = ov p.2 := by
  unfold kvP at h
  rw [List.getElem?_map] at h
  obtain ⟨p, hp, e⟩ := Option.map_eq_some_iff.mp h
  cases e
  exact ⟨p, hp, rfl, rfl⟩
def shortP (ps : Posts) : Prop := ∀ p ∈ ps, p.1.length ≤ 1000 ∧ PyData.strOk p.1 = true
def spPosts (AA : Ads) : Sp := fun vs H Q _ => ∃ sh ks ws d ps, vs = [.ref sh, .ref d] ∧ SheetAt AA.C_Sheet H sh ks ws ∧ H d = some (.dK (kvP ps)) ∧ shortP ps ∧ ps.length ≤ 1000 ∧ ∀ H', Ex H H' → Q (.bl (postsOk ks ps)) H'
theorem ok_are_posts (T : Txt K mg AA) : FnOk P w K mg base CX0 2 AA.a_are_posts AA.d_are_posts ["sheet", "value"] (spPosts AA) := by
  have G_is_name : FnOk P w K mg base CX0 1 AA.a_is_name AA.d_is_name ["value"] (spIsName K) := ok_is_name T
  have G_is_kind : FnOk P w K mg base CX0 1 AA.a_is_kind AA.d_is_kind ["sheet", "value"] (spKind AA) := ok_is_kind T
  refine T.F_are_posts.ok sc_are_posts (fun vs H Q E h => ?_) (fun cdv A outer s H vs Q E hr h => ?_)
  · obtain ⟨sh, ks, ws, d, ps, rfl, _⟩ := h
    rfl
  · obtain ⟨sh, ks, ws, d, ps, rfl, hs, hd, hn, hl, q⟩ := h
    have hu : _ + 64 < cLine := hu64 hr
    have r1 := T.r_MAX_NAMES
    refine ⟨_, (pss_cons (ps_if (pw_or (pt_not (pt_val (pe_callB call_isi (by rfl) T.n_isinstance (by decide +kernel) (pa_cons (pv 1) (pa_cons (pe_bltn (v := .ty "dict") (u := .type "dict") (by rfl) T.n_dict (by decide +kernel) rfl) pa_nil))))) (pw_or (pt_cmpR op_gt (pe_callB call_lenD (by rfl) T.n_len (by decide +kernel) (pa_cons (pv 1) pa_nil)) (pe_glob (by rfl) T.c_MAX_NAMES T.r_MAX_NAMES) (nomark _)) (pw_or1 (pt_not (pt_val (pe_lock (pe_callB (cr_all rfl) (by rfl) T.n_all (by decide +kernel) (pa_cons (pe_lc (own := [("name", 3)]) (g := gName 3) rfl sc_are_posts.nd (pi_keys (pv 1)) (blkOk_by (N := N_are_posts) (sc := defScope s_are_posts) (by decide +kernel)) (fun _ _ _ _ _ => (pg_name (i := 3) sc_are_posts.nd rfl (Or.inl rfl))) (fun _ _ _ _ _ => pts_nil) (fun _ _ _ _ _ => by exact (pe_call G_is_name (hr.mono (by decide)) (by rfl) T.g_is_name T.k_is_name T.b_is_name .nil pass0 (pa_cons (pv 3) pa_nil)))) pa_nil)))))))).pt (pss_one (ps_ret pe_bl)) pss_nil)
    (pss_one (ps_ret (pe_lock (pe_callB (cr_all rfl) (by rfl) T.n_all (by decide +kernel) (pa_cons (pe_lc (own := [("kind", 2)]) (g := gName 2) rfl sc_are_posts.nd (pi_values (pv 1)) (blkOk_by (N := N_are_posts) (sc := defScope s_are_posts) (by decide +kernel)) (fun _ _ _ _ _ => (pg_name (i := 2) sc_are_posts.nd rfl (Or.inl rfl))) (fun _ _ _ _ _ => pts_nil) (fun _ _ _ _ _ => by exact (pe_or (pe_cmpR op_isN (pv 2) pe_non (nomark _)) (pe_one (pe_call G_is_kind (hr.mono (by decide)) (by rfl) T.g_is_kind T.k_is_kind T.b_is_kind .nil pass0 (pa_cons (pv 0) (pa_cons (pv 2) pa_nil))))))) pa_nil)))))), ?_⟩
    refine ⟨_, rfl, _, _, _, _, _, rfl, .ty "dict", .base (.dK hd), kit_ty (by decide +kernel : kitB "dict" "dict" = some true), _, rfl, if_f rfl ?_⟩
    refine ⟨_, rfl, d, _, rfl, hd, _, _, rfl, rfl, _, rfl, ?_⟩
    rw [kvP_len]
    by_cases c : (ps.length : Int) > 12
    · refine if_t (decide_eq_true c) (if_t rfl ?_)
      have e : postsOk ks ps = false := by unfold postsOk; rw [decide_eq_true c]; rfl
      rw [← e]
      exact q H (Ex.refl H)
    · refine if_f (decide_eq_false c) ?_
      have hz : (kvP ps).length < sizeLine := by rw [kvP_len]; exact len_lt hl
      refine ⟨d, _, hd, trivial, fun od => ⟨_, rfl, d, od, rfl, .inl ⟨_, upd_same, fun D hD => ?_⟩⟩⟩
      generalize hG : upd H d (.frz od (.dK (kvP ps))) = G at *
      have hGd : G d = some (.frz od (.dK (kvP ps))) := by rw [← hG]; exact upd_same
      refine lcR walk_keys hD ((kvP ps).map fun kv => kV kv.1) (ps.map fun p => (true, V.bl (isName p.1))) (by rw [List.length_map, kvP_len]) hz (fun H2 e2 => e2 _ _ hGd) (fun k H2 x H3 ⟨e1, q1, v1, h1, h2⟩ => ⟨e1, by rw [List.getElem?_map, h1, h2]; rfl⟩) (fun _ => rfl) (fun k x b y H2 hx hr _ => ?_) (fun k x y H2 hx hr e2 => ?_) (fun H2 e2 h2 => ?_)
      · rw [List.getElem?_map] at hr
        obtain ⟨p, _, e⟩ := Option.map_eq_some_iff.mp hr
        cases e
        exact ev_true
      · rw [List.getElem?_map] at hr hx
        obtain ⟨p, hp, e⟩ := Option.map_eq_some_iff.mp hr
        obtain ⟨⟨k1, v1⟩, hp2, e3⟩ := Option.map_eq_some_iff.mp hx
        obtain ⟨p2, hp3, rfl, rfl⟩ := kvP_at hp2
        obtain rfl : p = p2 := Option.some.inj (hp.symm.trans hp3)
        cases e
        subst e3
        obtain ⟨n1, n2⟩ := hn p (List.mem_of_getElem? hp)
        refine ev_call (ea_cons (ev_var rfl) ea_nil) fun H3 e3 Q3 q3 _ => ⟨_, .str p.1, rfl, .inl (.str _), fun z e => by cases e; exact ⟨n1, n2⟩, q3⟩
      · refine ⟨D, ps.map fun p => isName p.1, rfl, SqL.of (by rw [h2, lcR_all, List.map_map]; rfl), e2 _ _ hGd, _, rfl, ?_⟩
        have x2 : Ex H (upd H2 d (.dK (kvP ps))) := ex_unlock hd (by rw [hG]; exact e2)
        generalize hH3 : upd H2 d (.dK (kvP ps)) = H3 at *
        have e1 : (ps.map fun p => isName p.1).all id = ps.all fun p => isName p.1 := by rw [List.all_map]; rfl
        rw [e1]
        cases cn : ps.all fun p => isName p.1 with
        | false =>
          refine if_t rfl ?_
          have e : postsOk ks ps = false := by unfold postsOk; rw [cn]; simp
          have := q H3 x2
          rw [e] at this
          exact this
        | true =>
          refine if_f rfl ?_
          have hd3 := x2 _ _ hd
          have e : postsOk ks ps = ps.all fun p => kindOk ks p.2 := by unfold postsOk; rw [decide_eq_false c, cn]; rfl
          rw [e] at q
          refine ⟨d, _, hd3, trivial, fun oe => ⟨_, rfl, d, oe, _, rfl, upd_same, fun D2 hD2 => ?_⟩⟩
          generalize hG2 : upd H3 d (.frz oe (.dK (kvP ps))) = G2 at *
          have hGd2 : G2 d = some (.frz oe (.dK (kvP ps))) := by rw [← hG2]; exact upd_same
          refine lcR walk_values hD2 ((kvP ps).map fun kv => kv.2) (ps.map fun p => (true, V.bl (kindOk ks p.2))) (by rw [List.length_map, kvP_len]) hz (fun H4 e4 => e4 _ _ hGd2) (fun k H4 x H5 ⟨e1, q1, h1⟩ => ⟨e1, by rw [List.getElem?_map, h1]; rfl⟩) (fun _ => rfl) (fun k x b y H4 hx hr _ => ?_) (fun k x y H4 hx hr e4 => ?_) (fun H4 e4 h4 => ?_)
          · rw [List.getElem?_map] at hr
            obtain ⟨p, _, e⟩ := Option.map_eq_some_iff.mp hr
            cases e
            exact ev_true
          · rw [List.getElem?_map] at hr hx
            obtain ⟨p, hp, e⟩ := Option.map_eq_some_iff.mp hr
            obtain ⟨⟨k1, v1⟩, hp2, e3⟩ := Option.map_eq_some_iff.mp hx
            obtain ⟨p2, hp3, rfl, rfl⟩ := kvP_at hp2
            obtain rfl : p = p2 := Option.some.inj (hp.symm.trans hp3)
            cases e
            subst e3
            intro H5 e5 Q5 q5
            have hs5 : SheetAt AA.C_Sheet H5 sh ks ws := (((hs.ex x2).lock (o := oe) hd3).ex (by rw [hG2]; exact e4)).ex e5
            refine ⟨_, rfl, rfl, ?_⟩
            cases hk : p.2 with
            | none =>
              rw [hk] at q5
              exact ⟨_, rfl, if_t (decide_eq_true rfl) (q5 H5 (Ex.refl _))⟩
            | some z =>
              rw [hk] at q5
              exact ⟨_, rfl, if_f (decide_eq_false (by intro z; cases z)) ⟨_, rfl, _, rfl, sh, ks, ws, z, rfl, hs5, q5 H5 (Ex.refl _)⟩⟩
          · refine ⟨D2, ps.map fun p => kindOk ks p.2, rfl, SqL.of (by rw [h4, lcR_all, List.map_map]; rfl), e4 _ _ hGd2, ?_⟩
            have e1 : (ps.map fun p => kindOk ks p.2).all id = ps.all fun p => kindOk ks p.2 := by rw [List.all_map]; rfl
            rw [e1]
            exact q _ (x2.trans (ex_unlock hd3 (by rw [hG2]; exact e4)))
def spTriple (AA : Ads) : Sp := fun vs H Q _ => ∃ sh ks ws d ps v t, vs = [.ref sh, .ref d, v] ∧ SheetAt AA.C_Sheet H sh ks ws ∧ Rd H d (.dK (kvP ps)) ∧ TieV H v t ∧ Q (.bl (tieOk ws ps t)) H
theorem ok_is_triple_of (T : Txt K mg AA) : FnOk P w K mg base CX0 2 AA.a_is_triple_of AA.d_is_triple_of ["sheet", "names", "value"] (spTriple AA) := by
  have G_is_tie : FnOk P w K mg base CX0 1 AA.a_is_tie AA.d_is_tie ["sheet", "value"] (spTie AA) := ok_is_tie T
  refine T.F_is_triple_of.ok sc_is_triple_of (fun vs H Q E h => ?_) (fun cdv A outer s H vs Q E hr h => ?_)
  · obtain ⟨sh, ks, ws, d, ps, v, t, rfl, _⟩ := h
    rfl
  · obtain ⟨sh, ks, ws, d, ps, v, t, rfl, hs, hd, ⟨b, rfl, hb⟩, q⟩ := h
    have hu1 : _ + 1 < cLine := hu_of hr
    refine ⟨_, (pss_cons (ps_if (pw_or (pt_not (pt_val (pe_call G_is_tie (hr.mono (by decide)) (by rfl) T.g_is_tie T.k_is_tie T.b_is_tie .nil pass0 (pa_cons (pv 0) (pa_cons (pv 2) pa_nil))))) (pw_or (pt_not (pt_val (pe_callB call_isi (by rfl) T.n_isinstance (by decide +kernel) (pa_cons (pe_ix ix_tup (pv 2) pe_int (fun _ _ => rfl)) (pa_cons (pe_bltn (v := .ty "str") (u := .type "str") (by rfl) T.n_str (by decide +kernel) rfl) pa_nil))))) (pw_or1 (pt_not (pt_val (pe_callB call_isi (by rfl) T.n_isinstance (by decide +kernel) (pa_cons (pe_ix ix_tup (pv 2) pe_int (fun _ _ => rfl)) (pa_cons (pe_bltn (v := .ty "str") (u := .type "str") (by rfl) T.n_str (by decide +kernel) rfl) pa_nil)))))))).pt (pss_one (ps_ret pe_bl)) pss_nil)
    (pss_one (ps_ret (pe_and (pe_cmpR (op_inK hu1) (pe_ix ix_tup (pv 2) pe_int (fun _ _ => rfl)) (pv 1) rfl) (pe_one (pe_cmpR (op_inK hu1) (pe_ix ix_tup (pv 2) pe_int (fun _ _ => rfl)) (pv 1) rfl)))))), ?_⟩
    refine ⟨_, rfl, _, rfl, sh, ks, ws, _, t, rfl, hs, ⟨b, rfl, hb⟩, _, rfl, ?_⟩
    unfold tieOk at q
    cases c : decide (t.b ∈ ws) with
    | false =>
      rw [c] at q
      exact if_t rfl (if_t rfl q)
    | true =>
      rw [c] at q
      refine if_f rfl ⟨_, rfl, b, _, 0, _, rfl, rfl, SqT.of hb, rfl, _, _, _, _, _, rfl, .ty "str", .base (.str _), kit_ty (by decide +kernel : kitB "str" "str" = some true), _, rfl, if_f rfl ?_⟩
      refine ⟨_, rfl, b, _, 2, _, rfl, rfl, SqT.of hb, rfl, _, _, _, _, _, rfl, .ty "str", .base (.str _), kit_ty (by decide +kernel : kitB "str" "str" = some true), _, rfl, if_f rfl ?_⟩
      refine ⟨_, rfl, b, _, 0, _, rfl, rfl, SqT.of hb, rfl, _, rfl, d, _, rfl, .inl ⟨_, .inr t.a, hd, rfl, rfl⟩, _, rfl, ?_⟩
      rw [val_kvP, Option.isSome_map]
      cases c2 : (look ps t.a).isSome with
      | false =>
        rw [c2] at q
        exact if_f rfl q
      | true =>
        rw [c2] at q
        refine if_t rfl ⟨_, rfl, b, _, 2, _, rfl, rfl, SqT.of hb, rfl, _, rfl, d, _, rfl, .inl ⟨_, .inr t.c, hd, rfl, rfl⟩, ?_⟩
        rw [val_kvP, Option.isSome_map]
        exact q
def spTriples (K : PySem.W.Frag) (AA : Ads) : Sp := fun vs H Q _ => ∃ sh ks ws d ps l xs ts, vs = [.ref sh, .ref d, .ref l] ∧ SheetAt AA.C_Sheet H sh ks ws ∧ Rd H d (.dK (kvP ps)) ∧ SqT K H l xs ∧ Paired (TieV H) xs ts ∧ ts.length ≤ 1000 ∧ ∀ H', Ex H H' → Q (.bl (ts.all (tieOk ws ps))) H'
theorem ok_are_triples (T : Txt K mg AA) : FnOk P w K mg base CX0 3 AA.a_are_triples AA.d_are_triples ["sheet", "names", "value"] (spTriples K AA) := by
  have G_is_triple_of : FnOk P w K mg base CX0 2 AA.a_is_triple_of AA.d_is_triple_of ["sheet", "names", "value"] (spTriple AA) := ok_is_triple_of T
  refine T.F_are_triples.ok sc_are_triples (fun vs H Q E h => ?_) (fun cdv A outer s H vs Q E hr h => ?_)
  · obtain ⟨sh, ks, ws, d, ps, l, xs, ts, rfl, _⟩ := h
    rfl
  · obtain ⟨sh, ks, ws, d, ps, l, xs, ts, rfl, hs, hd, hl, ht, hz, q⟩ := h
    have len : xs.length = ts.length := paired_len ht
    have tyl : TyX K H (.ref l) (.type "tuple") := tyX_of (d := .tuple (ts.map Datum.toD)) (.inl (.tup hl (ties_hd ht)))
    refine ⟨_, (pss_one (ps_ret (pe_and (pe_callB call_isi (by rfl) T.n_isinstance (by decide +kernel) (pa_cons (pv 2) (pa_cons (pe_bltn (v := .ty "tuple") (u := .type "tuple") (by rfl) T.n_tuple (by decide +kernel) rfl) pa_nil))) (pe_one (pe_callB (cr_all rfl) (by rfl) T.n_all (by decide +kernel) (pa_cons (pe_lc (own := [("triple", 3)]) (g := gName 3) rfl sc_are_triples.nd (pi_tup (pv 2)) (blkOk_by (N := N_are_triples) (sc := defScope s_are_triples) (by decide +kernel)) (fun _ _ _ _ _ => (pg_name (i := 3) sc_are_triples.nd rfl (Or.inl rfl))) (fun _ _ _ _ _ => pts_nil) (fun _ _ _ _ _ => by exact (pe_call G_is_triple_of (hr.mono (by decide)) (by rfl) T.g_is_triple_of T.k_is_triple_of T.b_is_triple_of .nil pass0 (pa_cons (pv 0) (pa_cons (pv 1) (pa_cons (pv 3) pa_nil)))))) pa_nil)))))), ?_⟩
    refine ⟨_, rfl, _, _, _, _, _, rfl, .ty "tuple", tyl, kit_ty (by decide +kernel : kitB "tuple" "tuple" = some true), _, rfl, if_t rfl ?_⟩
    refine ⟨_, rfl, l, rfl, ⟨xs, hl⟩, fun D hD => ?_⟩
    refine lcR (walk_tup (xs := xs)) hD xs (ts.map fun t => (true, V.bl (tieOk ws ps t))) (by rw [List.length_map, len]) (by rw [len]; exact len_lt hz) (fun H2 e2 => ex_t e2 hl) (fun k H2 x H3 h => h) (fun _ => rfl) (fun k x b y H2 hx hr _ => ?_) (fun k x y H2 hx hr e2 => ?_) (fun H2 e2 h2 => ?_)
    · rw [List.getElem?_map] at hr
      obtain ⟨p, _, e⟩ := Option.map_eq_some_iff.mp hr
      cases e
      exact ev_true
    · rw [List.getElem?_map] at hr
      obtain ⟨t, hp, e⟩ := Option.map_eq_some_iff.mp hr
      cases e
      obtain ⟨t2, ht2, hv⟩ := paired_get2 ht hx
      obtain rfl : t = t2 := Option.some.inj (hp.symm.trans ht2)
      exact ev_call (ea_cons (ev_var rfl) (ea_cons (ev_var rfl) (ea_cons (ev_var rfl) ea_nil))) fun H3 e3 Q3 q3 _ => ⟨sh, ks, ws, d, ps, _, t, rfl, (hs.ex e2).ex e3, ex_rd (e2.trans e3) hd, (hv.ex e2).ex e3, q3 H3 (Ex.refl _)⟩
    · refine ⟨D, ts.map (tieOk ws ps), rfl, SqL.of (by rw [h2, lcR_all, List.map_map]; rfl), ?_⟩
      have e1 : (ts.map (tieOk ws ps)).all id = ts.all (tieOk ws ps) := by rw [List.all_map]; rfl
      rw [e1]
      exact q H2 e2
end
end K6
namespace K6
open PySem L2 Kd Evl Ks Kt Ky
open PySem.W (Datum DatumOrd T3)
/-- a shape stands at p -/
structure ShapeAt (C : Addr) (H : Hp) (p sh : Addr) (ps : Posts) (ts ls : List Tie) : Prop where
  at_ : ∃ dx fs po th la, H p = some (.ins C dx fs) ∧ fs.lookup ("own_sheet" : Str) = some (.ref sh) ∧ fs.lookup ("own_posts" : Str) = some (.ref po) ∧ fs.lookup ("own_there" : Str) = some (.ref th) ∧ fs.lookup ("own_lacking" : Str) = some (.ref la) ∧
    H po = some (.dK (kvP ps)) ∧ H th = some (tru (ts.map tieK)) ∧ H la = some (tru (ls.map tieK))
theorem ShapeAt.ex {C : Addr} {H H' : Hp} {p sh : Addr} {ps : Posts} {ts ls : List Tie} (h : ShapeAt C H p sh ps ts ls) (e : Ex H H') : ShapeAt C H' p sh ps ts ls := by
  obtain ⟨dx, fs, po, th, la, h1, h2, h3, h4, h5, h6, h7, h8⟩ := h.at_
  exact ⟨dx, fs, po, th, la, e _ _ h1, h2, h3, h4, h5, e _ _ h6, e _ _ h7, e _ _ h8⟩
def sortP (ps : Posts) : Posts := (srt (namesP ps)).map fun n => (n, (look ps n).getD none)
def shapeOk (ks ws : List Str) (ps : Posts) (ts ls : List Tie) : Bool := postsOk ks ps && (ts.all (tieOk ws ps) && (ls.all (tieOk ws ps) && !(ls.any fun t => decide (t ∈ ts))))
/-- the posts of the shape at p stand at a new place -/
def NewP (H H' : Hp) (p : Addr) : Prop := ∃ C dx fs po, H' p = some (.ins C dx fs) ∧ fs.lookup ("own_posts" : Str) = some (.ref po) ∧ H po = none
def spShape (K : PySem.W.Frag) (AA : Ads) : Sp := fun vs H Q E => ∃ (p dx sh d l1 l2 : Addr) (ks ws : List Str) (ps : Posts) (xs ys : List V) (ts ls : List Tie), vs = [.ref p, .ref sh, .ref d, .ref l1, .ref l2] ∧ H p = some (.ins AA.C_Shape dx []) ∧ SheetAt AA.C_Sheet H sh ks ws ∧
  H d = some (.dK (kvP ps)) ∧ shortP ps ∧ ps.length ≤ 1000 ∧ (namesP ps).Nodup ∧ SqT K H l1 xs ∧ Paired (TieV H) xs ts ∧ ts.length ≤ 1000 ∧ SqT K H l2 ys ∧ Paired (TieV H) ys ls ∧ ls.length ≤ 1000 ∧
  (shapeOk ks ws ps ts ls = true → ∀ H', ExBut p H H' → ShapeAt AA.C_Shape H' p sh (sortP ps) (once (srt ts)) (once (srt ls)) → NewP H H' p → Q .non H') ∧
  (shapeOk ks ws ps ts ls = false → ∀ H', Ex H H' → E (.ref AA.C_InvalidShape) none H')
theorem keys_P (ps : Posts) : ((kvP ps).map fun kv => kV kv.1) = (namesP ps).map V.str := by
  unfold kvP namesP
  rw [List.map_map, List.map_map]
  rfl
theorem val_names (f : Str → V) (n : Str) : ∀ l : List Str, n ∉ l → valV (l.map fun q => ((.inr q : Key), f q)) (.inr n) = none
  | [], _ => rfl
  | x :: l, h => by
    rw [List.map_cons, valV_neg (fun z => h (by rw [← Sum.inr.inj z]; exact List.mem_cons_self))]
    exact val_names f n l fun z => h (List.mem_cons_of_mem _ z)
theorem put_names (f : Str → V) {n : Str} {l : List Str} (h : n ∉ l) : putK (l.map fun q => ((.inr q : Key), f q)) (.inr n) (f n) = (l ++ [n]).map fun q => ((.inr q : Key), f q) := by
  rw [putK_new _ (val_names f n l h), List.map_append]
  rfl
theorem not_taken {l : List Str} (h : l.Nodup) {k : Nat} {n : Str} (e : l[k]? = some n) : n ∉ l.take k := fun z => by
  obtain ⟨i, hi⟩ := List.getElem?_of_mem z
  obtain ⟨hk, ek⟩ := List.getElem?_eq_some_iff.mp e
  rw [List.getElem?_take] at hi
  split at hi
  · rename_i hik
    obtain ⟨hi', ei⟩ := List.getElem?_eq_some_iff.mp hi
    have := (List.getElem_inj h).mp (ei.trans ek.symm)
    omega
  · cases hi
theorem TieV.but {H H' : Hp} {p C dx : Addr} {fs : List (Str × V)} {v : V} {t : Tie} (h : TieV H v t) (hp : H p = some (.ins C dx fs)) (e : ExBut p H H') : TieV H' v t := by
  obtain ⟨b, rfl, hb⟩ := h
  exact ⟨b, rfl, e _ _ hb (ne_of hb hp (by intro q; cases q))⟩
theorem ExBut.trans {p : Addr} {H H1 H2 : Hp} (a : ExBut p H H1) (b : ExBut p H1 H2) : ExBut p H H2 := fun c o h hc => b c o (a c o h hc) hc
theorem ExBut.of {p : Addr} {H H' : Hp} (e : Ex H H') : ExBut p H H' := fun c o h _ => e c o h
theorem ExBut.put {p : Addr} {H : Hp} {o : HO} : ExBut p H (upd H p o) := fun c u h hc => by rw [upd_ne hc]; exact h
theorem f1 : ¬ (("own_sheet" : Str) = "own_posts") := by decide +kernel
theorem f2 : ¬ (("own_sheet" : Str) = "own_there") := by decide +kernel
theorem f3 : ¬ (("own_sheet" : Str) = "own_lacking") := by decide +kernel
theorem f4 : ¬ (("own_posts" : Str) = "own_there") := by decide +kernel
theorem f5 : ¬ (("own_posts" : Str) = "own_lacking") := by decide +kernel
theorem f6 : ¬ (("own_there" : Str) = "own_lacking") := by decide +kernel
/-- the ties of a row, each once, as a dict: the reading of {triple: True for triple in sorted(list(l))} -/
theorem ties_dc {K : PySem.W.Frag} {i : Nat} {σ : L2.St} {H1 : Hp} {D : Addr} {Qd : Hp → Prop} {a : Addr} {us : List V} {ss : List Tie} (hD : H1 D = none) (ha : SqL K H1 a us) (hu : Paired (TieV H1) us ss) (hl : ss.length ≤ 1000) (hw : ∀ v, wipe ((wipe σ [i]).set i v) [i] = wipe σ [i])
    (hi : ∀ v : V, ((wipe σ [i]).set i (some v))[i]? = some (some v)) (hq : ∀ H, Ex H1 H → H D = some (tru ((once ss).map tieK)) → Qd H) :
    ∃ W : Nat → Nat → Hp → Prop, (∃ m, W 0 m (upd H1 D (.dT []))) ∧ ∀ k m H, W k m H →
      ((Itl K a).stop k H ∧ Qd H) ∨ ((Itl K a).go k H ∧ ∃ Nx : Hp → Prop, (∀ H', Nx H' → ∃ m', m' < m ∧ W (k + 1) m' H') ∧ ∀ x H', (Itl K a).yld k H x H' → gName i x (wipe σ [i]) H' fun σ2 H2 => wipe σ2 [i] = wipe σ [i] ∧ tYes σ2 H2 fun b H3 =>
        if b = true then tVar i σ2 H3 fun y H4 => tC (.bl true) σ2 H4 fun z H5 => ∃ H6, DPut H5 D y z H6 ∧ Nx H6 else Nx H3) := by
  refine dcR (walk_list (xs := us)) (tk := tVar i) (tv := tC (.bl true)) hD us (fun k => tru (once ((ss.take k).map tieK))) rfl (fun H e => ex_l e ha) (fun k H x H' h => h) hw (fun k x H hx e hd => ?_) (fun H e h => hq H e ?_)
  · obtain ⟨t, ht, b, rfl, hb⟩ := paired_get2 hu hx
    refine ⟨_, hi _, _, DPut.t hd (e _ _ hb) ?_, Ex.mut e hD, ?_⟩
    · rw [List.length_map]
      have h1 := once_len ((ss.take k).map tieK)
      rw [List.length_map, List.length_take] at h1
      exact len_lt (by omega)
    · rw [upd_same, put_tru, ← once_snoc]
      show some (tru (once ((ss.take k).map tieK ++ [tieK t]))) = _
      rw [List.take_add_one, ht, List.map_append]
      rfl
  · rw [h, List.take_of_length_le (Nat.le_of_eq (paired_len hu).symm), once_map tieK tieK_inj]
section
variable {P : Program} {w : World} {K : PySem.W.Frag} {mg : Str → Option Value} {base : Heap} {AA : Ads}
theorem ok_Shape_init (T : Txt K mg AA) : FnOk P w K mg base (L2.CX P w) 4 AA.a_Shape_init AA.d_Shape_init ["self", "sheet", "posts", "there", "lacking"] (spShape K AA) := by
  have G_require_sheet : FnOk P w K mg base CX0 1 AA.a_require_sheet AA.d_require_sheet ["sheet"] (spReq AA) := ok_require_sheet T
  have G_are_posts : FnOk P w K mg base CX0 2 AA.a_are_posts AA.d_are_posts ["sheet", "value"] (spPosts AA) := ok_are_posts T
  have G_are_triples : FnOk P w K mg base CX0 3 AA.a_are_triples AA.d_are_triples ["sheet", "names", "value"] (spTriples K AA) := ok_are_triples T
  refine T.F_Shape_init.ok (CX := L2.CX P w) sc_Shape_init (fun vs H Q E h => ?_) (fun cdv A outer s H vs Q E hr h => ?_)
  · obtain ⟨p, dx, sh, d, l1, l2, ks, ws, ps, xs, ys, ts, ls, rfl, _⟩ := h
    rfl
  · obtain ⟨p, dx, sh, d, l1, l2, ks, ws, ps, xs, ys, ts, ls, rfl, hp, hs, hd, hn, hl, nd, hl1, ht1, z1, hl2, ht2, z2, good, bad⟩ := h
    have hu : _ + 64 < cLine := hu64 hr
    have hu1 : _ + 1 < cLine := hu_of hr
    have hu0 : _ < cLine := Nat.lt_of_succ_lt hu1
    have lx : xs.length = ts.length := paired_len ht1
    have ly : ys.length = ls.length := paired_len ht2
    have ltc : ∀ {n : Nat}, n ≤ 1000 → n < sizeLine := fun h => len_lt h
    refine ⟨_, (pss_cons (ps_expr (pe_call G_require_sheet (hr.mono (by decide)) (by rfl) T.g_require_sheet T.k_require_sheet T.b_require_sheet .nil pass0 (pa_cons (pv 1) pa_nil)))
    (pss_cons (ps_if (pt_not (pt_val (pe_call G_are_posts (hr.mono (by decide)) (by rfl) T.g_are_posts T.k_are_posts T.b_are_posts .nil pass0 (pa_cons (pv 1) (pa_cons (pv 2) pa_nil))))) (pss_one (ps_raise rfl (takes_of rfl rfl rfl rfl) (pmk_own PySem.F.excBase_ValueError T.x_InvalidShape T.g_InvalidShape T.k_InvalidShape (raises_own T.s_InvalidShape T.t_InvalidShape) (by rfl)))) pss_nil)
    (pss_cons (ps_if (pw_or (pt_not (pt_val (pe_call G_are_triples (hr.mono (by decide)) (by rfl) T.g_are_triples T.k_are_triples T.b_are_triples .nil pass0 (pa_cons (pv 1) (pa_cons (pv 2) (pa_cons (pv 3) pa_nil)))))) (pw_or1 (pt_not (pt_val (pe_call G_are_triples (hr.mono (by decide)) (by rfl) T.g_are_triples T.k_are_triples T.b_are_triples .nil pass0 (pa_cons (pv 1) (pa_cons (pv 2) (pa_cons (pv 4) pa_nil)))))))).pt (pss_one (ps_raise rfl (takes_of rfl rfl rfl rfl) (pmk_own PySem.F.excBase_ValueError T.x_InvalidShape T.g_InvalidShape T.k_InvalidShape (raises_own T.s_InvalidShape T.t_InvalidShape) (by rfl)))) pss_nil)
    (pss_cons (ps_if (pt_val (pe_callB (cr_any rfl) (by rfl) T.n_any (by decide +kernel) (pa_cons (pe_lc (own := [("triple", 6)]) (g := gName 6) rfl sc_Shape_init.nd  (pi_tup (pv 4)) (blkOk_by (N := N_Shape_init) (sc := defScope s_Shape_init) (by decide +kernel)) (fun _ _ _ _ _ => (pg_name (i := 6) sc_Shape_init.nd rfl (Or.inl rfl))) (fun _ _ _ _ _ => pts_nil) (fun _ _ _ _ _ => by exact (pe_cmpR (op_inP (K := K) rfl hu) (pv 6) (pv 3) rfl))) pa_nil))) (pss_one (ps_raise rfl (takes_of rfl rfl rfl rfl) (pmk_own PySem.F.excBase_ValueError T.x_InvalidShape T.g_InvalidShape T.k_InvalidShape (raises_own T.s_InvalidShape T.t_InvalidShape) (by rfl)))) pss_nil)
    (pss_cons (ps_fld (pv 0) (pv 1) rfl)
    (pss_cons (ps_fld (pv 0) (pe_dcP (o0 := .dK []) (.inl rfl) hu0 (own := [("name", 5)]) (g := gName 5) rfl sc_Shape_init.nd  (pi_list (pe_callB (cr_sortD (K := K) rfl hu) (by rfl) T.n_sorted (by decide +kernel) (pa_cons (pe_callTy (call_listD rfl) (by rfl) T.n_list (by decide +kernel) (pa_cons (pv 2) pa_nil)) pa_nil))) (blkOk_by (N := N_Shape_init) (sc := defScope s_Shape_init) (by decide +kernel)) (fun _ _ _ _ _ => (pg_name (i := 5) sc_Shape_init.nd rfl (Or.inl rfl))) (fun _ _ _ _ _ => pts_nil) (fun _ _ _ _ _ => by exact (pv 5)) (fun _ _ _ _ _ => by exact ((pe_dget hu1) (pv 2) (pv 5) (fun _ _ => rfl)))) rfl)
    (pss_cons (ps_fld (pv 0) (pe_dcP (o0 := .dT []) (.inr rfl) hu0 (own := [("triple", 6)]) (g := gName 6) rfl sc_Shape_init.nd  (pi_list (pe_callB (cr_sortD (K := K) rfl hu) (by rfl) T.n_sorted (by decide +kernel) (pa_cons (pe_callTy call_list_of (by rfl) T.n_list (by decide +kernel) (pa_cons (pv 3) pa_nil)) pa_nil))) (blkOk_by (N := N_Shape_init) (sc := defScope s_Shape_init) (by decide +kernel)) (fun _ _ _ _ _ => (pg_name (i := 6) sc_Shape_init.nd rfl (Or.inl rfl))) (fun _ _ _ _ _ => pts_nil) (fun _ _ _ _ _ => by exact (pv 6)) (fun _ _ _ _ _ => by exact pe_bl)) rfl)
    (pss_one (ps_fld (pv 0) (pe_dcP (o0 := .dT []) (.inr rfl) hu0 (own := [("triple", 6)]) (g := gName 6) rfl sc_Shape_init.nd  (pi_list (pe_callB (cr_sortD (K := K) rfl hu) (by rfl) T.n_sorted (by decide +kernel) (pa_cons (pe_callTy call_list_of (by rfl) T.n_list (by decide +kernel) (pa_cons (pv 4) pa_nil)) pa_nil))) (blkOk_by (N := N_Shape_init) (sc := defScope s_Shape_init) (by decide +kernel)) (fun _ _ _ _ _ => (pg_name (i := 6) sc_Shape_init.nd rfl (Or.inl rfl))) (fun _ _ _ _ _ => pts_nil) (fun _ _ _ _ _ => by exact (pv 6)) (fun _ _ _ _ _ => by exact pe_bl)) rfl))))))))), ?_⟩
    refine ⟨_, rfl, sh, ks, ws, rfl, hs, ?_⟩
    refine ⟨_, rfl, _, rfl, sh, ks, ws, d, ps, rfl, hs, hd, hn, hl, fun H1 e1 => ⟨_, rfl, ?_⟩⟩
    cases c1 : postsOk ks ps with
    | false =>
      refine if_t rfl ?_
      exact bad (by unfold shapeOk; rw [c1]; rfl) H1 e1
    | true =>
      refine if_f rfl ?_
      refine ⟨_, rfl, _, rfl, _, rfl, sh, ks, ws, d, ps, l1, xs, ts, rfl, hs.ex e1, .inl (e1 _ _ hd), ex_t e1 hl1, ties_ex ht1 e1, z1, fun H2 e2 => ⟨_, rfl, ?_⟩⟩
      have e02 := e1.trans e2
      cases c2 : ts.all (tieOk ws ps) with
      | false =>
        refine if_t rfl (if_t rfl ?_)
        exact bad (by unfold shapeOk; rw [c1, c2]; rfl) H2 e02
      | true =>
        refine if_f rfl ?_
        refine ⟨_, rfl, _, rfl, _, rfl, sh, ks, ws, d, ps, l2, ys, ls, rfl, hs.ex e02, .inl (e02 _ _ hd), ex_t e02 hl2, ties_ex ht2 e02, z2, fun H3 e3 => ⟨_, rfl, ?_⟩⟩
        have e03 := e02.trans e3
        cases c3 : ls.all (tieOk ws ps) with
        | false =>
          refine if_t rfl ?_
          exact bad (by unfold shapeOk; rw [c1, c2, c3]; rfl) H3 e03
        | true =>
          refine if_f rfl ?_
          refine ⟨_, rfl, l2, rfl, ⟨ys, ex_t e03 hl2⟩, fun D hD => ?_⟩
          refine lcR (walk_tup (xs := ys)) hD ys (ls.map fun t => (true, V.bl (decide (t ∈ ts)))) (by rw [List.length_map, ly]) (by rw [ly]; exact ltc z2) (fun H4 e4 => ex_t (e03.trans e4) hl2) (fun k H4 x H5 h => h) (fun _ => rfl) (fun k x b y H4 hx hr _ => ?_) (fun k x y H4 hx hr e4 => ?_) (fun H4 e4 h4 => ?_)
          · rw [List.getElem?_map] at hr
            obtain ⟨t, _, e⟩ := Option.map_eq_some_iff.mp hr
            cases e
            exact ev_true
          · rw [List.getElem?_map] at hr
            obtain ⟨t, hp1, e⟩ := Option.map_eq_some_iff.mp hr
            cases e
            obtain ⟨t2, hp2, hv⟩ := paired_get2 ht2 hx
            obtain rfl : t = t2 := Option.some.inj (hp1.symm.trans hp2)
            intro H5 e5 Q5 q5
            have e05 := (e03.trans e4).trans e5
            refine ⟨_, rfl, _, rfl, inTP (hv.ex e05).hd (ex_t e05 hl1) (ties_hd (ties_ex ht1 e05)) ?_⟩
            exact q5 H5 (Ex.refl _)
          · refine ⟨D, ls.map fun t => decide (t ∈ ts), rfl, SqL.of (by rw [h4, lcR_all, List.map_map]; rfl), _, rfl, ?_⟩
            have e1' : (ls.map fun t => decide (t ∈ ts)).any id = ls.any fun t => decide (t ∈ ts) := by rw [List.any_map]; rfl
            rw [e1']
            have e04 := e03.trans e4
            cases c4 : ls.any fun t => decide (t ∈ ts) with
            | true =>
              refine if_t rfl ?_
              exact bad (by unfold shapeOk; rw [c1, c2, c3, c4]; rfl) H4 e04
            | false =>
              refine if_f rfl ?_
              have ok : shapeOk ks ws ps ts ls = true := by unfold shapeOk; rw [c1, c2, c3, c4]; rfl
              have hp4 := e04 _ _ hp
              refine ⟨_, rfl, _, rfl, p, AA.C_Shape, dx, [], rfl, hp4, T.cl_Shape, T.n_Shape_own_sheet, (by show 0 < 1000; decide), ?_⟩
              have b5 : ExBut p H4 (upd H4 p (.ins AA.C_Shape dx (putF "own_sheet" (.ref sh) []))) := ExBut.put
              have hp5 : upd H4 p (.ins AA.C_Shape dx (putF "own_sheet" (.ref sh) [])) p = some (.ins AA.C_Shape dx (putF "own_sheet" (.ref sh) [])) := upd_same
              generalize upd H4 p (.ins AA.C_Shape dx (putF "own_sheet" (.ref sh) [])) = H5 at b5 hp5 ⊢
              have b05 : ExBut p H H5 := (ExBut.of e04).trans b5
              have hd5 := b05 _ _ hd (ne_of hd hp (by intro q; cases q))
              refine ⟨_, rfl, d, _, rfl, .inl hd5, fun q1 hq1 => sortedP (α := Str) (xs := namesP ps) (SqL.of upd_same) (by rw [keys_P]; exact hdL_strs _) fun us1 s1 hu1' pm1 hs1 => ?_⟩
              rw [hu1'.strs]
              have x1 : Ex H5 (upd H5 q1 (.lst ((kvP ps).map fun kv => kV kv.1))) := Ex.new hq1
              generalize upd H5 q1 (.lst ((kvP ps).map fun kv => kV kv.1)) = H6 at x1 hs1 ⊢
              have x2 : Ex H5 (upd H6 s1 (.lst ((srt (namesP ps)).map V.str))) := x1.trans (Ex.new hs1)
              have hs1' : upd H6 s1 (.lst ((srt (namesP ps)).map V.str)) s1 = some (.lst ((srt (namesP ps)).map V.str)) := upd_same
              generalize upd H6 s1 (.lst ((srt (namesP ps)).map V.str)) = H7 at x2 hs1' ⊢
              refine ⟨s1, rfl, ⟨_, SqL.of hs1'⟩, fun D1 hD1 => ?_⟩
              have nds : (srt (namesP ps)).Nodup := (srt_perm _).nodup_iff.mpr nd
              have lsr : (srt (namesP ps)).length = ps.length := by rw [(srt_perm _).length_eq]; exact List.length_map ..
              refine dcR (walk_list (xs := (srt (namesP ps)).map V.str)) hD1 ((srt (namesP ps)).map V.str) (fun k => .dK (((srt (namesP ps)).take k).map fun q => ((.inr q : Key), ov ((look ps q).getD none)))) rfl (fun H8 e8 => SqL.of (e8 _ _ hs1')) (fun k H8 x H9 h => h) (fun _ => rfl) (fun k x H8 hx e8 h8 => ?_) (fun H8 e8 h8 => ?_)
              · rw [List.getElem?_map] at hx
                obtain ⟨n, hn1, rfl⟩ := Option.map_eq_some_iff.mp hx
                have hm : n ∈ namesP ps := (srt_perm _).mem_iff.mp (List.mem_of_getElem? hn1)
                have hlk : (look ps n).isSome = true := by rw [look_some]; exact decide_eq_true hm
                obtain ⟨o, ho⟩ := Option.isSome_iff_exists.mp hlk
                refine ⟨_, rfl, _, rfl, _, rfl, d, ov o, rfl, .inl ⟨_, .inr n, .inl (e8 _ _ (x2 _ _ hd5)), rfl, by rw [val_kvP, ho]; rfl⟩, _, DPut.k (k := .inr n) h8 ?_, Ex.mut e8 hD1, ?_⟩
                · rw [List.length_map, List.length_take]
                  exact ltc (by omega)
                · rw [upd_same]
                  have ef : ov o = (fun q => ov ((look ps q).getD none)) n := by show ov o = ov ((look ps n).getD none); rw [ho]; rfl
                  rw [ef, put_names (fun q => ov ((look ps q).getD none)) (not_taken nds hn1), List.take_add_one, hn1]
                  rfl
              · have hf8 : H8 D1 = some (.dK (kvP (sortP ps))) := by
                  rw [h8, List.take_of_length_le (by rw [List.length_map]; exact Nat.le_refl _)]
                  unfold kvP sortP
                  rw [List.map_map]
                  rfl
                have x8 : Ex H5 H8 := x2.trans e8
                have hp8 := x8 _ _ hp5
                refine ⟨_, rfl, p, AA.C_Shape, dx, _, rfl, hp8, T.cl_Shape, T.n_Shape_own_posts, (by show 1 < 1000; decide), ?_⟩
                have np1 : D1 ≠ p := fun z => by rw [z, x2 _ _ hp5] at hD1; cases hD1
                have b9 : ExBut p H8 (upd H8 p (.ins AA.C_Shape dx (putF "own_posts" (.ref D1) (putF "own_sheet" (.ref sh) [])))) := ExBut.put
                have hp9 : upd H8 p (.ins AA.C_Shape dx (putF "own_posts" (.ref D1) (putF "own_sheet" (.ref sh) []))) p = some (.ins AA.C_Shape dx (putF "own_posts" (.ref D1) (putF "own_sheet" (.ref sh) []))) := upd_same
                generalize upd H8 p (.ins AA.C_Shape dx (putF "own_posts" (.ref D1) (putF "own_sheet" (.ref sh) []))) = H9 at b9 hp9 ⊢
                have b09 : ExBut p H H9 := (b05.trans (ExBut.of x8)).trans b9
                have hf9 := b9 _ _ hf8 np1
                have hl19 := sqT_but hl1 hp b09
                have ht19 : Paired (TieV H9) xs ts := paired_imp (fun _ _ z => z.but hp b09) ht1
                refine ⟨_, rfl, l1, _, rfl, .inr hl19, fun q2 hq2 => sortedR (α := Tie) (xs := ts) (R := TieV H9) (SqL.of upd_same) (ties_hd (ties_ex ht19 (Ex.new hq2))) ht19 fun us2 s2 hu2 pm2 hs2 => ?_⟩
                have x3 : Ex H9 (upd H9 q2 (.lst xs)) := Ex.new hq2
                generalize upd H9 q2 (.lst xs) = H10 at x3 hs2 ⊢
                have x4 : Ex H9 (upd H10 s2 (.lst us2)) := x3.trans (Ex.new hs2)
                have hs2' : upd H10 s2 (.lst us2) s2 = some (.lst us2) := upd_same
                generalize upd H10 s2 (.lst us2) = H11 at x4 hs2' ⊢
                refine ⟨s2, rfl, ⟨_, SqL.of hs2'⟩, fun D2 hD2 => ?_⟩
                refine ties_dc hD2 (SqL.of hs2') (ties_ex hu2 x4) (by rw [(srt_perm ts).length_eq]; exact z1) (fun _ => rfl) (fun _ => rfl) fun H12 e12 h12 => ?_
                have x12 : Ex H9 H12 := x4.trans e12
                have hp12 := x12 _ _ hp9
                refine ⟨_, rfl, p, AA.C_Shape, dx, _, rfl, hp12, T.cl_Shape, T.n_Shape_own_there, (by show 2 < 1000; decide), ?_⟩
                have np2 : D2 ≠ p := fun z => by rw [z, x4 _ _ hp9] at hD2; cases hD2
                have b13 : ExBut p H12 (upd H12 p (.ins AA.C_Shape dx (putF "own_there" (.ref D2) (putF "own_posts" (.ref D1) (putF "own_sheet" (.ref sh) []))))) := ExBut.put
                have hp13 : upd H12 p (.ins AA.C_Shape dx (putF "own_there" (.ref D2) (putF "own_posts" (.ref D1) (putF "own_sheet" (.ref sh) [])))) p = some (.ins AA.C_Shape dx (putF "own_there" (.ref D2) (putF "own_posts" (.ref D1) (putF "own_sheet" (.ref sh) [])))) := upd_same
                generalize upd H12 p (.ins AA.C_Shape dx (putF "own_there" (.ref D2) (putF "own_posts" (.ref D1) (putF "own_sheet" (.ref sh) [])))) = H13 at b13 hp13 ⊢
                have b013 : ExBut p H H13 := (b09.trans (ExBut.of x12)).trans b13
                have hf13 := b13 _ _ (x12 _ _ hf9) np1
                have hg13 := b13 _ _ h12 np2
                have hl213 := sqT_but hl2 hp b013
                have ht213 : Paired (TieV H13) ys ls := paired_imp (fun _ _ z => z.but hp b013) ht2
                refine ⟨_, rfl, l2, _, rfl, .inr hl213, fun q3 hq3 => sortedR (α := Tie) (xs := ls) (R := TieV H13) (SqL.of upd_same) (ties_hd (ties_ex ht213 (Ex.new hq3))) ht213 fun us3 s3 hu3 pm3 hs3 => ?_⟩
                have x5 : Ex H13 (upd H13 q3 (.lst ys)) := Ex.new hq3
                generalize upd H13 q3 (.lst ys) = H14 at x5 hs3 ⊢
                have x6 : Ex H13 (upd H14 s3 (.lst us3)) := x5.trans (Ex.new hs3)
                have hs3' : upd H14 s3 (.lst us3) s3 = some (.lst us3) := upd_same
                generalize upd H14 s3 (.lst us3) = H15 at x6 hs3' ⊢
                refine ⟨s3, rfl, ⟨_, SqL.of hs3'⟩, fun D3 hD3 => ?_⟩
                refine ties_dc hD3 (SqL.of hs3') (ties_ex hu3 x6) (by rw [(srt_perm ls).length_eq]; exact z2) (fun _ => rfl) (fun _ => rfl) fun H16 e16 h16 => ?_
                have x16 : Ex H13 H16 := x6.trans e16
                refine ⟨_, rfl, p, AA.C_Shape, dx, _, rfl, x16 _ _ hp13, T.cl_Shape, T.n_Shape_own_lacking, (by show 3 < 1000; decide), ?_⟩
                have np3 : D3 ≠ p := fun z => by rw [z, x6 _ _ hp13] at hD3; cases hD3
                have nD1 : H D1 = none := by
                  cases c : H D1 with
                  | none => rfl
                  | some o => rw [x2 _ _ (b05 _ _ c np1)] at hD1; cases hD1
                refine good ok _ ((b013.trans (ExBut.of x16)).trans ExBut.put) ⟨dx, _, D1, D2, D3, upd_same, ?_, ?_, ?_, ?_, ?_, ?_, ?_⟩ ⟨_, dx, _, D1, upd_same, (by rw [lookup_putF, if_neg f5, lookup_putF, if_neg f4, lookup_putF, if_pos rfl]), nD1⟩
                · rw [lookup_putF, if_neg f3, lookup_putF, if_neg f2, lookup_putF, if_neg f1, lookup_putF, if_pos rfl]
                · rw [lookup_putF, if_neg f5, lookup_putF, if_neg f4, lookup_putF, if_pos rfl]
                · rw [lookup_putF, if_neg f6, lookup_putF, if_pos rfl]
                · rw [lookup_putF, if_pos rfl]
                · rw [upd_ne np1]; exact x16 _ _ hf13
                · rw [upd_ne np2]; exact x16 _ _ hg13
                · rw [upd_ne np3]; exact h16
end
end K6
namespace K6
open PySem L2 Kd Evl Ks Kt Ky
open PySem.W (Datum DatumOrd T3)
section
variable {P : Program} {w : World} {K : PySem.W.Frag} {mg : Str → Option Value} {base : Heap} {AA : Ads}
theorem ok_Shape_sheet (T : Txt K mg AA) : FnOk P w K mg base CX0 1 AA.a_Shape_sheet AA.d_Shape_sheet ["self"] (getSp AA.C_Shape "own_sheet") := by
  refine T.F_Shape_sheet.ok sc_Shape_sheet (fun vs H Q E h => ?_) (fun cdv A outer s H vs Q E hr h => ?_)
  · obtain ⟨a, dx, fs, v, rfl, _⟩ := h
    rfl
  · obtain ⟨a, dx, fs, v, rfl, ha, hf, q⟩ := h
    exact ⟨_, (pss_one (ps_ret (pe_fld (pv 0) rfl))), _, rfl, a, _, dx, fs, v, rfl, ha, T.cl_Shape, T.n_Shape_own_sheet, hf, q⟩
def spPostsOf (AA : Ads) : Sp := fun vs H Q _ => ∃ p sh ps ts ls, vs = [.ref p] ∧ ShapeAt AA.C_Shape H p sh ps ts ls ∧ ∀ q, H q = none → Q (.ref q) (upd H q (.dK (kvP ps)))
theorem ok_Shape_posts (T : Txt K mg AA) : FnOk P w K mg base CX0 1 AA.a_Shape_posts AA.d_Shape_posts ["self"] (spPostsOf AA) := by
  refine T.F_Shape_posts.ok sc_Shape_posts (fun vs H Q E h => ?_) (fun cdv A outer s H vs Q E hr h => ?_)
  · obtain ⟨p, sh, ps, ts, ls, rfl, _⟩ := h
    rfl
  · obtain ⟨p, sh, ps, ts, ls, rfl, hs, q⟩ := h
    obtain ⟨dx, fs, po, th, la, h1, h2, h3, h4, h5, h6, h7, h8⟩ := hs.at_
    exact ⟨_, (pss_one (ps_ret (pe_callTy call_dictD (by rfl) T.n_dict (by decide +kernel) (pa_cons (pe_fld (pv 0) rfl) pa_nil)))), _, rfl, p, _, dx, fs, _, rfl, h1, T.cl_Shape, T.n_Shape_own_posts, h3, po, _, rfl, .inl h6, q⟩
def spTiesOf (g : List Tie → List Tie → List Tie) (AA : Ads) : Sp := fun vs H Q _ => ∃ p sh ps ts ls, vs = [.ref p] ∧ ShapeAt AA.C_Shape H p sh ps ts ls ∧ ∀ q xs H', Ex H H' → H' q = some (.tup xs) → Paired (TieV H') xs (g ts ls) → Q (.ref q) H'
theorem keys_ties {H : Hp} : ∀ {ts : List Tie} {bs : List Addr}, IsKeys H ((ts.map tieK).map fun k => (k, V.bl true)) bs → Paired (TieV H) (bs.map V.ref) ts
  | [], _, h => by cases h; exact .nil
  | t :: ts, _, h => by cases h with | cons h1 h2 => exact .cons ⟨_, rfl, h1⟩ (keys_ties h2)
theorem ok_Shape_there (T : Txt K mg AA) : FnOk P w K mg base CX0 1 AA.a_Shape_there AA.d_Shape_there ["self"] (spTiesOf (fun ts _ => ts) AA) := by
  refine T.F_Shape_there.ok sc_Shape_there (fun vs H Q E h => ?_) (fun cdv A outer s H vs Q E hr h => ?_)
  · obtain ⟨p, sh, ps, ts, ls, rfl, _⟩ := h
    rfl
  · obtain ⟨p, sh, ps, ts, ls, rfl, hs, q⟩ := h
    obtain ⟨dx, fs, po, th, la, h1, h2, h3, h4, h5, h6, h7, h8⟩ := hs.at_
    refine ⟨_, (pss_one (ps_ret (pe_callTy call_tuple_of (by rfl) T.n_tuple (by decide +kernel) (pa_cons (pe_callTy (call_list_dT rfl) (by rfl) T.n_list (by decide +kernel) (pa_cons (pe_fld (pv 0) rfl) pa_nil)) pa_nil)))), _, rfl, p, _, dx, fs, _, rfl, h1, T.cl_Shape, T.n_Shape_own_there, h4, th, _, rfl, .inl h7, fun l bs hl kb => ⟨l, _, rfl, .inl ⟨SqL.of upd_same, fun l2 hl2 => ?_⟩⟩⟩
    have e := (Ex.new (o := .lst (bs.map V.ref)) hl).trans (Ex.new (o := .tup (bs.map V.ref)) hl2)
    exact q l2 _ _ e upd_same (ties_ex (keys_ties kb) e)
theorem ok_Shape_lacking (T : Txt K mg AA) : FnOk P w K mg base CX0 1 AA.a_Shape_lacking AA.d_Shape_lacking ["self"] (spTiesOf (fun _ ls => ls) AA) := by
  refine T.F_Shape_lacking.ok sc_Shape_lacking (fun vs H Q E h => ?_) (fun cdv A outer s H vs Q E hr h => ?_)
  · obtain ⟨p, sh, ps, ts, ls, rfl, _⟩ := h
    rfl
  · obtain ⟨p, sh, ps, ts, ls, rfl, hs, q⟩ := h
    obtain ⟨dx, fs, po, th, la, h1, h2, h3, h4, h5, h6, h7, h8⟩ := hs.at_
    refine ⟨_, (pss_one (ps_ret (pe_callTy call_tuple_of (by rfl) T.n_tuple (by decide +kernel) (pa_cons (pe_callTy (call_list_dT rfl) (by rfl) T.n_list (by decide +kernel) (pa_cons (pe_fld (pv 0) rfl) pa_nil)) pa_nil)))), _, rfl, p, _, dx, fs, _, rfl, h1, T.cl_Shape, T.n_Shape_own_lacking, h5, la, _, rfl, .inl h8, fun l bs hl kb => ⟨l, _, rfl, .inl ⟨SqL.of upd_same, fun l2 hl2 => ?_⟩⟩⟩
    have e := (Ex.new (o := .lst (bs.map V.ref)) hl).trans (Ex.new (o := .tup (bs.map V.ref)) hl2)
    exact q l2 _ _ e upd_same (ties_ex (keys_ties kb) e)
def spNamesOf (AA : Ads) : Sp := fun vs H Q _ => ∃ p sh ps ts ls, vs = [.ref p] ∧ ShapeAt AA.C_Shape H p sh ps ts ls ∧ ∀ q H', Ex H H' → H' q = some (.tup ((namesP ps).map V.str)) → Q (.ref q) H'
theorem ok_Shape_names (T : Txt K mg AA) : FnOk P w K mg base CX0 1 AA.a_Shape_names AA.d_Shape_names ["self"] (spNamesOf AA) := by
  refine T.F_Shape_names.ok sc_Shape_names (fun vs H Q E h => ?_) (fun cdv A outer s H vs Q E hr h => ?_)
  · obtain ⟨p, sh, ps, ts, ls, rfl, _⟩ := h
    rfl
  · obtain ⟨p, sh, ps, ts, ls, rfl, hs, q⟩ := h
    obtain ⟨dx, fs, po, th, la, h1, h2, h3, h4, h5, h6, h7, h8⟩ := hs.at_
    refine ⟨_, (pss_one (ps_ret (pe_callTy call_tuple_of (by rfl) T.n_tuple (by decide +kernel) (pa_cons (pe_callTy (call_listD rfl) (by rfl) T.n_list (by decide +kernel) (pa_cons (pe_fld (pv 0) rfl) pa_nil)) pa_nil)))), _, rfl, p, _, dx, fs, _, rfl, h1, T.cl_Shape, T.n_Shape_own_posts, h3, po, _, rfl, .inl h6, fun l hl => ⟨l, _, rfl, .inl ⟨SqL.of upd_same, fun l2 hl2 => ?_⟩⟩⟩
    rw [keys_P]
    rw [keys_P] at hl2
    exact q l2 _ ((Ex.new hl).trans (Ex.new hl2)) upd_same
def sureP (ps : Posts) : Bool := ps.all fun p => p.2.isSome
def spSure (AA : Ads) : Sp := fun vs H Q _ => ∃ p sh ps ts ls, vs = [.ref p] ∧ ShapeAt AA.C_Shape H p sh ps ts ls ∧ ps.length ≤ 1000 ∧ ∀ H', Ex H H' → Q (.bl (sureP ps)) H'
theorem ok_is_sure_in (T : Txt K mg AA) : FnOk P w K mg base CX0 1 AA.a_is_sure_in AA.d_is_sure_in ["shape"] (spSure AA) := by
  refine T.F_is_sure_in.ok sc_is_sure_in (fun vs H Q E h => ?_) (fun cdv A outer s H vs Q E hr h => ?_)
  · obtain ⟨p, sh, ps, ts, ls, rfl, _⟩ := h
    rfl
  · obtain ⟨p, sh, ps, ts, ls, rfl, hs, hl, q⟩ := h
    obtain ⟨dx, fs, po, th, la, h1, h2, h3, h4, h5, h6, h7, h8⟩ := hs.at_
    refine ⟨_, (pss_one (ps_ret (pe_lock (pe_callB (cr_all rfl) (by rfl) T.n_all (by decide +kernel) (pa_cons (pe_lc (own := [("kind", 1)]) (g := gName 1) rfl sc_is_sure_in.nd (pi_values (pe_fld (pv 0) rfl)) (blkOk_by (N := N_is_sure_in) (sc := defScope s_is_sure_in) (by decide +kernel)) (fun _ _ _ _ _ => (pg_name (i := 1) sc_is_sure_in.nd rfl (Or.inl rfl))) (fun _ _ _ _ _ => pts_nil) (fun _ _ _ _ _ => by exact (pe_cmpR op_notN (pv 1) pe_non (nomark _)))) pa_nil))))), ?_⟩
    refine ⟨po, _, h6, trivial, fun oe => ⟨_, rfl, p, _, dx, fs, _, rfl, lock_at h6 h1 (fun _ z => by cases z), T.cl_Shape, T.n_Shape_own_posts, h3, po, oe, _, rfl, upd_same, fun D hD => ?_⟩⟩
    generalize hG : upd H po (.frz oe (.dK (kvP ps))) = G at *
    have hGd : G po = some (.frz oe (.dK (kvP ps))) := by rw [← hG]; exact upd_same
    refine lcR walk_values hD ((kvP ps).map fun kv => kv.2) (ps.map fun p => (true, V.bl p.2.isSome)) (by rw [List.length_map, kvP_len]) (by rw [kvP_len]; exact len_lt hl) (fun H4 e4 => e4 _ _ hGd) (fun k H4 x H5 ⟨e1, q1, h1⟩ => ⟨e1, by rw [List.getElem?_map, h1]; rfl⟩) (fun _ => rfl) (fun k x b y H4 hx hr _ => ?_) (fun k x y H4 hx hr e4 => ?_) (fun H4 e4 h4 => ?_)
    · rw [List.getElem?_map] at hr
      obtain ⟨p, _, e⟩ := Option.map_eq_some_iff.mp hr
      cases e
      exact ev_true
    · rw [List.getElem?_map] at hr hx
      obtain ⟨p, hp, e⟩ := Option.map_eq_some_iff.mp hr
      obtain ⟨⟨k1, v1⟩, hp2, e3⟩ := Option.map_eq_some_iff.mp hx
      obtain ⟨p2, hp3, rfl, rfl⟩ := kvP_at hp2
      obtain rfl : p = p2 := Option.some.inj (hp.symm.trans hp3)
      cases e
      subst e3
      intro H5 e5 Q5 q5
      refine ⟨_, rfl, rfl, ?_⟩
      have e6 : (!decide (ov p.2 = V.non)) = p.2.isSome := by cases p.2 <;> rfl
      show Q5 (V.bl (!decide (ov p.2 = V.non))) H5
      rw [e6]
      exact q5 H5 (Ex.refl _)
    · refine ⟨D, ps.map fun p => p.2.isSome, rfl, SqL.of (by rw [h4, lcR_all, List.map_map]; rfl), e4 _ _ hGd, ?_⟩
      have e1 : (ps.map fun p => p.2.isSome).all id = sureP ps := by rw [List.all_map]; rfl
      rw [e1]
      exact q _ (ex_unlock h6 (by rw [hG]; exact e4))
theorem ok_Shape_is_sure (T : Txt K mg AA) : FnOk P w K mg base CX0 2 AA.a_Shape_is_sure AA.d_Shape_is_sure ["self"] (spSure AA) := by
  have G_is_sure_in : FnOk P w K mg base CX0 1 AA.a_is_sure_in AA.d_is_sure_in ["shape"] (spSure AA) := ok_is_sure_in T
  refine T.F_Shape_is_sure.ok sc_Shape_is_sure (fun vs H Q E h => ?_) (fun cdv A outer s H vs Q E hr h => ?_)
  · obtain ⟨p, sh, ps, ts, ls, rfl, _⟩ := h
    rfl
  · obtain ⟨p, sh, ps, ts, ls, rfl, hs, hl, q⟩ := h
    exact ⟨_, (pss_one (ps_ret (pe_call G_is_sure_in (hr.mono (by decide)) (by rfl) T.g_is_sure_in T.k_is_sure_in T.b_is_sure_in .nil pass0 (pa_cons (pv 0) pa_nil)))), _, rfl, p, sh, ps, ts, ls, rfl, hs, hl, q⟩
def spLenP (AA : Ads) : Sp := fun vs H Q _ => ∃ p sh ps ts ls, vs = [.ref p] ∧ ShapeAt AA.C_Shape H p sh ps ts ls ∧ Q (.int (ps.length : Nat)) H
theorem ok_Shape_len (T : Txt K mg AA) : FnOk P w K mg base CX0 1 AA.a_Shape_len AA.d_Shape_len ["self"] (spLenP AA) := by
  refine T.F_Shape_len.ok sc_Shape_len (fun vs H Q E h => ?_) (fun cdv A outer s H vs Q E hr h => ?_)
  · obtain ⟨p, sh, ps, ts, ls, rfl, _⟩ := h
    rfl
  · obtain ⟨p, sh, ps, ts, ls, rfl, hs, q⟩ := h
    obtain ⟨dx, fs, po, th, la, h1, h2, h3, h4, h5, h6, h7, h8⟩ := hs.at_
    exact ⟨_, (pss_one (ps_ret (pe_callB call_lenD (by rfl) T.n_len (by decide +kernel) (pa_cons (pe_fld (pv 0) rfl) pa_nil)))), _, rfl, p, _, dx, fs, _, rfl, h1, T.cl_Shape, T.n_Shape_own_posts, h3, po, _, rfl, h6, by rw [kvP_len]; exact q⟩
/-- the texts of the numbers up to 40 are short -/
theorem numS_ok : ∀ n : Nat, n < 41 → (numS n).length ≤ 2 ∧ ((n : Int)).natAbs.log2 < 1920 := by decide +kernel
def shapeStr (n m l : Nat) : Str := ((((((Str.empty ++ ("shape of " : Str)) ++ numS n) ++ (" posts, " : Str)) ++ numS m) ++ (" there, " : Str)) ++ numS l) ++ (" lacking" : Str)
def spStrP (AA : Ads) : Sp := fun vs H Q _ => ∃ p sh ps ts ls, vs = [.ref p] ∧ ShapeAt AA.C_Shape H p sh ps ts ls ∧ ps.length ≤ 40 ∧ ts.length ≤ 40 ∧ ls.length ≤ 40 ∧ Q (.str (shapeStr ps.length ts.length ls.length)) H
theorem ok_Shape_str (T : Txt K mg AA) : FnOk P w K mg base CX0 1 AA.a_Shape_str AA.d_Shape_str ["self"] (spStrP AA) := by
  refine T.F_Shape_str.ok sc_Shape_str (fun vs H Q E h => ?_) (fun cdv A outer s H vs Q E hr h => ?_)
  · obtain ⟨p, sh, ps, ts, ls, rfl, _⟩ := h
    rfl
  · obtain ⟨p, sh, ps, ts, ls, rfl, hs, lp, lt, ll, q⟩ := h
    obtain ⟨dx, fs, po, th, la, h1, h2, h3, h4, h5, h6, h7, h8⟩ := hs.at_
    obtain ⟨n1, g1⟩ := numS_ok ps.length (by omega)
    obtain ⟨n2, g2⟩ := numS_ok ts.length (by omega)
    obtain ⟨n3, g3⟩ := numS_ok ls.length (by omega)
    refine ⟨_, (pss_one (ps_ret (pe_joined (.cons pe_str (.cons (pe_fmt (pe_callB call_lenD (by rfl) T.n_len (by decide +kernel) (pa_cons (pe_fld (pv 0) rfl) pa_nil))) (.cons pe_str (.cons (pe_fmt (pe_callB call_len_dT (by rfl) T.n_len (by decide +kernel) (pa_cons (pe_fld (pv 0) rfl) pa_nil))) (.cons pe_str (.cons (pe_fmt (pe_callB call_len_dT (by rfl) T.n_len (by decide +kernel) (pa_cons (pe_fld (pv 0) rfl) pa_nil))) (.cons pe_str .nil)))))))))), ?_⟩
    have z1 : (Str.empty ++ ("shape of " : Str)).length = 9 := by decide +kernel
    have z2 : ((" posts, " : Str)).length = 8 := by decide +kernel
    have z3 : ((" there, " : Str)).length = 8 := by decide +kernel
    have z4 : ((" lacking" : Str)).length = 8 := by decide +kernel
    have line : (100 : Nat) ≤ sizeLine := by decide
    have t1 : ((ts.map tieK).map fun k => (k, V.bl true)).length = ts.length := by rw [List.length_map, List.length_map]
    have t2 : ((ls.map tieK).map fun k => (k, V.bl true)).length = ls.length := by rw [List.length_map, List.length_map]
    refine ⟨_, rfl, by rw [z1]; omega, _, rfl, p, _, dx, fs, _, rfl, h1, T.cl_Shape, T.n_Shape_own_posts, h3, po, _, rfl, h6, .inr ⟨_, rfl, by rw [kvP_len]; exact g1, numS ps.length, by rw [kvP_len]; rfl, by rw [len_app]; omega, ?_⟩⟩
    refine ⟨_, rfl, by rw [len_app, len_app]; omega, _, rfl, p, _, dx, fs, _, rfl, h1, T.cl_Shape, T.n_Shape_own_there, h4, th, _, rfl, h7, .inr ⟨_, rfl, by rw [t1]; exact g2, numS ts.length, by rw [t1]; rfl, by rw [len_app, len_app, len_app]; omega, ?_⟩⟩
    refine ⟨_, rfl, by rw [len_app, len_app, len_app, len_app]; omega, _, rfl, p, _, dx, fs, _, rfl, h1, T.cl_Shape, T.n_Shape_own_lacking, h5, la, _, rfl, h8, .inr ⟨_, rfl, by rw [t2]; exact g3, numS ls.length, by rw [t2]; rfl, by rw [len_app, len_app, len_app, len_app, len_app]; omega, ?_⟩⟩
    exact ⟨_, rfl, by rw [len_app, len_app, len_app, len_app, len_app, len_app]; omega, q⟩
/-- what a shape tells in == -/
structure Shp where
  ks : List Str
  ws : List Str
  ps : Posts
  ts : List Tie
  ls : List Tie
def eqShp (a b : Shp) : Bool := decide (some (b.ks, b.ws) = some (a.ks, a.ws)) && (sameD (kvP a.ps) (kvP b.ps) && (sameK (a.ts.map tieK) (b.ts.map tieK) && sameK (a.ls.map tieK) (b.ls.map tieK)))
/-- a shape with its sheet -/
def ShpAt (AA : Ads) (H : Hp) (p : Addr) (x : Shp) : Prop := ∃ sh, ShapeAt AA.C_Shape H p sh x.ps x.ts x.ls ∧ SheetAt AA.C_Sheet H sh x.ks x.ws ∧ OkS x.ks ∧ OkS x.ws
theorem ShpAt.ex {AA : Ads} {H H' : Hp} {p : Addr} {x : Shp} (h : ShpAt AA H p x) (e : Ex H H') : ShpAt AA H' p x := by
  obtain ⟨sh, h1, h2, h3, h4⟩ := h
  exact ⟨sh, h1.ex e, h2.ex e, h3, h4⟩
/-- what the second one of == may be -/
def OtherP (K : PySem.W.Frag) (AA : Ads) (H : Hp) (y : V) (r : Option Shp) : Prop :=
  (∃ d, Dv K H y d ∧ r = none) ∨ (∃ b dx fs, y = .ref b ∧ H b = some (.ins AA.C_Sheet dx fs) ∧ r = none) ∨ ∃ b x, y = .ref b ∧ ShpAt AA H b x ∧ r = some x
def eqO (a : Shp) : Option Shp → Bool
  | none => false
  | some b => eqShp a b
def spEqP (K : PySem.W.Frag) (AA : Ads) : Sp := fun vs H Q _ => ∃ (a : Addr) (y : V) (x : Shp) (r : Option Shp), vs = [.ref a, y] ∧ ShpAt AA H a x ∧ OtherP K AA H y r ∧ Q (.bl (eqO x r)) H
theorem other_ty {K : PySem.W.Frag} {mg : Str → Option Value} {AA : Ads} (T : Txt K mg AA) {H : Hp} {y : V} {r : Option Shp} (h : OtherP K AA H y r) : ∃ t, TyX K H y t ∧ PySem.W.kitOne K t (.ref AA.C_Shape) = some r.isSome ∧ PySem.W.notFirst K AA.C_Shape t = true := by
  rcases h with ⟨d, hd, rfl⟩ | ⟨b, dx, fs, rfl, hb, rfl⟩ | ⟨b, x, rfl, ⟨sh, hx, _⟩, rfl⟩
  · exact ⟨_, tyX_of hd, T.I_Shape.no d, not_first d⟩
  · refine ⟨_, T.I_Sheet.ty hb, ?_, ?_⟩
    · have h1 : PySem.W.kitOne K (.ref AA.C_Sheet) (.ref AA.C_Shape) = PySem.W.kitCls K (.ref AA.C_Sheet) (.ref AA.C_Shape) := by
        show (if (Value.ref AA.C_Sheet == Value.ref AA.C_Shape) = true then some true else _) = _
        rw [if_neg (by rw [T.ss_ne]; exact Bool.false_ne_true)]
      rw [h1, kitCls_own T.I_Shape.ic T.I_Shape.it]
      exact T.ss_no
    · unfold PySem.W.notFirst
      rw [T.ss_no]
      simp
  · obtain ⟨dx, fs, po, th, la, h1, _⟩ := hx.at_
    exact ⟨_, T.I_Shape.ty h1, kit_self, not_first_self⟩
theorem ok_Shape_eq (T : Txt K mg AA) : FnOk P w K mg base CX0 3 AA.a_Shape_eq AA.d_Shape_eq ["self", "other"] (spEqP K AA) := by
  have G_Sheet_eq : FnOk P w K mg base CX0 1 AA.a_Sheet_eq AA.d_Sheet_eq ["self", "other"] (spEqS K AA.C_Sheet) := ok_Sheet_eq T
  refine T.F_Shape_eq.ok sc_Shape_eq (fun vs H Q E h => ?_) (fun cdv A outer s H vs Q E hr h => ?_)
  · obtain ⟨a, y, x, r, rfl, _⟩ := h
    rfl
  · obtain ⟨a, y, x, r, rfl, ha, ho, q⟩ := h
    have hu : _ + 64 < cLine := hu64 hr
    have hu1 : _ + 1 < cLine := hu_of hr
    obtain ⟨t, t1, t2, _⟩ := other_ty T ho
    refine ⟨_, (pss_cons (ps_if (pw_or (pt_not (pt_val (pe_callB call_isi (by rfl) T.n_isinstance (by decide +kernel) (pa_cons (pv 1) (pa_cons (pe_glob (v := .ref AA.C_Shape) (by rfl) T.g_Shape rfl) pa_nil))))) (pw_or (pt_cmpR (op_ownNe G_Sheet_eq (T.I_Sheet.own T.m_Sheet_eq) T.b_Sheet_eq (hr.mono (by decide))) (pe_fld (pv 0) rfl) (pe_fld (pv 1) rfl) (nomark _)) (pw_or1 (pt_cmpR (op_neK hu1) (pe_fld (pv 0) rfl) (pe_fld (pv 1) rfl) (nomark _))))).pt (pss_one (ps_ret pe_bl)) pss_nil)
    (pss_one (ps_ret (pe_and (pe_cmpR (op_eqT hu1) (pe_fld (pv 0) rfl) (pe_fld (pv 1) rfl) (nomark _)) (pe_one (pe_cmpR (op_eqT hu1) (pe_fld (pv 0) rfl) (pe_fld (pv 1) rfl) (nomark _))))))), ?_⟩
    refine ⟨_, rfl, _, _, _, _, _, rfl, .own _, t1, t2, _, rfl, ?_⟩
    rcases ho with ⟨d, hd, rfl⟩ | ⟨b, dx, fs, rfl, hb, rfl⟩ | ⟨b, z, rfl, hz, rfl⟩
    · exact if_t rfl (if_t rfl q)
    · exact if_t rfl (if_t rfl q)
    · refine if_f rfl ?_
      obtain ⟨sh, hx, hs, ok1, ok2⟩ := ha
      obtain ⟨si, hy, hi, ok3, ok4⟩ := hz
      obtain ⟨dx, fs, po, th, la, a1, a2, a3, a4, a5, a6, a7, a8⟩ := hx.at_
      obtain ⟨dy, gs, qo, qh, qa, b1, b2, b3, b4, b5, b6, b7, b8⟩ := hy.at_
      obtain ⟨d1, f1, k1, w1, s1, _⟩ := hs.at_
      obtain ⟨d2, f2, k2, w2, s2, _⟩ := hi.at_
      refine ⟨_, rfl, a, _, dx, fs, _, rfl, a1, T.cl_Shape, T.n_Shape_own_sheet, a2, _, rfl, b, _, dy, gs, _, rfl, b1, T.cl_Shape, T.n_Shape_own_sheet, b2, ?_⟩
      refine ⟨sh, d1, f1, _, rfl, s1, T.I_Sheet.ty s2, not_first_self, sh, _, x.ks, x.ws, some (z.ks, z.ws), rfl, hs, ok1, ok2, .inr ⟨si, _, _, rfl, hi, ok3, ok4, rfl⟩, _, rfl, _, rfl, ?_⟩
      unfold eqO eqShp at q
      dsimp only at q
      cases c1 : decide (some (z.ks, z.ws) = some (x.ks, x.ws)) with
      | false =>
        rw [c1] at q
        exact if_t rfl (if_t rfl q)
      | true =>
        rw [c1] at q
        refine if_f rfl ⟨_, rfl, a, _, dx, fs, _, rfl, a1, T.cl_Shape, T.n_Shape_own_posts, a3, _, rfl, b, _, dy, gs, _, rfl, b1, T.cl_Shape, T.n_Shape_own_posts, b3, po, qo, _, _, rfl, rfl, .inl a6, .inl b6, kvP_pl _, kvP_pl _, _, rfl, ?_⟩
        cases c2 : sameD (kvP x.ps) (kvP z.ps) with
        | false =>
          rw [c2] at q
          exact if_t rfl q
        | true =>
          rw [c2] at q
          refine if_f rfl ⟨_, rfl, a, _, dx, fs, _, rfl, a1, T.cl_Shape, T.n_Shape_own_there, a4, _, rfl, b, _, dy, gs, _, rfl, b1, T.cl_Shape, T.n_Shape_own_there, b4, th, qh, _, _, rfl, rfl, a7, b7, _, rfl, ?_⟩
          cases c3 : sameK (x.ts.map tieK) (z.ts.map tieK) with
          | false =>
            rw [c3] at q
            exact if_f rfl q
          | true =>
            rw [c3] at q
            exact if_t rfl ⟨_, rfl, a, _, dx, fs, _, rfl, a1, T.cl_Shape, T.n_Shape_own_lacking, a5, _, rfl, b, _, dy, gs, _, rfl, b1, T.cl_Shape, T.n_Shape_own_lacking, b5, la, qa, _, _, rfl, rfl, a8, b8, q⟩
end
end K6
namespace K6
open PySem L2 Kd Evl Ks Kt Ky
open PySem.W (Datum DatumOrd T3)
def spDice (K : PySem.W.Frag) : Sp := fun vs H Q _ => ∃ (a : Addr) (ns : List Int) (k : Int), vs = [.ref a, .int k] ∧ SqL K H a (ns.map V.int) ∧ 0 ≤ k ∧ ∀ p, H p = none → Q (.ref p) (upd H p (diceO p))
def spRoll : Sp := fun vs H Q _ => ∃ (a : Addr) (n : Int), vs = [.ref a, .int n] ∧ H a = some (diceO a) ∧ 0 < n ∧ n < 2 ^ 30 ∧ ∀ i : Int, 0 ≤ i → i < n → Q (.int i) H
theorem small_mul {i j : Int} (h0 : 0 ≤ i) (h1 : i < 2 ^ 64) : (-(2 ^ 64) < i ∧ i < 2 ^ 64) ∨ (-(2 ^ 64) < j ∧ j < 2 ^ 64) := .inl ⟨by omega, h1⟩
theorem divW {i n : Int} (h0 : 0 < n) (h1 : n < 2 ^ 30) : CDivW i n := wide_div (b := 30) h0 (by omega) (by decide) (by decide)
section
variable {P : Program} {w : World} {K : PySem.W.Frag} {mg : Str → Option Value} {base : Heap} {AA : Ads}
theorem ok_law_roll (T : Txt K mg AA) : FnOk P w K mg base CX0 1 AA.a_law_roll AA.d_law_roll ["_law_dice_here", "_law_upto"] spRoll := by
  refine T.F_law_roll.ok sc_law_roll (fun vs H Q E h => ?_) (fun cdv A outer s H vs Q E hr h => ?_)
  · obtain ⟨a, n, rfl, _⟩ := h
    rfl
  · obtain ⟨a, n, rfl, ha, h0, h1, k⟩ := h
    refine ⟨_, (pss_cons (ps_if (pt_cmpR op_gt (pe_ix ix_dice (pv 0) pe_int (fun _ _ => rfl)) pe_int (nomark _)) (pss_cons (ps_set (i := 4) sc_law_roll.nd rfl (Or.inl rfl) (pe_op op_mod (pe_callTy call_int1 (by rfl) T.n_int (by decide +kernel) (pa_cons (pe_ix ix_dice (pv 0) pe_int (fun _ _ => rfl)) pa_nil)) (pv 1)))
    (pss_cons (ps_asg (pe_op op_fdivW (pe_ix ix_dice (pv 0) pe_int (fun _ _ => rfl)) (pv 1)) (pg_sub (pv 0) pe_int set_dice))
    (pss_one (ps_ret (pv 4))))) pss_nil)
    (pss_cons (ps_asg (pe_op op_add (pe_ix ix_dice (pv 0) pe_int (fun _ _ => rfl)) pe_int) (pg_sub (pv 0) pe_int set_dice))
    (pss_cons (ps_set (i := 2) sc_law_roll.nd rfl (Or.inl rfl) (pe_op op_mod (pe_callTy call_int1 (by rfl) T.n_int (by decide +kernel) (pa_cons (pe_op op_add (pe_ix ix_dice (pv 0) pe_int (fun _ _ => rfl)) (pe_op op_mul pe_int (pe_ix ix_dice (pv 0) pe_int (fun _ _ => rfl)))) pa_nil)) pe_int))
    (pss_cons (ps_set (i := 3) sc_law_roll.nd rfl (Or.inl rfl) (pe_op op_add (pe_op op_mul (pe_op op_mod (pe_callTy call_int1 (by rfl) T.n_int (by decide +kernel) (pa_cons (pe_op op_mul (pv 2) (pv 2)) pa_nil)) pe_int) (pv 2)) (pe_op op_mul pe_int (pe_ix ix_dice (pv 0) pe_int (fun _ _ => rfl)))))
    (pss_one (ps_ret (pe_op op_mod (pe_callTy call_int1 (by rfl) T.n_int (by decide +kernel) (pa_cons (pe_op op_fdivW (pe_op op_mod (pe_callTy call_int1 (by rfl) T.n_int (by decide +kernel) (pa_cons (pe_op op_add (pv 3) (pe_ix ix_dice (pv 0) pe_int (fun _ _ => rfl))) pa_nil)) pe_int) pe_int) pa_nil)) (pv 1)))))))), ?_⟩
    refine ⟨_, rfl, a, 0, rfl, rfl, ha, .inl rfl, fun x0 => ⟨_, _, rfl, rfl, _, rfl, ?_⟩⟩
    by_cases c : 0 < x0
    · refine if_t (decide_eq_true c) ?_
      refine ⟨_, rfl, a, 0, rfl, rfl, ha, .inl rfl, fun x1 => .inl ⟨_, rfl, _, rfl, _, _, rfl, rfl, h0, ?_⟩⟩
      refine ⟨_, rfl, a, 0, rfl, rfl, ha, .inl rfl, fun x2 => ⟨_, rfl, _, _, rfl, rfl, divW h0 h1, _, rfl, a, 0, _, rfl, rfl, rfl, ha, .inl rfl, ?_⟩⟩
      exact ⟨_, rfl, k _ (Int.emod_nonneg _ (by omega)) (Int.emod_lt_of_pos _ h0)⟩
    · refine if_f (decide_eq_false c) ?_
      refine ⟨_, rfl, a, 2, rfl, rfl, ha, .inr (.inr rfl), fun x1 => ⟨_, _, rfl, rfl, _, rfl, a, 2, _, rfl, rfl, rfl, ha, .inr (.inr rfl), ?_⟩⟩
      refine ⟨_, rfl, a, 1, rfl, rfl, ha, .inr (.inl rfl), fun x2 => ⟨_, rfl, a, 2, rfl, rfl, ha, .inr (.inr rfl), fun x3 => ⟨_, _, rfl, rfl, .inl (by decide), _, _, rfl, rfl, .inl ⟨_, rfl, _, _, rfl, rfl, (by dsimp only; omega), ?_⟩⟩⟩⟩
      have y0 : 0 ≤ (x2 + 982451501 * x3) % 2305843009213693951 := Int.emod_nonneg _ (by decide)
      have y1 : (x2 + 982451501 * x3) % 2305843009213693951 < 2305843009213693951 := Int.emod_lt_of_pos _ (by decide)
      refine ⟨_, rfl, _, rfl, _, _, rfl, rfl, small_mul y0 (by omega), .inl ⟨_, rfl, _, _, rfl, rfl, (by dsimp only; omega), _, rfl, _, _, rfl, rfl, ?_, _, rfl, a, 2, rfl, rfl, ha, .inr (.inr rfl), fun x4 => ⟨_, _, rfl, rfl, .inl (by decide), _, _, rfl, rfl, ?_⟩⟩⟩
      · exact .inr ⟨by omega, by omega⟩
      refine ⟨_, rfl, _, rfl, a, 1, rfl, rfl, ha, .inr (.inl rfl), fun x5 => ⟨_, _, rfl, rfl, .inl ⟨_, rfl, _, _, rfl, rfl, (by dsimp only; omega), ?_⟩⟩⟩
      refine ⟨_, _, rfl, rfl, divW (by decide) (by decide), .inl ⟨_, rfl, _, rfl, _, _, rfl, rfl, h0, k _ (Int.emod_nonneg _ (by omega)) (Int.emod_lt_of_pos _ h0)⟩⟩
theorem ok_law_dice (T : Txt K mg AA) : FnOk P w K mg base CX0 1 AA.a_law_dice AA.d_law_dice ["_law_script", "_law_at"] (spDice K) := by
  refine T.F_law_dice.ok sc_law_dice (fun vs H Q E h => ?_) (fun cdv A outer s H vs Q E hr h => ?_)
  · obtain ⟨a, ns, k, rfl, _⟩ := h
    rfl
  · obtain ⟨a, ns, k, rfl, ha, h0, q⟩ := h
    refine ⟨_, (pss_cons (ps_set (i := 2) sc_law_dice.nd rfl (Or.inl rfl) (pe_ifExp (pt_cmpR op_lt (pv 1) (pe_callB call_len_seq (by rfl) T.n_len (by decide +kernel) (pa_cons (pv 0) pa_nil)) (nomark _)) (pe_ix ix_list (pv 0) (pv 1) (fun _ _ => rfl)) (pe_op op_add (pe_op op_mul pe_int (pv 1)) pe_int)))
    (pss_cons (ps_set (i := 3) sc_law_dice.nd rfl (Or.inl rfl) (pe_op op_mod (pe_callTy call_int1 (by rfl) T.n_int (by decide +kernel) (pa_cons (pe_callB call_abs (by rfl) T.n_abs (by decide +kernel) (pa_cons (pv 2) pa_nil)) pa_nil)) (pe_op op_powW (pe_op op_pow pe_int pe_int) pe_int)))
    (pss_cons (ps_set (i := 4) sc_law_dice.nd rfl (Or.inl rfl) (pe_op op_add (pe_op op_add (pe_op op_add (pe_op op_mul (pv 3) pe_int) (pe_op op_mul pe_int (pv 1))) (pe_op op_mul pe_int (pe_callTy call_int1 (by rfl) T.n_int (by decide +kernel) (pa_cons (pe_cmpR op_lt (pv 2) pe_int (nomark _)) pa_nil)))) pe_int))
    (pss_one (ps_ret (pe_shut (pe_lst (pa_cons (pe_callB (call_max2 rfl) (by rfl) T.n_max (by decide +kernel) (pa_cons pe_int (pa_cons (pe_op op_sub (pv 3) (pe_op op_pow pe_int pe_int)) pa_nil))) (pa_cons (pe_op op_mod (pe_callTy call_int1 (by rfl) T.n_int (by decide +kernel) (pa_cons (pv 4) pa_nil)) pe_int) (pa_cons pe_int pa_nil)))))))))), ?_⟩
    refine ⟨_, rfl, _, rfl, a, _, rfl, .inl ha, _, _, rfl, rfl, _, rfl, ?_⟩
    have hpow : CPowW ((10 : Int) ^ (59 : Int).toNat) 10 := ⟨by decide, by decide +kernel⟩
    have hpos : (0 : Int) < ((10 : Int) ^ (59 : Int).toNat) ^ (10 : Int).toNat := by decide +kernel
    by_cases c : k < ((ns.map V.int).length : Int)
    · refine if_t (decide_eq_true c) ?_
      rw [List.length_map] at c
      obtain ⟨j, ej⟩ : ∃ j : Nat, k = (j : Int) := ⟨k.toNat, by omega⟩
      obtain ⟨x, hx⟩ : ∃ x, ns[j]? = some x := ⟨ns[j]'(by omega), List.getElem?_eq_getElem _⟩
      refine ⟨_, rfl, _, rfl, a, _, _, _, rfl, rfl, ha, at_of (j := j) (v := V.int x) ej (by rw [List.getElem?_map, hx]; rfl), ?_⟩
      refine ⟨_, rfl, _, rfl, .inl ⟨_, rfl, _, _, rfl, rfl, ⟨by decide, by decide, by decide⟩, _, _, rfl, rfl, hpow, _, _, rfl, rfl, hpos, ?_⟩⟩
      refine ⟨_, rfl, _, _, rfl, rfl, .inr (by decide), _, rfl, _, _, rfl, rfl, .inl (by decide), _, _, rfl, rfl, _, rfl, _, _, rfl, rfl, .inr ⟨_, rfl, _, _, rfl, rfl, .inl (by decide), _, _, rfl, rfl, _, _, rfl, rfl, ?_⟩⟩
      refine ⟨_, rfl, _, _, rfl, rfl, ⟨by decide, by decide, by decide⟩, _, _, rfl, rfl, _, _, rfl, _, rfl, .inl ⟨_, rfl, _, _, rfl, rfl, (by dsimp only; omega), (by show 3 ≤ sizeLine; decide), fun p hp => ⟨p, _, _, _, rfl, upd_same, ?_⟩⟩⟩
      rw [upd_upd]
      exact q p hp
    · refine if_f (decide_eq_false c) ?_
      refine ⟨_, rfl, _, _, rfl, rfl, .inl (by decide), _, _, rfl, rfl, ?_⟩
      refine ⟨_, rfl, _, rfl, .inl ⟨_, rfl, _, _, rfl, rfl, ⟨by decide, by decide, by decide⟩, _, _, rfl, rfl, hpow, _, _, rfl, rfl, hpos, ?_⟩⟩
      refine ⟨_, rfl, _, _, rfl, rfl, .inr (by decide), _, rfl, _, _, rfl, rfl, .inl (by decide), _, _, rfl, rfl, _, rfl, _, _, rfl, rfl, .inr ⟨_, rfl, _, _, rfl, rfl, .inl (by decide), _, _, rfl, rfl, _, _, rfl, rfl, ?_⟩⟩
      refine ⟨_, rfl, _, _, rfl, rfl, ⟨by decide, by decide, by decide⟩, _, _, rfl, rfl, _, _, rfl, _, rfl, .inl ⟨_, rfl, _, _, rfl, rfl, (by dsimp only; omega), (by show 3 ≤ sizeLine; decide), fun p hp => ⟨p, _, _, _, rfl, upd_same, ?_⟩⟩⟩
      rw [upd_upd]
      exact q p hp
end
end K6
namespace K6
open PySem L2 Kd Evl Ks Kt Ky
open PySem.W (Datum DatumOrd T3)
def spPick (K : PySem.W.Frag) : Sp := fun vs H Q _ => ∃ (a l : Addr) (xs : List V), vs = [.ref a, .ref l] ∧ H a = some (diceO a) ∧ SqL K H l xs ∧ 0 < xs.length ∧ xs.length ≤ 1000 ∧ ∀ x ∈ xs, Q x H
def spMixed (K : PySem.W.Frag) : Sp := fun vs H Q _ => ∃ (a l : Addr) (xs : List V), vs = [.ref a, .ref l] ∧ H a = some (diceO a) ∧ (SqL K H l xs ∨ SqT K H l xs) ∧ xs.length ≤ 1000 ∧ ∀ ys p H', ys.Perm xs → Ex H H' → H' p = some (.lst ys) → Q (.ref p) H'
theorem ixAt {k : Nat} {n : Nat} (h : k < n) (hn : n ≤ 1000) : seqIndex? (k : Int) n = some k := seqIndex_of (by omega) (by omega)
theorem erase_perm {α : Type} : ∀ (l : List α) (i : Nat) (h : i < l.length), (l[i] :: l.eraseIdx i).Perm l
  | x :: l, 0, _ => List.Perm.refl _
  | x :: l, i + 1, h => by
    have h' : i < l.length := Nat.lt_of_succ_lt_succ h
    show (l[i] :: x :: l.eraseIdx i).Perm (x :: l)
    exact (List.Perm.swap _ _ _).trans ((erase_perm l i h').cons x)
def nameP (z : Str) (k : Nat) : Prop := z.length = k ∧ ∀ c ∈ z.cps.toList, c ∈ LET
theorem nameP.snoc {z : Str} {k c : Nat} (h : nameP z k) (hc : c ∈ LET) : nameP (z ++ ⟨#[c]⟩) (k + 1) := by
  obtain ⟨h1, h2⟩ := h
  refine ⟨by rw [len_app, h1]; rfl, fun x hx => ?_⟩
  rw [Str.cps_append, Array.toList_append] at hx
  rcases List.mem_append.mp hx with hx | hx
  · exact h2 x hx
  · rw [show x = c by simpa using hx]
    exact hc
theorem nameP.ok {z : Str} {k : Nat} (h : nameP z k) (h1 : 1 ≤ k) (h8 : k ≤ 8) : isName z = true := by
  obtain ⟨e, h2⟩ := h
  unfold isName
  rw [e, decide_eq_true (by omega), decide_eq_true (by omega), Bool.and_self, Bool.true_and, List.all_eq_true]
  intro c hc
  exact decide_eq_true (h2 c hc)
/-- the names that are drawn -/
structure Nms (zs : List Str) : Prop where
  nd : zs.Nodup
  ok : ∀ z ∈ zs, isName z = true
def spLabels : Sp := fun vs H Q _ => ∃ (a : Addr) (n : Int), vs = [.ref a, .int n] ∧ H a = some (diceO a) ∧ 0 ≤ n ∧ n ≤ 100 ∧ ∀ H' l zs, Ex H H' → H l = none → H' l = some (.lst (zs.map V.str)) → Nms zs → (zs.length : Int) ≤ n → (0 < n → zs ≠ []) → Q (.ref l) H'
section
variable {P : Program} {w : World} {K : PySem.W.Frag} {mg : Str → Option Value} {base : Heap} {AA : Ads}
theorem ok_law_pick (T : Txt K mg AA) : FnOk P w K mg base CX0 2 AA.a_law_pick AA.d_law_pick ["_law_dice_here", "_law_items"] (spPick K) := by
  have G_law_roll : FnOk P w K mg base CX0 1 AA.a_law_roll AA.d_law_roll ["_law_dice_here", "_law_upto"] spRoll := ok_law_roll T
  refine T.F_law_pick.ok sc_law_pick (fun vs H Q E h => ?_) (fun cdv A outer s H vs Q E hr h => ?_)
  · obtain ⟨a, l, xs, rfl, _⟩ := h
    rfl
  · obtain ⟨a, l, xs, rfl, ha, hl, h0, h1, q⟩ := h
    refine ⟨_, (pss_one (ps_ret (pe_ix ix_list (pv 1) (pe_call G_law_roll (hr.mono (by decide)) (by rfl) T.g_law_roll T.k_law_roll T.b_law_roll .nil pass0 (pa_cons (pv 0) (pa_cons (pe_callB call_len_seq (by rfl) T.n_len (by decide +kernel) (pa_cons (pv 1) pa_nil)) pa_nil))) (fun _ _ => rfl)))), ?_⟩
    refine ⟨_, rfl, _, rfl, _, rfl, l, xs, rfl, .inl hl, a, _, rfl, ha, by omega, by omega, fun i i0 i1 => ?_⟩
    obtain ⟨j, ej⟩ : ∃ j : Nat, i = (j : Int) := ⟨i.toNat, by omega⟩
    have hj : j < xs.length := by omega
    exact ⟨l, xs, i, xs[j], rfl, rfl, hl, at_of ej (List.getElem?_eq_getElem hj), q _ (List.getElem_mem hj)⟩
theorem ok_law_mixed (T : Txt K mg AA) : FnOk P w K mg base CX0 2 AA.a_law_mixed AA.d_law_mixed ["_law_dice_here", "_law_items"] (spMixed K) := by
  have G_law_roll : FnOk P w K mg base CX0 1 AA.a_law_roll AA.d_law_roll ["_law_dice_here", "_law_upto"] spRoll := ok_law_roll T
  refine T.F_law_mixed.ok sc_law_mixed (fun vs H Q E h => ?_) (fun cdv A outer s H vs Q E hr h => ?_)
  · obtain ⟨a, l, xs, rfl, _⟩ := h
    rfl
  · obtain ⟨a, l, xs, rfl, ha, hl, h1, q⟩ := h
    refine ⟨_, (pss_cons (ps_set (i := 2) sc_law_mixed.nd rfl (Or.inr rfl) (pe_callTy call_list_of (by rfl) T.n_list (by decide +kernel) (pa_cons (pv 1) pa_nil)))
    (pss_one (ps_ret (pe_lc (own := [("_law_turn", 3)]) (g := gName 3) rfl sc_law_mixed.nd (pi_range1 rfl T.n_range (pa_cons (pe_callB call_len_seq (by rfl) T.n_len (by decide +kernel) (pa_cons (pv 1) pa_nil)) pa_nil)) (blkOk_by (N := N_law_mixed) (sc := defScope s_law_mixed) (by decide +kernel)) (fun _ _ _ _ _ => (pg_name (i := 3) sc_law_mixed.nd rfl (Or.inl rfl))) (fun _ _ _ _ _ => pts_nil) (fun _ _ _ _ _ => by exact (Kv.pe_bm (K := K) (r := rPopAt) rfl PySem.F.plainAttrs_list PySem.F.slot_list_pop PySem.F.type_list_pop mt_popAt (pv 2) (pa_cons (pe_call G_law_roll (hr.mono (by decide)) (by rfl) T.g_law_roll T.k_law_roll T.b_law_roll .nil pass0 (pa_cons (pv 0) (pa_cons (pe_callB (Kv.call_len (K := K) rfl) (by rfl) T.n_len (by decide +kernel) (pa_cons (pv 2) pa_nil)) pa_nil))) pa_nil))))))), ?_⟩
    refine ⟨_, rfl, l, xs, rfl, hl, fun p hp => ?_⟩
    have x1 : Ex H (upd H p (.lst xs)) := Ex.new hp
    have hl1 : SqL K (upd H p (.lst xs)) l xs ∨ SqT K (upd H p (.lst xs)) l xs := hl.imp (ex_l x1) (ex_t x1)
    refine ⟨_, rfl, l, xs, rfl, hl1, _, rfl, by omega, by omega, fun D hD => ?_⟩
    have nDp : D ≠ p := (ne_of_none upd_same hD).symm
    refine lc_range (fun i H2 => ∃ acc left, H2 D = some (.lst acc) ∧ H2 p = some (.lst left) ∧ (acc ++ left).Perm xs ∧ acc.length = i ∧ Ex H H2) ⟨[], xs, upd_same, by rw [upd_ne nDp.symm]; exact upd_same, List.Perm.refl _, rfl, Ex.mut x1 (fresh_back x1 hD)⟩ ?_ ?_
    · rintro i H2 hi ⟨acc, left, hDa, hpl, perm, hacc, ex⟩
      have hln := perm.length_eq
      rw [List.length_append] at hln
      have hleft : 0 < left.length := by omega
      refine ⟨rfl, ?_⟩
      show tBM K "list" rPopAt (tVar 2) (tCons (tCall spRoll [] E0 (tCons (tVar 0) (tCons (tCB (Kv.rLen K) (tCons (tVar 2) tNil)) tNil))) tNil) _ H2 _
      refine ⟨_, rfl, .inl ⟨rfl, _, SqL.of hpl⟩, _, rfl, _, rfl, p, left, rfl, .inl (SqL.of hpl), a, _, rfl, ex _ _ ha, by omega, by omega, fun r r0 r1 => ?_⟩
      obtain ⟨j, ej⟩ : ∃ j : Nat, r = (j : Int) := ⟨r.toNat, by omega⟩
      have hj : j < left.length := by omega
      subst ej
      refine ⟨p, left, _, j, left[j], rfl, rfl, hpl, by omega, by omega, ixAt hj (by omega), List.getElem?_eq_getElem hj, acc, by rw [upd_ne nDp]; exact hDa, len_lt (by omega), acc ++ [left[j]], left.eraseIdx j, upd_same, ?_, ?_, ?_, ?_⟩
      · rw [upd_ne nDp.symm, upd_same]
      · rw [List.append_assoc]
        exact ((List.Perm.append_left acc (erase_perm left j hj)).trans perm)
      · rw [List.length_append, hacc]
        rfl
      · exact Ex.mut (Ex.mut ex hp) (fresh_back x1 hD)
    · rintro H2 ⟨acc, left, hDa, hpl, perm, hacc, ex⟩
      have hln := perm.length_eq
      rw [List.length_append] at hln
      have e : left = [] := List.length_eq_zero_iff.mp (by omega)
      subst e
      rw [List.append_nil] at perm
      exact q acc D H2 perm ex hDa
theorem let26 : LET.length = 26 := by decide +kernel
theorem ok_law_labels (T : Txt K mg AA) : FnOk P w K mg base CX0 2 AA.a_law_labels AA.d_law_labels ["_law_dice_here", "_law_many"] spLabels := by
  have G_law_roll : FnOk P w K mg base CX0 1 AA.a_law_roll AA.d_law_roll ["_law_dice_here", "_law_upto"] spRoll := ok_law_roll T
  refine T.F_law_labels.ok sc_law_labels (fun vs H Q E h => ?_) (fun cdv A outer s H vs Q E hr h => ?_)
  · obtain ⟨a, n, rfl, _⟩ := h
    rfl
  · obtain ⟨a, n, rfl, ha, n0, n1, q⟩ := h
    have hu : _ + 64 < cLine := hu64 hr
    refine ⟨_, (pss_cons (ps_set (i := 2) sc_law_labels.nd rfl (Or.inl rfl) (pe_lst pa_nil))
    (pss_cons (ps_for PassesOwn.never rfl (pi_range1 rfl T.n_range (pa_cons (pv 1) pa_nil)) (pg_name (i := 3) sc_law_labels.nd rfl (Or.inl rfl))
      (pss_cons (ps_set (i := 4) sc_law_labels.nd rfl (Or.inl rfl) pe_str)
    (pss_cons (ps_for PassesOwn.never rfl (pi_range1 rfl T.n_range (pa_cons (pe_op op_add pe_int (pe_call G_law_roll (hr.mono (by decide)) (by rfl) T.g_law_roll T.k_law_roll T.b_law_roll .nil pass0 (pa_cons (pv 0) (pa_cons (pe_ix ix_list (pe_lst (pa_cons pe_int (pa_cons pe_int (pa_cons pe_int pa_nil)))) (pe_call G_law_roll (hr.mono (by decide)) (by rfl) T.g_law_roll T.k_law_roll T.b_law_roll .nil pass0 (pa_cons (pv 0) (pa_cons pe_int pa_nil))) (fun _ _ => rfl)) pa_nil)))) pa_nil)) (pg_name (i := 5) sc_law_labels.nd rfl (Or.inl rfl))
      (pss_one (ps_set (i := 4) sc_law_labels.nd rfl (Or.inl rfl) (pe_op op_add_str (pv 4) (pe_ix ix_str pe_str (pe_call G_law_roll (hr.mono (by decide)) (by rfl) T.g_law_roll T.k_law_roll T.b_law_roll .nil pass0 (pa_cons (pv 0) (pa_cons pe_int pa_nil))) (fun _ _ => rfl))))))
    (pss_one (ps_if (pt_cmpR (op_notInP (K := K) rfl hu) (pv 4) (pv 2) rfl) (pss_one (ps_expr (pe_bm PySem.F.plainAttrs_list PySem.F.slot_list_append PySem.F.type_list_append mt_append (pv 2) (pa_cons (pv 4) pa_nil)))) pss_nil)))))
    (pss_one (ps_ret (pv 2))))), ?_⟩
    refine ⟨(by show 0 ≤ sizeLine; decide), fun l hl => ?_⟩
    refine ⟨_, rfl, n, rfl, by omega, by omega, ?_⟩
    refine for_range (fun k σ J => ∃ (v3 v4 v5 : Option V) (zs : List Str), σ = [some (.ref a), some (.int n), some (.ref l), v3, v4, v5] ∧ Ex H J ∧ J l = some (.lst (zs.map V.str)) ∧ Nms zs ∧ zs.length ≤ k ∧ (0 < k → zs ≠ []))
      ⟨none, none, none, [], rfl, Ex.new hl, upd_same, ⟨List.nodup_nil, fun _ z => nomatch z⟩, Nat.le_refl _, fun z => absurd z (Nat.lt_irrefl 0)⟩ ?_ ?_
    · rintro k σ J hk ⟨v3, v4, v5, zs, rfl, e, hJ, nz, lz, ne⟩
      have da := e _ _ ha
      refine ⟨_, rfl, (by show 3 ≤ sizeLine; decide), fun L hL => ?_⟩
      generalize hJ1 : upd J L _ = J1 at *
      have e1 : Ex J J1 := by rw [← hJ1]; exact Ex.new hL
      have gL : J1 L = some (.lst [.int 1, .int 2, .int 8]) := by rw [← hJ1]; exact upd_same
      have da1 := e1 _ _ da
      refine ⟨_, rfl, a, 3, rfl, da1, by decide, by decide, fun i i0 i1 => ?_⟩
      obtain ⟨m, m0, m8, hm⟩ : ∃ m : Int, 0 < m ∧ m ≤ 8 ∧ atI [V.int 1, .int 2, .int 8] i = some (.int m) := by
        obtain rfl | rfl | rfl : i = 0 ∨ i = 1 ∨ i = 2 := by omega
        · exact ⟨1, by decide, by decide, rfl⟩
        · exact ⟨2, by decide, by decide, rfl⟩
        · exact ⟨8, by decide, by decide, rfl⟩
      refine ⟨L, _, i, _, rfl, rfl, SqL.of gL, hm, a, m, rfl, da1, m0, by omega, fun r r0 r1 => ⟨_, _, rfl, rfl, _, rfl, by omega, by omega, ?_⟩⟩
      refine for_range (fun k2 σ J2 => ∃ (v5 : Option V) (z : Str), σ = [some (.ref a), some (.int n), some (.ref l), some (.int (0 + (k : Int))), some (.str z), v5] ∧ J2 = J1 ∧ nameP z k2)
        ⟨v5, "", rfl, rfl, rfl, fun c hc => by cases hc⟩ ?_ ?_
      · rintro k2 σ J2 hk2 ⟨v5, z, rfl, rfl, hz⟩
        refine ⟨_, rfl, _, rfl, a, 26, rfl, da1, by decide, by decide, fun i i0 i1 => ?_⟩
        obtain ⟨j, ej⟩ : ∃ j : Nat, i = (j : Int) := ⟨i.toNat, by omega⟩
        have hj : j < LET.length := by rw [let26]; omega
        refine ⟨_, i, LET[j], rfl, rfl, (by decide +kernel), (by rw [ej]; exact atI_nat (List.getElem?_eq_getElem hj)), _, _, rfl, rfl, ?_, _, _, rfl, rfl, hz.snoc (List.getElem_mem hj)⟩
        have := hz.1
        have h1 : (⟨#[LET[j]]⟩ : Str).length = 1 := rfl
        rw [h1]
        exact len_line (by omega)
      · rintro σ J2 ⟨v5, z, rfl, rfl, hz⟩
        have okz : isName z = true := hz.ok (by omega) (by omega)
        refine ⟨_, rfl, _, rfl, notInLP (hd_str z) (SqL.of (e1 _ _ hJ)) (hdL_strs zs) ⟨_, rfl, ?_⟩⟩
        by_cases c : z ∈ zs
        · refine if_f (by rw [decide_eq_true c]; rfl) ⟨_, _, _, zs, rfl, e.trans e1, e1 _ _ hJ, nz, by omega, fun _ z1 => by rw [z1] at c; cases c⟩
        · refine if_t (by rw [decide_eq_false c]; rfl) ?_
          refine ⟨_, rfl, .inl ⟨rfl, _, SqL.of (e1 _ _ hJ)⟩, _, rfl, l, _, _, rfl, rfl, e1 _ _ hJ, len_lt (by rw [List.length_map]; omega), ?_⟩
          refine ⟨_, _, _, zs ++ [z], rfl, Ex.mut (e.trans e1) hl, (by rw [upd_same, List.map_append]; rfl), ⟨?_, fun y hy => ?_⟩, (by rw [List.length_append]; show zs.length + 1 ≤ k + 1; omega), fun _ z1 => by simp at z1⟩
          · rw [List.nodup_append]
            refine ⟨nz.nd, by simp, fun x hx y hy => ?_⟩
            rw [List.mem_singleton] at hy
            subst hy
            exact fun z1 => c (z1 ▸ hx)
          · rcases List.mem_append.mp hy with hy | hy
            · exact nz.ok y hy
            · rw [List.mem_singleton.mp hy]
              exact okz
    · rintro σ J ⟨v3, v4, v5, zs, rfl, e, hJ, nz, lz, ne⟩
      exact ⟨_, rfl, q J l zs e hl hJ nz (by omega) fun h => ne (by omega)⟩
end
end K6
namespace K6
open PySem L2 Kd Evl Ks Kt Ky
open PySem.W (Datum DatumOrd T3)
/-- a plain shape of the law -/
structure Plain (ks ws : List Str) (ps : Posts) (ts ls : List Tie) : Prop where
  nd : (namesP ps).Nodup
  nm : ∀ p ∈ ps, isName p.1 = true
  kd : ∀ p ∈ ps, kindOk ks p.2 = true
  few : ps.length ≤ 12
  tnd : (ts ++ ls).Nodup
  tok : ∀ t ∈ ts ++ ls, t.b ∈ ws ∧ t.a ∈ namesP ps ∧ t.c ∈ namesP ps
  tl : (ts ++ ls).length ≤ 8
/-- it stands in the heap: the posts at d, the ties at l1 and l2 -/
def PlainAt (H : Hp) (d l1 l2 : Addr) (ps : Posts) (ts ls : List Tie) : Prop := H d = some (.dK (kvP ps)) ∧ (∃ xs, H l1 = some (.lst xs) ∧ Paired (TieV H) xs ts) ∧ ∃ ys, H l2 = some (.lst ys) ∧ Paired (TieV H) ys ls
theorem PlainAt.ex {H H' : Hp} {d l1 l2 : Addr} {ps : Posts} {ts ls : List Tie} (h : PlainAt H d l1 l2 ps ts ls) (e : Ex H H') : PlainAt H' d l1 l2 ps ts ls := by
  obtain ⟨h1, ⟨xs, h2, h3⟩, ys, h4, h5⟩ := h
  exact ⟨e _ _ h1, ⟨xs, e _ _ h2, ties_ex h3 e⟩, ys, e _ _ h4, ties_ex h5 e⟩
theorem TieV.put {H : Hp} {l : Addr} {ys : List V} {o : HO} {v : V} {t : Tie} (h : TieV H v t) (hl : H l = some (.lst ys)) : TieV (upd H l o) v t := by
  obtain ⟨b, rfl, hb⟩ := h
  exact ⟨b, rfl, by rw [upd_ne (ne_of hb hl (by intro z; cases z))]; exact hb⟩
theorem ties_put {H : Hp} {l : Addr} {ys : List V} {o : HO} {xs : List V} {ts : List Tie} (h : Paired (TieV H) xs ts) (hl : H l = some (.lst ys)) : Paired (TieV (upd H l o)) xs ts := paired_imp (fun _ _ z => z.put hl) h
/-- a post more, or a kind otherwise -/
def putP (ps : Posts) (n : Str) (o : Option Str) : Posts := if n ∈ namesP ps then ps.map (fun p => if p.1 = n then (p.1, o) else p) else ps ++ [(n, o)]
theorem any_kvP (ps : Posts) (n : Str) : ((kvP ps).any fun kv => decide (kv.1 = .inr n)) = decide (n ∈ namesP ps) := by
  rw [Bool.eq_iff_iff, List.any_eq_true, decide_eq_true_iff]
  unfold kvP namesP
  rw [List.mem_map]
  constructor
  · rintro ⟨x, hx, e⟩
    obtain ⟨p, hp, rfl⟩ := List.mem_map.mp hx
    exact ⟨p, hp, Sum.inr.inj (of_decide_eq_true e)⟩
  · rintro ⟨p, hp, e⟩
    exact ⟨_, List.mem_map.mpr ⟨p, hp, rfl⟩, decide_eq_true (by rw [e])⟩
theorem put_kvP (ps : Posts) (n : Str) (o : Option Str) : putK (kvP ps) (.inr n) (ov o) = kvP (putP ps n o) := by
  unfold putK putP
  rw [any_kvP]
  by_cases c : n ∈ namesP ps
  · rw [if_pos (decide_eq_true c), if_pos c]
    unfold kvP
    rw [List.map_map, List.map_map]
    refine List.map_congr_left fun p _ => ?_
    dsimp only [Function.comp]
    by_cases e : p.1 = n
    · rw [if_pos (by rw [e]), if_pos e]
    · rw [if_neg (fun z => e (Sum.inr.inj z)), if_neg e]
  · rw [if_neg (by rw [decide_eq_false c]; exact Bool.false_ne_true), if_neg c]
    unfold kvP
    rw [List.map_append]
    rfl
theorem merge_kvP : ∀ (qs ps : Posts), mergeK (kvP ps) (kvP qs) = kvP (qs.foldl (fun acc q => putP acc q.1 q.2) ps)
  | [], ps => rfl
  | q :: qs, ps => by
    show mergeK (putK (kvP ps) (.inr q.1) (ov q.2)) (kvP qs) = _
    rw [put_kvP]
    exact merge_kvP qs (putP ps q.1 q.2)
theorem foldP_new : ∀ (qs ps : Posts), (namesP (ps ++ qs)).Nodup → qs.foldl (fun acc q => putP acc q.1 q.2) ps = ps ++ qs
  | [], ps, _ => (List.append_nil ps).symm
  | q :: qs, ps, h => by
    have hq : q.1 ∉ namesP ps := by
      intro z
      unfold namesP at h z
      rw [List.map_append, List.map_cons] at h
      exact (List.nodup_append.mp h).2.2 _ z _ List.mem_cons_self rfl
    have e : putP ps q.1 q.2 = ps ++ [q] := if_neg hq
    show qs.foldl _ (putP ps q.1 q.2) = _
    rw [e, foldP_new qs (ps ++ [q]) (by rw [List.append_assoc]; exact h), List.append_assoc]
    rfl
theorem merge_new {ps : Posts} (h : (namesP ps).Nodup) : mergeK [] (kvP ps) = kvP ps := by
  have e := merge_kvP ps []
  rw [foldP_new ps [] h] at e
  exact e
def spDrawn : Sp := fun vs H Q _ => ∃ (a lk lw : Addr) (ks ws : List Str), vs = [.ref a, .ref lk, .ref lw] ∧ H a = some (diceO a) ∧ H lk = some (.lst (ks.map V.str)) ∧ H lw = some (.lst (ws.map V.str)) ∧ ks.length ≤ 10 ∧ ws ≠ [] ∧ ws.length ≤ 10 ∧
  ∀ H' t d l1 l2 ps ts ls, Ex H H' → H' t = some (.tup [.ref d, .ref l1, .ref l2]) → PlainAt H' d l1 l2 ps ts ls → Plain ks ws ps ts ls → Q (.ref t) H'
theorem pair_put {H : Hp} {D : Addr} {ys : List V} {o : HO} (hD : H D = some (.lst ys)) : ∀ {bs : List Addr} {kvs : List (Key × V)}, Paired (fun (b : Addr) (kv : Key × V) => H b = some (.tup [kV kv.1, kv.2])) bs kvs → Paired (fun (b : Addr) (kv : Key × V) => upd H D o b = some (.tup [kV kv.1, kv.2])) bs kvs
  | _, _, .nil => .nil
  | _, _, .cons h t => .cons (by rw [upd_ne (ne_of h hD (by intro z; cases z))]; exact h) (pair_put hD t)
theorem pair_ex {H H' : Hp} (e : Ex H H') : ∀ {bs : List Addr} {kvs : List (Key × V)}, Paired (fun (b : Addr) (kv : Key × V) => H b = some (.tup [kV kv.1, kv.2])) bs kvs → Paired (fun (b : Addr) (kv : Key × V) => H' b = some (.tup [kV kv.1, kv.2])) bs kvs
  | _, _, .nil => .nil
  | _, _, .cons h t => .cons (e _ _ h) (pair_ex e t)
theorem pair_sq {K : PySem.W.Frag} {H : Hp} : ∀ {bs : List Addr} {kvs : List (Key × V)}, Paired (fun (b : Addr) (kv : Key × V) => H b = some (.tup [kV kv.1, kv.2])) bs kvs → Paired (fun (b : Addr) (kv : Key × V) => SqT K H b [kV kv.1, kv.2]) bs kvs
  | _, _, .nil => .nil
  | _, _, .cons h t => .cons (SqT.of h) (pair_sq t)
theorem pair_snoc {F : Addr → Key × V → Prop} : ∀ {bs : List Addr} {kvs : List (Key × V)} {b : Addr} {kv : Key × V}, Paired F bs kvs → F b kv → Paired F (bs ++ [b]) (kvs ++ [kv])
  | _, _, _, _, .nil, h => .cons h .nil
  | _, _, _, _, .cons h t, q => .cons h (pair_snoc t q)
theorem kvP_snoc (ps : Posts) (n : Str) (o : Option Str) : kvP (ps ++ [(n, o)]) = kvP ps ++ [(.inr n, ov o)] := by
  unfold kvP
  rw [List.map_append]
  rfl
theorem namesP_snoc (ps : Posts) (n : Str) (o : Option Str) : namesP (ps ++ [(n, o)]) = namesP ps ++ [n] := by
  unfold namesP
  rw [List.map_append]
  rfl
/-- a kind or None, as it is picked -/
theorem kind_of {ks : List Str} {x : V} (h : x ∈ V.non :: ks.map V.str) : ∃ o, x = ov o ∧ kindOk ks o = true := by
  rcases List.mem_cons.mp h with rfl | h
  · exact ⟨none, rfl, rfl⟩
  · obtain ⟨z, hz, rfl⟩ := List.mem_map.mp h
    exact ⟨some z, rfl, decide_eq_true hz⟩
section
variable {P : Program} {w : World} {K : PySem.W.Frag} {mg : Str → Option Value} {base : Heap} {AA : Ads}
theorem ok_law_drawn (T : Txt K mg AA) : FnOk P w K mg base CX0 3 AA.a_law_drawn AA.d_law_drawn ["_law_dice_here", "_law_kinds", "_law_words"] spDrawn := by
  have G_law_roll : FnOk P w K mg base CX0 1 AA.a_law_roll AA.d_law_roll ["_law_dice_here", "_law_upto"] spRoll := ok_law_roll T
  have G_law_pick : FnOk P w K mg base CX0 2 AA.a_law_pick AA.d_law_pick ["_law_dice_here", "_law_items"] (spPick K) := ok_law_pick T
  have G_law_labels : FnOk P w K mg base CX0 2 AA.a_law_labels AA.d_law_labels ["_law_dice_here", "_law_many"] spLabels := ok_law_labels T
  refine T.F_law_drawn.ok sc_law_drawn (fun vs H Q E h => ?_) (fun cdv A outer s H vs Q E hr h => ?_)
  · obtain ⟨a, lk, lw, ks, ws, rfl, _⟩ := h
    rfl
  · obtain ⟨a, lk, lw, ks, ws, rfl, ha, hk, hw, lks, wne, lws, q⟩ := h
    have hu : _ + 64 < cLine := hu64 hr
    refine ⟨_, (pss_cons (ps_par3 (i := 5) (j := 6) (l := 7) rfl sc_law_drawn.nd rfl rfl rfl (by decide) (by decide) (by decide) rfl rfl rfl (by exact (pa_cons (pe_call G_law_labels (hr.mono (by decide)) (by rfl) T.g_law_labels T.k_law_labels T.b_law_labels .nil pass0 (pa_cons (pv 0) (pa_cons (pe_call G_law_roll (hr.mono (by decide)) (by rfl) T.g_law_roll T.k_law_roll T.b_law_roll .nil pass0 (pa_cons (pv 0) (pa_cons pe_int pa_nil))) pa_nil))) (pa_cons (pe_lst pa_nil) (pa_cons (pe_lst pa_nil) pa_nil)))) rfl)
    (pss_cons (ps_set (i := 3) sc_law_drawn.nd rfl (Or.inl rfl) (pe_callTy (call_dictP rfl) (by rfl) T.n_dict (by decide +kernel) (pa_cons (pe_lc (own := [("_law_name", 9)]) (g := gName 9) rfl sc_law_drawn.nd (pi_list (pv 5)) (blkOk_by (N := N_law_drawn) (sc := defScope s_law_drawn) (by decide +kernel)) (fun _ _ _ _ _ => (pg_name (i := 9) sc_law_drawn.nd rfl (Or.inl rfl))) (fun _ _ _ _ _ => pts_nil) (fun _ _ _ _ _ => by exact (pe_tup (pa_cons (pv 9) (pa_cons (pe_call G_law_pick (hr.mono (by decide)) (by rfl) T.g_law_pick T.k_law_pick T.b_law_pick .nil pass0 (pa_cons (pv 0) (pa_cons (pe_op op_cat (pe_lst (pa_cons pe_non pa_nil)) (pv 1)) pa_nil))) pa_nil))))) pa_nil)))
    (pss_cons (ps_for PassesOwn.never rfl (pi_range1 rfl T.n_range (pa_cons (pe_ifExp (pt_cmpR (op_neP (K := K) rfl hu) (pv 5) (pe_lst pa_nil) (nomark _)) (pe_call G_law_roll (hr.mono (by decide)) (by rfl) T.g_law_roll T.k_law_roll T.b_law_roll .nil pass0 (pa_cons (pv 0) (pa_cons pe_int pa_nil))) pe_int) pa_nil)) (pg_name (i := 4) sc_law_drawn.nd rfl (Or.inl rfl))
      (pss_cons (ps_set (i := 8) sc_law_drawn.nd rfl (Or.inl rfl) (pe_tup (pa_cons (pe_call G_law_pick (hr.mono (by decide)) (by rfl) T.g_law_pick T.k_law_pick T.b_law_pick .nil pass0 (pa_cons (pv 0) (pa_cons (pv 5) pa_nil))) (pa_cons (pe_call G_law_pick (hr.mono (by decide)) (by rfl) T.g_law_pick T.k_law_pick T.b_law_pick .nil pass0 (pa_cons (pv 0) (pa_cons (pv 2) pa_nil))) (pa_cons (pe_call G_law_pick (hr.mono (by decide)) (by rfl) T.g_law_pick T.k_law_pick T.b_law_pick .nil pass0 (pa_cons (pv 0) (pa_cons (pv 5) pa_nil))) pa_nil)))))
    (pss_one (ps_if (pt_cmpR (op_notInP (K := K) rfl hu) (pv 8) (pe_op op_cat (pv 6) (pv 7)) rfl) (pss_one (ps_if (pt_cmpR op_eq (pe_call G_law_roll (hr.mono (by decide)) (by rfl) T.g_law_roll T.k_law_roll T.b_law_roll .nil pass0 (pa_cons (pv 0) (pa_cons pe_int pa_nil))) pe_int (nomark _)) (pss_one (ps_expr (pe_bm PySem.F.plainAttrs_list PySem.F.slot_list_append PySem.F.type_list_append mt_append (pv 6) (pa_cons (pv 8) pa_nil)))) (pss_one (ps_expr (pe_bm PySem.F.plainAttrs_list PySem.F.slot_list_append PySem.F.type_list_append mt_append (pv 7) (pa_cons (pv 8) pa_nil)))))) pss_nil))))
    (pss_one (ps_ret (pe_tup (pa_cons (pv 3) (pa_cons (pv 6) (pa_cons (pv 7) pa_nil))))))))), ?_⟩
    refine ⟨_, rfl, _, rfl, a, 13, rfl, ha, by decide, by decide, fun n n0 n1 => ⟨a, n, rfl, ha, n0, by omega, fun H1 l0 zs e1 nl0 g0 nz lz _ => ?_⟩⟩
    refine ⟨(by show 0 ≤ sizeLine; decide), fun l1 nl1 => ⟨(by show 0 ≤ sizeLine; decide), fun l2 nl2 => ⟨_, _, _, rfl, ?_⟩⟩⟩
    generalize hH2 : upd H1 l1 _ = H2 at *
    have e2 : Ex H1 H2 := by rw [← hH2]; exact Ex.new nl1
    have g1 : H2 l1 = some (.lst []) := by rw [← hH2]; exact upd_same
    generalize hH3 : upd H2 l2 _ = H3 at *
    have e3 : Ex H2 H3 := by rw [← hH3]; exact Ex.new nl2
    have g2 : H3 l2 = some (.lst []) := by rw [← hH3]; exact upd_same
    have x3 : Ex H H3 := (e1.trans e2).trans e3
    have f1 : H l1 = none := fresh_back e1 nl1
    have f2 : H l2 = none := fresh_back (e1.trans e2) nl2
    have l01 : l0 ≠ l1 := fun z => by rw [z, nl1] at g0; cases g0
    have l02 : l0 ≠ l2 := fun z => by rw [z] at g0; rw [e2 _ _ g0] at nl2; cases nl2
    have n12 : l1 ≠ l2 := fun z => by rw [z, nl2] at g1; cases g1
    replace g0 := e3 _ _ (e2 _ _ g0)
    replace g1 := e3 _ _ g1
    -- the posts
    refine ⟨_, rfl, l0, rfl, ⟨_, SqL.of g0⟩, fun D hD => lc_list (K := K) (a := l0) (xs := zs.map V.str) (fun i J => ∃ (bs : List Addr) (ps : Posts), J D = some (.lst (bs.map V.ref)) ∧ Paired (fun (b : Addr) (kv : Key × V) => J b = some (.tup [kV kv.1, kv.2])) bs (kvP ps) ∧ namesP ps = zs.take i ∧ (∀ p ∈ ps, kindOk ks p.2 = true) ∧ Ex H3 J)
      ⟨[], [], upd_same, .nil, rfl, (fun _ z => nomatch z), Ex.mut (Ex.refl _) hD⟩ ?_ ?_ ?_⟩
    · rintro i J _ ⟨bs, ps, h1, h2, h3, h4, e⟩
      exact SqL.of (e _ _ g0)
    · rintro i x J hx ⟨bs, ps, h1, h2, h3, h4, e⟩
      rw [List.getElem?_map] at hx
      obtain ⟨z, hz, rfl⟩ := Option.map_eq_some_iff.mp hx
      have lbs : bs.length = i ∧ i < zs.length := by
        have := Paired.length h2
        rw [kvP_len] at this
        have l3 : (namesP ps).length = ps.length := List.length_map ..
        rw [h3, List.length_take] at l3
        obtain ⟨hi, _⟩ := List.getElem?_eq_some_iff.mp hz
        omega
      refine ⟨rfl, ?_⟩
      unfold tYes
      dsimp only
      rw [if_pos rfl]
      refine ⟨_, rfl, _, rfl, (by show 1 ≤ sizeLine; decide), fun m hm => ⟨_, rfl, m, lk, _, _, rfl, rfl, upd_same, Ex.new hm _ _ (e _ _ (x3 _ _ hk)), ?_, fun c hc => ?_⟩⟩
      · show 1 + (ks.map V.str).length ≤ sizeLine
        rw [List.length_map]
        exact len_line (by omega)
      have y1 : Ex J (upd J m (.lst [V.non])) := Ex.new hm
      have y2 : Ex J (upd (upd J m (.lst [V.non])) c (.lst ([V.non] ++ ks.map V.str))) := y1.trans (Ex.new hc)
      refine ⟨a, c, _, rfl, y2 _ _ (e _ _ (x3 _ _ ha)), SqL.of upd_same, ?_, ?_, fun x hx => ?_⟩
      · show 0 < ([V.non] ++ ks.map V.str).length
        simp
      · show ([V.non] ++ ks.map V.str).length ≤ 1000
        rw [List.length_append, List.length_map]
        show 1 + ks.length ≤ 1000
        omega
      obtain ⟨o, rfl, ok⟩ := kind_of hx
      refine ⟨(by show 2 ≤ sizeLine; decide), fun t ht => ?_⟩
      generalize upd (upd J m (.lst [V.non])) c (.lst ([V.non] ++ ks.map V.str)) = J2 at y2 ht ⊢
      have y3 : Ex J (upd J2 t (.tup [.str z, ov o])) := y2.trans (Ex.new ht)
      have g3 : upd J2 t (.tup [.str z, ov o]) t = some (.tup [.str z, ov o]) := upd_same
      generalize upd J2 t (.tup [.str z, ov o]) = J3 at y3 g3 ⊢
      refine ⟨_, y3 _ _ h1, len_lt (by rw [List.length_map]; omega), bs ++ [t], ps ++ [(z, o)], by rw [upd_same, List.map_append]; rfl, ?_, ?_, fun p hp => ?_, Ex.mut (e.trans y3) hD⟩
      · rw [kvP_snoc]
        exact pair_put (y3 _ _ h1) (pair_snoc (pair_ex y3 h2) g3)
      · rw [namesP_snoc, h3, List.take_add_one, hz]
        rfl
      · rcases List.mem_append.mp hp with hp | hp
        · exact h4 p hp
        · rw [List.mem_singleton.mp hp]
          exact ok
    · rintro J ⟨bs, ps, h1, h2, h3, h4, e⟩
      rw [List.length_map, List.take_length] at h3
      refine ⟨D, bs, kvP ps, rfl, SqL.of h1, pair_sq h2, fun d nd => ?_⟩
      rw [merge_new (by rw [h3]; exact nz.nd)]
      have y1 : Ex J (upd J d (.dK (kvP ps))) := Ex.new nd
      have gd : upd J d (.dK (kvP ps)) d = some (.dK (kvP ps)) := upd_same
      generalize upd J d (.dK (kvP ps)) = J4 at y1 gd ⊢
      have x4 : Ex H3 J4 := e.trans y1
      have xH : Ex H J4 := x3.trans x4
      have psnm : ∀ p ∈ ps, isName p.1 = true := fun p hp => nz.ok _ (by rw [← h3]; exact List.mem_map.mpr ⟨p, hp, rfl⟩)
      have psl : ps.length ≤ 12 := by
        have l3 : (namesP ps).length = ps.length := List.length_map ..
        rw [h3] at l3
        omega
      have pl0 : Plain ks ws ps [] [] := ⟨by rw [h3]; exact nz.nd, psnm, h4, psl, List.nodup_nil, (fun _ z => nomatch z), Nat.zero_le _⟩
      -- the end
      have fin : ∀ (v4 v8 : Option V) (J : Hp) (xs ys : List V) (ts ls : List Tie), Ex H J → J d = some (.dK (kvP ps)) → J l1 = some (.lst xs) → J l2 = some (.lst ys) → Paired (TieV J) xs ts → Paired (TieV J) ys ls → Plain ks ws ps ts ls → ∀ t, J t = none → Q (.ref t) (upd J t (.tup [.ref d, .ref l1, .ref l2])) := by
        intro v4 v8 J xs ys ts ls e a1 a2 a3 a4 a5 pl t nt
        have z : Ex J (upd J t (.tup [.ref d, .ref l1, .ref l2])) := Ex.new nt
        exact q _ t d l1 l2 ps ts ls (e.trans z) upd_same ⟨z _ _ a1, ⟨xs, z _ _ a2, ties_ex a4 z⟩, ys, z _ _ a3, ties_ex a5 z⟩ pl
      refine ⟨_, rfl, (by show 0 ≤ sizeLine; decide), fun em nem => ?_⟩
      have y2 : Ex J4 (upd J4 em (.lst [])) := Ex.new nem
      have gem : upd J4 em (.lst []) em = some (.lst []) := upd_same
      generalize upd J4 em (.lst []) = J5 at y2 gem ⊢
      have x5 : Ex H3 J5 := x4.trans y2
      refine neP (α := List Str) (a := zs) (b := []) (hd_list (SqL.of (x5 _ _ g0)) (hdL_strs zs)) (hd_list (SqL.of gem) HdL.nil) ⟨_, rfl, ?_⟩
      have start : ∃ (v4 v8 : Option V) (xs ys : List V) (ts ls : List Tie), [some (.ref a), some (.ref lk), some (.ref lw), some (.ref d), none, some (.ref l0), some (.ref l1), some (.ref l2), none, none] = [some (V.ref a), some (.ref lk), some (.ref lw), some (.ref d), v4, some (.ref l0), some (.ref l1), some (.ref l2), v8, none] ∧ Ex H J5 ∧ J5 d = some (.dK (kvP ps)) ∧ J5 l0 = some (.lst (zs.map V.str)) ∧ J5 l1 = some (.lst xs) ∧ J5 l2 = some (.lst ys) ∧ Paired (TieV J5) xs ts ∧ Paired (TieV J5) ys ls ∧ Plain ks ws ps ts ls ∧ (ts ++ ls).length ≤ 0 :=
        ⟨none, none, [], [], [], [], rfl, x3.trans x5, y2 _ _ gd, x5 _ _ g0, x5 _ _ g1, x5 _ _ g2, .nil, .nil, pl0, Nat.le_refl _⟩
      by_cases cz : zs = []
      · refine if_f (by rw [decide_eq_true cz]; rfl) ⟨0, rfl, by decide, by decide, ?_⟩
        refine for_range (fun k σ J => ∃ (v4 v8 : Option V) (xs ys : List V) (ts ls : List Tie), σ = [some (.ref a), some (.ref lk), some (.ref lw), some (.ref d), v4, some (.ref l0), some (.ref l1), some (.ref l2), v8, none] ∧ Ex H J ∧ J d = some (.dK (kvP ps)) ∧ J l0 = some (.lst (zs.map V.str)) ∧ J l1 = some (.lst xs) ∧ J l2 = some (.lst ys) ∧ Paired (TieV J) xs ts ∧ Paired (TieV J) ys ls ∧ Plain ks ws ps ts ls ∧ (ts ++ ls).length ≤ k) start (fun k σ J hk => absurd hk (Nat.not_lt_zero k)) ?_
        rintro σ J ⟨v4, v8, xs, ys, ts, ls, rfl, b1, b2, _, b3, b4, b5, b6, b7, _⟩
        exact ⟨_, rfl, _, rfl, _, rfl, (by show 3 ≤ sizeLine; decide), fun t nt => fin v4 v8 J xs ys ts ls b1 b2 b3 b4 b5 b6 b7 t nt⟩
      · refine if_t (by rw [decide_eq_false cz]; rfl) ⟨_, rfl, a, 9, rfl, (x3.trans x5) _ _ ha, by decide, by decide, fun m m0 m1 => ⟨m, rfl, by omega, by omega, ?_⟩⟩
        refine for_range (fun k σ J => ∃ (v4 v8 : Option V) (xs ys : List V) (ts ls : List Tie), σ = [some (.ref a), some (.ref lk), some (.ref lw), some (.ref d), v4, some (.ref l0), some (.ref l1), some (.ref l2), v8, none] ∧ Ex H J ∧ J d = some (.dK (kvP ps)) ∧ J l0 = some (.lst (zs.map V.str)) ∧ J l1 = some (.lst xs) ∧ J l2 = some (.lst ys) ∧ Paired (TieV J) xs ts ∧ Paired (TieV J) ys ls ∧ Plain ks ws ps ts ls ∧ (ts ++ ls).length ≤ k) start ?_ ?_
        · rintro k σ J hk ⟨v4, v8, xs, ys, ts, ls, rfl, b1, b2, b0, b3, b4, b5, b6, b7, b8⟩
          have da := b1 _ _ ha
          have zl : 0 < (zs.map V.str).length := by rw [List.length_map]; exact List.length_pos_iff.mpr cz
          have zl2 : (zs.map V.str).length ≤ 1000 := by rw [List.length_map]; omega
          refine ⟨_, rfl, _, rfl, a, l0, _, rfl, da, SqL.of b0, zl, zl2, fun x1 hx1 => ⟨_, rfl, _, rfl, a, lw, _, rfl, da, SqL.of (b1 _ _ hw), ?_, ?_, fun x2 hx2 => ⟨_, rfl, _, rfl, a, l0, _, rfl, da, SqL.of b0, zl, zl2, fun x3 hx3 => ?_⟩⟩⟩
          · rw [List.length_map]; exact List.length_pos_iff.mpr wne
          · rw [List.length_map]; omega
          obtain ⟨s1, hs1, rfl⟩ := List.mem_map.mp hx1
          obtain ⟨s2, hs2, rfl⟩ := List.mem_map.mp hx2
          obtain ⟨s3, hs3, rfl⟩ := List.mem_map.mp hx3
          refine ⟨(by show 3 ≤ sizeLine; decide), fun t nt => ?_⟩
          have z1 : Ex J (upd J t (.tup [.str s1, .str s2, .str s3])) := Ex.new nt
          have gt : TieV (upd J t (.tup [.str s1, .str s2, .str s3])) (.ref t) ⟨s1, s2, s3⟩ := ⟨t, rfl, upd_same⟩
          generalize upd J t (.tup [.str s1, .str s2, .str s3]) = J6 at z1 gt ⊢
          have lx := paired_len b5
          have ly := paired_len b6
          rw [List.length_append] at b8
          refine ⟨_, rfl, _, rfl, _, rfl, l1, l2, xs, ys, rfl, rfl, z1 _ _ b3, z1 _ _ b4, len_line (by omega), fun c nc => ?_⟩
          have z2 : Ex J6 (upd J6 c (.lst (xs ++ ys))) := Ex.new nc
          have gc : upd J6 c (.lst (xs ++ ys)) c = some (.lst (xs ++ ys)) := upd_same
          generalize upd J6 c (.lst (xs ++ ys)) = J7 at z2 gc ⊢
          have z12 := z1.trans z2
          refine notInLP (gt.ex z2).hd (SqL.of gc) (ties_hd (paired_app (ties_ex b5 z12) (ties_ex b6 z12))) ⟨_, rfl, ?_⟩
          have c0 := z12 _ _ b0
          have c2 := z12 _ _ b2
          have c3 := z12 _ _ b3
          have c4 := z12 _ _ b4
          by_cases ci : (⟨s1, s2, s3⟩ : Tie) ∈ ts ++ ls
          · exact if_f (by rw [decide_eq_true ci]; rfl) ⟨_, _, xs, ys, ts, ls, rfl, b1.trans z12, c2, c0, c3, c4, ties_ex b5 z12, ties_ex b6 z12, b7, by rw [List.length_append]; omega⟩
          · refine if_t (by rw [decide_eq_false ci]; rfl) ⟨_, rfl, a, 2, rfl, z12 _ _ da, by decide, by decide, fun r r0 r1 => ⟨rfl, _, rfl, ?_⟩⟩
            have tk : (⟨s1, s2, s3⟩ : Tie).b ∈ ws ∧ (⟨s1, s2, s3⟩ : Tie).a ∈ namesP ps ∧ (⟨s1, s2, s3⟩ : Tie).c ∈ namesP ps := ⟨hs2, by rw [h3]; exact hs1, by rw [h3]; exact hs3⟩
            have gt7 := gt.ex z2
            by_cases cr : r = 0
            · refine if_t (decide_eq_true (by rw [cr])) ⟨_, rfl, .inl ⟨rfl, _, SqL.of c3⟩, _, rfl, l1, _, _, rfl, rfl, c3, len_lt (by omega), ?_⟩
              have pm : ((ts ++ [(⟨s1, s2, s3⟩ : Tie)]) ++ ls).Perm ((⟨s1, s2, s3⟩ : Tie) :: (ts ++ ls)) := by
                rw [List.append_assoc]
                exact List.perm_middle
              refine ⟨_, _, xs ++ [.ref t], ys, ts ++ [⟨s1, s2, s3⟩], ls, rfl, Ex.mut (b1.trans z12) f1, ?_, ?_, upd_same, ?_, ties_put (paired_app (ties_ex b5 z12) (.cons gt7 .nil)) c3, ties_put (ties_ex b6 z12) c3, ⟨b7.nd, b7.nm, b7.kd, b7.few, ?_, ?_, ?_⟩, ?_⟩
              · rw [upd_ne (ne_of c2 c3 (by intro z; cases z))]; exact c2
              · rw [upd_ne l01]; exact c0
              · rw [upd_ne n12.symm]; exact c4
              · rw [pm.nodup_iff]; exact List.nodup_cons.mpr ⟨ci, b7.tnd⟩
              · intro t' ht'
                rcases List.mem_cons.mp (pm.mem_iff.mp ht') with rfl | ht'
                · exact tk
                · exact b7.tok t' ht'
              · rw [pm.length_eq, List.length_cons, List.length_append]; omega
              · rw [pm.length_eq, List.length_cons, List.length_append]; omega
            · refine if_f (decide_eq_false (fun z => cr (V.int.inj z))) ⟨_, rfl, .inl ⟨rfl, _, SqL.of c4⟩, _, rfl, l2, _, _, rfl, rfl, c4, len_lt (by omega), ?_⟩
              have pm : (ts ++ (ls ++ [(⟨s1, s2, s3⟩ : Tie)])).Perm ((⟨s1, s2, s3⟩ : Tie) :: (ts ++ ls)) := by
                rw [← List.append_assoc]
                exact List.perm_append_singleton _ _
              refine ⟨_, _, xs, ys ++ [.ref t], ts, ls ++ [⟨s1, s2, s3⟩], rfl, Ex.mut (b1.trans z12) f2, ?_, ?_, ?_, upd_same, ties_put (ties_ex b5 z12) c4, ties_put (paired_app (ties_ex b6 z12) (.cons gt7 .nil)) c4, ⟨b7.nd, b7.nm, b7.kd, b7.few, ?_, ?_, ?_⟩, ?_⟩
              · rw [upd_ne (ne_of c2 c4 (by intro z; cases z))]; exact c2
              · rw [upd_ne l02]; exact c0
              · rw [upd_ne n12]; exact c3
              · rw [pm.nodup_iff]; exact List.nodup_cons.mpr ⟨ci, b7.tnd⟩
              · intro t' ht'
                rcases List.mem_cons.mp (pm.mem_iff.mp ht') with rfl | ht'
                · exact tk
                · exact b7.tok t' ht'
              · rw [pm.length_eq, List.length_cons, List.length_append]; omega
              · rw [pm.length_eq, List.length_cons, List.length_append]; omega
        · rintro σ J ⟨v4, v8, xs, ys, ts, ls, rfl, b1, b2, _, b3, b4, b5, b6, b7, _⟩
          exact ⟨_, rfl, _, rfl, _, rfl, (by show 3 ≤ sizeLine; decide), fun t nt => fin v4 v8 J xs ys ts ls b1 b2 b3 b4 b5 b6 b7 t nt⟩
end
end K6
namespace K6
open PySem L2 Kd Evl Ks Kt Ky
open PySem.W (Datum DatumOrd T3)
theorem lt_cps : ∀ a b : List Nat, PySem.Spec.ltCps a b = decide (a < b)
  | [], [] => by simp [PySem.Spec.ltCps]
  | [], _ :: _ => by simp [PySem.Spec.ltCps]
  | _ :: _, [] => by simp [PySem.Spec.ltCps]
  | a :: r, b :: t => by
    have ih := lt_cps r t
    rw [Bool.eq_iff_iff, decide_eq_true_iff, List.cons_lt_cons_iff]
    unfold PySem.Spec.ltCps
    rw [ih]
    simp
theorem leS_le {a b : Str} (h : leS a b) : le a b = true := by
  unfold leS at h
  rw [lt_cps] at h
  unfold le
  rw [show DatumOrd.lt b a = decide (b.cps.toList < a.cps.toList) from rfl, h]
  rfl
theorem srt_strs {xs ys : List Str} (p : ys.Perm xs) (h : PyProof.Rows.sortedS ys = true) : srt xs = ys := srt_of p ((sorted_pair h).imp leS_le)
theorem hd_ov {K : PySem.W.Frag} {H : Hp} (o : Option Str) : Hd K H (ov o) o := by
  cases o with
  | none => exact Dp.non
  | some z => exact Dp.str z
theorem pairs_hd {K : PySem.W.Frag} {H : Hp} : ∀ {bs : List Addr} {ps : Posts}, Paired (fun (b : Addr) (kv : Key × V) => H b = some (.tup [kV kv.1, kv.2])) bs (kvP ps) → HdL K H (bs.map V.ref) ps
  | _, [], h => by cases h; exact HdL.nil
  | _, p :: ps, h => by
    cases h with
    | cons h1 h2 => exact HdL.cons (hd_pair (SqT.of h1) (hd_str p.1) (hd_ov p.2)) (pairs_hd h2)
theorem call_reprB {X : Cx} : CallR X (.builtin "repr") (fun xs H Q => ∃ b, xs = [.bl b] ∧ Q (.str (PyData.bool b).shown) H) := by
  intro pins s σ H xs us Q I r ⟨b, ex, q⟩
  subst ex
  obtain ⟨u, rfl, ru⟩ := r.one
  cases ru
  exact PySem.P.repr_of_bool ⟨.str _, H, I.tok _, ⟨_, rfl⟩, q⟩
theorem names_sortP (ps : Posts) : namesP (sortP ps) = srt (namesP ps) := by
  unfold sortP namesP
  rw [List.map_map]
  exact List.map_id' _
theorem sortP_len (ps : Posts) : (sortP ps).length = ps.length := by
  unfold sortP
  rw [List.length_map, (srt_perm _).length_eq]
  exact List.length_map ..
theorem look_at {ps : Posts} (nd : (namesP ps).Nodup) {p : Str × Option Str} (h : p ∈ ps) : look ps p.1 = some p.2 := by
  induction ps with
  | nil => cases h
  | cons q ps ih =>
    have nd' : q.1 ∉ namesP ps ∧ (namesP ps).Nodup := List.nodup_cons.mp nd
    unfold look
    rw [List.find?_cons]
    rcases List.mem_cons.mp h with rfl | h
    · rw [decide_eq_true rfl]
      rfl
    · have ne : ¬ q.1 = p.1 := fun z => nd'.1 (by rw [z]; exact List.mem_map.mpr ⟨p, h, rfl⟩)
      rw [decide_eq_false ne]
      exact ih nd'.2 h
theorem sortP_perm {ps : Posts} (nd : (namesP ps).Nodup) : (sortP ps).Perm ps := by
  have h1 : (sortP ps).Perm ((namesP ps).map fun n => (n, (look ps n).getD none)) := (srt_perm (namesP ps)).map _
  have h2 : (namesP ps).map (fun n => (n, (look ps n).getD none)) = ps := by
    unfold namesP
    rw [List.map_map]
    conv => rhs; rw [← List.map_id ps]
    refine List.map_congr_left fun p hp => ?_
    show (p.1, (look ps p.1).getD none) = p
    rw [look_at nd hp]
    rfl
  rw [h2] at h1
  exact h1
theorem sure_perm {ps qs : Posts} (h : ps.Perm qs) : sureP ps = sureP qs := h.all_eq
theorem sure_nones (ps : Posts) : decide ((ps.filter fun p => decide (p.2 = none)).map (·.1) = []) = sureP ps := by
  rw [Bool.eq_iff_iff, decide_eq_true_iff, List.map_eq_nil_iff, List.filter_eq_nil_iff]
  unfold sureP
  rw [List.all_eq_true]
  refine forall_congr' fun p => forall_congr' fun _ => ?_
  cases p.2 <;> simp
theorem nones_eq : ∀ ps : Posts, ((ps.map fun p => (decide (p.2 = none), V.str p.1)).filter (·.1)).map (·.2) = ((ps.filter fun p => decide (p.2 = none)).map (·.1)).map V.str
  | [] => rfl
  | p :: ps => by
    have ih := nones_eq ps
    rw [List.map_cons, List.filter_cons, List.filter_cons]
    cases c : decide (p.2 = none) with
    | false =>
      rw [if_neg (by simp), if_neg (by simp)]
      exact ih
    | true =>
      rw [if_pos rfl, if_pos rfl, List.map_cons, List.map_cons, List.map_cons, ih]
def spIs (AA : Ads) : Sp := fun vs H Q _ => ∃ (p sh d l1 l2 : Addr) (ks ws kr wr : List Str) (ps : Posts) (ts ls : List Tie), vs = [.ref p, .ref sh, .ref d, .ref l1, .ref l2] ∧ ShapeAt AA.C_Shape H p sh (sortP ps) (srt ts) (srt ls) ∧ SheetAt AA.C_Sheet H sh ks ws ∧ OkS ks ∧ OkS ws ∧
  PlainAt H d l1 l2 ps ts ls ∧ Plain kr wr ps ts ls ∧ ∀ H', Ex H H' → Q (.bl true) H'
/-- a pair of what is told and what is due -/
def DueAt (K : PySem.W.Frag) (H : Hp) (x : V) : Prop := ∃ t v u xs ys, x = .ref t ∧ H t = some (.tup [.ref v, .ref u]) ∧ H v = some (.tup xs) ∧ H u = some (.lst ys) ∧ xs.length ≤ 1000 ∧ ((∃ ts : List Tie, HdL K H xs (srt ts) ∧ HdL K H ys ts) ∨ ∃ zs : List Str, HdL K H xs (srt zs) ∧ HdL K H ys zs)
theorem DueAt.ex {K : PySem.W.Frag} {H H' : Hp} {x : V} (h : DueAt K H x) (e : Ex H H') : DueAt K H' x := by
  obtain ⟨t, v, u, xs, ys, h1, h2, h3, h4, h5, h6⟩ := h
  refine ⟨t, v, u, xs, ys, h1, e _ _ h2, e _ _ h3, e _ _ h4, h5, ?_⟩
  rcases h6 with ⟨ts, a, b⟩ | ⟨zs, a, b⟩
  · exact .inl ⟨ts, a.ex e, b.ex e⟩
  · exact .inr ⟨zs, a.ex e, b.ex e⟩
section
variable {P : Program} {w : World} {K : PySem.W.Frag} {mg : Str → Option Value} {base : Heap} {AA : Ads}
theorem ok_law_is (T : Txt K mg AA) : FnOk P w K mg base CX0 4 AA.a_law_is AA.d_law_is ["_law_shape", "_law_sheet", "_law_posts", "_law_some", "_law_others"] (spIs AA) := by
  have G_Sheet_eq : FnOk P w K mg base CX0 1 AA.a_Sheet_eq AA.d_Sheet_eq ["self", "other"] (spEqS K AA.C_Sheet) := ok_Sheet_eq T
  have G_Shape_posts : FnOk P w K mg base CX0 1 AA.a_Shape_posts AA.d_Shape_posts ["self"] (spPostsOf AA) := ok_Shape_posts T
  have G_Shape_there : FnOk P w K mg base CX0 1 AA.a_Shape_there AA.d_Shape_there ["self"] (spTiesOf (fun ts _ => ts) AA) := ok_Shape_there T
  have G_Shape_lacking : FnOk P w K mg base CX0 1 AA.a_Shape_lacking AA.d_Shape_lacking ["self"] (spTiesOf (fun _ ls => ls) AA) := ok_Shape_lacking T
  have G_Shape_names : FnOk P w K mg base CX0 1 AA.a_Shape_names AA.d_Shape_names ["self"] (spNamesOf AA) := ok_Shape_names T
  have G_Shape_is_sure : FnOk P w K mg base CX0 2 AA.a_Shape_is_sure AA.d_Shape_is_sure ["self"] (spSure AA) := ok_Shape_is_sure T
  have G_Shape_sheet : FnOk P w K mg base CX0 1 AA.a_Shape_sheet AA.d_Shape_sheet ["self"] (getSp AA.C_Shape "own_sheet") := ok_Shape_sheet T
  have G_Shape_len : FnOk P w K mg base CX0 1 AA.a_Shape_len AA.d_Shape_len ["self"] (spLenP AA) := ok_Shape_len T
  have G_Shape_str : FnOk P w K mg base CX0 1 AA.a_Shape_str AA.d_Shape_str ["self"] (spStrP AA) := ok_Shape_str T
  refine T.F_law_is.ok sc_law_is (fun vs H Q E h => ?_) (fun cdv A outer s H vs Q E hr h => ?_)
  · obtain ⟨p, sh, d, l1, l2, ks, ws, kr, wr, ps, ts, ls, rfl, _⟩ := h
    rfl
  · obtain ⟨p, sh, d, l1, l2, ks, ws, kr, wr, ps, ts, ls, rfl, hs, hsh, ok1, ok2, ⟨gd, ⟨xs, g1, p1⟩, ys, g2, p2⟩, pl, q⟩ := h
    have hu : _ + 64 < cLine := hu64 hr
    have hu1 : _ + 1 < cLine := hu_of hr
    have psl := pl.few
    have tl := pl.tl
    rw [List.length_append] at tl
    have lsp := sortP_len ps
    obtain ⟨dx, fs, po, th, la, h1, hos, h3, h4, h5, h6, h7, h8⟩ := hs.at_
    refine ⟨_, (pss_cons (ps_set (i := 5) sc_law_is.nd rfl (Or.inl rfl) (pe_prop (pv 0) T.cl_Shape T.P_Shape_posts G_Shape_posts (hr.mono (by decide)) T.b_Shape_posts .nil pass0 rfl))
    (pss_cons (ps_if (pw_or (pt_not (pt_val (pe_callB call_isi (by rfl) T.n_isinstance (by decide +kernel) (pa_cons (pv 5) (pa_cons (pe_bltn (v := .ty "dict") (u := .type "dict") (by rfl) T.n_dict (by decide +kernel) rfl) pa_nil))))) (pw_or1 (pt_cmpR (op_neP (K := K) rfl hu) (pe_itemsR rfl (pv 5) (by rfl) T.n_list (by decide +kernel)) (pe_lc (own := [("_law_name", 10)]) (g := gName 10) rfl sc_law_is.nd (pi_list (pe_callB (call_sortedD rfl) (by rfl) T.n_sorted (by decide +kernel) (pa_cons (pv 2) pa_nil))) (blkOk_by (N := N_law_is) (sc := defScope s_law_is) (by decide +kernel)) (fun _ _ _ _ _ => (pg_name (i := 10) sc_law_is.nd rfl (Or.inl rfl))) (fun _ _ _ _ _ => pts_nil) (fun _ _ _ _ _ => by exact (pe_tup (pa_cons (pv 10) (pa_cons ((pe_dget hu1) (pv 2) (pv 10) (fun _ _ => rfl)) pa_nil))))) (nomark _)))).pt (pss_one (ps_ret pe_bl)) pss_nil)
    (pss_cons (ps_for PassesOwn.never rfl (pi_tup (pe_tup (pa_cons (pe_tup (pa_cons (pe_prop (pv 0) T.cl_Shape T.P_Shape_there G_Shape_there (hr.mono (by decide)) T.b_Shape_there .nil pass0 rfl) (pa_cons (pv 3) pa_nil))) (pa_cons (pe_tup (pa_cons (pe_prop (pv 0) T.cl_Shape T.P_Shape_lacking G_Shape_lacking (hr.mono (by decide)) T.b_Shape_lacking .nil pass0 rfl) (pa_cons (pv 4) pa_nil))) (pa_cons (pe_tup (pa_cons (pe_prop (pv 0) T.cl_Shape T.P_Shape_names G_Shape_names (hr.mono (by decide)) T.b_Shape_names .nil pass0 rfl) (pa_cons (pe_callTy (call_listD rfl) (by rfl) T.n_list (by decide +kernel) (pa_cons (pv 2) pa_nil)) pa_nil))) pa_nil))))) (pg_tup rfl (pgs_cons (pg_name (i := 8) sc_law_is.nd rfl (Or.inl rfl)) (pgs_cons (pg_name (i := 9) sc_law_is.nd rfl (Or.inl rfl)) pgs_nil)))
      (pss_one (ps_if (pw_or (pt_not (pt_val (pe_callB call_isi (by rfl) T.n_isinstance (by decide +kernel) (pa_cons (pv 8) (pa_cons (pe_bltn (v := .ty "tuple") (u := .type "tuple") (by rfl) T.n_tuple (by decide +kernel) rfl) pa_nil))))) (pw_or1 (pt_cmpR (op_neP (K := K) rfl hu) (pe_callTy call_list_of (by rfl) T.n_list (by decide +kernel) (pa_cons (pv 8) pa_nil)) (pe_callB (cr_sortD (K := K) rfl hu) (by rfl) T.n_sorted (by decide +kernel) (pa_cons (pv 9) pa_nil)) (nomark _)))).pt (pss_one (ps_ret pe_bl)) pss_nil)))
    (pss_cons (ps_set (i := 6) sc_law_is.nd rfl (Or.inl rfl) (pe_cmpR (op_eqP (K := K) rfl hu) (pe_lock (pe_lc (own := [("_law_name", 10)]) (g := gName 10) rfl sc_law_is.nd (pi_keys (pv 2)) (blkOk_by (N := N_law_is) (sc := defScope s_law_is) (by decide +kernel)) (fun _ _ _ _ _ => (pg_name (i := 10) sc_law_is.nd rfl (Or.inl rfl))) (fun _ _ _ _ _ => (by exact pts_one (pt_cmpR op_isN ((pe_dget hu1) (pv 2) (pv 10) (fun _ _ => rfl)) pe_non (nomark _)))) (fun _ _ _ _ _ => by exact (pv 10)))) (pe_lst pa_nil) (nomark _)))
    (pss_cons (ps_if (pw_or (pt_cmpR op_ne (pe_callB call_reprB (by rfl) T.n_repr (by decide +kernel) (pa_cons (pe_prop (pv 0) T.cl_Shape T.P_Shape_is_sure G_Shape_is_sure (hr.mono (by decide)) T.b_Shape_is_sure .nil pass0 rfl) pa_nil)) (pe_callB call_reprB (by rfl) T.n_repr (by decide +kernel) (pa_cons (pv 6) pa_nil)) (nomark _)) (pw_or1 (pt_cmpR (op_ownNe G_Sheet_eq (T.I_Sheet.own T.m_Sheet_eq) T.b_Sheet_eq (hr.mono (by decide))) (pe_prop (pv 0) T.cl_Shape T.P_Shape_sheet G_Shape_sheet (hr.mono (by decide)) T.b_Shape_sheet .nil pass0 rfl) (pv 1) (nomark _)))).pt (pss_one (ps_ret pe_bl)) pss_nil)
    (pss_cons (ps_set (i := 7) sc_law_is.nd rfl (Or.inl rfl) (pe_joined (.cons pe_str (.cons (pe_fmt (pe_callB call_lenD (by rfl) T.n_len (by decide +kernel) (pa_cons (pv 2) pa_nil))) (.cons pe_str (.cons (pe_fmt (pe_callB call_len_seq (by rfl) T.n_len (by decide +kernel) (pa_cons (pv 3) pa_nil))) (.cons pe_str (.cons (pe_fmt (pe_callB call_len_seq (by rfl) T.n_len (by decide +kernel) (pa_cons (pv 4) pa_nil))) (.cons pe_str .nil)))))))))
    (pss_one (ps_ret (pe_and (pe_cmpR op_eq (pe_callB (call_lenOwn G_Shape_len T.m_Shape_len.at_ T.m_Shape_len.fn T.b_Shape_len (hr.mono (by decide))) (by rfl) T.n_len (by decide +kernel) (pa_cons (pv 0) pa_nil)) (pe_callB call_lenD (by rfl) T.n_len (by decide +kernel) (pa_cons (pv 2) pa_nil)) (nomark _)) (pe_one (pe_cmpR op_eq (pe_callTy (call_strOwn G_Shape_str T.m_Shape_str.at_ T.m_Shape_str.fn T.b_Shape_str (hr.mono (by decide))) (by rfl) T.n_str (by decide +kernel) (pa_cons (pv 0) pa_nil)) (pv 7) (nomark _)))))))))))), ?_⟩
    refine ⟨_, rfl, p, dx, fs, rfl, h1, p, sh, _, _, _, rfl, hs, fun to nto => ?_⟩
    have e1 : Ex H (upd H to (.dK (kvP (sortP ps)))) := Ex.new nto
    have gto : upd H to (.dK (kvP (sortP ps))) to = some (.dK (kvP (sortP ps))) := upd_same
    generalize upd H to (.dK (kvP (sortP ps))) = H1 at e1 gto ⊢
    refine ⟨_, rfl, _, _, _, _, _, rfl, .ty "dict", .base (.dK gto), kit_ty (by decide +kernel : kitB "dict" "dict" = some true), _, rfl, if_f rfl ?_⟩
    refine ⟨_, rfl, to, _, rfl, .inl gto, fun H2 q1 bs1 e2 _ gq1 pr1 => ?_⟩
    have x2 : Ex H H2 := e1.trans e2
    refine ⟨_, rfl, d, _, namesP ps, rfl, .inl (x2 _ _ gd), ?_, ?_, fun zs sl pm so nsl => ?_⟩
    · unfold kvP namesP
      rw [List.map_map, List.map_map]
      rfl
    · show (ps.map (·.1)).length < 64
      rw [List.length_map]
      omega
    obtain rfl : srt (namesP ps) = zs := srt_strs pm so
    have e3 : Ex H2 (upd H2 sl (.lst ((srt (namesP ps)).map V.str))) := Ex.new nsl
    have gsl : upd H2 sl (.lst ((srt (namesP ps)).map V.str)) sl = some (.lst ((srt (namesP ps)).map V.str)) := upd_same
    generalize upd H2 sl (.lst ((srt (namesP ps)).map V.str)) = H3 at e3 gsl ⊢
    have x3 : Ex H H3 := x2.trans e3
    have lsn : (srt (namesP ps)).length = ps.length := by rw [(srt_perm _).length_eq]; exact List.length_map ..
    refine ⟨sl, rfl, ⟨_, SqL.of gsl⟩, fun D hD => lc_list (K := K) (a := sl) (xs := (srt (namesP ps)).map V.str) (fun i J => ∃ bs : List Addr, J D = some (.lst (bs.map V.ref)) ∧ Paired (fun (b : Addr) (kv : Key × V) => J b = some (.tup [kV kv.1, kv.2])) bs (kvP ((sortP ps).take i)) ∧ Ex H3 J)
      ⟨[], upd_same, .nil, Ex.mut (Ex.refl _) hD⟩ (fun i J _ ⟨_, _, _, e⟩ => SqL.of (e _ _ gsl)) ?_ ?_⟩
    · rintro i x J hx ⟨bs, a1, a2, e⟩
      rw [List.getElem?_map] at hx
      obtain ⟨n, hn, rfl⟩ := Option.map_eq_some_iff.mp hx
      have hm : n ∈ namesP ps := (srt_perm _).mem_iff.mp (List.mem_of_getElem? hn)
      have hlk : (look ps n).isSome = true := by rw [look_some]; exact decide_eq_true hm
      obtain ⟨o, ho⟩ := Option.isSome_iff_exists.mp hlk
      have lb : bs.length ≤ 12 := by
        have := Paired.length a2
        rw [kvP_len, List.length_take] at this
        omega
      refine ⟨rfl, ?_⟩
      unfold tYes
      dsimp only
      rw [if_pos rfl]
      refine ⟨_, rfl, _, rfl, _, rfl, d, ov o, rfl, .inl ⟨_, .inr n, .inl (e _ _ (x3 _ _ gd)), rfl, by rw [val_kvP, ho]; rfl⟩, (by show 2 ≤ sizeLine; decide), fun t nt => ?_⟩
      have y : Ex J (upd J t (.tup [.str n, ov o])) := Ex.new nt
      have gt : upd J t (.tup [.str n, ov o]) t = some (.tup [.str n, ov o]) := upd_same
      generalize upd J t (.tup [.str n, ov o]) = J2 at y gt ⊢
      refine ⟨_, y _ _ a1, len_lt (by rw [List.length_map]; omega), bs ++ [t], by rw [upd_same, List.map_append]; rfl, ?_, Ex.mut (e.trans y) hD⟩
      have hsp : (sortP ps)[i]? = some (n, o) := by
        unfold sortP
        rw [List.getElem?_map, hn]
        show some (n, (look ps n).getD none) = _
        rw [ho]
        rfl
      have et : (sortP ps).take (i + 1) = (sortP ps).take i ++ [(n, o)] := by rw [List.take_add_one, hsp]; rfl
      rw [et, kvP_snoc]
      exact pair_put (y _ _ a1) (pair_snoc (pair_ex y a2) gt)
    rintro H4 ⟨bs, a1, a2, e4⟩
    rw [List.length_map, lsn, List.take_of_length_le (by omega)] at a2
    refine neP (α := List (Str × Option Str)) (a := sortP ps) (b := sortP ps) (hd_list (SqL.of (e4 _ _ (e3 _ _ gq1))) ((pairs_hd pr1).ex (e3.trans e4))) (hd_list (SqL.of a1) (pairs_hd a2)) ⟨_, rfl, if_f (by rw [decide_eq_true rfl]; rfl) ?_⟩
    have x4 : Ex H H4 := x3.trans e4
    -- there, lacking, names
    refine ⟨_, rfl, p, dx, fs, rfl, x4 _ _ h1, p, sh, _, _, _, rfl, hs.ex x4, fun q1 xs1 H5 e5 gq1 tv1 => ⟨_, rfl, (by show 2 ≤ sizeLine; decide), fun t1 nt1 => ?_⟩⟩
    have y1 : Ex H5 (upd H5 t1 (.tup [.ref q1, .ref l1])) := Ex.new nt1
    have gt1 : upd H5 t1 (.tup [.ref q1, .ref l1]) t1 = some (.tup [.ref q1, .ref l1]) := upd_same
    generalize upd H5 t1 (.tup [.ref q1, .ref l1]) = H6 at y1 gt1 ⊢
    have x6 : Ex H H6 := (x4.trans e5).trans y1
    refine ⟨_, rfl, p, dx, fs, rfl, x6 _ _ h1, p, sh, _, _, _, rfl, hs.ex x6, fun q2 xs2 H7 e7 gq2 tv2 => ⟨_, rfl, (by show 2 ≤ sizeLine; decide), fun t2 nt2 => ?_⟩⟩
    have y2 : Ex H7 (upd H7 t2 (.tup [.ref q2, .ref l2])) := Ex.new nt2
    have gt2 : upd H7 t2 (.tup [.ref q2, .ref l2]) t2 = some (.tup [.ref q2, .ref l2]) := upd_same
    generalize upd H7 t2 (.tup [.ref q2, .ref l2]) = H8 at y2 gt2 ⊢
    have x8 : Ex H H8 := (x6.trans e7).trans y2
    refine ⟨_, rfl, p, dx, fs, rfl, x8 _ _ h1, p, sh, _, _, _, rfl, hs.ex x8, fun q3 H9 e9 gq3 => ⟨_, rfl, d, _, rfl, .inl ((x8.trans e9) _ _ gd), fun l3 nl3 => ?_⟩⟩
    rw [keys_P]
    have y3 : Ex H9 (upd H9 l3 (.lst ((namesP ps).map V.str))) := Ex.new nl3
    have gl3 : upd H9 l3 (.lst ((namesP ps).map V.str)) l3 = some (.lst ((namesP ps).map V.str)) := upd_same
    generalize upd H9 l3 (.lst ((namesP ps).map V.str)) = H10 at y3 gl3 ⊢
    refine ⟨(by show 2 ≤ sizeLine; decide), fun t3 nt3 => ⟨(by show 3 ≤ sizeLine; decide), fun tt ntt => ?_⟩⟩
    have y4 : Ex H10 (upd H10 t3 (.tup [.ref q3, .ref l3])) := Ex.new nt3
    have gt3 : upd H10 t3 (.tup [.ref q3, .ref l3]) t3 = some (.tup [.ref q3, .ref l3]) := upd_same
    generalize upd H10 t3 (.tup [.ref q3, .ref l3]) = H11 at y4 gt3 ntt ⊢
    have y5 : Ex H11 (upd H11 tt (.tup [.ref t1, .ref t2, .ref t3])) := Ex.new ntt
    have gtt : upd H11 tt (.tup [.ref t1, .ref t2, .ref t3]) tt = some (.tup [.ref t1, .ref t2, .ref t3]) := upd_same
    generalize upd H11 tt (.tup [.ref t1, .ref t2, .ref t3]) = H12 at y5 gtt ⊢
    have r10 : Ex H10 H12 := y4.trans y5
    have r9 : Ex H9 H12 := y3.trans r10
    have r8 : Ex H8 H12 := e9.trans r9
    have r7 : Ex H7 H12 := y2.trans r8
    have r6 : Ex H6 H12 := e7.trans r7
    have r5 : Ex H5 H12 := y1.trans r6
    have x12 : Ex H H12 := x8.trans r8
    have lts : (srt ts).length = ts.length := (srt_perm ts).length_eq
    have lls : (srt ls).length = ls.length := (srt_perm ls).length_eq
    have dues : ∀ x ∈ [V.ref t1, .ref t2, .ref t3], DueAt K H12 x := by
      intro x hx
      simp only [List.mem_cons, List.not_mem_nil, or_false] at hx
      rcases hx with rfl | rfl | rfl
      · exact ⟨t1, q1, l1, xs1, xs, rfl, r6 _ _ gt1, r5 _ _ gq1, x12 _ _ g1, by rw [paired_len tv1]; show (srt ts).length ≤ 1000; omega, .inl ⟨ts, (ties_hd tv1).ex r5, (ties_hd p1).ex x12⟩⟩
      · exact ⟨t2, q2, l2, xs2, ys, rfl, r8 _ _ gt2, r7 _ _ gq2, x12 _ _ g2, by rw [paired_len tv2]; show (srt ls).length ≤ 1000; omega, .inl ⟨ls, (ties_hd tv2).ex r7, (ties_hd p2).ex x12⟩⟩
      · refine ⟨t3, q3, l3, _, _, rfl, y5 _ _ gt3, r9 _ _ gq3, r10 _ _ gl3, by rw [List.length_map, names_sortP, lsn]; omega, .inr ⟨namesP ps, ?_, hdL_strs _⟩⟩
        rw [names_sortP]
        exact hdL_strs _
    refine ⟨tt, rfl, ⟨_, SqT.of gtt⟩, for_tup (K := K) (a := tt) (xs := [.ref t1, .ref t2, .ref t3]) (fun k σ J => ∃ v8 v9 : Option V, σ = [some (.ref p), some (.ref sh), some (.ref d), some (.ref l1), some (.ref l2), some (.ref to), none, none, v8, v9, none] ∧ Ex H12 J)
      ⟨none, none, rfl, Ex.refl _⟩ (fun k σ J _ ⟨_, _, _, e⟩ => SqT.of (e _ _ gtt)) ?_ ?_⟩
    · rintro k x σ J hx ⟨v8, v9, rfl, e⟩
      obtain ⟨t, v, u, vs, us, rfl, b1, b2, b3, b4, b5⟩ := (dues x (List.mem_of_getElem? hx)).ex e
      refine ⟨t, _, rfl, SqT.of b1, rfl, _, _, rfl, _, _, rfl, rfl, ?_⟩
      refine ⟨_, rfl, _, _, _, _, _, rfl, .ty "tuple", .base (.tup b2), kit_ty (by decide +kernel : kitB "tuple" "tuple" = some true), _, rfl, if_f rfl ?_⟩
      refine ⟨_, rfl, v, vs, rfl, .inr (SqT.of b2), fun c nc => ⟨_, rfl, ?_⟩⟩
      have z : Ex J (upd J c (.lst vs)) := Ex.new nc
      have gc : upd J c (.lst vs) c = some (.lst vs) := upd_same
      generalize upd J c (.lst vs) = J2 at z gc ⊢
      rcases b5 with ⟨ss, b6, b7⟩ | ⟨ss, b6, b7⟩
      · refine sortedP (α := Tie) (xs := ss) (SqL.of (z _ _ b3)) (b7.ex z) fun ws' c2 hws _ nc2 => ?_
        have z2 : Ex J2 (upd J2 c2 (.lst ws')) := Ex.new nc2
        exact neP (α := List Tie) (a := srt ss) (b := srt ss) (hd_list (SqL.of (z2 _ _ gc)) (b6.ex (z.trans z2))) (hd_list (SqL.of upd_same) (hws.ex z2)) ⟨_, rfl, if_f (by rw [decide_eq_true rfl]; rfl) ⟨_, _, rfl, (e.trans z).trans z2⟩⟩
      · refine sortedP (α := Str) (xs := ss) (SqL.of (z _ _ b3)) (b7.ex z) fun ws' c2 hws _ nc2 => ?_
        have z2 : Ex J2 (upd J2 c2 (.lst ws')) := Ex.new nc2
        exact neP (α := List Str) (a := srt ss) (b := srt ss) (hd_list (SqL.of (z2 _ _ gc)) (b6.ex (z.trans z2))) (hd_list (SqL.of upd_same) (hws.ex z2)) ⟨_, rfl, if_f (by rw [decide_eq_true rfl]; rfl) ⟨_, _, rfl, (e.trans z).trans z2⟩⟩
    rintro σ J ⟨v8, v9, rfl, e⟩
    have xJ : Ex H J := x12.trans e
    -- is_sure
    have gdJ := xJ _ _ gd
    refine ⟨d, _, gdJ, trivial, fun od => ⟨_, rfl, d, od, rfl, .inl ⟨_, upd_same, fun D hD => ?_⟩⟩⟩
    generalize hG : upd J d (.frz od (.dK (kvP ps))) = G at *
    have hGd : G d = some (.frz od (.dK (kvP ps))) := by rw [← hG]; exact upd_same
    refine lcR walk_keys hD ((kvP ps).map fun kv => kV kv.1) (ps.map fun p => (decide (p.2 = none), V.str p.1)) (by rw [List.length_map, kvP_len]) (by rw [kvP_len]; exact len_lt (by omega)) (fun H2 e2 => e2 _ _ hGd) (fun k H2 x H3 ⟨e1, q1, v1, h1, h2⟩ => ⟨e1, by rw [List.getElem?_map, h1, h2]; rfl⟩) (fun _ => rfl) (fun k x b y H2 hx hr e2 => ?_) (fun k x y H2 hx hr e2 => ?_) (fun H2 e2 h2 => ?_)
    · rw [List.getElem?_map] at hr hx
      obtain ⟨pp, hp, ee⟩ := Option.map_eq_some_iff.mp hr
      obtain ⟨⟨k1, v1⟩, hp2, e3⟩ := Option.map_eq_some_iff.mp hx
      obtain ⟨p2', hp3, rfl, rfl⟩ := kvP_at hp2
      obtain rfl : pp = p2' := Option.some.inj (hp.symm.trans hp3)
      cases ee
      subst e3
      intro H3 e3 Q3 q3
      refine ⟨_, rfl, _, rfl, d, ov pp.2, rfl, .inl ⟨_, .inr pp.1, .inr ⟨od, e3 _ _ (e2 _ _ hGd)⟩, rfl, by rw [val_kvP, look_at pl.nd (List.mem_of_getElem? hp)]; rfl⟩, rfl, ?_⟩
      have ed : decide (ov pp.2 = V.non) = decide (pp.2 = none) := by cases pp.2 <;> rfl
      refine ⟨_, rfl, ?_⟩
      rw [ed]
      exact q3 H3 (Ex.refl _)
    · rw [List.getElem?_map] at hr hx
      obtain ⟨pp, hp, ee⟩ := Option.map_eq_some_iff.mp hr
      obtain ⟨⟨k1, v1⟩, hp2, e3⟩ := Option.map_eq_some_iff.mp hx
      obtain ⟨p2', hp3, rfl, rfl⟩ := kvP_at hp2
      obtain rfl : pp = p2' := Option.some.inj (hp.symm.trans hp3)
      have ey := (Prod.mk.inj ee).2
      subst ey
      subst e3
      exact ev_var rfl
    rw [nones_eq] at h2
    refine ⟨e2 _ _ hGd, (by show 0 ≤ sizeLine; decide), fun em nem => ?_⟩
    have x2J : Ex J (upd H2 d (.dK (kvP ps))) := ex_unlock gdJ (by rw [hG]; exact e2)
    have h2' : upd H2 d (.dK (kvP ps)) D = some (.lst (((ps.filter fun p => decide (p.2 = none)).map (·.1)).map V.str)) := un_at (e2 _ _ hGd) h2 (by intro o' u' z; cases z)
    generalize upd H2 d (.dK (kvP ps)) = H13 at x2J h2' nem ⊢
    have y6 : Ex H13 (upd H13 em (.lst [])) := Ex.new nem
    have gem : upd H13 em (.lst []) em = some (.lst []) := upd_same
    generalize upd H13 em (.lst []) = H14 at y6 gem ⊢
    refine eqP (α := List Str) (a := (ps.filter fun p => decide (p.2 = none)).map (·.1)) (b := []) (hd_list (SqL.of (y6 _ _ h2')) (hdL_strs _)) (hd_list (SqL.of gem) HdL.nil) ?_
    rw [sure_nones]
    have x14 : Ex H H14 := (xJ.trans x2J).trans y6
    refine ⟨_, rfl, p, dx, fs, rfl, x14 _ _ h1, p, sh, _, _, _, rfl, hs.ex x14, by omega, fun H15 e15 => ⟨_, rfl, _, rfl, _, rfl, rfl, _, rfl, ?_⟩⟩
    rw [sure_perm (sortP_perm pl.nd)]
    refine if_f (by simp) ?_
    have x15 : Ex H H15 := x14.trans e15
    obtain ⟨d1, f1, k1, w1, s1, _⟩ := (hsh.ex x15).at_
    refine ⟨_, rfl, p, dx, fs, rfl, x15 _ _ h1, p, dx, fs, _, rfl, x15 _ _ h1, hos, _, rfl, ?_⟩
    refine ⟨sh, d1, f1, _, rfl, s1, T.I_Sheet.ty s1, not_first_self, sh, _, ks, ws, some (ks, ws), rfl, hsh.ex x15, ok1, ok2, .inr ⟨sh, _, _, rfl, hsh.ex x15, ok1, ok2, rfl⟩, _, rfl, _, rfl, ?_⟩
    refine if_f (by rw [decide_eq_true rfl]; rfl) ?_
    obtain ⟨n1, g1'⟩ := numS_ok ps.length (by omega)
    obtain ⟨n2, g2'⟩ := numS_ok ts.length (by omega)
    obtain ⟨n3, g3'⟩ := numS_ok ls.length (by omega)
    have z1 : (Str.empty ++ ("shape of " : Str)).length = 9 := by decide +kernel
    have z2 : ((" posts, " : Str)).length = 8 := by decide +kernel
    have z3 : ((" there, " : Str)).length = 8 := by decide +kernel
    have z4 : ((" lacking" : Str)).length = 8 := by decide +kernel
    have line : (100 : Nat) ≤ sizeLine := by decide
    have lx := paired_len p1
    have ly := paired_len p2
    have gd15 := x15 _ _ gd
    have g115 := x15 _ _ g1
    have g215 := x15 _ _ g2
    refine ⟨_, rfl, by rw [z1]; omega, _, rfl, d, _, rfl, gd15, .inr ⟨_, rfl, by rw [kvP_len]; exact g1', numS ps.length, by rw [kvP_len]; rfl, by rw [len_app]; omega, ?_⟩⟩
    refine ⟨_, rfl, by rw [len_app, len_app]; omega, _, rfl, l1, _, rfl, .inl (SqL.of g115), .inr ⟨_, rfl, by rw [lx]; exact g2', numS ts.length, by rw [lx]; rfl, by rw [len_app, len_app, len_app]; omega, ?_⟩⟩
    refine ⟨_, rfl, by rw [len_app, len_app, len_app, len_app]; omega, _, rfl, l2, _, rfl, .inl (SqL.of g215), .inr ⟨_, rfl, by rw [ly]; exact g3', numS ls.length, by rw [ly]; rfl, by rw [len_app, len_app, len_app, len_app, len_app]; omega, ?_⟩⟩
    refine ⟨_, rfl, by rw [len_app, len_app, len_app, len_app, len_app, len_app]; omega, ?_⟩
    refine ⟨_, rfl, p, dx, fs, rfl, x15 _ _ h1, p, sh, _, _, _, rfl, hs.ex x15, _, rfl, by omega, by omega, ?_⟩
    refine ⟨_, rfl, d, _, rfl, gd15, rfl, _, rfl, ?_⟩
    rw [lsp, kvP_len]
    refine if_t (decide_eq_true rfl) ?_
    refine ⟨_, rfl, p, dx, fs, rfl, x15 _ _ h1, p, sh, _, _, _, rfl, hs.ex x15, by omega, by omega, by omega, _, rfl, _, rfl, rfl, ?_⟩
    rw [lsp, lts, lls]
    have et : decide (V.str (shapeStr ps.length ts.length ls.length) = V.str (shapeStr ps.length ts.length ls.length)) = true := decide_eq_true rfl
    have fin := q H15 x15
    rw [← et] at fin
    exact fin
end
end K6
namespace K6
open PySem L2 Kd Evl Ks Kt Ky
open PySem.W (Datum DatumOrd T3)
/-- two plain shapes tell something else -/
def Differs (ps : Posts) (ts ls : List Tie) (qs : Posts) (us ms : List Tie) : Prop := ¬ ((∀ n, look ps n = look qs n) ∧ (∀ t, t ∈ ts ↔ t ∈ us) ∧ ∀ t, t ∈ ls ↔ t ∈ ms)
theorem look_none {ps : Posts} {n : Str} (h : n ∉ namesP ps) : look ps n = none := by
  have e := look_some ps n
  rw [decide_eq_false h] at e
  exact Option.isNone_iff_eq_none.mp (by cases c : look ps n with | none => rfl | some _ => rw [c] at e; cases e)
theorem look_put (n : Str) (o : Option Str) (ps : Posts) : look (putP ps n o) n = some o := by
  unfold putP
  by_cases c : n ∈ namesP ps
  · rw [if_pos c]
    induction ps with
    | nil => cases c
    | cons p ps ih =>
      unfold look
      rw [List.map_cons, List.find?_cons]
      by_cases e : p.1 = n
      · rw [if_pos e, decide_eq_true e]
        rfl
      · rw [if_neg e, decide_eq_false e]
        refine ih ?_
        rcases List.mem_cons.mp c with z | z
        · exact absurd z.symm e
        · exact z
  · rw [if_neg c]
    have e := look_none c
    unfold look at e ⊢
    rw [Option.map_eq_none_iff] at e
    rw [List.find?_append, e, Option.none_or, List.find?_cons, decide_eq_true rfl]
    rfl
theorem names_put (n : Str) (o : Option Str) (ps : Posts) : namesP (putP ps n o) = if n ∈ namesP ps then namesP ps else namesP ps ++ [n] := by
  unfold putP
  by_cases c : n ∈ namesP ps
  · rw [if_pos c, if_pos c]
    unfold namesP
    rw [List.map_map]
    refine List.map_congr_left fun p _ => ?_
    dsimp only [Function.comp]
    split <;> rfl
  · rw [if_neg c, if_neg c, namesP_snoc]
theorem mem_put {n : Str} {o : Option Str} {ps : Posts} {p : Str × Option Str} (h : p ∈ putP ps n o) : p = (n, o) ∨ p ∈ ps := by
  unfold putP at h
  split at h
  · obtain ⟨q, hq, rfl⟩ := List.mem_map.mp h
    by_cases e : q.1 = n
    · rw [if_pos e, e]
      exact .inl rfl
    · rw [if_neg e]
      exact .inr hq
  · rcases List.mem_append.mp h with h | h
    · exact .inr h
    · exact .inl (List.mem_singleton.mp h)
section
variable {ks ws : List Str} {ps : Posts} {ts ls : List Tie}
theorem Plain.put (h : Plain ks ws ps ts ls) {n : Str} {o : Option Str} (hn : isName n = true) (ho : kindOk ks o = true) (hl : n ∉ namesP ps → ps.length < 12) : Plain ks ws (putP ps n o) ts ls := by
  have sub : ∀ m ∈ namesP ps, m ∈ namesP (putP ps n o) := fun m hm => by
    rw [names_put]
    split
    · exact hm
    · exact List.mem_append.mpr (.inl hm)
  refine ⟨?_, fun p hp => ?_, fun p hp => ?_, ?_, h.tnd, fun t ht => ?_, h.tl⟩
  · rw [names_put]
    split
    · exact h.nd
    · rename_i c
      rw [List.nodup_append]
      refine ⟨h.nd, by simp, fun x hx y hy => ?_⟩
      rw [List.mem_singleton] at hy
      subst hy
      exact fun z => c (z ▸ hx)
  · rcases mem_put hp with rfl | hp
    · exact hn
    · exact h.nm p hp
  · rcases mem_put hp with rfl | hp
    · exact ho
    · exact h.kd p hp
  · have e : (namesP (putP ps n o)).length = (putP ps n o).length := List.length_map ..
    have e2 : (namesP ps).length = ps.length := List.length_map ..
    have := h.few
    rw [names_put] at e
    split at e
    · omega
    · rename_i c
      rw [List.length_append] at e
      have := hl c
      simp only [List.length_cons, List.length_nil] at e
      omega
  · obtain ⟨a, b, c⟩ := h.tok t ht
    exact ⟨a, sub _ b, sub _ c⟩
theorem differs_put {n : Str} {o : Option Str} (h : look ps n ≠ some o) : Differs ps ts ls (putP ps n o) ts ls := fun ⟨z, _⟩ => h ((z n).trans (look_put n o ps))
def dropP (ps : Posts) (n : Str) : Posts := ps.filter fun p => !decide (p.1 = n)
theorem names_drop (n m : Str) : m ∈ namesP (dropP ps n) ↔ m ∈ namesP ps ∧ m ≠ n := by
  unfold namesP dropP
  rw [List.mem_map, List.mem_map]
  constructor
  · rintro ⟨p, hp, rfl⟩
    obtain ⟨h1, h2⟩ := List.mem_filter.mp hp
    exact ⟨⟨p, h1, rfl⟩, by simpa using h2⟩
  · rintro ⟨⟨p, hp, rfl⟩, h2⟩
    exact ⟨p, List.mem_filter.mpr ⟨hp, by simpa using h2⟩, rfl⟩
theorem Plain.drop (h : Plain ks ws ps ts ls) {n : Str} (hn : ∀ t ∈ ts ++ ls, n ≠ t.a ∧ n ≠ t.c) : Plain ks ws (dropP ps n) ts ls := by
  refine ⟨?_, fun p hp => h.nm p (List.mem_filter.mp hp).1, fun p hp => h.kd p (List.mem_filter.mp hp).1, ?_, h.tnd, fun t ht => ?_, h.tl⟩
  · have e : (namesP (dropP ps n)).Sublist (namesP ps) := List.filter_sublist.map _
    exact e.nodup h.nd
  · exact Nat.le_trans (List.length_filter_le _ _) h.few
  · obtain ⟨a, b, c⟩ := h.tok t ht
    obtain ⟨n1, n2⟩ := hn t ht
    exact ⟨a, (names_drop n _).mpr ⟨b, n1.symm⟩, (names_drop n _).mpr ⟨c, n2.symm⟩⟩
theorem differs_drop {n : Str} (h : n ∈ namesP ps) : Differs ps ts ls (dropP ps n) ts ls := fun ⟨z, _⟩ => by
  have e := look_some ps n
  rw [z n, look_none (fun q => ((names_drop n n).mp q).2 rfl), decide_eq_true h] at e
  cases e
def dropT (ts : List Tie) (t : Tie) : List Tie := ts.filter fun u => !decide (u = t)
theorem mem_dropT {t u : Tie} : u ∈ dropT ts t ↔ u ∈ ts ∧ u ≠ t := by
  unfold dropT
  rw [List.mem_filter]
  simp
theorem dropT_len {t : Tie} (h : t ∈ ts) : (dropT ts t).length + 1 ≤ ts.length := by
  have h1 : (ts.filter fun u => !decide (u = t)).length < ts.length := by
    rw [List.length_filter_lt_length_iff_exists]
    exact ⟨t, h, by simp⟩
  exact h1
theorem Plain.sub (h : Plain ks ws ps ts ls) {us ms : List Tie} (nd : (us ++ ms).Nodup) (sub : ∀ t ∈ us ++ ms, t ∈ ts ++ ls) (len : (us ++ ms).length ≤ (ts ++ ls).length) : Plain ks ws ps us ms :=
  ⟨h.nd, h.nm, h.kd, h.few, nd, fun t ht => h.tok t (sub t ht), Nat.le_trans len h.tl⟩
theorem Plain.cut1 (h : Plain ks ws ps ts ls) {t : Tie} (ht : t ∈ ts) : Plain ks ws ps (dropT ts t) ls ∧ Differs ps ts ls ps (dropT ts t) ls ∧ Plain ks ws ps (dropT ts t) (ls ++ [t]) ∧ Differs ps ts ls ps (dropT ts t) (ls ++ [t]) := by
  obtain ⟨n1, n2, n3⟩ := List.nodup_append.mp h.tnd
  have hd : (dropT ts t).Nodup := List.filter_sublist.nodup n1
  have hl := dropT_len ht
  have tl : t ∉ ls := fun z => n3 t ht t z rfl
  refine ⟨h.sub ?_ ?_ ?_, fun ⟨_, z, _⟩ => (mem_dropT.mp ((z t).mp ht)).2 rfl, h.sub ?_ ?_ ?_, fun ⟨_, z, _⟩ => (mem_dropT.mp ((z t).mp ht)).2 rfl⟩
  · exact List.nodup_append.mpr ⟨hd, n2, fun x hx y hy => n3 x (mem_dropT.mp hx).1 y hy⟩
  · intro u hu
    rcases List.mem_append.mp hu with hu | hu
    · exact List.mem_append.mpr (.inl (mem_dropT.mp hu).1)
    · exact List.mem_append.mpr (.inr hu)
  · rw [List.length_append, List.length_append]
    omega
  · refine List.nodup_append.mpr ⟨hd, List.nodup_append.mpr ⟨n2, by simp, fun x hx y hy => ?_⟩, fun x hx y hy => ?_⟩
    · rw [List.mem_singleton.mp hy]
      exact fun z => tl (z ▸ hx)
    · rcases List.mem_append.mp hy with hy | hy
      · exact n3 x (mem_dropT.mp hx).1 y hy
      · rw [List.mem_singleton.mp hy]
        exact (mem_dropT.mp hx).2
  · intro u hu
    rcases List.mem_append.mp hu with hu | hu
    · exact List.mem_append.mpr (.inl (mem_dropT.mp hu).1)
    · rcases List.mem_append.mp hu with hu | hu
      · exact List.mem_append.mpr (.inr hu)
      · rw [List.mem_singleton.mp hu]
        exact List.mem_append.mpr (.inl ht)
  · rw [List.length_append, List.length_append, List.length_append]
    show (dropT ts t).length + (ls.length + 1) ≤ _
    omega
theorem Plain.flip (h : Plain ks ws ps ts ls) : Plain ks ws ps ls ts :=
  ⟨h.nd, h.nm, h.kd, h.few, (List.perm_append_comm.nodup_iff).mp h.tnd, fun t ht => h.tok t (List.perm_append_comm.mem_iff.mp ht), by have := h.tl; rw [List.length_append] at this ⊢; omega⟩
theorem Differs.flip {qs : Posts} {us ms : List Tie} (h : Differs ps ls ts qs ms us) : Differs ps ts ls qs us ms := fun ⟨a, b, c⟩ => h ⟨a, c, b⟩
theorem Plain.cut2 (h : Plain ks ws ps ts ls) {t : Tie} (ht : t ∈ ls) : Plain ks ws ps ts (dropT ls t) ∧ Differs ps ts ls ps ts (dropT ls t) ∧ Plain ks ws ps (ts ++ [t]) (dropT ls t) ∧ Differs ps ts ls ps (ts ++ [t]) (dropT ls t) := by
  obtain ⟨a, b, c, d⟩ := h.flip.cut1 ht
  exact ⟨a.flip, b.flip, c.flip, d.flip⟩
end
/-- an unlike shape in the heap; the addresses of Av are none of its own -/
def UnOk (Av : List Addr) (ks ws : List Str) (ps : Posts) (ts ls : List Tie) (H : Hp) (v : V) : Prop := ∃ (t d l1 l2 : Addr) (qs : Posts) (us ms : List Tie), v = .ref t ∧ H t = some (.tup [.ref d, .ref l1, .ref l2]) ∧ PlainAt H d l1 l2 qs us ms ∧ Plain ks ws qs us ms ∧ Differs ps ts ls qs us ms ∧ d ∉ Av ∧ l1 ∉ Av ∧ l2 ∉ Av
section
variable {Av : List Addr} {ks ws : List Str} {ps : Posts} {ts ls : List Tie} {H H' : Hp} {v : V}
theorem UnOk.ex (h : UnOk Av ks ws ps ts ls H v) (e : Ex H H') : UnOk Av ks ws ps ts ls H' v := by
  obtain ⟨t, d, l1, l2, qs, us, ms, h1, h2, h3, h4⟩ := h
  exact ⟨t, d, l1, l2, qs, us, ms, h1, e _ _ h2, h3.ex e, h4⟩
theorem TieV.but2 {b : Addr} {t : Tie} {x : V} (h : TieV H x t) (hb : ∀ xs, H b ≠ some (.tup xs)) (e : ExBut b H H') : TieV H' x t := by
  obtain ⟨c, rfl, hc⟩ := h
  exact ⟨c, rfl, e _ _ hc (fun z => hb _ (z ▸ hc))⟩
theorem PlainAt.but {d l1 l2 b : Addr} (h : PlainAt H d l1 l2 ps ts ls) (hb : ∀ xs, H b ≠ some (.tup xs)) (e : ExBut b H H') (n1 : d ≠ b) (n2 : l1 ≠ b) (n3 : l2 ≠ b) : PlainAt H' d l1 l2 ps ts ls := by
  obtain ⟨h1, ⟨xs, h2, h3⟩, ys, h4, h5⟩ := h
  exact ⟨e _ _ h1 n1, ⟨xs, e _ _ h2 n2, paired_imp (fun _ _ z => z.but2 hb e) h3⟩, ys, e _ _ h4 n3, paired_imp (fun _ _ z => z.but2 hb e) h5⟩
theorem UnOk.but {b : Addr} (h : UnOk Av ks ws ps ts ls H v) (hb : ∀ xs, H b ≠ some (.tup xs)) (ha : b ∈ Av) (e : ExBut b H H') : UnOk Av ks ws ps ts ls H' v := by
  obtain ⟨t, d, l1, l2, qs, us, ms, h1, h2, h3, h4, h5, n1, n2, n3⟩ := h
  exact ⟨t, d, l1, l2, qs, us, ms, h1, e _ _ h2 (fun z => hb _ (z ▸ h2)), h3.but hb e (fun z => n1 (z ▸ ha)) (fun z => n2 (z ▸ ha)) (fun z => n3 (z ▸ ha)), h4, h5, n1, n2, n3⟩
theorem UnOk.less {Bv : List Addr} (h : UnOk Av ks ws ps ts ls H v) (s : ∀ b ∈ Bv, b ∈ Av) : UnOk Bv ks ws ps ts ls H v := by
  obtain ⟨t, d, l1, l2, qs, us, ms, h1, h2, h3, h4, h5, n1, n2, n3⟩ := h
  exact ⟨t, d, l1, l2, qs, us, ms, h1, h2, h3, h4, h5, fun z => n1 (s _ z), fun z => n2 (s _ z), fun z => n3 (s _ z)⟩
/-- the list of those that are found so far -/
structure Found (Av : List Addr) (ks ws : List Str) (ps : Posts) (ts ls : List Tie) (lf : Addr) (n : Nat) (H : Hp) : Prop where
  at_ : ∃ vs, H lf = some (.lst vs) ∧ vs.length ≤ n ∧ ∀ v ∈ vs, UnOk Av ks ws ps ts ls H v
theorem Found.ex {lf : Addr} {n : Nat} (h : Found Av ks ws ps ts ls lf n H) (e : Ex H H') : Found Av ks ws ps ts ls lf n H' := by
  obtain ⟨vs, h1, h2, h3⟩ := h.at_
  exact ⟨vs, e _ _ h1, h2, fun v hv => (h3 v hv).ex e⟩
theorem Found.mono {lf : Addr} {n m : Nat} (h : Found Av ks ws ps ts ls lf n H) (e : n ≤ m) : Found Av ks ws ps ts ls lf m H := by
  obtain ⟨vs, h1, h2, h3⟩ := h.at_
  exact ⟨vs, h1, Nat.le_trans h2 e, h3⟩
theorem Found.but {lf b : Addr} {n : Nat} (h : Found Av ks ws ps ts ls lf n H) (hb : ∀ xs, H b ≠ some (.tup xs)) (ha : b ∈ Av) (nl : lf ≠ b) (e : ExBut b H H') : Found Av ks ws ps ts ls lf n H' := by
  obtain ⟨vs, h1, h2, h3⟩ := h.at_
  exact ⟨vs, e _ _ h1 nl, h2, fun v hv => (h3 v hv).but hb ha e⟩
theorem Found.less {Bv : List Addr} {lf : Addr} {n : Nat} (h : Found Av ks ws ps ts ls lf n H) (s : ∀ b ∈ Bv, b ∈ Av) : Found Bv ks ws ps ts ls lf n H := by
  obtain ⟨vs, h1, h2, h3⟩ := h.at_
  exact ⟨vs, h1, h2, fun v hv => (h3 v hv).less s⟩
/-- some more are found -/
theorem Found.more {lf : Addr} {n : Nat} {vs us : List V} (h1 : H lf = some (.lst vs)) (h2 : vs.length ≤ n) (h3 : ∀ v ∈ vs, UnOk Av ks ws ps ts ls H v) (ha : lf ∈ Av) (hu : ∀ v ∈ us, UnOk Av ks ws ps ts ls H v) : Found Av ks ws ps ts ls lf (n + us.length) (upd H lf (.lst (vs ++ us))) := by
  have hb : ∀ xs, H lf ≠ some (.tup xs) := fun xs z => by rw [h1] at z; cases z
  refine ⟨vs ++ us, upd_same, by rw [List.length_append]; omega, fun v hv => ?_⟩
  rcases List.mem_append.mp hv with hv | hv
  · exact (h3 v hv).but hb ha ExBut.put
  · exact (hu v hv).but hb ha ExBut.put
end
theorem merge_put {ps : Posts} (nd : (namesP ps).Nodup) (n : Str) (o : Option Str) : mergeK [] (kvP ps ++ [(.inr n, ov o)]) = kvP (putP ps n o) := by
  rw [← kvP_snoc]
  have e := merge_kvP (ps ++ [(n, o)]) []
  rw [List.foldl_append, foldP_new ps [] nd] at e
  exact e
theorem moreN : ∀ z ∈ (["q", "qq", "r", "rr", "s", "ss", "t", "tt", "u", "uu", "v", "vv", "w"] : List Str), isName z = true := by decide +kernel
theorem moreD : (["q", "qq", "r", "rr", "s", "ss", "t", "tt", "u", "uu", "v", "vv", "w"] : List Str).Nodup := by decide +kernel
theorem nodup_le : ∀ {xs zs : List Str}, xs.Nodup → xs ⊆ zs → xs.length ≤ zs.length
  | [], _, _, _ => Nat.zero_le _
  | x :: xs, zs, nd, sub => by
    obtain ⟨n1, n2⟩ := List.nodup_cons.mp nd
    have hx : x ∈ zs := sub List.mem_cons_self
    have ih := nodup_le (xs := xs) (zs := zs.erase x) n2 fun y hy => (List.mem_erase_of_ne (show y ≠ x from fun z => n1 (by rw [← z]; exact hy))).mpr (sub (List.mem_cons_of_mem _ hy))
    rw [List.length_erase_of_mem hx] at ih
    have := List.length_pos_of_mem hx
    rw [List.length_cons]
    omega
theorem more_one {zs : List Str} (h : zs.length ≤ 12) : ∃ f r, (["q", "qq", "r", "rr", "s", "ss", "t", "tt", "u", "uu", "v", "vv", "w"] : List Str).filter (fun z => !decide (z ∈ zs)) = f :: r := by
  cases c : (["q", "qq", "r", "rr", "s", "ss", "t", "tt", "u", "uu", "v", "vv", "w"] : List Str).filter (fun z => !decide (z ∈ zs)) with
  | cons f r => exact ⟨f, r, rfl⟩
  | nil =>
    rw [List.filter_eq_nil_iff] at c
    have sub : (["q", "qq", "r", "rr", "s", "ss", "t", "tt", "u", "uu", "v", "vv", "w"] : List Str) ⊆ zs := fun z hz => by simpa using c z hz
    have := nodup_le moreD sub
    simp only [List.length_cons, List.length_nil] at this
    omega
end K6
namespace K6
open PySem L2 Kd Evl Ks Kt Ky
open PySem.W (Datum DatumOrd T3)
def moreL : List Str := ["q", "qq", "r", "rr", "s", "ss", "t", "tt", "u", "uu", "v", "vv", "w"]
theorem paired_filter {β : Type} {R : V → β → Prop} (p : β → Bool) : ∀ {vs : List V} {xs : List β}, Paired R vs xs → Paired R ((((vs.zip xs).map fun q => (p q.2, q.1)).filter (·.1)).map (·.2)) (xs.filter p)
  | _, _, .nil => .nil
  | _, _, .cons (a := v) (b := x) h t => by
    have ih := paired_filter p t
    rw [List.zip_cons_cons, List.map_cons, List.filter_cons, List.filter_cons]
    cases c : p x with
    | false => exact ih
    | true =>
      rw [if_pos rfl, if_pos rfl, List.map_cons]
      exact .cons h ih
theorem strs_filter (p : Str → Bool) : ∀ zs : List Str, ((zs.map fun z => (p z, V.str z)).filter (·.1)).map (·.2) = (zs.filter p).map V.str
  | [] => rfl
  | z :: zs => by
    have ih := strs_filter p zs
    rw [List.map_cons, List.filter_cons, List.filter_cons]
    cases c : p z with
    | false => exact ih
    | true =>
      rw [if_pos rfl, if_pos rfl, List.map_cons, List.map_cons, ih]
theorem zip_at {β : Type} {R : V → β → Prop} {vs : List V} {xs : List β} (h : Paired R vs xs) {p : β → Bool} {k : Nat} {x : V} {b : Bool} {y : V} (h1 : vs[k]? = some x) (h2 : ((vs.zip xs).map fun q => (p q.2, q.1))[k]? = some (b, y)) : ∃ z, xs[k]? = some z ∧ R x z ∧ b = p z ∧ y = x := by
  obtain ⟨z, hz, r⟩ := paired_get2 h h1
  rw [List.getElem?_map] at h2
  obtain ⟨q, hq, e⟩ := Option.map_eq_some_iff.mp h2
  rw [List.getElem?_zip_eq_some] at hq
  obtain ⟨q1, q2⟩ := hq
  cases e
  rw [h1] at q1
  rw [hz] at q2
  exact ⟨z, hz, r, by rw [Option.some.inj q2], (Option.some.inj q1).symm⟩
theorem ex_lock {H J : Hp} {d : Addr} {o : HO} (e : Ex H J) : Ex (upd H d o) (upd J d o) := fun b u h => by
  by_cases c : b = d
  · subst c
    rw [upd_same] at h ⊢
    exact h
  · rw [upd_ne c] at h ⊢
    exact e b u h
def spUnlike : Sp := fun vs H Q _ => ∃ (a lk lw tp d l1 l2 : Addr) (ks ws : List Str) (ps : Posts) (ts ls : List Tie), vs = [.ref a, .ref lk, .ref lw, .ref tp] ∧ H a = some (diceO a) ∧ H lk = some (.lst (ks.map V.str)) ∧ ks.length ≤ 10 ∧ H tp = some (.tup [.ref d, .ref l1, .ref l2]) ∧ PlainAt H d l1 l2 ps ts ls ∧ Plain ks ws ps ts ls ∧
  ∀ H' lf vs, Ex H H' → H' lf = some (.lst vs) → vs.length ≤ 1000 → (∀ v ∈ vs, UnOk [] ks ws ps ts ls H' v) → Q (.ref lf) H'
section
variable {P : Program} {w : World} {K : PySem.W.Frag} {mg : Str → Option Value} {base : Heap} {AA : Ads}
theorem ok_law_unlike (T : Txt K mg AA) : FnOk P w K mg base CX0 3 AA.a_law_unlike AA.d_law_unlike ["_law_dice_here", "_law_kinds", "_law_words", "_law_plain"] spUnlike := by
  have G_law_pick : FnOk P w K mg base CX0 2 AA.a_law_pick AA.d_law_pick ["_law_dice_here", "_law_items"] (spPick K) := ok_law_pick T
  refine T.F_law_unlike.ok sc_law_unlike (fun vs H Q E h => ?_) (fun cdv A outer s H vs Q E hr h => ?_)
  · obtain ⟨a, lk, lw, tp, d, l1, l2, ks, ws, ps, ts, ls, rfl, _⟩ := h
    rfl
  · obtain ⟨a, lk, lw, tp, d, l1, l2, ks, ws, ps, ts, ls, rfl, ha, hk, lks, htp, hp, pl, q⟩ := h
    have hu : _ + 64 < cLine := hu64 hr
    have hu1 : _ + 1 < cLine := hu_of hr
    obtain ⟨gd, ⟨xs, g1, p1⟩, ys, g2, p2⟩ := hp
    have psl := pl.few
    have tl := pl.tl
    rw [List.length_append] at tl
    have lx := paired_len p1
    have ly := paired_len p2
    refine ⟨_, (pss_cons (ps_asg (pv 3) (pg_tup rfl (pgs_cons (pg_name (i := 7) sc_law_unlike.nd rfl (Or.inr rfl)) (pgs_cons (pg_name (i := 8) sc_law_unlike.nd rfl (Or.inl rfl)) (pgs_cons (pg_name (i := 9) sc_law_unlike.nd rfl (Or.inl rfl)) pgs_nil)))))
    (pss_cons (ps_par (i := 10) (j := 11) rfl sc_law_unlike.nd rfl rfl (by decide) rfl rfl (by exact (pa_cons (pe_lst pa_nil) (pa_cons (pe_lst (pa_cons pe_str (pa_cons pe_str (pa_cons pe_str (pa_cons pe_str (pa_cons pe_str (pa_cons pe_str (pa_cons pe_str (pa_cons pe_str (pa_cons pe_str (pa_cons pe_str (pa_cons pe_str (pa_cons pe_str (pa_cons pe_str pa_nil)))))))))))))) pa_nil))) rfl)
    (pss_cons (ps_set (i := 4) sc_law_unlike.nd rfl (Or.inl rfl) (pe_ix ix_list (pe_lc (own := [("_law_name", 5)]) (g := gName 5) rfl sc_law_unlike.nd  (pi_list (pv 11)) (blkOk_by (N := N_law_unlike) (sc := defScope s_law_unlike) (by decide +kernel)) (fun _ _ _ _ _ => (pg_name (i := 5) sc_law_unlike.nd rfl (by first | exact Or.inl rfl | exact Or.inr rfl))) (fun _ _ _ _ _ => (by exact pts_one (pt_cmpR (op_notInK hu1) (pv 5) (pv 7) rfl))) (fun _ _ _ _ _ => by exact (pv 5))) pe_int (fun _ _ => rfl)))
    (pss_cons (ps_join (ps_if (pt_cmpR op_lt (pe_callB call_lenD (by rfl) T.n_len (by decide +kernel) (pa_cons (pv 7) pa_nil)) pe_int (nomark _)) (pss_cons (ps_set (i := 12) sc_law_unlike.nd rfl (Or.inl rfl) (pe_callTy (call_dictP rfl) (by rfl) T.n_dict (by decide +kernel) (pa_cons (pe_op op_cat (pe_itemsR rfl (pv 7) (by rfl) T.n_list (by decide +kernel)) (pe_lst (pa_cons (pe_tup (pa_cons (pv 4) (pa_cons (pe_call G_law_pick (hr.mono (by decide)) (by rfl) T.g_law_pick T.k_law_pick T.b_law_pick .nil pass0 (pa_cons (pv 0) (pa_cons (pe_op op_cat (pe_lst (pa_cons pe_non pa_nil)) (pv 1)) pa_nil))) pa_nil))) pa_nil))) pa_nil)))
    (pss_one (ps_expr (pe_bm PySem.F.plainAttrs_list PySem.F.slot_list_append PySem.F.type_list_append mt_append (pv 10) (pa_cons (pe_tup (pa_cons (pv 12) (pa_cons (pv 8) (pa_cons (pv 9) pa_nil)))) pa_nil))))) pss_nil))
    (pss_cons (ps_lock (ps_for PassesOwn.never rfl (pi_keys (pv 7)) (pg_name (i := 5) sc_law_unlike.nd rfl (by first | exact Or.inl rfl | exact Or.inr rfl))
      (pss_cons (ps_for PassesOwn.never rfl (pi_list (pe_op op_cat (pe_lst (pa_cons pe_non pa_nil)) (pv 1))) (pg_name (i := 13) sc_law_unlike.nd rfl (Or.inl rfl))
      (pss_one (ps_if (pt_cmpR (op_neP (K := K) rfl hu) (pv 13) ((pe_dget hu1) (pv 7) (pv 5) (fun _ _ => rfl)) (nomark _)) (pss_one (ps_expr (pe_bm PySem.F.plainAttrs_list PySem.F.slot_list_append PySem.F.type_list_append mt_append (pv 10) (pa_cons (pe_tup (pa_cons (pe_callTy (call_dictP rfl) (by rfl) T.n_dict (by decide +kernel) (pa_cons (pe_op op_cat (pe_itemsR rfl (pv 7) (by rfl) T.n_list (by decide +kernel)) (pe_lst (pa_cons (pe_tup (pa_cons (pv 5) (pa_cons (pv 13) pa_nil))) pa_nil))) pa_nil)) (pa_cons (pv 8) (pa_cons (pv 9) pa_nil)))) pa_nil)))) pss_nil)))
    (pss_cons (ps_setLc (i := 14) (own := [("_law_triple", 6)]) (g := gName 6) rfl sc_law_unlike.nd rfl rfl (sw_true rfl rfl rfl (by decide +kernel)) (pi_list (pe_op op_cat (pv 8) (pv 9))) (blkOk_by (N := N_law_unlike) (sc := defScope s_law_unlike) (by decide +kernel)) (fun _ _ _ _ _ => (pg_name (i := 6) sc_law_unlike.nd rfl (by first | exact Or.inl rfl | exact Or.inr rfl))) (fun _ _ _ _ _ => (by exact pts_one (pt_cmpR (op_inP (K := K) rfl hu) (pv 5) (pe_tup (pa_cons (pe_ix (Kv.ix_tup (K := K) rfl) (pv 6) pe_int (fun _ _ => rfl)) (pa_cons (pe_ix (Kv.ix_tup (K := K) rfl) (pv 6) pe_int (fun _ _ => rfl)) pa_nil))) rfl))) (fun _ _ _ _ _ => by exact (pv 6)))
    (pss_one (ps_if (pt_cmpR (op_eqP (K := K) rfl hu) (pv 14) (pe_lst pa_nil) (nomark _)) (pss_one (ps_expr (pe_bm PySem.F.plainAttrs_list PySem.F.slot_list_append PySem.F.type_list_append mt_append (pv 10) (pa_cons (pe_tup (pa_cons (pe_callTy (call_dictP rfl) (by rfl) T.n_dict (by decide +kernel) (pa_cons (pe_lc (own := [("_law_one", 17)]) (g := gName 17) rfl sc_law_unlike.nd  (pi_keys (pv 7)) (blkOk_by (N := N_law_unlike) (sc := defScope s_law_unlike) (by decide +kernel)) (fun _ _ _ _ _ => (pg_name (i := 17) sc_law_unlike.nd rfl (Or.inl rfl))) (fun _ _ _ _ _ => (by exact pts_one (pt_cmpR (op_neP (K := K) rfl hu) (pv 17) (pv 5) (nomark _)))) (fun _ _ _ _ _ => by exact (pe_tup (pa_cons (pv 17) (pa_cons ((pe_dget hu1) (pv 7) (pv 17) (fun _ _ => rfl)) pa_nil))))) pa_nil)) (pa_cons (pv 8) (pa_cons (pv 9) pa_nil)))) pa_nil)))) pss_nil))))))
    (pss_cons (ps_for PassesOwn.never rfl (pi_list (pv 8)) (pg_name (i := 6) sc_law_unlike.nd rfl (by first | exact Or.inl rfl | exact Or.inr rfl))
      (pss_cons (ps_setLc (i := 15) (own := [("_law_other", 16)]) (g := gName 16) rfl sc_law_unlike.nd rfl rfl (sw_true rfl rfl rfl (by decide +kernel)) (pi_list (pv 8)) (blkOk_by (N := N_law_unlike) (sc := defScope s_law_unlike) (by decide +kernel)) (fun _ _ _ _ _ => (pg_name (i := 16) sc_law_unlike.nd rfl (Or.inl rfl))) (fun _ _ _ _ _ => (by exact pts_one (pt_cmpR (op_neP (K := K) rfl hu) (pv 16) (pv 6) (nomark _)))) (fun _ _ _ _ _ => by exact (pv 16)))
    (pss_one (ps_expr (pe_bm PySem.F.plainAttrs_list PySem.F.slot_list_extend PySem.F.type_list_extend mt_extend (pv 10) (pa_cons (pe_lst (pa_cons (pe_tup (pa_cons (pv 7) (pa_cons (pv 15) (pa_cons (pv 9) pa_nil)))) (pa_cons (pe_tup (pa_cons (pv 7) (pa_cons (pv 15) (pa_cons (pe_op op_cat (pv 9) (pe_lst (pa_cons (pv 6) pa_nil))) pa_nil)))) pa_nil))) pa_nil))))))
    (pss_cons (ps_for PassesOwn.never rfl (pi_list (pv 9)) (pg_name (i := 6) sc_law_unlike.nd rfl (by first | exact Or.inl rfl | exact Or.inr rfl))
      (pss_cons (ps_setLc (i := 15) (own := [("_law_other", 16)]) (g := gName 16) rfl sc_law_unlike.nd rfl rfl (sw_true rfl rfl rfl (by decide +kernel)) (pi_list (pv 9)) (blkOk_by (N := N_law_unlike) (sc := defScope s_law_unlike) (by decide +kernel)) (fun _ _ _ _ _ => (pg_name (i := 16) sc_law_unlike.nd rfl (Or.inl rfl))) (fun _ _ _ _ _ => (by exact pts_one (pt_cmpR (op_neP (K := K) rfl hu) (pv 16) (pv 6) (nomark _)))) (fun _ _ _ _ _ => by exact (pv 16)))
    (pss_one (ps_expr (pe_bm PySem.F.plainAttrs_list PySem.F.slot_list_extend PySem.F.type_list_extend mt_extend (pv 10) (pa_cons (pe_lst (pa_cons (pe_tup (pa_cons (pv 7) (pa_cons (pv 8) (pa_cons (pv 15) pa_nil)))) (pa_cons (pe_tup (pa_cons (pv 7) (pa_cons (pe_op op_cat (pv 8) (pe_lst (pa_cons (pv 6) pa_nil))) (pa_cons (pv 15) pa_nil)))) pa_nil))) pa_nil))))))
    (pss_one (ps_ret (pv 10)))))))))), ?_⟩
    refine ⟨_, rfl, tp, _, rfl, SqT.of htp, rfl, _, _, rfl, _, _, rfl, _, _, rfl, rfl, ?_⟩
    refine ⟨(by show 0 ≤ sizeLine; decide), fun lf nlf => ⟨(by show 13 ≤ sizeLine; decide), fun lm nlm => ⟨_, _, rfl, ?_⟩⟩⟩
    generalize hH1 : upd H lf _ = H1 at *
    have e1 : Ex H H1 := by rw [← hH1]; exact Ex.new nlf
    have glf : H1 lf = some (.lst []) := by rw [← hH1]; exact upd_same
    generalize hH2 : upd H1 lm _ = H2 at *
    have e2 : Ex H1 H2 := by rw [← hH2]; exact Ex.new nlm
    have glm : H2 lm = some (.lst (moreL.map V.str)) := by rw [← hH2]; exact upd_same
    have x2 : Ex H H2 := e1.trans e2
    have f0 : Found [lf, d] ks ws ps ts ls lf 0 H2 := ⟨[], e2 _ _ glf, Nat.le_refl _, fun _ z => nomatch z⟩
    have dlf : d ≠ lf := fun z => by rw [z, nlf] at gd; cases gd
    have l1f : l1 ≠ lf := fun z => by rw [z, nlf] at g1; cases g1
    have l2f : l2 ≠ lf := fun z => by rw [z, nlf] at g2; cases g2
    have l1d : l1 ≠ d := ne_of g1 gd (by intro z; cases z)
    have l2d : l2 ≠ d := ne_of g2 gd (by intro z; cases z)
    -- fresh
    refine ⟨_, rfl, lm, rfl, ⟨_, SqL.of glm⟩, fun D hD => lcR walk_list hD (moreL.map V.str) (moreL.map fun z => (!decide (z ∈ namesP ps), V.str z)) rfl (by show 13 < sizeLine; decide) (fun J e => SqL.of (e _ _ glm)) (fun _ _ _ _ z => z) (fun _ => rfl) (fun k x b y J hx hr e => ?_) (fun k x y J hx hr e => ?_) (fun J e hJ => ?_)⟩
    · rw [List.getElem?_map] at hr hx
      obtain ⟨z, hz, rfl⟩ := Option.map_eq_some_iff.mp hx
      rw [hz] at hr
      cases hr
      intro J1 e1' Q1 q1
      refine ⟨_, rfl, _, rfl, d, _, rfl, .inl ⟨_, .inr z, .inl (e1' _ _ (e _ _ (x2 _ _ gd))), rfl, rfl⟩, _, rfl, ?_⟩
      rw [val_kvP, Option.isSome_map, look_some]
      exact q1 J1 (Ex.refl _)
    · rw [List.getElem?_map] at hr hx
      obtain ⟨z, hz, rfl⟩ := Option.map_eq_some_iff.mp hx
      rw [hz] at hr
      have ey := (Prod.mk.inj (Option.some.inj hr)).2
      subst ey
      exact ev_var rfl
    rw [strs_filter] at hJ
    obtain ⟨f, r, hf⟩ := more_one (zs := namesP ps) (by unfold namesP; rw [List.length_map]; omega)
    have hJ' : J D = some (.lst (V.str f :: r.map V.str)) := by
      rw [hJ]
      show some (HO.lst ((moreL.filter fun z => !decide (z ∈ namesP ps)).map V.str)) = _
      unfold moreL
      rw [hf]
      rfl
    have hfm : f ∈ moreL ∧ f ∉ namesP ps := by
      have : f ∈ moreL.filter fun z => !decide (z ∈ namesP ps) := by
        unfold moreL
        rw [hf]
        exact List.mem_cons_self
      obtain ⟨m1, m2⟩ := List.mem_filter.mp this
      exact ⟨m1, by simpa using m2⟩
    have nmf : isName f = true := moreN f hfm.1
    refine ⟨D, _, 0, _, rfl, rfl, SqL.of hJ', at_of (j := 0) (v := V.str f) rfl rfl, ?_⟩
    have xJ : Ex H J := x2.trans e
    have fJ := f0.ex e
    -- wide
    refine ⟨fun σ' J' => ∃ v12 : Option V, σ' = [some (.ref a), some (.ref lk), some (.ref lw), some (.ref tp), some (.str f), none, none, some (.ref d), some (.ref l1), some (.ref l2), some (.ref lf), some (.ref lm), v12, none, none, none, none, none] ∧ Ex H J' ∧ Found [lf, d] ks ws ps ts ls lf 1 J', ?_, ?_⟩
    · refine ⟨_, rfl, d, _, rfl, xJ _ _ gd, _, _, rfl, rfl, _, rfl, ?_⟩
      rw [kvP_len]
      by_cases c : (ps.length : Int) < 12
      · refine if_t (decide_eq_true c) ?_
        refine ⟨_, rfl, d, _, rfl, .inl (xJ _ _ gd), fun H3 q1 bs k1 _ gq1 pr1 => ?_⟩
        have e3 : Ex J H3 := k1
        have x3 := xJ.trans e3
        refine ⟨_, rfl, _, rfl, (by show 1 ≤ sizeLine; decide), fun m hm => ⟨_, rfl, m, lk, _, _, rfl, rfl, upd_same, Ex.new hm _ _ (x3 _ _ hk), ?_, fun c1 hc1 => ?_⟩⟩
        · show 1 + (ks.map V.str).length ≤ sizeLine
          rw [List.length_map]
          exact len_line (by omega)
        have y1 : Ex H3 (upd H3 m (.lst [V.non])) := Ex.new hm
        have y2 : Ex H3 (upd (upd H3 m (.lst [V.non])) c1 (.lst ([V.non] ++ ks.map V.str))) := y1.trans (Ex.new hc1)
        have gc1 : upd (upd H3 m (.lst [V.non])) c1 (.lst ([V.non] ++ ks.map V.str)) c1 = some (.lst ([V.non] ++ ks.map V.str)) := upd_same
        generalize upd (upd H3 m (.lst [V.non])) c1 (.lst ([V.non] ++ ks.map V.str)) = H4 at y2 gc1 ⊢
        refine ⟨a, c1, _, rfl, y2 _ _ (x3 _ _ ha), SqL.of gc1, ?_, ?_, fun x hx => ?_⟩
        · show 0 < ([V.non] ++ ks.map V.str).length
          simp
        · show ([V.non] ++ ks.map V.str).length ≤ 1000
          rw [List.length_append, List.length_map]
          show 1 + ks.length ≤ 1000
          omega
        obtain ⟨o, rfl, ok⟩ := kind_of hx
        have e4 : Ex J H4 := e3.trans y2
        replace gq1 := y2 _ _ gq1
        replace pr1 := pair_ex y2 pr1
        obtain ⟨vs, hlf0, lvs, uvs⟩ := fJ.at_
        refine ⟨(by show 2 ≤ sizeLine; decide), fun t5 nt5 => ⟨(by show 1 ≤ sizeLine; decide), fun l5 nl5 => ?_⟩⟩
        have z5 : Ex H4 (upd H4 t5 (.tup [.str f, ov o])) := Ex.new nt5
        have gt5 : upd H4 t5 (.tup [.str f, ov o]) t5 = some (.tup [.str f, ov o]) := upd_same
        generalize upd H4 t5 (.tup [.str f, ov o]) = H5 at z5 gt5 nl5 ⊢
        have z6 : Ex H5 (upd H5 l5 (.lst [.ref t5])) := Ex.new nl5
        have gl5 : upd H5 l5 (.lst [.ref t5]) l5 = some (.lst [.ref t5]) := upd_same
        generalize upd H5 l5 (.lst [.ref t5]) = H6 at z6 gl5 ⊢
        have z56 := z5.trans z6
        have lbs : bs.length = ps.length := by have := Paired.length pr1; rw [kvP_len] at this; exact this
        refine ⟨q1, l5, _, _, rfl, rfl, z56 _ _ gq1, gl5, ?_, fun c7 nc7 => ?_⟩
        · show (bs.map V.ref).length + 1 ≤ sizeLine
          rw [List.length_map]
          exact len_line (by omega)
        have z7 : Ex H6 (upd H6 c7 (.lst (bs.map V.ref ++ [.ref t5]))) := Ex.new nc7
        have gc7 : upd H6 c7 (.lst (bs.map V.ref ++ [.ref t5])) c7 = some (.lst (bs.map V.ref ++ [.ref t5])) := upd_same
        generalize upd H6 c7 (.lst (bs.map V.ref ++ [.ref t5])) = H7 at z7 gc7 ⊢
        have z57 := z56.trans z7
        refine ⟨c7, bs ++ [t5], kvP ps ++ [(.inr f, ov o)], rfl, SqL.of (by rw [gc7, List.map_append]; rfl), pair_sq (pair_snoc (kv := (.inr f, ov o)) (pair_ex z57 pr1) ((z6.trans z7) _ _ gt5)), fun dn ndn => ?_⟩
        rw [merge_put pl.nd]
        have z8 : Ex H7 (upd H7 dn (.dK (kvP (putP ps f o)))) := Ex.new ndn
        have gdn : upd H7 dn (.dK (kvP (putP ps f o))) dn = some (.dK (kvP (putP ps f o))) := upd_same
        have x7 : Ex J H7 := e4.trans z57
        have ndl : dn ≠ lf := fun z => by rw [z, x7 _ _ hlf0] at ndn; cases ndn
        have ndd : dn ≠ d := fun z => by rw [z, x7 _ _ (xJ _ _ gd)] at ndn; cases ndn
        have ndn' : dn ∉ [lf, d] := by simp [ndl, ndd]
        generalize upd H7 dn (.dK (kvP (putP ps f o))) = H8 at z8 gdn ⊢
        have x8 : Ex J H8 := x7.trans z8
        have hlf := x8 _ _ hlf0
        refine ⟨_, rfl, .inl ⟨rfl, _, SqL.of hlf⟩, _, rfl, _, rfl, _, rfl, (by show 3 ≤ sizeLine; decide), fun tt ntt => ?_⟩
        have y10 : Ex H8 (upd H8 tt (.tup [.ref dn, .ref l1, .ref l2])) := Ex.new ntt
        have gtt : upd H8 tt (.tup [.ref dn, .ref l1, .ref l2]) tt = some (.tup [.ref dn, .ref l1, .ref l2]) := upd_same
        generalize upd H8 tt (.tup [.ref dn, .ref l1, .ref l2]) = H9 at y10 gtt ⊢
        have gdn' := y10 _ _ gdn
        have x9 : Ex J H9 := x8.trans y10
        have hlf' := x9 _ _ hlf0
        have uvs' : ∀ v ∈ vs, UnOk [lf, d] ks ws ps ts ls H9 v := fun v hv => (uvs v hv).ex x9
        have xH9 : Ex H H9 := xJ.trans x9
        refine ⟨lf, _, _, rfl, rfl, hlf', len_lt (by omega), ?_⟩
        refine ⟨some (.ref dn), rfl, Ex.mut xH9 nlf, ?_⟩
        have fm := Found.more hlf' lvs uvs' List.mem_cons_self (us := [.ref tt]) (fun v hv => by
          rw [List.mem_singleton.mp hv]
          exact ⟨tt, dn, l1, l2, putP ps f o, ts, ls, rfl, gtt, ⟨gdn', ⟨xs, xH9 _ _ g1, ties_ex p1 xH9⟩, ys, xH9 _ _ g2, ties_ex p2 xH9⟩, pl.put nmf ok (fun _ => by omega), differs_put (by rw [look_none hfm.2]; intro z; cases z), ndn', by simp [l1f, l1d], by simp [l2f, l2d]⟩)
        exact fm
      · exact if_f (decide_eq_false c) ⟨none, rfl, xJ, fJ.mono (by decide)⟩
    rintro σ1 J1 ⟨v12, rfl, xJ1, fJ1⟩
    -- the posts
    have gd1 := xJ1 _ _ gd
    refine ⟨d, _, gd1, trivial, fun od => ⟨_, rfl, d, od, rfl, .inl ⟨_, upd_same, ?_⟩⟩⟩
    have xG : Ex (upd H d (.frz od (.dK (kvP ps)))) (upd J1 d (.frz od (.dK (kvP ps)))) := ex_lock xJ1
    have fG : Found [lf, d] ks ws ps ts ls lf 1 (upd J1 d (.frz od (.dK (kvP ps)))) := fJ1.but (fun xs z => by rw [gd1] at z; cases z) (by simp) dlf.symm ExBut.put
    have ug : ∀ (b : Addr) (o : HO), H b = some o → (∀ l, o ≠ .dK l) → upd H d (.frz od (.dK (kvP ps))) b = some o := fun b o hb hn => lock_at gd hb hn
    generalize hG0 : upd H d (.frz od (.dK (kvP ps))) = G0 at *
    have gG : G0 d = some (.frz od (.dK (kvP ps))) := by rw [← hG0]; exact upd_same
    have uk := ug _ _ hk (by intro l z; cases z)
    have u1 := ug _ _ g1 (by intro l z; cases z)
    have u2 := ug _ _ g2 (by intro l z; cases z)
    have nlfG : G0 lf = none := by rw [← hG0, upd_ne dlf.symm]; exact nlf
    have tieG : ∀ x t, TieV H x t → TieV G0 x t := fun x t ⟨b, e, hb⟩ => ⟨b, e, ug _ _ hb (by intro l z; cases z)⟩
    have p1G : Paired (TieV G0) xs ts := paired_imp tieG p1
    have p2G : Paired (TieV G0) ys ls := paired_imp tieG p2
    refine for_it walk_keys (fun i σ J => ∃ v5 v6 v13 v14 : Option V, σ = [some (.ref a), some (.ref lk), some (.ref lw), some (.ref tp), some (.str f), v5, v6, some (.ref d), some (.ref l1), some (.ref l2), some (.ref lf), some (.ref lm), v12, v13, v14, none, none, none] ∧ Ex G0 J ∧ Found [lf, d] ks ws ps ts ls lf (1 + 13 * i) J)
      ⟨none, none, none, none, rfl, xG, fG⟩ (fun i σ J _ ⟨_, _, _, _, _, e, _⟩ => e _ _ gG) ?_ ?_
    · rintro i x σ J J' hi ⟨v5, v6, v13, v14, rfl, eJ, fJ2⟩ ⟨rfl, kk, vv, hkv, rfl⟩
      obtain ⟨pp, hpp, rfl, rfl⟩ := kvP_at hkv
      have hpm : pp ∈ ps := List.mem_of_getElem? hpp
      have hnm : pp.1 ∈ namesP ps := List.mem_map.mpr ⟨pp, hpm, rfl⟩
      have hlk := look_at pl.nd hpm
      rw [kvP_len] at hi
      refine ⟨(by show 1 ≤ sizeLine; decide), fun m hm => ⟨_, rfl, m, lk, _, _, rfl, rfl, upd_same, Ex.new hm _ _ (eJ _ _ uk), ?_, fun c1 hc1 => ?_⟩⟩
      · show 1 + (ks.map V.str).length ≤ sizeLine
        rw [List.length_map]
        exact len_line (by omega)
      have y1 : Ex J' (upd J' m (.lst [V.non])) := Ex.new hm
      have y2 : Ex J' (upd (upd J' m (.lst [V.non])) c1 (.lst ([V.non] ++ ks.map V.str))) := y1.trans (Ex.new hc1)
      have gc1 : upd (upd J' m (.lst [V.non])) c1 (.lst ([V.non] ++ ks.map V.str)) c1 = some (.lst (V.non :: ks.map V.str)) := upd_same
      have c1f : c1 ≠ lf := fun z => by
        obtain ⟨vs, hv, _⟩ := fJ2.at_
        rw [z, y1 _ _ hv] at hc1
        cases hc1
      generalize upd (upd J' m (.lst [V.non])) c1 (.lst ([V.non] ++ ks.map V.str)) = H4 at y2 gc1 ⊢
      refine ⟨c1, rfl, ⟨_, SqL.of gc1⟩, for_list (K := K) (a := c1) (xs := V.non :: ks.map V.str) (fun j σ J => ∃ v13 : Option V, σ = [some (.ref a), some (.ref lk), some (.ref lw), some (.ref tp), some (.str f), some (.str pp.1), v6, some (.ref d), some (.ref l1), some (.ref l2), some (.ref lf), some (.ref lm), v12, v13, v14, none, none, none] ∧ Ex G0 J ∧ J c1 = some (.lst (V.non :: ks.map V.str)) ∧ Found [lf, d] ks ws ps ts ls lf (1 + 13 * i + j) J)
        ⟨v13, rfl, eJ.trans y2, gc1, fJ2.ex y2⟩ (fun j σ J _ ⟨_, _, _, h, _⟩ => SqL.of h) ?_ ?_⟩
      · rintro j x σ J2 hx ⟨v13, rfl, eJ2, gc2, fJ3⟩
        obtain ⟨o, rfl, ok⟩ := kind_of (List.mem_of_getElem? hx)
        have hjl : j < 1 + ks.length := by
          obtain ⟨h, _⟩ := List.getElem?_eq_some_iff.mp hx
          rw [List.length_cons, List.length_map] at h
          omega
        have gfz := eJ2 _ _ gG
        refine ⟨_, rfl, _, rfl, _, rfl, d, ov pp.2, rfl, .inl ⟨_, .inr pp.1, .inr ⟨od, gfz⟩, rfl, by rw [val_kvP, hlk]; rfl⟩, neP (α := Option Str) (hd_ov o) (hd_ov pp.2) ⟨_, rfl, ?_⟩⟩
        by_cases co : o = pp.2
        · exact if_f (by rw [decide_eq_true co]; rfl) ⟨_, rfl, eJ2, gc2, fJ3.mono (by omega)⟩
        · refine if_t (by rw [decide_eq_false co]; rfl) ?_
          obtain ⟨vs, hlf0, lvs, uvs⟩ := fJ3.at_
          refine ⟨_, rfl, .inl ⟨rfl, _, SqL.of hlf0⟩, _, rfl, d, _, rfl, .inr ⟨od, gfz⟩, fun H3 q1 bs k1 _ gq1 pr1 => ?_⟩
          have e4 : Ex J2 H3 := k1
          refine ⟨_, rfl, _, rfl, (by show 2 ≤ sizeLine; decide), fun t5 nt5 => ⟨(by show 1 ≤ sizeLine; decide), fun l5 nl5 => ?_⟩⟩
          have z5 : Ex H3 (upd H3 t5 (.tup [.str pp.1, ov o])) := Ex.new nt5
          have gt5 : upd H3 t5 (.tup [.str pp.1, ov o]) t5 = some (.tup [.str pp.1, ov o]) := upd_same
          generalize upd H3 t5 (.tup [.str pp.1, ov o]) = H5 at z5 gt5 nl5 ⊢
          have z6 : Ex H5 (upd H5 l5 (.lst [.ref t5])) := Ex.new nl5
          have gl5 : upd H5 l5 (.lst [.ref t5]) l5 = some (.lst [.ref t5]) := upd_same
          generalize upd H5 l5 (.lst [.ref t5]) = H6 at z6 gl5 ⊢
          have z56 := z5.trans z6
          have lbs : bs.length = ps.length := by have := Paired.length pr1; rw [kvP_len] at this; exact this
          refine ⟨q1, l5, _, _, rfl, rfl, z56 _ _ gq1, gl5, ?_, fun c7 nc7 => ?_⟩
          · show (bs.map V.ref).length + 1 ≤ sizeLine
            rw [List.length_map]
            exact len_line (by omega)
          have z7 : Ex H6 (upd H6 c7 (.lst (bs.map V.ref ++ [.ref t5]))) := Ex.new nc7
          have gc7 : upd H6 c7 (.lst (bs.map V.ref ++ [.ref t5])) c7 = some (.lst (bs.map V.ref ++ [.ref t5])) := upd_same
          generalize upd H6 c7 (.lst (bs.map V.ref ++ [.ref t5])) = H7 at z7 gc7 ⊢
          have z57 := z56.trans z7
          refine ⟨c7, bs ++ [t5], kvP ps ++ [(.inr pp.1, ov o)], rfl, SqL.of (by rw [gc7, List.map_append]; rfl), pair_sq (pair_snoc (kv := (.inr pp.1, ov o)) (pair_ex z57 pr1) ((z6.trans z7) _ _ gt5)), fun dn ndn => ?_⟩
          rw [merge_put pl.nd]
          have z8 : Ex H7 (upd H7 dn (.dK (kvP (putP ps pp.1 o)))) := Ex.new ndn
          have gdn : upd H7 dn (.dK (kvP (putP ps pp.1 o))) dn = some (.dK (kvP (putP ps pp.1 o))) := upd_same
          have x7 : Ex J2 H7 := e4.trans z57
          have ndl : dn ≠ lf := fun z => by rw [z, x7 _ _ hlf0] at ndn; cases ndn
          have ndd : dn ≠ d := fun z => by rw [z, x7 _ _ gfz] at ndn; cases ndn
          have ndn' : dn ∉ [lf, d] := by simp [ndl, ndd]
          generalize upd H7 dn (.dK (kvP (putP ps pp.1 o))) = H8 at z8 gdn ⊢
          have x8 : Ex J2 H8 := x7.trans z8
          refine ⟨_, rfl, _, rfl, (by show 3 ≤ sizeLine; decide), fun tt ntt => ?_⟩
          have y10 : Ex H8 (upd H8 tt (.tup [.ref dn, .ref l1, .ref l2])) := Ex.new ntt
          have gtt : upd H8 tt (.tup [.ref dn, .ref l1, .ref l2]) tt = some (.tup [.ref dn, .ref l1, .ref l2]) := upd_same
          generalize upd H8 tt (.tup [.ref dn, .ref l1, .ref l2]) = H9 at y10 gtt ⊢
          have gdn' := y10 _ _ gdn
          have x9 : Ex J2 H9 := x8.trans y10
          have hlf' := x9 _ _ hlf0
          have uvs' : ∀ v ∈ vs, UnOk [lf, d] ks ws ps ts ls H9 v := fun v hv => (uvs v hv).ex x9
          have xG9 : Ex G0 H9 := eJ2.trans x9
          refine ⟨lf, _, _, rfl, rfl, hlf', len_lt (by omega), ?_⟩
          refine ⟨_, rfl, Ex.mut xG9 nlfG, (by rw [upd_ne c1f]; exact x9 _ _ gc2), ?_⟩
          have fm := Found.more hlf' lvs uvs' List.mem_cons_self (us := [.ref tt]) (fun v hv => by
            rw [List.mem_singleton.mp hv]
            exact ⟨tt, dn, l1, l2, putP ps pp.1 o, ts, ls, rfl, gtt, ⟨gdn', ⟨xs, xG9 _ _ u1, ties_ex p1G xG9⟩, ys, xG9 _ _ u2, ties_ex p2G xG9⟩, pl.put (pl.nm pp hpm) ok (fun z => absurd hnm z), differs_put (by rw [hlk]; intro z; exact co (Option.some.inj z).symm), ndn', by simp [l1f, l1d], by simp [l2f, l2d]⟩)
          exact fm
      rintro σ J3 ⟨v13, rfl, eJ3, _, fJ3⟩
      rw [List.length_cons, List.length_map] at fJ3
      -- mine
      refine ⟨_, rfl, _, rfl, l1, l2, xs, ys, rfl, rfl, eJ3 _ _ u1, eJ3 _ _ u2, len_line (by omega), fun c2 nc2 => ?_⟩
      have y3 : Ex J3 (upd J3 c2 (.lst (xs ++ ys))) := Ex.new nc2
      have gc2 : upd J3 c2 (.lst (xs ++ ys)) c2 = some (.lst (xs ++ ys)) := upd_same
      generalize upd J3 c2 (.lst (xs ++ ys)) = J4 at y3 gc2 ⊢
      have eJ4 : Ex G0 J4 := eJ3.trans y3
      have p12 : Paired (TieV J4) (xs ++ ys) (ts ++ ls) := paired_app (ties_ex p1G eJ4) (ties_ex p2G eJ4)
      have l12 : (xs ++ ys).length = (ts ++ ls).length := paired_len p12
      refine ⟨c2, rfl, ⟨_, SqL.of gc2⟩, fun D hD => lcR walk_list hD (xs ++ ys) (((xs ++ ys).zip (ts ++ ls)).map fun q => (decide (pp.1 ∈ [q.2.a, q.2.c]), q.1)) (by rw [List.length_map, List.length_zip, l12, Nat.min_self]) (by rw [l12, List.length_append]; exact len_lt (by omega)) (fun J e => SqL.of (e _ _ gc2)) (fun _ _ _ _ z => z) (fun _ => rfl) (fun k x b y J hx hr e => ?_) (fun k x y J hx hr e => ?_) (fun J5 e5 hJ5 => ?_)⟩
      · obtain ⟨t, ht, ⟨bt, rfl, hbt⟩, rfl, rfl⟩ := zip_at (p := fun t => decide (pp.1 ∈ [t.a, t.c])) p12 hx hr
        intro J6 e6 Q6 q6
        have hb6 := e6 _ _ (e _ _ hbt)
        refine ⟨_, rfl, _, rfl, bt, _, 0, _, rfl, rfl, SqT.of hb6, rfl, _, rfl, bt, _, 2, _, rfl, rfl, SqT.of hb6, rfl, (by show 2 ≤ sizeLine; decide), fun t2 nt2 => ?_⟩
        refine inTP (α := Str) (xs := [t.a, t.c]) (hd_str pp.1) (SqT.of upd_same) (hdL_strs [t.a, t.c]) ⟨_, rfl, ?_⟩
        exact q6 _ (Ex.new nt2)
      · obtain ⟨t, ht, _, _, rfl⟩ := zip_at (p := fun t => decide (pp.1 ∈ [t.a, t.c])) p12 hx hr
        exact ev_var rfl
      have pm := paired_filter (fun t => decide (pp.1 ∈ [t.a, t.c])) p12
      refine ⟨_, rfl, (by show 0 ≤ sizeLine; decide), fun em nem => ?_⟩
      have y4 : Ex J5 (upd J5 em (.lst [])) := Ex.new nem
      have gem : upd J5 em (.lst []) em = some (.lst []) := upd_same
      generalize upd J5 em (.lst []) = J6 at y4 gem ⊢
      have x46 : Ex J4 J6 := e5.trans y4
      have eJ6 : Ex G0 J6 := eJ4.trans x46
      have fJ6 : Found [lf, d] ks ws ps ts ls lf (1 + 13 * i + (ks.length + 1)) J6 := fJ3.ex (y3.trans x46)
      refine eqP (α := List Tie) (a := (ts ++ ls).filter fun t => decide (pp.1 ∈ [t.a, t.c])) (b := []) (hd_list (SqL.of (y4 _ _ hJ5)) (ties_hd (ties_ex pm x46))) (hd_list (SqL.of gem) HdL.nil) ⟨_, rfl, ?_⟩
      by_cases cm : (ts ++ ls).filter (fun t => decide (pp.1 ∈ [t.a, t.c])) = []
      · refine if_t (decide_eq_true cm) ?_
        have hno : ∀ t ∈ ts ++ ls, pp.1 ≠ t.a ∧ pp.1 ≠ t.c := fun t ht => by
          have := (List.filter_eq_nil_iff.mp cm) t ht
          simpa using this
        obtain ⟨vs, hlf0, lvs, uvs⟩ := fJ6.at_
        have gfz := eJ6 _ _ gG
        refine ⟨_, rfl, .inl ⟨rfl, _, SqL.of hlf0⟩, _, rfl, d, od, rfl, .inl ⟨_, gfz, fun D2 hD2 => lc_it walk_keys (fun k J => ∃ bs : List Addr, J D2 = some (.lst (bs.map V.ref)) ∧ Paired (fun (b : Addr) (kv : Key × V) => J b = some (.tup [kV kv.1, kv.2])) bs (kvP (dropP (ps.take k) pp.1)) ∧ Ex J6 J)
          ⟨[], upd_same, .nil, Ex.mut (Ex.refl _) hD2⟩ (fun k J _ ⟨_, _, _, e⟩ => e _ _ gfz) ?_ ?_⟩⟩
        · rintro k x J J' hk' ⟨bs, b1, b2, e⟩ ⟨rfl, kk, vv, hkv2, rfl⟩
          obtain ⟨p3, hp3, rfl, rfl⟩ := kvP_at hkv2
          have lb : bs.length ≤ 12 := by
            have := Paired.length b2
            rw [kvP_len] at this
            unfold dropP at this
            have h1 := List.length_filter_le (fun p : Str × Option Str => !decide (p.1 = pp.1)) (ps.take k)
            rw [List.length_take] at h1
            omega
          have et : ps.take (k + 1) = ps.take k ++ [p3] := by rw [List.take_add_one, hp3]; rfl
          refine ⟨rfl, ?_⟩
          refine ⟨_, rfl, _, rfl, neP (α := Str) (hd_str p3.1) (hd_str pp.1) ⟨_, rfl, ?_⟩⟩
          by_cases cn : p3.1 = pp.1
          · refine if_f (by rw [decide_eq_true cn]; rfl) ⟨bs, b1, ?_, e⟩
            unfold dropP at b2 ⊢
            rw [et, List.filter_append]
            have e0 : [p3].filter (fun p => !decide (p.1 = pp.1)) = [] := by simp [cn]
            rw [e0, List.append_nil]
            exact b2
          · refine if_t (by rw [decide_eq_false cn]; rfl) ?_
            refine ⟨_, rfl, _, rfl, _, rfl, d, ov p3.2, rfl, .inl ⟨_, .inr p3.1, .inr ⟨od, e _ _ gfz⟩, rfl, by rw [val_kvP, look_at pl.nd (List.mem_of_getElem? hp3)]; rfl⟩, (by show 2 ≤ sizeLine; decide), fun t nt => ?_⟩
            generalize hJ8 : upd J' t _ = J8
            have y : Ex J' J8 := by rw [← hJ8]; exact Ex.new nt
            have gt : J8 t = some (.tup [kV (.inr p3.1), ov p3.2]) := by rw [← hJ8]; exact upd_same
            refine ⟨_, y _ _ b1, len_lt (by rw [List.length_map]; omega), bs ++ [t], by rw [upd_same, List.map_append]; rfl, ?_, Ex.mut (e.trans y) hD2⟩
            have e0 : dropP (ps.take (k + 1)) pp.1 = dropP (ps.take k) pp.1 ++ [(p3.1, p3.2)] := by
              unfold dropP
              rw [et, List.filter_append]
              have : [p3].filter (fun p => !decide (p.1 = pp.1)) = [p3] := by simp [cn]
              rw [this]
            rw [e0, kvP_snoc]
            exact pair_put (y _ _ b1) (pair_snoc (kv := (.inr p3.1, ov p3.2)) (pair_ex y b2) gt)
        rintro J7 ⟨bs, b1, b2, e7⟩
        rw [kvP_len, List.take_length] at b2
        have nd' : (namesP (dropP ps pp.1)).Nodup := (pl.drop hno).nd
        refine ⟨D2, bs, kvP (dropP ps pp.1), rfl, SqL.of b1, pair_sq b2, fun dn ndn => ?_⟩
        rw [merge_new nd']
        have y9 : Ex J7 (upd J7 dn (.dK (kvP (dropP ps pp.1)))) := Ex.new ndn
        have gdn : upd J7 dn (.dK (kvP (dropP ps pp.1))) dn = some (.dK (kvP (dropP ps pp.1))) := upd_same
        have ndl : dn ≠ lf := fun z => by rw [z, e7 _ _ hlf0] at ndn; cases ndn
        have ndd : dn ≠ d := fun z => by rw [z, e7 _ _ gfz] at ndn; cases ndn
        have ndn' : dn ∉ [lf, d] := by simp [ndl, ndd]
        generalize upd J7 dn (.dK (kvP (dropP ps pp.1))) = H8 at y9 gdn ⊢
        have x8 : Ex J6 H8 := e7.trans y9
        refine ⟨_, rfl, _, rfl, (by show 3 ≤ sizeLine; decide), fun tt ntt => ?_⟩
        have y10 : Ex H8 (upd H8 tt (.tup [.ref dn, .ref l1, .ref l2])) := Ex.new ntt
        have gtt : upd H8 tt (.tup [.ref dn, .ref l1, .ref l2]) tt = some (.tup [.ref dn, .ref l1, .ref l2]) := upd_same
        generalize upd H8 tt (.tup [.ref dn, .ref l1, .ref l2]) = H9 at y10 gtt ⊢
        have gdn' := y10 _ _ gdn
        have x9 : Ex J6 H9 := x8.trans y10
        have hlf' := x9 _ _ hlf0
        have uvs' : ∀ v ∈ vs, UnOk [lf, d] ks ws ps ts ls H9 v := fun v hv => (uvs v hv).ex x9
        have xG9 : Ex G0 H9 := eJ6.trans x9
        refine ⟨lf, _, _, rfl, rfl, hlf', len_lt (by omega), ?_⟩
        refine ⟨_, _, _, _, rfl, Ex.mut xG9 nlfG, ?_⟩
        have fm := Found.more hlf' lvs uvs' List.mem_cons_self (us := [.ref tt]) (fun v hv => by
          rw [List.mem_singleton.mp hv]
          exact ⟨tt, dn, l1, l2, dropP ps pp.1, ts, ls, rfl, gtt, ⟨gdn', ⟨xs, xG9 _ _ u1, ties_ex p1G xG9⟩, ys, xG9 _ _ u2, ties_ex p2G xG9⟩, pl.drop hno, differs_drop hnm, ndn', by simp [l1f, l1d], by simp [l2f, l2d]⟩)
        exact fm.mono (by simp only [List.length_cons, List.length_nil]; omega)
      · exact if_f (decide_eq_false cm) ⟨_, _, _, _, rfl, eJ6, fJ6.mono (by omega)⟩
    rintro σ J2 ⟨v5, v6, v13, v14, rfl, eJ2, fJ2⟩
    rw [kvP_len] at fJ2
    refine ⟨eJ2 _ _ gG, ?_⟩
    have xU : Ex H (upd J2 d (.dK (kvP ps))) := ex_unlock gd (by rw [hG0]; exact eJ2)
    have fU : Found [lf] ks ws ps ts ls lf 200 (upd J2 d (.dK (kvP ps))) := ((fJ2.but (fun xs z => by rw [eJ2 _ _ gG] at z; cases z) (by simp) dlf.symm ExBut.put).less (by simp)).mono (by omega)
    generalize upd J2 d (.dK (kvP ps)) = J3 at xU fU ⊢
    -- the ties
    refine ⟨_, rfl, l1, rfl, ⟨_, SqL.of (xU _ _ g1)⟩, for_list (K := K) (a := l1) (xs := xs) (fun i σ J => ∃ v6 v15 : Option V, σ = [some (.ref a), some (.ref lk), some (.ref lw), some (.ref tp), some (.str f), v5, v6, some (.ref d), some (.ref l1), some (.ref l2), some (.ref lf), some (.ref lm), v12, v13, v14, v15, none, none] ∧ Ex H J ∧ Found [lf] ks ws ps ts ls lf (200 + 2 * i) J)
      ⟨v6, none, rfl, xU, fU⟩ (fun i σ J _ ⟨_, _, _, e, _⟩ => SqL.of (e _ _ g1)) ?_ ?_⟩
    · rintro i x σ J hx ⟨v6, v15, rfl, xJ4, fJ4⟩
      obtain ⟨t, ht, hvt⟩ := paired_get2 p1 hx
      have htm : t ∈ ts := List.mem_of_getElem? ht
      obtain ⟨c1, c2, c3', c4⟩ := pl.cut1 htm
      have hil : i < ts.length := (List.getElem?_eq_some_iff.mp ht).1
      have gl := xJ4 _ _ g1
      have pJ := ties_ex p1 xJ4
      have l12 : xs.length = ts.length := paired_len p1
      refine ⟨_, rfl, l1, rfl, ⟨_, SqL.of gl⟩, fun D hD => lcR walk_list hD xs ((xs.zip ts).map fun q => (!decide (q.2 = t), q.1)) (by rw [List.length_map, List.length_zip, l12, Nat.min_self]) (by rw [l12]; exact len_lt (by omega)) (fun J e => SqL.of (e _ _ gl)) (fun _ _ _ _ z => z) (fun _ => rfl) (fun k x' b y J' hx' hr e => ?_) (fun k x' y J' hx' hr e => ?_) (fun J5 e5 hJ5 => ?_)⟩
      · obtain ⟨t', ht', hv', rfl, rfl⟩ := zip_at (p := fun u => !decide (u = t)) pJ hx' hr
        intro J6 e6 Q6 q6
        exact ⟨_, rfl, _, rfl, neP (α := Tie) (hv'.ex (e.trans e6)).hd (hvt.ex ((xJ4.trans e).trans e6)).hd ⟨_, rfl, q6 J6 (Ex.refl _)⟩⟩
      · obtain ⟨t', ht', _, _, rfl⟩ := zip_at (p := fun u => !decide (u = t)) pJ hx' hr
        exact ev_var rfl
      have pm := paired_filter (fun u => !decide (u = t)) pJ
      obtain ⟨vs, hlf0, lvs, uvs⟩ := fJ4.at_
      have Df : D ≠ lf := fun z => by rw [z, hlf0] at hD; cases hD
      have x5 : Ex H J5 := xJ4.trans e5
      refine ⟨_, rfl, .inl ⟨rfl, _, SqL.of (e5 _ _ hlf0)⟩, _, rfl, _, rfl, _, rfl, (by show 3 ≤ sizeLine; decide), fun t6 nt6 => ?_⟩
      have y6 : Ex J5 (upd J5 t6 (.tup [.ref d, .ref D, .ref l2])) := Ex.new nt6
      have gt6 : upd J5 t6 (.tup [.ref d, .ref D, .ref l2]) t6 = some (.tup [.ref d, .ref D, .ref l2]) := upd_same
      generalize upd J5 t6 (.tup [.ref d, .ref D, .ref l2]) = J6 at y6 gt6 ⊢
      refine ⟨_, rfl, _, rfl, _, rfl, _, rfl, (by show 1 ≤ sizeLine; decide), fun m3 nm3 => ?_⟩
      have y7 : Ex J6 (upd J6 m3 (.lst [x])) := Ex.new nm3
      have gm3 : upd J6 m3 (.lst [x]) m3 = some (.lst [x]) := upd_same
      generalize upd J6 m3 (.lst [x]) = J7 at y7 gm3 ⊢
      have x7 : Ex H J7 := (x5.trans y6).trans y7
      refine ⟨l2, m3, ys, [x], rfl, rfl, x7 _ _ g2, gm3, len_line (by show ys.length + 1 ≤ 1000; omega), fun c3 nc3 => ?_⟩
      have c3f : c3 ≠ lf := fun z => by rw [z, ((e5.trans y6).trans y7) _ _ hlf0] at nc3; cases nc3
      have y8 : Ex J7 (upd J7 c3 (.lst (ys ++ [x]))) := Ex.new nc3
      have gc3 : upd J7 c3 (.lst (ys ++ [x])) c3 = some (.lst (ys ++ [x])) := upd_same
      generalize upd J7 c3 (.lst (ys ++ [x])) = J8 at y8 gc3 ⊢
      refine ⟨(by show 3 ≤ sizeLine; decide), fun t7 nt7 => ⟨(by show 2 ≤ sizeLine; decide), fun l8 nl8 => ?_⟩⟩
      have y9 : Ex J8 (upd J8 t7 (.tup [.ref d, .ref D, .ref c3])) := Ex.new nt7
      have gt7 : upd J8 t7 (.tup [.ref d, .ref D, .ref c3]) t7 = some (.tup [.ref d, .ref D, .ref c3]) := upd_same
      generalize upd J8 t7 (.tup [.ref d, .ref D, .ref c3]) = J9 at y9 gt7 nl8 ⊢
      have y10 : Ex J9 (upd J9 l8 (.lst [.ref t6, .ref t7])) := Ex.new nl8
      have gl8 : upd J9 l8 (.lst [.ref t6, .ref t7]) l8 = some (.lst [.ref t6, .ref t7]) := upd_same
      generalize upd J9 l8 (.lst [.ref t6, .ref t7]) = H9 at y10 gl8 ⊢
      have x89 : Ex J8 H9 := y9.trans y10
      have x79 : Ex J8 H9 := x89
      have x69 : Ex J6 H9 := (y7.trans y8).trans x89
      have x59 : Ex J5 H9 := y6.trans x69
      have x49 : Ex J H9 := e5.trans x59
      have xH9 : Ex H H9 := xJ4.trans x49
      have hlf' := x49 _ _ hlf0
      have uvs' : ∀ v ∈ vs, UnOk [lf] ks ws ps ts ls H9 v := fun v hv => (uvs v hv).ex x49
      refine ⟨lf, l8, _, _, rfl, rfl, hlf', gl8, len_line (by show vs.length + 2 ≤ 1000; omega), _, _, rfl, Ex.mut xH9 nlf, ?_⟩
      have fm := Found.more hlf' lvs uvs' List.mem_cons_self (us := [.ref t6, .ref t7]) (fun v hv => by
        simp only [List.mem_cons, List.not_mem_nil, or_false] at hv
        rcases hv with rfl | rfl
        · exact ⟨t6, d, D, l2, ps, dropT ts t, ls, rfl, x69 _ _ gt6, ⟨xH9 _ _ gd, ⟨_, x59 _ _ hJ5, ties_ex pm x49⟩, ys, xH9 _ _ g2, ties_ex p2 xH9⟩, c1, c2, by simp [dlf], by simp [Df], by simp [l2f]⟩
        · exact ⟨t7, d, D, c3, ps, dropT ts t, ls ++ [t], rfl, y10 _ _ gt7, ⟨xH9 _ _ gd, ⟨_, x59 _ _ hJ5, ties_ex pm x49⟩, _, x79 _ _ gc3, paired_app (ties_ex p2 xH9) (.cons (hvt.ex xH9) .nil)⟩, c3', c4, by simp [dlf], by simp [Df], by simp [c3f]⟩)
      exact fm.mono (by simp only [List.length_cons, List.length_nil]; omega)
    rintro σ J4 ⟨v6, v15, rfl, xJ4, fJ4⟩
    refine ⟨_, rfl, l2, rfl, ⟨_, SqL.of (xJ4 _ _ g2)⟩, for_list (K := K) (a := l2) (xs := ys) (fun i σ J => ∃ v6 v15 : Option V, σ = [some (.ref a), some (.ref lk), some (.ref lw), some (.ref tp), some (.str f), v5, v6, some (.ref d), some (.ref l1), some (.ref l2), some (.ref lf), some (.ref lm), v12, v13, v14, v15, none, none] ∧ Ex H J ∧ Found [lf] ks ws ps ts ls lf (220 + 2 * i) J)
      ⟨v6, v15, rfl, xJ4, fJ4.mono (by omega)⟩ (fun i σ J _ ⟨_, _, _, e, _⟩ => SqL.of (e _ _ g2)) ?_ ?_⟩
    · rintro i x σ J hx ⟨v6, v15, rfl, xJ4, fJ4⟩
      obtain ⟨t, ht, hvt⟩ := paired_get2 p2 hx
      have htm : t ∈ ls := List.mem_of_getElem? ht
      obtain ⟨c1, c2, c3', c4⟩ := pl.cut2 htm
      have hil : i < ls.length := (List.getElem?_eq_some_iff.mp ht).1
      have gl := xJ4 _ _ g2
      have pJ := ties_ex p2 xJ4
      have l12 : ys.length = ls.length := paired_len p2
      refine ⟨_, rfl, l2, rfl, ⟨_, SqL.of gl⟩, fun D hD => lcR walk_list hD ys ((ys.zip ls).map fun q => (!decide (q.2 = t), q.1)) (by rw [List.length_map, List.length_zip, l12, Nat.min_self]) (by rw [l12]; exact len_lt (by omega)) (fun J e => SqL.of (e _ _ gl)) (fun _ _ _ _ z => z) (fun _ => rfl) (fun k x' b y J' hx' hr e => ?_) (fun k x' y J' hx' hr e => ?_) (fun J5 e5 hJ5 => ?_)⟩
      · obtain ⟨t', ht', hv', rfl, rfl⟩ := zip_at (p := fun u => !decide (u = t)) pJ hx' hr
        intro J6 e6 Q6 q6
        exact ⟨_, rfl, _, rfl, neP (α := Tie) (hv'.ex (e.trans e6)).hd (hvt.ex ((xJ4.trans e).trans e6)).hd ⟨_, rfl, q6 J6 (Ex.refl _)⟩⟩
      · obtain ⟨t', ht', _, _, rfl⟩ := zip_at (p := fun u => !decide (u = t)) pJ hx' hr
        exact ev_var rfl
      have pm := paired_filter (fun u => !decide (u = t)) pJ
      obtain ⟨vs, hlf0, lvs, uvs⟩ := fJ4.at_
      have Df : D ≠ lf := fun z => by rw [z, hlf0] at hD; cases hD
      have x5 : Ex H J5 := xJ4.trans e5
      refine ⟨_, rfl, .inl ⟨rfl, _, SqL.of (e5 _ _ hlf0)⟩, _, rfl, _, rfl, _, rfl, (by show 3 ≤ sizeLine; decide), fun t6 nt6 => ?_⟩
      have y6 : Ex J5 (upd J5 t6 (.tup [.ref d, .ref l1, .ref D])) := Ex.new nt6
      have gt6 : upd J5 t6 (.tup [.ref d, .ref l1, .ref D]) t6 = some (.tup [.ref d, .ref l1, .ref D]) := upd_same
      generalize upd J5 t6 (.tup [.ref d, .ref l1, .ref D]) = J6 at y6 gt6 ⊢
      refine ⟨_, rfl, _, rfl, _, rfl, (by show 1 ≤ sizeLine; decide), fun m3 nm3 => ?_⟩
      have y7 : Ex J6 (upd J6 m3 (.lst [x])) := Ex.new nm3
      have gm3 : upd J6 m3 (.lst [x]) m3 = some (.lst [x]) := upd_same
      generalize upd J6 m3 (.lst [x]) = J7 at y7 gm3 ⊢
      have x7 : Ex H J7 := (x5.trans y6).trans y7
      refine ⟨l1, m3, xs, [x], rfl, rfl, x7 _ _ g1, gm3, len_line (by show xs.length + 1 ≤ 1000; omega), fun c3 nc3 => ?_⟩
      have c3f : c3 ≠ lf := fun z => by rw [z, ((e5.trans y6).trans y7) _ _ hlf0] at nc3; cases nc3
      have y8 : Ex J7 (upd J7 c3 (.lst (xs ++ [x]))) := Ex.new nc3
      have gc3 : upd J7 c3 (.lst (xs ++ [x])) c3 = some (.lst (xs ++ [x])) := upd_same
      generalize upd J7 c3 (.lst (xs ++ [x])) = J8 at y8 gc3 ⊢
      refine ⟨_, rfl, (by show 3 ≤ sizeLine; decide), fun t7 nt7 => ⟨(by show 2 ≤ sizeLine; decide), fun l8 nl8 => ?_⟩⟩
      have y9 : Ex J8 (upd J8 t7 (.tup [.ref d, .ref c3, .ref D])) := Ex.new nt7
      have gt7 : upd J8 t7 (.tup [.ref d, .ref c3, .ref D]) t7 = some (.tup [.ref d, .ref c3, .ref D]) := upd_same
      generalize upd J8 t7 (.tup [.ref d, .ref c3, .ref D]) = J9 at y9 gt7 nl8 ⊢
      have y10 : Ex J9 (upd J9 l8 (.lst [.ref t6, .ref t7])) := Ex.new nl8
      have gl8 : upd J9 l8 (.lst [.ref t6, .ref t7]) l8 = some (.lst [.ref t6, .ref t7]) := upd_same
      generalize upd J9 l8 (.lst [.ref t6, .ref t7]) = H9 at y10 gl8 ⊢
      have x89 : Ex J8 H9 := y9.trans y10
      have x79 : Ex J8 H9 := x89
      have x69 : Ex J6 H9 := (y7.trans y8).trans x89
      have x59 : Ex J5 H9 := y6.trans x69
      have x49 : Ex J H9 := e5.trans x59
      have xH9 : Ex H H9 := xJ4.trans x49
      have hlf' := x49 _ _ hlf0
      have uvs' : ∀ v ∈ vs, UnOk [lf] ks ws ps ts ls H9 v := fun v hv => (uvs v hv).ex x49
      refine ⟨lf, l8, _, _, rfl, rfl, hlf', gl8, len_line (by show vs.length + 2 ≤ 1000; omega), _, _, rfl, Ex.mut xH9 nlf, ?_⟩
      have fm := Found.more hlf' lvs uvs' List.mem_cons_self (us := [.ref t6, .ref t7]) (fun v hv => by
        simp only [List.mem_cons, List.not_mem_nil, or_false] at hv
        rcases hv with rfl | rfl
        · exact ⟨t6, d, l1, D, ps, ts, dropT ls t, rfl, x69 _ _ gt6, ⟨xH9 _ _ gd, ⟨xs, xH9 _ _ g1, ties_ex p1 xH9⟩, _, x59 _ _ hJ5, ties_ex pm x49⟩, c1, c2, by simp [dlf], by simp [l1f], by simp [Df]⟩
        · exact ⟨t7, d, c3, D, ps, ts ++ [t], dropT ls t, rfl, y10 _ _ gt7, ⟨xH9 _ _ gd, ⟨_, x79 _ _ gc3, paired_app (ties_ex p1 xH9) (.cons (hvt.ex xH9) .nil)⟩, _, x59 _ _ hJ5, ties_ex pm x49⟩, c3', c4, by simp [dlf], by simp [c3f], by simp [Df]⟩)
      exact fm.mono (by simp only [List.length_cons, List.length_nil]; omega)
    rintro σ J5 ⟨v6, v15, rfl, xJ5, fJ5⟩
    obtain ⟨vs, h1, h2, h3⟩ := fJ5.at_
    exact ⟨_, rfl, q J5 lf vs xJ5 h1 (by omega) fun v hv => (h3 v hv).less (by simp)⟩
end
end K6
namespace K6
open PySem L2 Kd Evl Ks Kt Ky
open PySem.W (Datum DatumOrd T3)
theorem let_ok : ∀ c ∈ LET, c < 0x110000 := by decide +kernel
theorem name_ok {z : Str} (h : isName z = true) : PyData.strOk z = true := by
  have h1 := (Bool.and_eq_true_iff.mp h).2
  unfold PyData.strOk
  rw [Array.all_eq_true']
  intro c hc
  have h2 := List.all_eq_true.mp h1 c (by simpa using hc)
  exact decide_eq_true (let_ok c (of_decide_eq_true h2))
theorem made_ex {H : Hp} {x dx C : Addr} (nx : H x = none) (nd : H dx = none) : Ex H (upd (upd H dx (.own x)) x (.ins C dx [])) := fun b o e => by
  rw [upd_ne (ne_of_none e nx), upd_ne (ne_of_none e nd)]
  exact e
theorem made_but {H H2 : Hp} {x dx C : Addr} (nx : H x = none) (nd : H dx = none) (b : ExBut x (upd (upd H dx (.own x)) x (.ins C dx [])) H2) : Ex H H2 := fun c o e => b c o (made_ex nx nd c o e) (ne_of_none e nx)
def namesD (zs : List Str) : PyData := .tuple (zs.map .str)
theorem strs_names : ∀ zs : List Str, strsOf (zs.map PyData.str) = zs
  | [] => rfl
  | z :: zs => congrArg (z :: ·) (strs_names zs)
theorem all_names : ∀ zs : List Str, (zs.map PyData.str).all isNameD = zs.all isName
  | [] => rfl
  | z :: zs => by
    rw [List.map_cons, List.all_cons, List.all_cons, all_names zs]
    rfl
/-- names that a sheet takes -/
structure Nm (zs : List Str) (m : Nat) : Prop where
  lo : 1 ≤ zs.length
  hi : zs.length ≤ m
  nm : ∀ z ∈ zs, isName z = true
  nd : zs.Nodup
theorem Nm.are {zs : List Str} {m : Nat} (h : Nm zs m) : areNamesD (namesD zs) m = true := by
  have e1 : ((zs.map PyData.str).length : Int) = (zs.length : Int) := by rw [List.length_map]
  have e2 : (uniq (zs.map fun z => (Sum.inr z : Key))).length = zs.length := by
    have hn : (zs.map fun z => (Sum.inr z : Key)).Nodup := List.pairwise_map.mpr (h.nd.imp fun q z => q (Sum.inr.inj z))
    rw [(len_eq_uniq _).mpr hn, List.length_map]
  show (((decide (1 ≤ ((zs.map PyData.str).length : Int)) && decide (((zs.map PyData.str).length : Int) ≤ (m : Int))) && (zs.map PyData.str).all isNameD) && decide ((uniq ((strsOf (zs.map PyData.str)).map fun z => (Sum.inr z : Key))).length = (zs.map PyData.str).length)) = true
  rw [strs_names, e2, all_names, List.all_eq_true.mpr h.nm, List.length_map]
  have a1 := h.lo
  have a2 := h.hi
  rw [decide_eq_true (by omega), decide_eq_true (by omega), decide_eq_true rfl]
  rfl
theorem Nm.few {zs : List Str} {m : Nat} (h : Nm zs m) (hm : m ≤ 3) : fewD (namesD zs) := fun ds e => by
  cases e
  rw [List.length_map]
  have a2 := h.hi
  refine ⟨by omega, fun x hx => ?_⟩
  obtain ⟨z, hz, rfl⟩ := List.mem_map.mp hx
  intro y e
  cases e
  have b := h.nm z hz
  refine ⟨?_, name_ok b⟩
  have b1 := of_decide_eq_true (Bool.and_eq_true_iff.mp (Bool.and_eq_true_iff.mp b).1).2
  omega
theorem Nm.ok {zs : List Str} {m : Nat} (h : Nm zs m) : OkS zs := fun z hz => name_ok (h.nm z hz)
theorem Nm.perm {zs ys : List Str} {m : Nat} (h : Nm zs m) (p : ys.Perm zs) : Nm ys m := ⟨by rw [p.length_eq]; exact h.lo, by rw [p.length_eq]; exact h.hi, fun z hz => h.nm z (p.mem_iff.mp hz), p.nodup_iff.mpr h.nd⟩
theorem Nm.le {zs : List Str} {m n : Nat} (h : Nm zs m) (hm : m ≤ n) : Nm zs n := ⟨h.lo, Nat.le_trans h.hi hm, h.nm, h.nd⟩
theorem Nm.take {zs : List Str} {m : Nat} (h : Nm zs m) {k : Nat} (hk : 1 ≤ k) : Nm (zs.take k) k := by
  have a := h.lo
  refine ⟨by rw [List.length_take]; omega, by rw [List.length_take]; omega, fun z hz => h.nm z (List.mem_of_mem_take hz), h.nd.sublist (List.take_sublist _ _)⟩
theorem dv_names {K : PySem.W.Frag} {H : Hp} {a : Addr} {zs : List Str} (h : SqT K H a (zs.map V.str)) : Dv K H (.ref a) (namesD zs) := .inl (.tup h (dpAll_strs zs))
theorem strsD_names (zs : List Str) : strsD (namesD zs) = zs := strs_names zs
theorem mk_ok {K : PySem.W.Frag} {AA : Ads} {H1 : Hp} {k w : V} {kz wz : List Str} {Qx : Addr → Hp → Prop} {E : XK} (hk : Dv K H1 k (namesD kz)) (hw : Dv K H1 w (namesD wz)) (nk : Nm kz 3) (nw : Nm wz 2)
    (q : ∀ x H2 ks ws, Ex H1 H2 → IsSort kz ks → IsSort wz ws → SheetAt AA.C_Sheet H2 x ks ws → Qx x H2) :
    ∀ x dx, H1 x = none → H1 dx = none → dx ≠ x → spInit K AA (.ref x :: ([k, w] ++ [])) (upd (upd H1 dx (.own x)) x (.ins AA.C_Sheet dx [])) (fun v H2 => v = .non ∧ Qx x H2) E := by
  intro x dx nx nd ne
  have e := made_ex (C := AA.C_Sheet) nx nd
  have hg : (areNamesD (namesD kz) ((3 : Nat) : Int) && areNamesD (namesD wz) ((2 : Nat) : Int)) = true := by
    rw [nk.are, nw.are]
    rfl
  refine ⟨x, dx, k, w, namesD kz, namesD wz, rfl, upd_same, dv_ex e hk, dv_ex e hw, nk.few (by decide), nw.few (by decide), fun _ ks ws H2 s1 s2 eb hs => ⟨rfl, ?_⟩, fun hb => ?_⟩
  · rw [strsD_names] at s1 s2
    exact q x H2 ks ws (made_but nx nd eb) s1 s2 hs
  · have hb' : (areNamesD (namesD kz) ((3 : Nat) : Int) && areNamesD (namesD wz) ((2 : Nat) : Int)) = false := hb
    rw [hg] at hb'
    cases hb'
theorem nodup_leA {α : Type} [DecidableEq α] : ∀ {xs zs : List α}, xs.Nodup → (∀ x ∈ xs, x ∈ zs) → xs.length ≤ zs.length
  | [], _, _, _ => Nat.zero_le _
  | x :: xs, zs, nd, sub => by
    obtain ⟨n1, n2⟩ := List.nodup_cons.mp nd
    have hx : x ∈ zs := sub x List.mem_cons_self
    have ih := nodup_leA (xs := xs) (zs := zs.erase x) n2 fun y hy => (List.mem_erase_of_ne (show y ≠ x from fun z => n1 (by rw [← z]; exact hy))).mpr (sub y (List.mem_cons_of_mem _ hy))
    rw [List.length_erase_of_mem hx] at ih
    have := List.length_pos_of_mem hx
    rw [List.length_cons]
    omega
theorem sub_back {α : Type} [DecidableEq α] {xs zs : List α} (nd : xs.Nodup) (sub : ∀ x ∈ xs, x ∈ zs) (len : zs.length ≤ xs.length) {z : α} (hz : z ∈ zs) : z ∈ xs := by
  refine Decidable.byContradiction fun c => ?_
  have := nodup_leA (xs := z :: xs) (zs := zs) (List.nodup_cons.mpr ⟨c, nd⟩) fun y hy => by
    rcases List.mem_cons.mp hy with rfl | hy
    · exact hz
    · exact sub y hy
  rw [List.length_cons] at this
  omega
theorem once_srt {L ts : List Tie} (nd : ts.Nodup) (h : ∀ t, t ∈ L ↔ t ∈ ts) : once (srt L) = srt ts := by
  refine up_one ((srt_up L).sublist (once_sub _)) (srt_up ts) ?_
  refine (List.perm_ext_iff_of_nodup (nodup_once _) ((srt_perm ts).nodup_iff.mpr nd)).mpr fun t => ?_
  rw [mem_once, (srt_perm L).mem_iff, (srt_perm ts).mem_iff]
  exact h t
theorem once_self {ts : List Tie} (nd : ts.Nodup) : once (srt ts) = srt ts := once_srt nd fun _ => Iff.rfl
theorem look_perm {ps qs : Posts} (h : qs.Perm ps) (nd : (namesP ps).Nodup) (n : Str) : look qs n = look ps n := by
  have nq : (namesP qs).Nodup := (h.map _).nodup_iff.mpr nd
  by_cases c : n ∈ namesP ps
  · obtain ⟨p, hp, rfl⟩ := List.mem_map.mp c
    rw [look_at nd hp, look_at nq (h.mem_iff.mpr hp)]
  · rw [look_none c, look_none (fun z => c ((h.map _).mem_iff.mp z))]
theorem sortP_one {ps qs : Posts} (h : qs.Perm ps) (nd : (namesP ps).Nodup) : sortP qs = sortP ps := by
  unfold sortP
  rw [srt_one (show (namesP qs).Perm (namesP ps) from h.map fun p : Str × Option Str => p.1)]
  exact List.map_congr_left fun n _ => by rw [look_perm h nd]
theorem nd_sortP {ps : Posts} (nd : (namesP ps).Nodup) : (namesP (sortP ps)).Nodup := by
  rw [names_sortP]
  exact (srt_perm _).nodup_iff.mpr nd
theorem look_sortP {ps : Posts} (nd : (namesP ps).Nodup) (n : Str) : look (sortP ps) n = look ps n := look_perm (sortP_perm nd) nd n
theorem ov_inj {a b : Option Str} (h : ov a = ov b) : a = b := by cases a <;> cases b <;> cases h <;> rfl
theorem hit_iff (qs : Posts) : ∀ ps : Posts, hitB (kvP qs) (kvP ps) = true ↔ ∀ p ∈ ps, look qs p.1 = some p.2
  | [] => ⟨fun _ _ z => (nomatch z), fun _ => rfl⟩
  | p :: ps => by
    have ih := hit_iff qs ps
    have e : hitB (kvP qs) (kvP (p :: ps)) = (match valV (kvP qs) (.inr p.1) with | none => false | some y => Kt.eqV (ov p.2) y && hitB (kvP qs) (kvP ps)) := rfl
    rw [e, val_kvP, List.forall_mem_cons]
    cases c : look qs p.1 with
    | none => simp
    | some o =>
      show (Kt.eqV (ov p.2) (ov o) && _) = true ↔ _
      rw [Bool.and_eq_true_iff, eqV_iff (ov_pl _) (ov_pl _), ih]
      constructor
      · rintro ⟨h1, h2⟩
        exact ⟨by rw [ov_inj h1], h2⟩
      · rintro ⟨h1, h2⟩
        exact ⟨by rw [Option.some.inj h1], h2⟩
theorem sameD_iff {ps qs : Posts} (np : (namesP ps).Nodup) (nq : (namesP qs).Nodup) : sameD (kvP ps) (kvP qs) = true ↔ ∀ n, look ps n = look qs n := by
  have lp : (namesP ps).length = ps.length := List.length_map ..
  have lq : (namesP qs).length = qs.length := List.length_map ..
  unfold sameD
  rw [Bool.and_eq_true_iff, beq_iff_eq, kvP_len, kvP_len, hit_iff]
  have mem : ∀ {rs : Posts} {n : Str}, n ∈ namesP rs ↔ (look rs n).isSome = true := fun {rs n} => by rw [look_some, decide_eq_true_iff]
  constructor
  · rintro ⟨h1, h2⟩ n
    by_cases c : n ∈ namesP ps
    · obtain ⟨p, hp, rfl⟩ := List.mem_map.mp c
      rw [h2 p hp, look_at np hp]
    · have sub : ∀ x ∈ namesP ps, x ∈ namesP qs := fun x hx => by
        obtain ⟨p, hp, rfl⟩ := List.mem_map.mp hx
        rw [mem, h2 p hp]
        rfl
      have c2 : n ∉ namesP qs := fun z => c (sub_back np sub (by omega) z)
      rw [look_none c, look_none c2]
  · intro h
    refine ⟨?_, fun p hp => by rw [← h p.1, look_at np hp]⟩
    have s1 := nodup_leA np (zs := namesP qs) fun x hx => by rw [mem, ← h x, ← mem]; exact hx
    have s2 := nodup_leA nq (zs := namesP ps) fun x hx => by rw [mem, h x, ← mem]; exact hx
    omega
theorem sameK_gen {κ : Type} [DecidableEq κ] (ks ls : List κ) : sameK ks ls = true ↔ ks.length = ls.length ∧ ∀ k ∈ ks, k ∈ ls := by
  unfold sameK
  rw [Bool.and_eq_true_iff, beq_iff_eq, List.all_eq_true]
  simp only [decide_eq_true_eq]
theorem sameK_iff {ts us : List Tie} (nt : ts.Nodup) (nu : us.Nodup) : sameK ((srt ts).map tieK) ((srt us).map tieK) = true ↔ ∀ t, t ∈ ts ↔ t ∈ us := by
  have inm : ∀ (t : Tie) (l : List Tie), tieK t ∈ l.map tieK ↔ t ∈ l := fun t l => by
    rw [List.mem_map]
    exact ⟨fun ⟨u, hu, e⟩ => tieK_inj _ _ e ▸ hu, fun h => ⟨t, h, rfl⟩⟩
  rw [sameK_gen, List.length_map, List.length_map, (srt_perm ts).length_eq, (srt_perm us).length_eq]
  constructor
  · rintro ⟨h1, h2⟩ t
    have sub : ∀ x ∈ ts, x ∈ us := fun x hx => by
      have := h2 (tieK x) (List.mem_map.mpr ⟨x, (srt_perm ts).mem_iff.mpr hx, rfl⟩)
      exact (srt_perm us).mem_iff.mp ((inm _ _).mp this)
    exact ⟨sub t, fun h => sub_back nt sub (by omega) h⟩
  · intro h
    refine ⟨Nat.le_antisymm (nodup_leA nt fun x hx => (h x).mp hx) (nodup_leA nu fun x hx => (h x).mpr hx), fun k hk => ?_⟩
    obtain ⟨t, ht, rfl⟩ := List.mem_map.mp hk
    exact (inm _ _).mpr ((srt_perm us).mem_iff.mpr ((h t).mp ((srt_perm ts).mem_iff.mp ht)))
/-- the shape of a plain one -/
def shp (ks ws : List Str) (ps : Posts) (ts ls : List Tie) : Shp := ⟨ks, ws, sortP ps, srt ts, srt ls⟩
section
variable {kr wr ks ws : List Str} {ps qs : Posts} {ts ls us ms : List Tie}
theorem Plain.t1 (h : Plain kr wr ps ts ls) : ts.Nodup := (List.nodup_append.mp h.tnd).1
theorem Plain.t2 (h : Plain kr wr ps ts ls) : ls.Nodup := (List.nodup_append.mp h.tnd).2.1
theorem eqShp_iff (h1 : Plain kr wr ps ts ls) (h2 : Plain kr wr qs us ms) : eqShp (shp ks ws ps ts ls) (shp ks ws qs us ms) = true ↔ ((∀ n, look ps n = look qs n) ∧ (∀ t, t ∈ ts ↔ t ∈ us) ∧ ∀ t, t ∈ ls ↔ t ∈ ms) := by
  unfold eqShp shp
  dsimp only
  rw [decide_eq_true rfl, Bool.true_and, Bool.and_eq_true_iff, Bool.and_eq_true_iff, sameD_iff (nd_sortP h1.nd) (nd_sortP h2.nd), sameK_iff h1.t1 h2.t1, sameK_iff h1.t2 h2.t2]
  simp only [look_sortP h1.nd, look_sortP h2.nd]
theorem eqShp_self (h1 : Plain kr wr ps ts ls) : eqShp (shp ks ws ps ts ls) (shp ks ws ps ts ls) = true := (eqShp_iff h1 h1).mpr ⟨fun _ => rfl, fun _ => Iff.rfl, fun _ => Iff.rfl⟩
theorem eqShp_not (h1 : Plain kr wr ps ts ls) (h2 : Plain kr wr qs us ms) (d : Differs ps ts ls qs us ms) : eqShp (shp ks ws ps ts ls) (shp ks ws qs us ms) = false := by
  cases c : eqShp (shp ks ws ps ts ls) (shp ks ws qs us ms) with
  | false => rfl
  | true => exact absurd ((eqShp_iff h1 h2).mp c) d
theorem Plain.bare (h : Plain kr wr ps ts ls) : Plain kr wr ps [] [] := h.sub List.nodup_nil (fun _ z => nomatch z) (Nat.zero_le _)
theorem Plain.half (h : Plain kr wr ps ts ls) : Plain kr wr ps ts [] := h.sub (by rw [List.append_nil]; exact h.t1) (fun t ht => by rw [List.append_nil] at ht; exact List.mem_append.mpr (.inl ht)) (by rw [List.append_nil, List.length_append]; omega)
theorem eqShp_bare (h : Plain kr wr ps ts ls) : eqShp (shp ks ws ps [] []) (shp ks ws ps ts ls) = decide (ts ++ ls = []) := by
  rw [Bool.eq_iff_iff, eqShp_iff h.bare h, decide_eq_true_iff]
  constructor
  · rintro ⟨_, h1, h2⟩
    refine List.eq_nil_iff_forall_not_mem.mpr fun t ht => ?_
    rcases List.mem_append.mp ht with ht | ht
    · exact nomatch (h1 t).mpr ht
    · exact nomatch (h2 t).mpr ht
  · intro e
    obtain ⟨rfl, rfl⟩ := List.append_eq_nil_iff.mp e
    exact ⟨fun _ => rfl, fun _ => Iff.rfl, fun _ => Iff.rfl⟩
theorem shape_ok {ps' : Posts} {ts' ls' : List Tie} (h : Plain kr wr ps ts ls) (hk : ∀ z ∈ kr, z ∈ ks) (hw : ∀ z ∈ wr, z ∈ ws) (pp : ps'.Perm ps) (ht : ∀ t ∈ ts', t ∈ ts) (hl : ∀ t ∈ ls', t ∈ ls) : shapeOk ks ws ps' ts' ls' = true := by
  have sm : ∀ n ∈ namesP ps, (look ps' n).isSome = true := fun n hn => by
    rw [look_some]
    exact decide_eq_true ((pp.map _).mem_iff.mpr hn)
  have tk : ∀ t ∈ ts ++ ls, tieOk ws ps' t = true := fun t ht => by
    obtain ⟨a, b, c⟩ := h.tok t ht
    unfold tieOk
    rw [decide_eq_true (hw _ a), sm _ b, sm _ c]
    rfl
  have p1 : postsOk ks ps' = true := by
    have few := h.few
    unfold postsOk
    rw [decide_eq_false (by rw [pp.length_eq]; omega), List.all_eq_true.mpr fun p hp => h.nm p (pp.mem_iff.mp hp), List.all_eq_true.mpr fun p hp => ?_]
    · rfl
    · have := h.kd p (pp.mem_iff.mp hp)
      cases c : p.2 with
      | none => rfl
      | some z =>
        rw [c] at this
        exact decide_eq_true (hk z (of_decide_eq_true this))
  have p2 : ts'.all (tieOk ws ps') = true := List.all_eq_true.mpr fun t h1 => tk t (List.mem_append.mpr (.inl (ht t h1)))
  have p3 : ls'.all (tieOk ws ps') = true := List.all_eq_true.mpr fun t h1 => tk t (List.mem_append.mpr (.inr (hl t h1)))
  have p4 : (ls'.any fun t => decide (t ∈ ts')) = false := List.any_eq_false.mpr fun t h1 => by
    have := (List.nodup_append.mp h.tnd).2.2
    simp only [decide_eq_true_eq]
    exact fun z => this t (ht t z) t (hl t h1) rfl
  unfold shapeOk
  rw [p1, p2, p3, p4]
  rfl
theorem Plain.short (h : Plain kr wr ps ts ls) : shortP ps := fun p hp => by
  have b := h.nm p hp
  refine ⟨?_, name_ok b⟩
  have b1 := of_decide_eq_true (Bool.and_eq_true_iff.mp (Bool.and_eq_true_iff.mp b).1).2
  omega
end
/-- the posts of the shape at p do not stand at b -/
def ShapeNo (H : Hp) (p b : Addr) : Prop := ∃ C dx fs po, H p = some (.ins C dx fs) ∧ fs.lookup ("own_posts" : Str) = some (.ref po) ∧ po ≠ b
theorem ShapeNo.ex {H H' : Hp} {p b : Addr} (h : ShapeNo H p b) (e : Ex H H') : ShapeNo H' p b := by
  obtain ⟨C, dx, fs, po, h1, h2⟩ := h
  exact ⟨C, dx, fs, po, e _ _ h1, h2⟩
theorem ShapeAt.but {C : Addr} {H H' : Hp} {p sh b : Addr} {kvs : List (Key × V)} {ps : Posts} {ts ls : List Tie} (h : ShapeAt C H p sh ps ts ls) (n : ShapeNo H p b) (hb : H b = some (.dK kvs)) (e : ExBut b H H') : ShapeAt C H' p sh ps ts ls := by
  obtain ⟨dx, fs, po, th, la, h1, h2, h3, h4, h5, h6, h7, h8⟩ := h.at_
  obtain ⟨C', dx', fs', po', k1, k2, k3⟩ := n
  cases h1.symm.trans k1
  cases h3.symm.trans k2
  exact ⟨dx, fs, po, th, la, e _ _ h1 (ne_of h1 hb (by intro z; cases z)), h2, h3, h4, h5, e _ _ h6 k3, e _ _ h7 (ne_of h7 hb (by intro z; cases z)), e _ _ h8 (ne_of h8 hb (by intro z; cases z))⟩
theorem SheetAt.but {C : Addr} {H H' : Hp} {p b : Addr} {kvs : List (Key × V)} {ks ws : List Str} (h : SheetAt C H p ks ws) (hb : H b = some (.dK kvs)) (e : ExBut b H H') : SheetAt C H' p ks ws := by
  obtain ⟨dx, fs, pk, pw, h1, h2, h3, h4, h5⟩ := h.at_
  exact ⟨dx, fs, pk, pw, e _ _ h1 (ne_of h1 hb (by intro z; cases z)), h2, h3, e _ _ h4 (ne_of h4 hb (by intro z; cases z)), e _ _ h5 (ne_of h5 hb (by intro z; cases z))⟩
/-- Shape(sheet, posts, there, lacking) of right things -/
theorem mk_shape {K : PySem.W.Frag} {AA : Ads} {H1 : Hp} {sh d l1 l2 : Addr} {ks ws : List Str} {ps : Posts} {xs ys : List V} {ts ls : List Tie} {Qx : Addr → Hp → Prop} {E : XK} (hs : SheetAt AA.C_Sheet H1 sh ks ws) (hd : H1 d = some (.dK (kvP ps))) (sp : shortP ps) (nd : (namesP ps).Nodup)
    (h1 : SqT K H1 l1 xs) (p1 : Paired (TieV H1) xs ts) (z1 : ts.length ≤ 1000) (h2 : SqT K H1 l2 ys) (p2 : Paired (TieV H1) ys ls) (z2 : ls.length ≤ 1000) (zp : ps.length ≤ 1000) (ok : shapeOk ks ws ps ts ls = true)
    (q : ∀ x H2, Ex H1 H2 → ShapeAt AA.C_Shape H2 x sh (sortP ps) (once (srt ts)) (once (srt ls)) → (∀ b o, H1 b = some o → ShapeNo H2 x b) → Qx x H2) :
    ∀ x dx, H1 x = none → H1 dx = none → dx ≠ x → spShape K AA [.ref x, .ref sh, .ref d, .ref l1, .ref l2] (upd (upd H1 dx (.own x)) x (.ins AA.C_Shape dx [])) (fun v H2 => v = .non ∧ Qx x H2) E := by
  intro x dx nx nd' ne
  have e := made_ex (C := AA.C_Shape) nx nd'
  refine ⟨x, dx, sh, d, l1, l2, ks, ws, ps, xs, ys, ts, ls, rfl, upd_same, hs.ex e, e _ _ hd, sp, zp, nd, ex_t e h1, ties_ex p1 e, z1, ex_t e h2, ties_ex p2 e, z2, fun _ H2 eb hsh hn => ⟨rfl, ?_⟩, fun hb => ?_⟩
  · refine q x H2 (made_but nx nd' eb) hsh fun b o hb => ?_
    obtain ⟨C, dx', fs, po, k1, k2, k3⟩ := hn
    refine ⟨C, dx', fs, po, k1, k2, fun z => ?_⟩
    rw [z, e _ _ hb] at k3
    cases k3
  · rw [ok] at hb
    cases hb
end K6
namespace K6
open PySem L2 Kd Evl Ks Kt Ky
open PySem.W (Datum DatumOrd T3)
theorem kvOwnEq {X : Cx} {K : PySem.W.Frag} {C f : Addr} {fd : FuncData} {ps : List Str} {sp : Sp} {n : Nat} (hK : X.K = K) (F : FnOk X.prog X.w K X.mg X.base CX0 n f fd ps sp) (O : OwnCmp K C f) (hb : Binds K fd ps []) (hr : Room n X.A) : OpR X (compareOp .Eq) (rOwnC K C sp id) := by
  subst hK
  exact op_ownEq F O hb hr
theorem kvOwnNe {X : Cx} {K : PySem.W.Frag} {C f : Addr} {fd : FuncData} {ps : List Str} {sp : Sp} {n : Nat} (hK : X.K = K) (F : FnOk X.prog X.w K X.mg X.base CX0 n f fd ps sp) (O : OwnCmp K C f) (hb : Binds K fd ps []) (hr : Room (n + 1) X.A) : OpR X (compareOp .NotEq) (rOwnC K C sp not) := by
  subst hK
  exact op_ownNe F O hb hr
theorem own_ok {K : PySem.W.Frag} {mg : Str → Option Value} {AA : Ads} (T : Txt K mg AA) {H : Hp} {p : Addr} {y : V} {x : Shp} {r : Option Shp} {g : Bool → Bool} {Q : VK} (hx : ShpAt AA H p x) (ho : OtherP K AA H y r) (q : Q (.bl (g (eqO x r))) H) : rOwnC K AA.C_Shape (spEqP K AA) g (.ref p) y H Q := by
  obtain ⟨t, t1, _, t3⟩ := other_ty T ho
  obtain ⟨sh, h1, h2⟩ := hx
  obtain ⟨dx, fs, po, th, la, k1, _⟩ := h1.at_
  exact ⟨p, dx, fs, t, rfl, k1, t1, t3, p, y, x, r, rfl, ⟨sh, h1, h2⟩, ho, _, rfl, q⟩
/-- posts as pairs in a list -/
def PairV (H : Hp) (v : V) (p : Str × Option Str) : Prop := ∃ b, v = .ref b ∧ H b = some (.tup [.str p.1, ov p.2])
theorem pairV_of {H : Hp} : ∀ {bs : List Addr} {ps : Posts}, Paired (fun (b : Addr) (kv : Key × V) => H b = some (.tup [kV kv.1, kv.2])) bs (kvP ps) → Paired (PairV H) (bs.map V.ref) ps
  | _, [], h => by cases h; exact .nil
  | _, p :: ps, h => by cases h with | cons h1 h2 => exact .cons ⟨_, rfl, h1⟩ (pairV_of h2)
theorem pairV_to {H : Hp} : ∀ {vs : List V} {ps : Posts}, Paired (PairV H) vs ps → ∃ bs : List Addr, vs = bs.map V.ref ∧ Paired (fun (b : Addr) (kv : Key × V) => H b = some (.tup [kV kv.1, kv.2])) bs (kvP ps)
  | _, _, .nil => ⟨[], rfl, .nil⟩
  | _, _, .cons ⟨b, e, h⟩ t => by
    obtain ⟨bs, e2, h2⟩ := pairV_to t
    exact ⟨b :: bs, by rw [e, e2]; rfl, .cons h h2⟩
theorem pairV_ex {H H' : Hp} (e : Ex H H') {vs : List V} {ps : Posts} (h : Paired (PairV H) vs ps) : Paired (PairV H') vs ps := paired_imp (fun _ _ ⟨b, e1, h1⟩ => ⟨b, e1, e _ _ h1⟩) h
/-- what stands throughout -/
structure Bd (AA : Ads) (ks ws kr wr : List Str) (ps : Posts) (ts ls tx : List Tie) (a lk lw sh tp d l1 l2 tt p p2 : Addr) (H : Hp) : Prop where
  da : H a = some (diceO a)
  gk : H lk = some (.lst (kr.map V.str))
  gw : H lw = some (.lst (wr.map V.str))
  hs : SheetAt AA.C_Sheet H sh ks ws
  gtp : H tp = some (.tup [.ref d, .ref l1, .ref l2])
  pa : PlainAt H d l1 l2 ps ts ls
  td : ∃ us, H tt = some (.tup us) ∧ Paired (TieV H) us tx
  s1 : ShapeAt AA.C_Shape H p sh (sortP ps) (srt ts) (srt ls)
  s2 : ShapeAt AA.C_Shape H p2 sh (sortP ps) (srt ts) (srt ls)
section
variable {AA : Ads} {ks ws kr wr : List Str} {ps : Posts} {ts ls tx : List Tie} {a lk lw sh tp d l1 l2 tt p p2 : Addr} {H H' : Hp}
theorem Bd.ex (h : Bd AA ks ws kr wr ps ts ls tx a lk lw sh tp d l1 l2 tt p p2 H) (e : Ex H H') : Bd AA ks ws kr wr ps ts ls tx a lk lw sh tp d l1 l2 tt p p2 H' := by
  obtain ⟨us, u1, u2⟩ := h.td
  exact ⟨e _ _ h.da, e _ _ h.gk, e _ _ h.gw, h.hs.ex e, e _ _ h.gtp, h.pa.ex e, ⟨us, e _ _ u1, ties_ex u2 e⟩, h.s1.ex e, h.s2.ex e⟩
theorem Bd.but {b : Addr} {kvs : List (Key × V)} (h : Bd AA ks ws kr wr ps ts ls tx a lk lw sh tp d l1 l2 tt p p2 H) (hb : H b = some (.dK kvs)) (nd : d ≠ b) (n1 : ShapeNo H p b) (n2 : ShapeNo H p2 b) (e : ExBut b H H') : Bd AA ks ws kr wr ps ts ls tx a lk lw sh tp d l1 l2 tt p p2 H' := by
  obtain ⟨us, u1, u2⟩ := h.td
  have nt : ∀ xs, H b ≠ some (.tup xs) := fun xs z => by rw [hb] at z; cases z
  obtain ⟨q1, ⟨xs, q2, q3⟩, ys, q4, q5⟩ := h.pa
  refine ⟨e _ _ h.da (ne_of h.da hb (by intro z; unfold diceO at z; cases z)), e _ _ h.gk (ne_of h.gk hb (by intro z; cases z)), e _ _ h.gw (ne_of h.gw hb (by intro z; cases z)), h.hs.but hb e, e _ _ h.gtp (ne_of h.gtp hb (by intro z; cases z)), h.pa.but nt e nd (ne_of q2 hb (by intro z; cases z)) (ne_of q4 hb (by intro z; cases z)), ⟨us, e _ _ u1 (ne_of u1 hb (by intro z; cases z)), paired_imp (fun _ _ z => z.but2 nt e) u2⟩, h.s1.but n1 hb e, h.s2.but n2 hb e⟩
end
def spRight : Sp := fun vs H Q _ => ∃ (a : Addr), vs = [.ref a] ∧ H a = some (diceO a) ∧ ∀ H', Ex H H' → Q (.bl true) H'
theorem cut_sub {α : Type} {ts : List α} {n m : Nat} {t : α} (h : t ∈ (ts.drop n).take m) : t ∈ ts := List.mem_of_mem_drop (List.mem_of_mem_take h)
theorem fresh3 {wr : List Str} (h : wr.length ≤ 2) : ∃ f r, (["by", "to", "on"] : List Str).filter (fun z => !decide (z ∈ wr)) = f :: r := by
  cases c : (["by", "to", "on"] : List Str).filter (fun z => !decide (z ∈ wr)) with
  | cons f r => exact ⟨f, r, rfl⟩
  | nil =>
    rw [List.filter_eq_nil_iff] at c
    have := nodup_leA (xs := (["by", "to", "on"] : List Str)) (zs := wr) (by decide +kernel) fun z hz => by simpa using c z hz
    simp only [List.length_cons, List.length_nil] at this
    omega
theorem nmBy : ∀ z ∈ (["by", "to", "on"] : List Str), isName z = true := by decide +kernel
section
variable {P : Program} {w : World} {K : PySem.W.Frag} {mg : Str → Option Value} {base : Heap} {AA : Ads}
theorem right_tail (T : Txt K mg AA) {cdv : Value} {A : Around} {outer : List Env} {s : Shared} {H0 : Hp} {E : XK} (hr : Room 5 (A.deeper (PyProof.Rows.envOfC "_law_right" (defScope s_law_right) s.heap.objs.size AA.a_law_right cdv))) :
    ∃ t, PSs (cxOf CX0 P w K mg base N_law_right "_law_right" (defScope s_law_right) AA.a_law_right cdv A outer s H0 E).nox ((defBody s_law_right).drop 14) t ∧ ∀ (Q : VK) (J0 : Hp) (ks ws kr wr : List Str) (ps : Posts) (ts ls tx : List Tie) (a lk lw sh tp d l1 l2 tt p p2' dp tu gv : Addr), Bd AA ks ws kr wr ps ts ls tx a lk lw sh tp d l1 l2 tt p p2' J0 → Plain kr wr ps ts ls → Nm kr 3 → Nm wr 2 → IsSort kr ks → IsSort wr ws → (∀ t, t ∈ tx ↔ t ∈ ts) → tx.length ≤ 1000 → (∀ H', Ex J0 H' → Q (.bl true) H') →
      t { nx := fun _ H' => Q .non H', rt := Q } [some (.ref a), some (.ref lk), some (.ref lw), some (.ref dp), some (.ref tt), some (.ref tu), some (.ref gv), none, none, some (.ref sh), some (.ref tp), some (.ref d), some (.ref l1), some (.ref l2), some (.ref p), some (.ref p2'), none, none, none, none, none] J0 := by
  have G_law_roll : FnOk P w K mg base CX0 1 AA.a_law_roll AA.d_law_roll ["_law_dice_here", "_law_upto"] spRoll := ok_law_roll T
  have G_law_labels : FnOk P w K mg base CX0 2 AA.a_law_labels AA.d_law_labels ["_law_dice_here", "_law_many"] spLabels := ok_law_labels T
  have G_law_mixed : FnOk P w K mg base CX0 2 AA.a_law_mixed AA.d_law_mixed ["_law_dice_here", "_law_items"] (spMixed K) := ok_law_mixed T
  have G_law_drawn : FnOk P w K mg base CX0 3 AA.a_law_drawn AA.d_law_drawn ["_law_dice_here", "_law_kinds", "_law_words"] spDrawn := ok_law_drawn T
  have G_law_is : FnOk P w K mg base CX0 4 AA.a_law_is AA.d_law_is ["_law_shape", "_law_sheet", "_law_posts", "_law_some", "_law_others"] (spIs AA) := ok_law_is T
  have G_law_unlike : FnOk P w K mg base CX0 3 AA.a_law_unlike AA.d_law_unlike ["_law_dice_here", "_law_kinds", "_law_words", "_law_plain"] spUnlike := ok_law_unlike T
  have G_Sheet_init : FnOk P w K mg base (L2.CX P w) 3 AA.a_Sheet_init AA.d_Sheet_init ["self", "kinds", "words"] (spInit K AA) := ok_Sheet_init T
  have G_Shape_init : FnOk P w K mg base (L2.CX P w) 4 AA.a_Shape_init AA.d_Shape_init ["self", "sheet", "posts", "there", "lacking"] (spShape K AA) := ok_Shape_init T
  have G_Shape_posts : FnOk P w K mg base CX0 1 AA.a_Shape_posts AA.d_Shape_posts ["self"] (spPostsOf AA) := ok_Shape_posts T
  have G_Shape_eq : FnOk P w K mg base CX0 3 AA.a_Shape_eq AA.d_Shape_eq ["self", "other"] (spEqP K AA) := ok_Shape_eq T
  have hu : _ + 64 < cLine := hu64 hr
  have hu1 : _ + 1 < cLine := hu_of hr
  refine ⟨_, (pss_cons (ps_for PassesOwn.never rfl (pi_list (pe_call G_law_unlike (hr.mono (by decide)) (by rfl) T.g_law_unlike T.k_law_unlike T.b_law_unlike .nil pass0 (pa_cons (pv 0) (pa_cons (pv 1) (pa_cons (pv 2) (pa_cons (pv 10) pa_nil)))))) (pg_name (i := 7) sc_law_right.nd rfl (Or.inl rfl))
      (pss_cons (ps_set (i := 16) sc_law_right.nd rfl (Or.inl rfl) (pe_make T.M_Shape G_Shape_init (hr.mono (by decide)) (by rfl) T.g_Shape T.b_Shape_init .nil (passes_call takes0 (fun _ _ _ _ h => h)) (pa_cons (pv 9) (pa_cons (pe_ix ix_tup (pv 7) pe_int (fun _ _ => rfl)) (pa_cons (pe_callTy call_tuple_of (by rfl) T.n_tuple (by decide +kernel) (pa_cons (pe_ix ix_tup (pv 7) pe_int (fun _ _ => rfl)) pa_nil)) (pa_cons (pe_callTy call_tuple_of (by rfl) T.n_tuple (by decide +kernel) (pa_cons (pe_ix ix_tup (pv 7) pe_int (fun _ _ => rfl)) pa_nil)) pa_nil))))))
    (pss_one (ps_if (pw_or (pt_cmpR (op_ownEq G_Shape_eq (T.I_Shape.own T.m_Shape_eq) T.b_Shape_eq (hr.mono (by decide))) (pv 14) (pv 16) (nomark _)) (pw_or (pt_not (pt_cmpR (op_ownNe G_Shape_eq (T.I_Shape.own T.m_Shape_eq) T.b_Shape_eq (hr.mono (by decide))) (pv 14) (pv 16) (nomark _))) (pw_or1 (pt_not (pt_val (pe_call G_law_is (hr.mono (by decide)) (by rfl) T.g_law_is T.k_law_is T.b_law_is .nil pass0 (pa_cons (pv 16) (pa_cons (pv 9) (pa_cons (pe_ix ix_tup (pv 7) pe_int (fun _ _ => rfl)) (pa_cons (pe_ix ix_tup (pv 7) pe_int (fun _ _ => rfl)) (pa_cons (pe_ix ix_tup (pv 7) pe_int (fun _ _ => rfl)) pa_nil))))))))))).pt (pss_one (ps_ret pe_bl)) pss_nil))))
    (pss_cons (ps_par (i := 17) (j := 18) rfl sc_law_right.nd rfl rfl (by decide) rfl rfl (by exact (pa_cons (pe_make T.M_Shape G_Shape_init (hr.mono (by decide)) (by rfl) T.g_Shape T.b_Shape_init_2 (.cons (a := V.ref AA.e_Shape_init_0) rfl (.cons (a := V.ref AA.e_Shape_init_1) rfl .nil)) (passes_call takes0 (fun _ _ _ _ h => h)) (pa_cons (pv 9) (pa_cons (pv 11) pa_nil))) (pa_cons (pe_ix ix_list (pe_lc (own := [("_law_word", 20)]) (g := gName 20) rfl sc_law_right.nd  (pi_list (pe_lst (pa_cons pe_str (pa_cons pe_str (pa_cons pe_str pa_nil))))) (blkOk_by (N := N_law_right) (sc := defScope s_law_right) (by decide +kernel)) (fun _ _ _ _ _ => (pg_name (i := 20) sc_law_right.nd rfl (Or.inl rfl))) (fun _ _ _ _ _ => (by exact pts_one (pt_cmpR (op_notInP (K := K) rfl hu) (pv 20) (pv 2) rfl))) (fun _ _ _ _ _ => by exact (pv 20))) pe_int (fun _ _ => rfl)) pa_nil))) rfl)
    (pss_cons (ps_set (i := 8) sc_law_right.nd rfl (Or.inl rfl) (pe_make T.M_Shape G_Shape_init (hr.mono (by decide)) (by rfl) T.g_Shape T.b_Shape_init_1 (.cons (a := V.ref AA.e_Shape_init_1) rfl .nil) (passes_call takes0 (fun _ _ _ _ h => h)) (pa_cons (pv 9) (pa_cons (pv 11) (pa_cons (pv 4) pa_nil)))))
    (pss_cons (ps_if (pw_or (pt_not (pt_val (pe_call G_law_is (hr.mono (by decide)) (by rfl) T.g_law_is T.k_law_is T.b_law_is .nil pass0 (pa_cons (pv 17) (pa_cons (pv 9) (pa_cons (pv 11) (pa_cons (pe_lst pa_nil) (pa_cons (pe_lst pa_nil) pa_nil)))))))) (pw_or1 (pt_not (pt_val (pe_call G_law_is (hr.mono (by decide)) (by rfl) T.g_law_is T.k_law_is T.b_law_is .nil pass0 (pa_cons (pv 8) (pa_cons (pv 9) (pa_cons (pv 11) (pa_cons (pv 12) (pa_cons (pe_lst pa_nil) pa_nil)))))))))).pt (pss_one (ps_ret pe_bl)) pss_nil)
    (pss_cons (ps_if (pw_or (pt_cmpR (op_ownEq G_Shape_eq (T.I_Shape.own T.m_Shape_eq) T.b_Shape_eq (hr.mono (by decide))) (pv 17) (pe_make T.M_Shape G_Shape_init (hr.mono (by decide)) (by rfl) T.g_Shape T.b_Shape_init_2 (.cons (a := V.ref AA.e_Shape_init_0) rfl (.cons (a := V.ref AA.e_Shape_init_1) rfl .nil)) (passes_call takes0 (fun _ _ _ _ h => h)) (pa_cons (pe_make T.M_Sheet G_Sheet_init (hr.mono (by decide)) (by rfl) T.g_Sheet T.b_Sheet_init .nil (passes_call takes0 (fun _ _ _ _ h => h)) (pa_cons (pe_callTy call_tuple_of (by rfl) T.n_tuple (by decide +kernel) (pa_cons (pv 1) pa_nil)) (pa_cons (pe_tup (pa_cons (pv 18) pa_nil)) pa_nil))) (pa_cons (pv 11) pa_nil))) (nomark _)) (pw_or1 (pt_cmpR op_ne (pe_cmpR (op_ownEq G_Shape_eq (T.I_Shape.own T.m_Shape_eq) T.b_Shape_eq (hr.mono (by decide))) (pv 17) (pv 14) (nomark _)) (pe_cmpR (op_eqP (K := K) rfl hu) (pe_op op_cat (pv 12) (pv 13)) (pe_lst pa_nil) (nomark _)) (nomark _)))).pt (pss_one (ps_ret pe_bl)) pss_nil)
    (pss_one (ps_ret (pe_cmpR (op_eqP (K := K) rfl hu) (pe_lc (own := [("_law_value", 19)]) (g := gName 19) rfl sc_law_right.nd  (pi_tup (pe_tup (pa_cons pe_non (pa_cons pe_int (pa_cons pe_str (pa_cons (pe_tup pa_nil) (pa_cons (pv 11) (pa_cons (pv 9) pa_nil)))))))) (blkOk_by (N := N_law_right) (sc := defScope s_law_right) (by decide +kernel)) (fun _ _ _ _ _ => (pg_name (i := 19) sc_law_right.nd rfl (Or.inl rfl))) (fun _ _ _ _ _ => (by exact pts_one (pw_or (pt_cmpR (kvOwnEq (K := K) rfl G_Shape_eq (T.I_Shape.own T.m_Shape_eq) T.b_Shape_eq (hr.mono (by decide))) (pv 14) (pv 19) (nomark _)) (pw_or1 (pt_not (pt_cmpR (kvOwnNe (K := K) rfl G_Shape_eq (T.I_Shape.own T.m_Shape_eq) T.b_Shape_eq (hr.mono (by decide))) (pv 14) (pv 19) (nomark _))))).pt)) (fun _ _ _ _ _ => by exact (pv 19))) (pe_lst pa_nil) (nomark _))))))))), ?_⟩
  · intro Q H24 ks ws kr wr ps ts ls tx a lk lw sh tp d l1 l2 tt p p2' dp tu gv B4 pl nK nW sk sw txm txl q
    have hks : ∀ z ∈ kr, z ∈ ks := fun z hz => sk.1.mem_iff.mpr hz
    have hws : ∀ z ∈ wr, z ∈ ws := fun z hz => sw.1.mem_iff.mpr hz
    have okk : OkS ks := fun z hz => name_ok (nK.nm z (sk.1.mem_iff.mp hz))
    have okw : OkS ws := fun z hz => name_ok (nW.nm z (sw.1.mem_iff.mp hz))
    have isS : ∀ {J : Hp} {p0 : Addr} {ps0 : Posts} {ts0 ls0 : List Tie}, ShapeAt AA.C_Shape J p0 sh (sortP ps0) (srt ts0) (srt ls0) → SheetAt AA.C_Sheet J sh ks ws → ShpAt AA J p0 (shp ks ws ps0 ts0 ls0) := fun h1 h2 => ⟨sh, h1, h2, okk, okw⟩
    have psl := pl.few
    have tl := pl.tl
    rw [List.length_append] at tl
    have lkr := nK.hi
    have lwr := nW.hi
    -- the unlike ones
    refine ⟨_, rfl, _, rfl, _, rfl, _, rfl, a, lk, lw, tp, d, l1, l2, kr, wr, ps, ts, ls, rfl, B4.da, B4.gk, by omega, B4.gtp, B4.pa, pl, fun H25 lf vs e25 glf lvs uok => ?_⟩
    have B5 := B4.ex e25
    refine ⟨lf, rfl, ⟨_, SqL.of glf⟩, for_list (K := K) (a := lf) (xs := vs) (fun n σ J => ∃ v7 v16 : Option V, σ = [some (.ref a), some (.ref lk), some (.ref lw), some (.ref dp), some (.ref tt), some (.ref tu), some (.ref gv), v7, none, some (.ref sh), some (.ref tp), some (.ref d), some (.ref l1), some (.ref l2), some (.ref p), some (.ref p2'), v16, none, none, none, none] ∧ Ex H25 J)
      ⟨none, none, rfl, Ex.refl _⟩ (fun n σ J _ ⟨_, _, _, e⟩ => SqL.of (e _ _ glf)) ?_ ?_⟩
    · rintro n x σ J hx ⟨v7, v16, rfl, eJ⟩
      obtain ⟨t, d', m1, m2, qs, us', ms, rfl, gt, pa', pl', df, _, _, _⟩ := (uok x (List.mem_of_getElem? hx)).ex eJ
      have BJ := B5.ex eJ
      obtain ⟨gd', ⟨xs', g1', p1'⟩, ys', g2', p2''⟩ := pa'
      have tl' := pl'.tl
      rw [List.length_append] at tl'
      have psl' := pl'.few
      refine ⟨_, rfl, _, rfl, t, _, 0, _, rfl, rfl, SqT.of gt, rfl, _, rfl, t, _, 1, _, rfl, rfl, SqT.of gt, rfl, m1, _, rfl, .inl ⟨SqL.of g1', fun t3 nt3 => ?_⟩⟩
      have y3 : Ex J (upd J t3 (.tup xs')) := Ex.new nt3
      have gt3 : upd J t3 (.tup xs') t3 = some (.tup xs') := upd_same
      generalize upd J t3 (.tup xs') = J1 at y3 gt3 ⊢
      refine ⟨_, rfl, t, _, 2, _, rfl, rfl, SqT.of (y3 _ _ gt), rfl, m2, _, rfl, .inl ⟨SqL.of (y3 _ _ g2'), fun t4 nt4 => ?_⟩⟩
      have y4 : Ex J1 (upd J1 t4 (.tup ys')) := Ex.new nt4
      have gt4 : upd J1 t4 (.tup ys') t4 = some (.tup ys') := upd_same
      generalize upd J1 t4 (.tup ys') = J2 at y4 gt4 ⊢
      have z2 : Ex J J2 := y3.trans y4
      refine mk_shape (BJ.hs.ex z2) (z2 _ _ gd') pl'.short pl'.nd (SqT.of (y4 _ _ gt3)) (ties_ex p1' z2) (by omega) (SqT.of gt4) (ties_ex p2'' z2) (by omega) (by omega) (shape_ok pl' hks hws (List.Perm.refl _) (fun _ h => h) (fun _ h => h)) fun pu J3 z3 hs3 _ => ?_
      rw [once_self pl'.t1, once_self pl'.t2] at hs3
      have z23 : Ex J J3 := z2.trans z3
      have B6 := BJ.ex z23
      have ne0 : eqShp (shp ks ws ps ts ls) (shp ks ws qs us' ms) = false := eqShp_not pl pl' df
      refine ⟨_, rfl, _, rfl, own_ok T (isS B6.s1 B6.hs) (.inr (.inr ⟨pu, _, rfl, isS hs3 B6.hs, rfl⟩)) ⟨_, rfl, ?_⟩⟩
      refine if_f (by show id (eqShp (shp ks ws ps ts ls) (shp ks ws qs us' ms)) = false; rw [ne0]; rfl) ?_
      refine ⟨_, rfl, _, rfl, own_ok T (isS B6.s1 B6.hs) (.inr (.inr ⟨pu, _, rfl, isS hs3 B6.hs, rfl⟩)) ⟨_, rfl, ?_⟩⟩
      refine if_f (by show (!!(eqShp (shp ks ws ps ts ls) (shp ks ws qs us' ms))) = false; rw [ne0]; rfl) ?_
      have gt' := z23 _ _ gt
      refine ⟨_, rfl, _, rfl, _, rfl, t, _, 0, _, rfl, rfl, SqT.of gt', rfl, _, rfl, t, _, 1, _, rfl, rfl, SqT.of gt', rfl, _, rfl, t, _, 2, _, rfl, rfl, SqT.of gt', rfl, pu, sh, d', m1, m2, ks, ws, kr, wr, qs, us', ms, rfl, hs3, B6.hs, okk, okw, ⟨z23 _ _ gd', ⟨xs', z23 _ _ g1', ties_ex p1' z23⟩, ys', z23 _ _ g2', ties_ex p2'' z23⟩, pl', fun J4 z4 => ⟨_, rfl, if_f rfl ?_⟩⟩
      exact ⟨_, _, rfl, (eJ.trans z23).trans z4⟩
    rintro σ J ⟨v7, v16, rfl, eJ⟩
    have BJ := B5.ex eJ
    have q0 := T.q_Shape_init_0
    have q1' := T.q_Shape_init_1
    -- bare
    refine ⟨_, rfl, _, rfl, mk_shape (ts := []) (ls := []) BJ.hs BJ.pa.1 pl.short pl.nd (q0 J) .nil (by decide) (q1' J) .nil (by decide) (by omega) (shape_ok pl.bare hks hws (List.Perm.refl _) (fun _ h => h) (fun _ h => h)) fun pb J1 z1 hsb _ => ?_⟩
    rw [once_self List.nodup_nil] at hsb
    refine ⟨(by show 3 ≤ sizeLine; decide), fun lm nlm => ?_⟩
    generalize hJ2 : upd J1 lm _ = J2
    have z2 : Ex J1 J2 := by rw [← hJ2]; exact Ex.new nlm
    have glm : J2 lm = some (.lst ((["by", "to", "on"] : List Str).map V.str)) := by rw [← hJ2]; exact upd_same
    have B7 := BJ.ex (z1.trans z2)
    refine ⟨lm, rfl, ⟨_, SqL.of glm⟩, fun D hD => lcR walk_list hD ((["by", "to", "on"] : List Str).map V.str) ((["by", "to", "on"] : List Str).map fun z => (!decide (z ∈ wr), V.str z)) rfl (by show 3 < sizeLine; decide) (fun J e => SqL.of (e _ _ glm)) (fun _ _ _ _ z => z) (fun _ => rfl) (fun k x b y J hx hr e => ?_) (fun k x y J hx hr e => ?_) (fun J3 z3 hJ3 => ?_)⟩
    · rw [List.getElem?_map] at hr hx
      obtain ⟨z, hz, rfl⟩ := Option.map_eq_some_iff.mp hx
      rw [hz] at hr
      cases hr
      intro J4 e4 Q4 q4
      exact ⟨_, rfl, _, rfl, notInLP (hd_str z) (SqL.of ((e.trans e4) _ _ B7.gw)) (hdL_strs wr) ⟨_, rfl, q4 J4 (Ex.refl _)⟩⟩
    · rw [List.getElem?_map] at hr hx
      obtain ⟨z, hz, rfl⟩ := Option.map_eq_some_iff.mp hx
      rw [hz] at hr
      have ey := (Prod.mk.inj (Option.some.inj hr)).2
      subst ey
      exact ev_var rfl
    rw [strs_filter] at hJ3
    obtain ⟨f, r, hf⟩ := fresh3 (wr := wr) (by omega)
    rw [hf] at hJ3
    have hfm : f ∈ (["by", "to", "on"] : List Str) ∧ f ∉ wr := by
      have : f ∈ (["by", "to", "on"] : List Str).filter fun z => !decide (z ∈ wr) := by
        rw [hf]
        exact List.mem_cons_self
      obtain ⟨m1, m2⟩ := List.mem_filter.mp this
      exact ⟨m1, by simpa using m2⟩
    refine ⟨D, _, 0, _, rfl, rfl, SqL.of hJ3, at_of (j := 0) (v := V.str f) rfl rfl, _, _, rfl, ?_⟩
    have B8 := B7.ex z3
    -- half
    obtain ⟨us8, gt8, pt8⟩ := B8.td
    refine ⟨_, rfl, _, rfl, _, rfl, mk_shape (ls := []) B8.hs B8.pa.1 pl.short pl.nd (SqT.of gt8) pt8 txl (q1' J3) .nil (by decide) (by omega) (shape_ok pl.half hks hws (List.Perm.refl _) (fun t => (txm t).mp) (fun _ h => h)) fun ph J4 z4 hsv _ => ?_⟩
    rw [once_srt pl.t1 txm, once_self List.nodup_nil] at hsv
    have B9 := B8.ex z4
    have hsb9 := hsb.ex ((z2.trans z3).trans z4)
    refine ⟨_, rfl, _, rfl, _, rfl, (by show 0 ≤ sizeLine; decide), fun m1 nm1 => ⟨(by show 0 ≤ sizeLine; decide), fun m2 nm2 => ?_⟩⟩
    have y5 : Ex J4 (upd (upd J4 m1 (.lst [])) m2 (.lst [])) := (Ex.new nm1).trans (Ex.new nm2)
    have gm1 : upd (upd J4 m1 (.lst [])) m2 (.lst []) m1 = some (.lst []) := Ex.new nm2 _ _ upd_same
    have gm2 : upd (upd J4 m1 (.lst [])) m2 (.lst []) m2 = some (.lst []) := upd_same
    generalize upd (upd J4 m1 (.lst [])) m2 (.lst []) = J5 at y5 gm1 gm2 ⊢
    have B10 := B9.ex y5
    refine ⟨pb, sh, d, m1, m2, ks, ws, kr, wr, ps, [], [], rfl, hsb9.ex y5, B10.hs, okk, okw, ⟨B10.pa.1, ⟨_, gm1, .nil⟩, _, gm2, .nil⟩, pl.bare, fun J6 z6 => ⟨_, rfl, if_f rfl ?_⟩⟩
    have B11 := B10.ex z6
    refine ⟨_, rfl, _, rfl, _, rfl, _, rfl, (by show 0 ≤ sizeLine; decide), fun m3 nm3 => ?_⟩
    have y7 : Ex J6 (upd J6 m3 (.lst [])) := Ex.new nm3
    have gm3 : upd J6 m3 (.lst []) m3 = some (.lst []) := upd_same
    generalize upd J6 m3 (.lst []) = J7 at y7 gm3 ⊢
    have B12 := B11.ex y7
    obtain ⟨gd12, ⟨xs12, g112, p112⟩, ys12, g212, p212⟩ := B12.pa
    refine ⟨ph, sh, d, l1, m3, ks, ws, kr, wr, ps, ts, [], rfl, hsv.ex ((y5.trans z6).trans y7), B12.hs, okk, okw, ⟨gd12, ⟨xs12, g112, p112⟩, _, gm3, .nil⟩, pl.half, fun J8 z8 => ⟨_, rfl, if_f rfl ?_⟩⟩
    have B13 := B12.ex z8
    have hsb13 := hsb9.ex (((y5.trans z6).trans y7).trans z8)
    -- another sheet
    refine ⟨_, rfl, _, rfl, lk, _, rfl, .inl ⟨SqL.of B13.gk, fun tk2 ntk2 => ⟨_, rfl, (by show 1 ≤ sizeLine; decide), fun tf ntf => ?_⟩⟩⟩
    have y9 : Ex J8 (upd (upd J8 tk2 (.tup (kr.map V.str))) tf (.tup [.str f])) := (Ex.new ntk2).trans (Ex.new ntf)
    have gk2 : upd (upd J8 tk2 (.tup (kr.map V.str))) tf (.tup [.str f]) tk2 = some (.tup (kr.map V.str)) := Ex.new ntf _ _ upd_same
    have gf2 : upd (upd J8 tk2 (.tup (kr.map V.str))) tf (.tup [.str f]) tf = some (.tup (([f] : List Str).map V.str)) := upd_same
    generalize upd (upd J8 tk2 (.tup (kr.map V.str))) tf (.tup [.str f]) = J9 at y9 gk2 gf2 ⊢
    have nF : Nm [f] 2 := ⟨Nat.le_refl _, Nat.le_succ 1, fun z hz => by rw [List.mem_singleton.mp hz]; exact nmBy f hfm.1, by simp⟩
    refine mk_ok (dv_names (SqT.of gk2)) (dv_names (SqT.of gf2)) nK nF fun sh2 J10 ks2 ws2 z10 sk2 sw2 hsh2 => ?_
    have B14 := B13.ex (y9.trans z10)
    have hks2 : ∀ z ∈ kr, z ∈ ks2 := fun z hz => sk2.1.mem_iff.mpr hz
    have plN : Plain kr ws2 ps [] [] := ⟨pl.nd, pl.nm, pl.kd, pl.few, List.nodup_nil, (fun _ h => absurd h (by simp)), Nat.zero_le _⟩
    refine ⟨_, rfl, mk_shape (ts := []) (ls := []) hsh2 B14.pa.1 pl.short pl.nd (q0 J10) .nil (by decide) (q1' J10) .nil (by decide) (by omega) (shape_ok plN hks2 (fun _ h => h) (List.Perm.refl _) (fun _ h => h) (fun _ h => h)) fun pn J11 z11 hsn _ => ?_⟩
    rw [once_self List.nodup_nil] at hsn
    have B15 := B14.ex z11
    have hsb15 := hsb13.ex ((y9.trans z10).trans z11)
    have okk2 : OkS ks2 := fun z hz => name_ok (nK.nm z (sk2.1.mem_iff.mp hz))
    have okw2 : OkS ws2 := fun z hz => name_ok (nF.nm z (sw2.1.mem_iff.mp hz))
    have wne : ¬ (some (ks2, ws2) = some (ks, ws)) := fun z => by
      obtain ⟨_, rfl⟩ := Prod.mk.inj (Option.some.inj z)
      have : f ∈ ws2 := sw2.1.mem_iff.mpr List.mem_cons_self
      exact hfm.2 (sw.1.mem_iff.mp this)
    refine own_ok T (isS hsb15 B15.hs) (.inr (.inr ⟨pn, shp ks2 ws2 ps [] [], rfl, ⟨sh2, hsn, hsh2.ex z11, okk2, okw2⟩, rfl⟩)) ⟨_, rfl, ?_⟩
    refine if_f (by
      show id (eqShp (shp ks ws ps [] []) (shp ks2 ws2 ps [] [])) = false
      unfold eqShp shp
      dsimp only
      rw [decide_eq_false wne]
      rfl) ?_
    refine ⟨_, rfl, _, rfl, own_ok T (isS hsb15 B15.hs) (.inr (.inr ⟨p, _, rfl, isS B15.s1 B15.hs, rfl⟩)) ?_⟩
    obtain ⟨gd15, ⟨xs15, g115, p115⟩, ys15, g215, p215⟩ := B15.pa
    have lx := paired_len p115
    have ly := paired_len p215
    refine ⟨_, rfl, _, rfl, l1, l2, xs15, ys15, rfl, rfl, g115, g215, len_line (by omega), fun c5 nc5 => ⟨(by show 0 ≤ sizeLine; decide), fun m5 nm5 => ?_⟩⟩
    have y12 : Ex J11 (upd (upd J11 c5 (.lst (xs15 ++ ys15))) m5 (.lst [])) := (Ex.new nc5).trans (Ex.new nm5)
    have gc5 : upd (upd J11 c5 (.lst (xs15 ++ ys15))) m5 (.lst []) c5 = some (.lst (xs15 ++ ys15)) := Ex.new nm5 _ _ upd_same
    have gm5 : upd (upd J11 c5 (.lst (xs15 ++ ys15))) m5 (.lst []) m5 = some (.lst []) := upd_same
    generalize upd (upd J11 c5 (.lst (xs15 ++ ys15))) m5 (.lst []) = J12 at y12 gc5 gm5 ⊢
    have B16 := B15.ex y12
    refine eqP (α := List Tie) (a := ts ++ ls) (b := []) (hd_list (SqL.of gc5) (ties_hd (paired_app (ties_ex p115 y12) (ties_ex p215 y12)))) (hd_list (SqL.of gm5) HdL.nil) ⟨rfl, _, rfl, ?_⟩
    refine if_f (by
      show (!decide (V.bl (eqShp (shp ks ws ps [] []) (shp ks ws ps ts ls)) = V.bl (decide (ts ++ ls = [])))) = false
      rw [eqShp_bare pl, decide_eq_true rfl]
      rfl) ?_
    -- other values
    refine ⟨(by show 0 ≤ sizeLine; decide), fun t0 nt0 => ⟨_, rfl, _, rfl, (by show 6 ≤ sizeLine; decide), fun t6 nt6 => ?_⟩⟩
    have y13 : Ex J12 (upd J12 t0 (.tup [])) := Ex.new nt0
    have gt0 : upd J12 t0 (.tup []) t0 = some (.tup []) := upd_same
    generalize upd J12 t0 (.tup []) = J13 at y13 gt0 nt6 ⊢
    generalize hJ14 : upd J13 t6 _ = J14
    have y14 : Ex J13 J14 := by rw [← hJ14]; exact Ex.new nt6
    have gt6 : J14 t6 = some (.tup [.non, .int 0, .str "shape", .ref t0, .ref d, .ref sh]) := by rw [← hJ14]; exact upd_same
    have B17 := B16.ex (y13.trans y14)
    have oth : ∀ {J : Hp}, Ex J14 J → ∀ x ∈ [V.non, .int 0, .str "shape", .ref t0, .ref d, .ref sh], OtherP K AA J x none := fun {J} e x hx => by
      have BJ := B17.ex e
      simp only [List.mem_cons, List.not_mem_nil, or_false] at hx
      rcases hx with rfl | rfl | rfl | rfl | rfl | rfl
      · exact .inl ⟨.none, .inl .non, rfl⟩
      · exact .inl ⟨.int 0, .inl (.int _), rfl⟩
      · exact .inl ⟨.str "shape", .inl (.str _), rfl⟩
      · exact .inl ⟨.tuple [], .inl (.tup (SqT.of (e _ _ (y14 _ _ gt0))) .nil), rfl⟩
      · exact .inl ⟨.dict [], .inr ⟨d, _, rfl, BJ.pa.1, rfl⟩, rfl⟩
      · obtain ⟨dx, fs, pk, pw, k1, _⟩ := BJ.hs.at_
        exact .inr (.inl ⟨sh, dx, fs, rfl, k1, rfl⟩)
    refine ⟨t6, rfl, ⟨_, SqT.of gt6⟩, fun D hD => lcR (walk_tup (xs := [.non, .int 0, .str "shape", .ref t0, .ref d, .ref sh])) hD [.non, .int 0, .str "shape", .ref t0, .ref d, .ref sh] (List.replicate 6 (false, V.non)) rfl (by show 6 < sizeLine; decide) (fun J e => SqT.of (e _ _ gt6)) (fun _ _ _ _ z => z) (fun _ => rfl) (fun k x b y J hx hr e => ?_) (fun k x y J hx hr e => ?_) (fun J15 z15 hJ15 => ?_)⟩
    · have eb : b = false := by
        have := List.eq_of_mem_replicate (List.mem_of_getElem? hr)
        exact (Prod.mk.inj this).1
      subst eb
      intro J16 e16 Q16 q16
      have BJ := B17.ex (e.trans e16)
      have ho := oth (e.trans e16) x (List.mem_of_getElem? hx)
      refine ⟨_, rfl, _, rfl, own_ok T (isS BJ.s1 BJ.hs) ho ⟨_, rfl, if_f rfl ?_⟩⟩
      exact ⟨_, rfl, _, rfl, own_ok T (isS BJ.s1 BJ.hs) ho ⟨_, rfl, q16 _ (Ex.refl _)⟩⟩
    · have := List.eq_of_mem_replicate (List.mem_of_getElem? hr)
      cases (Prod.mk.inj this).1
    have hJ15' : J15 D = some (.lst []) := hJ15
    refine ⟨(by show 0 ≤ sizeLine; decide), fun m6 nm6 => ?_⟩
    refine eqP (α := List Str) (a := []) (b := []) (hd_list (SqL.of (Ex.new nm6 _ _ hJ15')) HdL.nil) (hd_list (SqL.of upd_same) HdL.nil) ?_
    rw [decide_eq_true rfl]
    refine q _ ?_
    refine ((e25.trans eJ).trans ((z1.trans z2).trans (z3.trans z4))).trans ?_
    exact (((((y5.trans z6).trans y7).trans z8).trans (y9.trans z10)).trans z11).trans ((y12.trans (y13.trans y14)).trans (z15.trans (Ex.new nm6)))
end
end K6
namespace K6
open PySem L2 Kd Evl Ks Kt Ky
open PySem.W (Datum DatumOrd T3)
section
variable {P : Program} {w : World} {K : PySem.W.Frag} {mg : Str → Option Value} {base : Heap} {AA : Ads}
theorem ok_law_right (T : Txt K mg AA) : FnOk P w K mg base CX0 6 AA.a_law_right AA.d_law_right ["_law_dice_here"] spRight := by
  have G_law_roll : FnOk P w K mg base CX0 1 AA.a_law_roll AA.d_law_roll ["_law_dice_here", "_law_upto"] spRoll := ok_law_roll T
  have G_law_labels : FnOk P w K mg base CX0 2 AA.a_law_labels AA.d_law_labels ["_law_dice_here", "_law_many"] spLabels := ok_law_labels T
  have G_law_mixed : FnOk P w K mg base CX0 2 AA.a_law_mixed AA.d_law_mixed ["_law_dice_here", "_law_items"] (spMixed K) := ok_law_mixed T
  have G_law_drawn : FnOk P w K mg base CX0 3 AA.a_law_drawn AA.d_law_drawn ["_law_dice_here", "_law_kinds", "_law_words"] spDrawn := ok_law_drawn T
  have G_law_is : FnOk P w K mg base CX0 4 AA.a_law_is AA.d_law_is ["_law_shape", "_law_sheet", "_law_posts", "_law_some", "_law_others"] (spIs AA) := ok_law_is T
  have G_law_unlike : FnOk P w K mg base CX0 3 AA.a_law_unlike AA.d_law_unlike ["_law_dice_here", "_law_kinds", "_law_words", "_law_plain"] spUnlike := ok_law_unlike T
  have G_Sheet_init : FnOk P w K mg base (L2.CX P w) 3 AA.a_Sheet_init AA.d_Sheet_init ["self", "kinds", "words"] (spInit K AA) := ok_Sheet_init T
  have G_Shape_init : FnOk P w K mg base (L2.CX P w) 4 AA.a_Shape_init AA.d_Shape_init ["self", "sheet", "posts", "there", "lacking"] (spShape K AA) := ok_Shape_init T
  have G_Shape_posts : FnOk P w K mg base CX0 1 AA.a_Shape_posts AA.d_Shape_posts ["self"] (spPostsOf AA) := ok_Shape_posts T
  have G_Shape_eq : FnOk P w K mg base CX0 3 AA.a_Shape_eq AA.d_Shape_eq ["self", "other"] (spEqP K AA) := ok_Shape_eq T
  refine T.F_law_right.ok sc_law_right (fun vs H Q E h => ?_) (fun cdv A outer s H vs Q E hr h => ?_)
  · obtain ⟨a, rfl, _⟩ := h
    rfl
  · obtain ⟨a, rfl, ha, q⟩ := h
    have hu : _ + 64 < cLine := hu64 hr
    have hu1 : _ + 1 < cLine := hu_of hr
    obtain ⟨tR, hR, qR⟩ := right_tail (base := base) (P := P) (w := w) (outer := outer) (s := s) (H0 := H) (E := E) (cdv := cdv) (A := A) T hr
    refine ⟨_, (pss_cons (ps_set (i := 1) sc_law_right.nd rfl (Or.inl rfl) (pe_call G_law_labels (hr.mono (by decide)) (by rfl) T.g_law_labels T.k_law_labels T.b_law_labels .nil pass0 (pa_cons (pv 0) (pa_cons (pe_op op_add pe_int (pe_call G_law_roll (hr.mono (by decide)) (by rfl) T.g_law_roll T.k_law_roll T.b_law_roll .nil pass0 (pa_cons (pv 0) (pa_cons pe_int pa_nil)))) pa_nil))))
    (pss_cons (ps_set (i := 2) sc_law_right.nd rfl (Or.inr rfl) (pe_call G_law_labels (hr.mono (by decide)) (by rfl) T.g_law_labels T.k_law_labels T.b_law_labels .nil pass0 (pa_cons (pv 0) (pa_cons (pe_op op_add pe_int (pe_call G_law_roll (hr.mono (by decide)) (by rfl) T.g_law_roll T.k_law_roll T.b_law_roll .nil pass0 (pa_cons (pv 0) (pa_cons pe_int pa_nil)))) pa_nil))))
    (pss_cons (ps_par (i := 9) (j := 10) rfl sc_law_right.nd rfl rfl (by decide) rfl rfl (by exact (pa_cons (pe_make T.M_Sheet G_Sheet_init (hr.mono (by decide)) (by rfl) T.g_Sheet T.b_Sheet_init .nil (passes_call takes0 (fun _ _ _ _ h => h)) (pa_cons (pe_callTy call_tuple_of (by rfl) T.n_tuple (by decide +kernel) (pa_cons (pv 1) pa_nil)) (pa_cons (pe_callTy call_tuple_of (by rfl) T.n_tuple (by decide +kernel) (pa_cons (pv 2) pa_nil)) pa_nil))) (pa_cons (pe_call G_law_drawn (hr.mono (by decide)) (by rfl) T.g_law_drawn T.k_law_drawn T.b_law_drawn .nil pass0 (pa_cons (pv 0) (pa_cons (pv 1) (pa_cons (pv 2) pa_nil)))) pa_nil))) rfl)
    (pss_cons (ps_asg (pv 10) (pg_tup rfl (pgs_cons (pg_name (i := 11) sc_law_right.nd rfl (Or.inl rfl)) (pgs_cons (pg_name (i := 12) sc_law_right.nd rfl (Or.inl rfl)) (pgs_cons (pg_name (i := 13) sc_law_right.nd rfl (Or.inl rfl)) pgs_nil)))))
    (pss_cons (ps_set (i := 3) sc_law_right.nd rfl (Or.inl rfl) (pe_callTy (call_dictP rfl) (by rfl) T.n_dict (by decide +kernel) (pa_cons (pe_call G_law_mixed (hr.mono (by decide)) (by rfl) T.g_law_mixed T.k_law_mixed T.b_law_mixed .nil pass0 (pa_cons (pv 0) (pa_cons (pe_itemsR rfl (pv 11) (by rfl) T.n_list (by decide +kernel)) pa_nil))) pa_nil)))
    (pss_cons (ps_set (i := 4) sc_law_right.nd rfl (Or.inl rfl) (pe_callTy call_tuple_of (by rfl) T.n_tuple (by decide +kernel) (pa_cons (pe_call G_law_mixed (hr.mono (by decide)) (by rfl) T.g_law_mixed T.k_law_mixed T.b_law_mixed .nil pass0 (pa_cons (pv 0) (pa_cons (pe_op op_cat (pv 12) (pe_slice sl_list (pv 12) po_none (po_some pe_int))) pa_nil))) pa_nil)))
    (pss_cons (ps_set (i := 5) sc_law_right.nd rfl (Or.inl rfl) (pe_callTy call_tuple_of (by rfl) T.n_tuple (by decide +kernel) (pa_cons (pe_call G_law_mixed (hr.mono (by decide)) (by rfl) T.g_law_mixed T.k_law_mixed T.b_law_mixed .nil pass0 (pa_cons (pv 0) (pa_cons (pe_op op_cat (pv 13) (pe_slice sl_list (pv 13) (po_some (pe_un un_neg pe_int)) po_none)) pa_nil))) pa_nil)))
    (pss_cons (ps_asg (pe_tup (pa_cons (pe_make T.M_Shape G_Shape_init (hr.mono (by decide)) (by rfl) T.g_Shape T.b_Shape_init .nil (passes_call takes0 (fun _ _ _ _ h => h)) (pa_cons (pv 9) (pa_cons (pv 3) (pa_cons (pv 4) (pa_cons (pv 5) pa_nil))))) (pa_cons (pe_make T.M_Shape G_Shape_init (hr.mono (by decide)) (by rfl) T.g_Shape T.b_Shape_init .nil (passes_call takes0 (fun _ _ _ _ h => h)) (pa_cons (pv 9) (pa_cons (pv 11) (pa_cons (pe_callTy call_tuple_of (by rfl) T.n_tuple (by decide +kernel) (pa_cons (pv 12) pa_nil)) (pa_cons (pe_callTy call_tuple_of (by rfl) T.n_tuple (by decide +kernel) (pa_cons (pv 13) pa_nil)) pa_nil))))) pa_nil))) (pg_tup rfl (pgs_cons (pg_name (i := 14) sc_law_right.nd rfl (Or.inr rfl)) (pgs_cons (pg_name (i := 15) sc_law_right.nd rfl (Or.inl rfl)) pgs_nil))))
    (pss_cons (ps_if (pw_or (pt_not (pt_val (pe_call G_law_is (hr.mono (by decide)) (by rfl) T.g_law_is T.k_law_is T.b_law_is .nil pass0 (pa_cons (pv 14) (pa_cons (pv 9) (pa_cons (pv 11) (pa_cons (pv 12) (pa_cons (pv 13) pa_nil)))))))) (pw_or (pt_not (pt_cmpR (op_ownEq G_Shape_eq (T.I_Shape.own T.m_Shape_eq) T.b_Shape_eq (hr.mono (by decide))) (pv 14) (pv 15) (nomark _))) (pw_or1 (pt_cmpR (op_ownNe G_Shape_eq (T.I_Shape.own T.m_Shape_eq) T.b_Shape_eq (hr.mono (by decide))) (pv 14) (pv 15) (nomark _))))).pt (pss_one (ps_ret pe_bl)) pss_nil)
    (pss_cons (ps_if (pt_cmpR (op_neK hu1) (pv 3) (pv 11) (nomark _)) (pss_one (ps_ret pe_bl)) pss_nil)
    (pss_cons (ps_expr (pe_dclear (pv 3)))
    (pss_cons (ps_set (i := 6) sc_law_right.nd rfl (Or.inl rfl) (pe_prop (pv 14) T.cl_Shape T.P_Shape_posts G_Shape_posts (hr.mono (by decide)) T.b_Shape_posts .nil pass0 rfl))
    (pss_cons (ps_expr (pe_dclear (pv 6)))
    (pss_cons (ps_if (pw_or (pt_not (pt_val (pe_call G_law_is (hr.mono (by decide)) (by rfl) T.g_law_is T.k_law_is T.b_law_is .nil pass0 (pa_cons (pv 14) (pa_cons (pv 9) (pa_cons (pv 11) (pa_cons (pv 12) (pa_cons (pv 13) pa_nil)))))))) (pw_or1 (pt_not (pt_cmpR (op_ownEq G_Shape_eq (T.I_Shape.own T.m_Shape_eq) T.b_Shape_eq (hr.mono (by decide))) (pv 15) (pv 14) (nomark _))))).pt (pss_one (ps_ret pe_bl)) pss_nil)
    hR)))))))))))))), ?_⟩
    refine ⟨_, rfl, _, rfl, a, 3, rfl, ha, by decide, by decide, fun i i0 i1 => ⟨_, _, rfl, rfl, a, _, rfl, ha, by omega, by omega, fun H1 lk kr e1 nlk gk nk lkr nek => ?_⟩⟩
    refine ⟨_, rfl, _, rfl, a, 2, rfl, e1 _ _ ha, by decide, by decide, fun j j0 j1 => ⟨_, _, rfl, rfl, a, _, rfl, e1 _ _ ha, by omega, by omega, fun H2 lw wr e2 nlw gw nw lwr new => ?_⟩⟩
    have nK : Nm kr 3 := ⟨List.length_pos_iff.mpr (nek (by omega)), by omega, nk.ok, nk.nd⟩
    have nW : Nm wr 2 := ⟨List.length_pos_iff.mpr (new (by omega)), by omega, nw.ok, nw.nd⟩
    replace gk := e2 _ _ gk
    refine ⟨_, rfl, lk, _, rfl, .inl ⟨SqL.of gk, fun tk ntk => ⟨_, rfl, lw, _, rfl, .inl ⟨SqL.of (Ex.new ntk _ _ gw), fun tw ntw => ?_⟩⟩⟩⟩
    have y1 : Ex H2 (upd (upd H2 tk (.tup (kr.map V.str))) tw (.tup (wr.map V.str))) := (Ex.new ntk).trans (Ex.new ntw)
    have gtk : upd (upd H2 tk (.tup (kr.map V.str))) tw (.tup (wr.map V.str)) tk = some (.tup (kr.map V.str)) := Ex.new ntw _ _ upd_same
    have gtw : upd (upd H2 tk (.tup (kr.map V.str))) tw (.tup (wr.map V.str)) tw = some (.tup (wr.map V.str)) := upd_same
    generalize upd (upd H2 tk (.tup (kr.map V.str))) tw (.tup (wr.map V.str)) = H3 at y1 gtk gtw ⊢
    refine mk_ok (dv_names (SqT.of gtk)) (dv_names (SqT.of gtw)) nK nW fun sh H4 ks ws e4 sk sw hsh => ?_
    have hks : ∀ z ∈ kr, z ∈ ks := fun z hz => sk.1.mem_iff.mpr hz
    have hws : ∀ z ∈ wr, z ∈ ws := fun z hz => sw.1.mem_iff.mpr hz
    have okk : OkS ks := fun z hz => name_ok (nk.ok z (sk.1.mem_iff.mp hz))
    have okw : OkS ws := fun z hz => name_ok (nw.ok z (sw.1.mem_iff.mp hz))
    have x4 : Ex H H4 := ((e1.trans e2).trans y1).trans e4
    have x24 : Ex H2 H4 := y1.trans e4
    refine ⟨_, rfl, _, rfl, _, rfl, a, lk, lw, kr, wr, rfl, x4 _ _ ha, x24 _ _ gk, x24 _ _ gw, by omega, new (by omega), by omega, fun H5 tp d l1 l2 ps ts ls e5 gtp hp pl => ⟨_, _, rfl, ?_⟩⟩
    replace gk := e5 _ _ (x24 _ _ gk)
    replace gw := e5 _ _ (x24 _ _ gw)
    replace hsh := hsh.ex e5
    have x5 : Ex H H5 := x4.trans e5
    have da := x5 _ _ ha
    refine ⟨_, rfl, tp, _, rfl, SqT.of gtp, rfl, _, _, rfl, _, _, rfl, _, _, rfl, rfl, ?_⟩
    have psl := pl.few
    have tl := pl.tl
    rw [List.length_append] at tl
    -- passed
    refine ⟨_, rfl, _, rfl, d, _, rfl, .inl hp.1, fun H6 q1 bs e6 _ gq1 pr1 => ?_⟩
    replace e6 : Ex H5 H6 := e6
    have lbs : bs.length = ps.length := by have := Paired.length pr1; rw [kvP_len] at this; exact this
    refine ⟨a, q1, _, rfl, e6 _ _ da, .inl (SqL.of gq1), by rw [List.length_map]; omega, fun zs q2 H7 pm e7 gq2 => ?_⟩
    obtain ⟨ps', pp, pr2⟩ := paired_perm pm (pairV_of pr1)
    obtain ⟨bs', rfl, pr3⟩ := pairV_to (pairV_ex e7 pr2)
    have nd' : (namesP ps').Nodup := (pp.map _).nodup_iff.mpr pl.nd
    refine ⟨q2, bs', kvP ps', rfl, SqL.of gq2, pair_sq pr3, fun dp ndp => ?_⟩
    rw [merge_new nd']
    have e8 : Ex H7 (upd H7 dp (.dK (kvP ps'))) := Ex.new ndp
    have gdp : upd H7 dp (.dK (kvP ps')) dp = some (.dK (kvP ps')) := upd_same
    generalize upd H7 dp (.dK (kvP ps')) = H8 at e8 gdp ⊢
    have x58 : Ex H5 H8 := (e6.trans e7).trans e8
    have fdp : H5 dp = none := fresh_back (e6.trans e7) ndp
    have dne : d ≠ dp := fun z => by rw [← z, hp.1] at fdp; cases fdp
    obtain ⟨gd, ⟨xs, g1, p1⟩, ys, g2, p2⟩ := hp.ex x58
    have lx := paired_len p1
    have ly := paired_len p2
    -- told
    refine ⟨_, rfl, _, rfl, _, rfl, _, rfl, l1, xs, rfl, SqL.of g1, fun c1 nc1 => ?_⟩
    have e9 : Ex H8 (upd H8 c1 (.lst (cutV xs none (some 1)))) := Ex.new nc1
    have gc1 : upd H8 c1 (.lst (cutV xs none (some 1))) c1 = some (.lst (cutV xs none (some 1))) := upd_same
    generalize upd H8 c1 (.lst (cutV xs none (some 1))) = H9 at e9 gc1 ⊢
    have lc1 := cutV_length xs none (some 1)
    refine ⟨l1, c1, _, _, rfl, rfl, e9 _ _ g1, gc1, len_line (by omega), fun c2 nc2 => ?_⟩
    have e10 : Ex H9 (upd H9 c2 (.lst (xs ++ cutV xs none (some 1)))) := Ex.new nc2
    have gc2 : upd H9 c2 (.lst (xs ++ cutV xs none (some 1))) c2 = some (.lst (xs ++ cutV xs none (some 1))) := upd_same
    generalize upd H9 c2 (.lst (xs ++ cutV xs none (some 1))) = H10 at e10 gc2 ⊢
    have x810 : Ex H8 H10 := e9.trans e10
    refine ⟨a, c2, _, rfl, x810 _ _ (x58 _ _ da), .inl (SqL.of gc2), by rw [List.length_append]; omega, fun us q3 H11 pm3 e11 gq3 => ⟨q3, _, rfl, .inl ⟨SqL.of gq3, fun tt ntt => ?_⟩⟩⟩
    have e12 : Ex H11 (upd H11 tt (.tup us)) := Ex.new ntt
    have gtt : upd H11 tt (.tup us) tt = some (.tup us) := upd_same
    generalize upd H11 tt (.tup us) = H12 at e12 gtt ⊢
    have x812 : Ex H8 H12 := (x810.trans e11).trans e12
    have pc1 : Paired (TieV H12) (xs ++ cutV xs none (some 1)) (ts ++ ((ts.drop (HT.sIx xs.length 0 none)).take (HT.sIx xs.length xs.length (some 1) - HT.sIx xs.length 0 none))) := paired_app (ties_ex p1 x812) (paired_take _ (paired_drop _ (ties_ex p1 x812)))
    obtain ⟨tx, px, ptx⟩ := paired_perm pm3 pc1
    have txm : ∀ t, t ∈ tx ↔ t ∈ ts := fun t => by
      rw [px.mem_iff, List.mem_append]
      exact ⟨fun h => h.elim id cut_sub, .inl⟩
    have txl : tx.length ≤ 1000 := by
      rw [← paired_len ptx, pm3.length_eq, List.length_append]
      omega
    -- untold
    refine ⟨_, rfl, _, rfl, _, rfl, _, rfl, _, rfl, l2, ys, rfl, SqL.of (x812 _ _ g2), fun c3 nc3 => ?_⟩
    have e13 : Ex H12 (upd H12 c3 (.lst (cutV ys (some (-1)) none))) := Ex.new nc3
    have gc3 : upd H12 c3 (.lst (cutV ys (some (-1)) none)) c3 = some (.lst (cutV ys (some (-1)) none)) := upd_same
    generalize upd H12 c3 (.lst (cutV ys (some (-1)) none)) = H13 at e13 gc3 ⊢
    have lc3 := cutV_length ys (some (-1)) none
    have x813 : Ex H8 H13 := x812.trans e13
    refine ⟨l2, c3, _, _, rfl, rfl, x813 _ _ g2, gc3, len_line (by omega), fun c4 nc4 => ?_⟩
    have e14 : Ex H13 (upd H13 c4 (.lst (ys ++ cutV ys (some (-1)) none))) := Ex.new nc4
    have gc4 : upd H13 c4 (.lst (ys ++ cutV ys (some (-1)) none)) c4 = some (.lst (ys ++ cutV ys (some (-1)) none)) := upd_same
    generalize upd H13 c4 (.lst (ys ++ cutV ys (some (-1)) none)) = H14 at e14 gc4 ⊢
    have x814 : Ex H8 H14 := x813.trans e14
    refine ⟨a, c4, _, rfl, x814 _ _ (x58 _ _ da), .inl (SqL.of gc4), by rw [List.length_append]; omega, fun us2 q4 H15 pm4 e15 gq4 => ⟨q4, _, rfl, .inl ⟨SqL.of gq4, fun tu ntu => ?_⟩⟩⟩
    have e16 : Ex H15 (upd H15 tu (.tup us2)) := Ex.new ntu
    have gtu : upd H15 tu (.tup us2) tu = some (.tup us2) := upd_same
    generalize upd H15 tu (.tup us2) = H16 at e16 gtu ⊢
    have x1216 : Ex H12 H16 := ((e13.trans e14).trans e15).trans e16
    have x816 : Ex H8 H16 := x812.trans x1216
    have pc2 : Paired (TieV H16) (ys ++ cutV ys (some (-1)) none) (ls ++ ((ls.drop (HT.sIx ys.length 0 (some (-1)))).take (HT.sIx ys.length ys.length none - HT.sIx ys.length 0 (some (-1))))) := paired_app (ties_ex p2 x816) (paired_take _ (paired_drop _ (ties_ex p2 x816)))
    obtain ⟨lx', px2, plx⟩ := paired_perm pm4 pc2
    have lxm : ∀ t, t ∈ lx' ↔ t ∈ ls := fun t => by
      rw [px2.mem_iff, List.mem_append]
      exact ⟨fun h => h.elim id cut_sub, .inl⟩
    have lxl : lx'.length ≤ 1000 := by
      rw [← paired_len plx, pm4.length_eq, List.length_append]
      omega
    have x16 : Ex H5 H16 := x58.trans x816
    have hsh16 := hsh.ex x16
    -- the shape and the same
    refine ⟨_, rfl, _, rfl, _, rfl, _, rfl, mk_shape hsh16 (x816 _ _ gdp) (fun p' hp' => pl.short p' (pp.mem_iff.mp hp')) nd' (SqT.of (x1216 _ _ gtt)) (ties_ex ptx x1216) txl (SqT.of gtu) plx lxl (by rw [pp.length_eq]; omega) (shape_ok pl hks hws pp (fun t => (txm t).mp) (fun t => (lxm t).mp)) fun p H17 e17 hs1 no1 => ?_⟩
    rw [sortP_one pp pl.nd, once_srt pl.t1 txm, once_srt pl.t2 lxm] at hs1
    have nop : ShapeNo H17 p dp := no1 dp _ (x816 _ _ gdp)
    have x817 : Ex H8 H17 := x816.trans e17
    refine ⟨_, rfl, _, rfl, _, rfl, l1, _, rfl, .inl ⟨SqL.of (x817 _ _ g1), fun t1 nt1 => ⟨_, rfl, l2, _, rfl, .inl ⟨SqL.of (Ex.new nt1 _ _ (x817 _ _ g2)), fun t2 nt2 => ?_⟩⟩⟩⟩
    have y2 : Ex H17 (upd (upd H17 t1 (.tup xs)) t2 (.tup ys)) := (Ex.new nt1).trans (Ex.new nt2)
    have gt1 : upd (upd H17 t1 (.tup xs)) t2 (.tup ys) t1 = some (.tup xs) := Ex.new nt2 _ _ upd_same
    have gt2 : upd (upd H17 t1 (.tup xs)) t2 (.tup ys) t2 = some (.tup ys) := upd_same
    generalize upd (upd H17 t1 (.tup xs)) t2 (.tup ys) = H18 at y2 gt1 gt2 ⊢
    have x818 : Ex H8 H18 := x817.trans y2
    refine mk_shape (hsh16.ex (e17.trans y2)) (x818 _ _ gd) pl.short pl.nd (SqT.of gt1) (ties_ex p1 x818) (by omega) (SqT.of gt2) (ties_ex p2 x818) (by omega) (by omega) (shape_ok pl hks hws (List.Perm.refl _) (fun _ h => h) (fun _ h => h)) fun p2' H19 e19 hs2 no2 => ?_
    rw [once_self pl.t1, once_self pl.t2] at hs2
    have nop2 : ShapeNo H19 p2' dp := no2 dp _ (x818 _ _ gdp)
    have x1719 : Ex H17 H19 := y2.trans e19
    have x819 : Ex H8 H19 := x818.trans e19
    have x19 : Ex H5 H19 := x58.trans x819
    refine ⟨(by show 2 ≤ sizeLine; decide), fun tq ntq => ⟨tq, _, rfl, SqT.of upd_same, rfl, _, _, rfl, _, _, rfl, rfl, ?_⟩⟩
    have e20 : Ex H19 (upd H19 tq (.tup [.ref p, .ref p2'])) := Ex.new ntq
    generalize upd H19 tq (.tup [.ref p, .ref p2']) = H20 at e20 ⊢
    have x20 : Ex H5 H20 := x19.trans e20
    have x820 : Ex H8 H20 := x819.trans e20
    have B0 : Bd AA ks ws kr wr ps ts ls tx a lk lw sh tp d l1 l2 tt p p2' H20 := ⟨x20 _ _ da, x20 _ _ gk, x20 _ _ gw, hsh.ex x20, x20 _ _ gtp, hp.ex x20, ⟨us, (((x1216.trans e17).trans x1719).trans e20) _ _ gtt, ties_ex ptx (((x1216.trans e17).trans x1719).trans e20)⟩, hs1.ex (x1719.trans e20), hs2.ex e20⟩
    have isS : ∀ {J : Hp} {p0 : Addr} {ps0 : Posts} {ts0 ls0 : List Tie}, ShapeAt AA.C_Shape J p0 sh (sortP ps0) (srt ts0) (srt ls0) → SheetAt AA.C_Sheet J sh ks ws → ShpAt AA J p0 (shp ks ws ps0 ts0 ls0) := fun h1 h2 => ⟨sh, h1, h2, okk, okw⟩
    -- as it should be
    refine ⟨_, rfl, _, rfl, _, rfl, _, rfl, _, rfl, p, sh, d, l1, l2, ks, ws, kr, wr, ps, ts, ls, rfl, B0.s1, B0.hs, okk, okw, B0.pa, pl, fun H21 e21 => ⟨_, rfl, if_f rfl ?_⟩⟩
    have B1 := B0.ex e21
    refine ⟨_, rfl, _, rfl, own_ok T (isS B1.s1 B1.hs) (.inr (.inr ⟨p2', _, rfl, isS B1.s2 B1.hs, rfl⟩)) ⟨_, rfl, ?_⟩⟩
    refine if_f (by show (!id (eqShp (shp ks ws ps ts ls) (shp ks ws ps ts ls))) = false; rw [eqShp_self pl]; rfl) ?_
    refine ⟨_, rfl, _, rfl, own_ok T (isS B1.s1 B1.hs) (.inr (.inr ⟨p2', _, rfl, isS B1.s2 B1.hs, rfl⟩)) ⟨_, rfl, ?_⟩⟩
    refine if_f (by show (!(eqShp (shp ks ws ps ts ls) (shp ks ws ps ts ls))) = false; rw [eqShp_self pl]; rfl) ?_
    have x821 : Ex H8 H21 := x820.trans e21
    refine ⟨_, rfl, _, rfl, dp, d, _, _, rfl, rfl, .inl (x821 _ _ gdp), .inl B1.pa.1, kvP_pl _, kvP_pl _, _, rfl, ?_⟩
    refine if_f (by rw [(sameD_iff nd' pl.nd).mpr (fun n => look_perm pp pl.nd n)]; rfl) ?_
    -- cleared
    refine ⟨_, rfl, .inr (.inr (.inl ⟨rfl, .inl ⟨_, x821 _ _ gdp⟩⟩)), dp, _, rfl, rfl, x821 _ _ gdp, ?_⟩
    have B2 := B1.but (x821 _ _ gdp) dne (nop.ex ((x1719.trans e20).trans e21)) (nop2.ex (e20.trans e21)) (ExBut.put (o := .dK []))
    have x22 : Ex H5 (upd H21 dp (.dK [])) := Ex.mut (x20.trans e21) fdp
    generalize upd H21 dp (.dK []) = H22 at B2 x22 ⊢
    obtain ⟨dx, fs, po, th, la, k1, _⟩ := B2.s1.at_
    refine ⟨_, rfl, p, dx, fs, rfl, k1, p, sh, _, _, _, rfl, B2.s1, fun gv ngv => ?_⟩
    refine ⟨_, rfl, .inr (.inr (.inl ⟨rfl, .inl ⟨_, upd_same⟩⟩)), gv, _, rfl, rfl, upd_same, ?_⟩
    rw [upd_upd]
    have e23 : Ex H22 (upd H22 gv (.dK [])) := Ex.new ngv
    generalize upd H22 gv (.dK []) = H23 at e23 ⊢
    have B3 := B2.ex e23
    refine ⟨_, rfl, _, rfl, _, rfl, _, rfl, _, rfl, p, sh, d, l1, l2, ks, ws, kr, wr, ps, ts, ls, rfl, B3.s1, B3.hs, okk, okw, B3.pa, pl, fun H24 e24 => ⟨_, rfl, if_f rfl ?_⟩⟩
    have B4 := B3.ex e24
    refine ⟨_, rfl, _, rfl, own_ok T (isS B4.s2 B4.hs) (.inr (.inr ⟨p, _, rfl, isS B4.s1 B4.hs, rfl⟩)) ⟨_, rfl, ?_⟩⟩
    refine if_f (by show (!id (eqShp (shp ks ws ps ts ls) (shp ks ws ps ts ls))) = false; rw [eqShp_self pl]; rfl) ?_
    have x24' : Ex H5 H24 := (x22.trans e23).trans e24
    exact qR Q H24 ks ws kr wr ps ts ls tx a lk lw sh tp d l1 l2 tt p p2' dp tu gv B4 pl nK nW sk sw txm txl fun H' e => q H' ((x5.trans x24').trans e)
end
end K6
namespace K6
open PySem L2 Kd Evl Ks Kt Ky
open PySem.W (Datum DatumOrd T3)
def spLaw (K : PySem.W.Frag) : Sp := fun vs H Q _ => ∃ (a : Addr) (ns : List Int), vs = [.ref a] ∧ SqL K H a (ns.map V.int) ∧ ns.length ≤ 63 ∧ ∀ H', Q (.bl true) H'
section
variable {P : Program} {w : World} {K : PySem.W.Frag} {mg : Str → Option Value} {base : Heap} {AA : Ads}
theorem ok_law (T : Txt K mg AA) : FnG P w K mg base 7 AA.a_law AA.d_law ["_law_script"] (spLaw K) := by
  have G_law_dice : FnOk P w K mg base CX0 1 AA.a_law_dice AA.d_law_dice ["_law_script", "_law_at"] (spDice K) := ok_law_dice T
  have G_law_right : FnOk P w K mg base CX0 6 AA.a_law_right AA.d_law_right ["_law_dice_here"] spRight := ok_law_right T
  refine FnOk.g (T.F_law.ok sc_law (fun vs H Q E h => ?_) (fun cdv A outer s H vs Q E hr h => ?_))
  · obtain ⟨a, ns, rfl, _⟩ := h
    rfl
  · obtain ⟨a, ns, rfl, hS, hlen, q⟩ := h
    refine ⟨_, (pss_cons (ps_for PassesOwn.never rfl (pi_range1 rfl T.n_range (pa_cons (pe_callB (call_max2 rfl) (by rfl) T.n_max (by decide +kernel) (pa_cons pe_int (pa_cons (pe_callB (call_min2 rfl) (by rfl) T.n_min (by decide +kernel) (pa_cons pe_int (pa_cons (pe_callB call_len_seq (by rfl) T.n_len (by decide +kernel) (pa_cons (pv 0) pa_nil)) pa_nil))) pa_nil))) pa_nil)) (pg_name (i := 1) sc_law.nd rfl (Or.inl rfl))
      (pss_one (ps_if (pt_not (pt_val (pe_call G_law_right (hr.mono (by decide)) (by rfl) T.g_law_right T.k_law_right T.b_law_right .nil pass0 (pa_cons (pe_call G_law_dice (hr.mono (by decide)) (by rfl) T.g_law_dice T.k_law_dice T.b_law_dice .nil pass0 (pa_cons (pv 0) (pa_cons (pv 1) pa_nil))) pa_nil)))) (pss_one (ps_ret pe_bl)) pss_nil)))
    (pss_one (ps_ret pe_bl))), ?_⟩
    refine ⟨_, rfl, a, _, rfl, .inl hS, _, _, rfl, _, _, rfl, _, rfl, ?_, ?_, ?_⟩
    · split <;> split <;> omega
    · rw [List.length_map]
      split <;> split <;> omega
    refine for_range (fun k σ J => ∃ v1 : Option V, σ = [some (.ref a), v1] ∧ Ex H J) ⟨none, rfl, Ex.refl _⟩ ?_ ?_
    · rintro k σ J hk ⟨v1, rfl, e⟩
      refine ⟨_, rfl, _, rfl, a, ns, _, rfl, ex_l e hS, by omega, fun p hp => ?_⟩
      have e1 : Ex J (upd J p (diceO p)) := Ex.new hp
      exact ⟨p, rfl, upd_same, fun H' e2 => ⟨_, rfl, if_f rfl ⟨_, rfl, (e.trans e1).trans e2⟩⟩⟩
    · rintro σ J ⟨v1, rfl, e⟩
      exact q _
end
end K6
namespace K6
open PySem L2 Kd Evl Ks Kt Ky
theorem all_mk {l : PySem.W.OpenLaw} {w : World} {K : PySem.W.Frag} {h : Heap} {mg : Str → Option Value} {fa : Addr} {C_Sheet C_Shape C_ShapeError C_InvalidSheet C_InvalidShape f_is_name f_are_names f_Sheet_init f_Sheet_kinds f_Sheet_words f_Sheet_eq f_Sheet_str f_require_sheet f_is_kind f_is_tie f_are_posts f_is_triple_of f_are_triples f_Shape_init f_Shape_sheet f_Shape_posts f_Shape_there f_Shape_lacking f_Shape_names f_Shape_is_sure f_Shape_len f_Shape_eq f_Shape_str f_is_sure_in f_law_dice f_law_roll f_law_pick f_law_mixed f_law_labels f_law_drawn f_law_is f_law_unlike f_law_right f_law r_Sheet_kinds r_Sheet_words r_Shape_sheet r_Shape_posts r_Shape_there r_Shape_lacking r_Shape_names r_Shape_is_sure dT_Shape_init e_Shape_init_0 e_Shape_init_1 : Addr} (X : K.In h) (G : h.Ns mainGlobals mg) (hfa : mg "law" = some (.ref fa))
    {od_is_name an_is_name od_are_names an_are_names od_Sheet_init an_Sheet_init od_Sheet_kinds an_Sheet_kinds od_Sheet_words an_Sheet_words od_Sheet_eq an_Sheet_eq od_Sheet_str an_Sheet_str od_require_sheet an_require_sheet od_is_kind an_is_kind od_is_tie an_is_tie od_are_posts an_are_posts od_is_triple_of an_is_triple_of od_are_triples an_are_triples od_Shape_init an_Shape_init td_Shape_init ed_Shape_init_0 ed_Shape_init_1 od_Shape_sheet an_Shape_sheet od_Shape_posts an_Shape_posts od_Shape_there an_Shape_there od_Shape_lacking an_Shape_lacking od_Shape_names an_Shape_names od_Shape_is_sure an_Shape_is_sure od_Shape_len an_Shape_len od_Shape_eq an_Shape_eq od_Shape_str an_Shape_str od_is_sure_in an_is_sure_in od_law_dice an_law_dice od_law_roll an_law_roll od_law_pick an_law_pick od_law_mixed an_law_mixed od_law_labels an_law_labels od_law_drawn an_law_drawn od_law_is an_law_is od_law_unlike an_law_unlike od_law_right an_law_right od_law an_law : Option Addr} {sl_is_name sl_are_names sl_Sheet_init sl_Sheet_kinds sl_Sheet_words sl_Sheet_eq sl_Sheet_str sl_require_sheet sl_is_kind sl_is_tie sl_are_posts sl_is_triple_of sl_are_triples sl_Shape_init ts_Shape_init es_Shape_init_0 es_Shape_init_1 sl_Shape_sheet sl_Shape_posts sl_Shape_there sl_Shape_lacking sl_Shape_names sl_Shape_is_sure sl_Shape_len sl_Shape_eq sl_Shape_str sl_is_sure_in sl_law_dice sl_law_roll sl_law_pick sl_law_mixed sl_law_labels sl_law_drawn sl_law_is sl_law_unlike sl_law_right sl_law : Array (Option Value)} {oc_is_name kV_is_name dc_is_name pm_is_name cd_is_name ct_is_name oc_are_names kV_are_names dc_are_names pm_are_names cd_are_names ct_are_names oc_Sheet_init kV_Sheet_init dc_Sheet_init pm_Sheet_init cd_Sheet_init ct_Sheet_init oc_Sheet_kinds kV_Sheet_kinds dc_Sheet_kinds pm_Sheet_kinds cd_Sheet_kinds ct_Sheet_kinds oc_Sheet_words kV_Sheet_words dc_Sheet_words pm_Sheet_words cd_Sheet_words ct_Sheet_words oc_Sheet_eq kV_Sheet_eq dc_Sheet_eq pm_Sheet_eq cd_Sheet_eq ct_Sheet_eq oc_Sheet_str kV_Sheet_str dc_Sheet_str pm_Sheet_str cd_Sheet_str ct_Sheet_str oc_require_sheet kV_require_sheet dc_require_sheet pm_require_sheet cd_require_sheet ct_require_sheet oc_is_kind kV_is_kind dc_is_kind pm_is_kind cd_is_kind ct_is_kind oc_is_tie kV_is_tie dc_is_tie pm_is_tie cd_is_tie ct_is_tie oc_are_posts kV_are_posts dc_are_posts pm_are_posts cd_are_posts ct_are_posts oc_is_triple_of kV_is_triple_of dc_is_triple_of pm_is_triple_of cd_is_triple_of ct_is_triple_of oc_are_triples kV_are_triples dc_are_triples pm_are_triples cd_are_triples ct_are_triples oc_Shape_init kV_Shape_init dc_Shape_init pm_Shape_init cd_Shape_init ct_Shape_init to_Shape_init oc_Shape_sheet kV_Shape_sheet dc_Shape_sheet pm_Shape_sheet cd_Shape_sheet ct_Shape_sheet oc_Shape_posts kV_Shape_posts dc_Shape_posts pm_Shape_posts cd_Shape_posts ct_Shape_posts oc_Shape_there kV_Shape_there dc_Shape_there pm_Shape_there cd_Shape_there ct_Shape_there oc_Shape_lacking kV_Shape_lacking dc_Shape_lacking pm_Shape_lacking cd_Shape_lacking ct_Shape_lacking oc_Shape_names kV_Shape_names dc_Shape_names pm_Shape_names cd_Shape_names ct_Shape_names oc_Shape_is_sure kV_Shape_is_sure dc_Shape_is_sure pm_Shape_is_sure cd_Shape_is_sure ct_Shape_is_sure oc_Shape_len kV_Shape_len dc_Shape_len pm_Shape_len cd_Shape_len ct_Shape_len oc_Shape_eq kV_Shape_eq dc_Shape_eq pm_Shape_eq cd_Shape_eq ct_Shape_eq oc_Shape_str kV_Shape_str dc_Shape_str pm_Shape_str cd_Shape_str ct_Shape_str oc_is_sure_in kV_is_sure_in dc_is_sure_in pm_is_sure_in cd_is_sure_in ct_is_sure_in oc_law_dice kV_law_dice dc_law_dice pm_law_dice cd_law_dice ct_law_dice oc_law_roll kV_law_roll dc_law_roll pm_law_roll cd_law_roll ct_law_roll oc_law_pick kV_law_pick dc_law_pick pm_law_pick cd_law_pick ct_law_pick oc_law_mixed kV_law_mixed dc_law_mixed pm_law_mixed cd_law_mixed ct_law_mixed oc_law_labels kV_law_labels dc_law_labels pm_law_labels cd_law_labels ct_law_labels oc_law_drawn kV_law_drawn dc_law_drawn pm_law_drawn cd_law_drawn ct_law_drawn oc_law_is kV_law_is dc_law_is pm_law_is cd_law_is ct_law_is oc_law_unlike kV_law_unlike dc_law_unlike pm_law_unlike cd_law_unlike ct_law_unlike oc_law_right kV_law_right dc_law_right pm_law_right cd_law_right ct_law_right oc_law kV_law dc_law pm_law cd_law ct_law : Value} {rs_Sheet_kinds rs_Sheet_words rs_Shape_sheet rs_Shape_posts rs_Shape_there rs_Shape_lacking rs_Shape_names rs_Shape_is_sure : List Value} {tn_Shape_init en_Shape_init_0 en_Shape_init_1 : Nat} {t_MAX_KINDS t_MAX_WORDS t_MAX_LETTERS t_LETTERS t_MAX_NAMES : Tok}
    (gC_Sheet : PySem.W.nsIn K mainGlobals "Sheet" = some (some (.ref C_Sheet)))
    (gC_Shape : PySem.W.nsIn K mainGlobals "Shape" = some (some (.ref C_Shape)))
    (gC_ShapeError : PySem.W.nsIn K mainGlobals "ShapeError" = some (some (.ref C_ShapeError)))
    (gC_InvalidSheet : PySem.W.nsIn K mainGlobals "InvalidSheet" = some (some (.ref C_InvalidSheet)))
    (gC_InvalidShape : PySem.W.nsIn K mainGlobals "InvalidShape" = some (some (.ref C_InvalidShape)))
    (a_is_name : PySem.W.nsIn K mainGlobals "is_name" = some (some (.ref f_is_name)))
    (l_is_name : K.lookup f_is_name = some ⟨oc_is_name, od_is_name, .func (PySem.W.fnOf "is_name" "is_name" (defArgs s_is_name) (defBody s_is_name) (defScope s_is_name) .none kV_is_name dc_is_name pm_is_name an_is_name cd_is_name ct_is_name), sl_is_name⟩)
    (c_is_name : PySem.W.codeIn K cd_is_name "is_name" = true)
    (k_is_name : PySem.W.keepIn K (.ref f_is_name) = true)
    (a_are_names : PySem.W.nsIn K mainGlobals "are_names" = some (some (.ref f_are_names)))
    (l_are_names : K.lookup f_are_names = some ⟨oc_are_names, od_are_names, .func (PySem.W.fnOf "are_names" "are_names" (defArgs s_are_names) (defBody s_are_names) (defScope s_are_names) .none kV_are_names dc_are_names pm_are_names an_are_names cd_are_names ct_are_names), sl_are_names⟩)
    (c_are_names : PySem.W.codeIn K cd_are_names "are_names" = true)
    (k_are_names : PySem.W.keepIn K (.ref f_are_names) = true)
    (a_Sheet_init : PySem.W.findIn K (.ref C_Sheet) "__init__" = some (some (.ref f_Sheet_init)))
    (i_Sheet_init : PySem.W.isFn K (.ref f_Sheet_init) = true)
    (l_Sheet_init : K.lookup f_Sheet_init = some ⟨oc_Sheet_init, od_Sheet_init, .func (PySem.W.fnOf "__init__" "Sheet.__init__" (defArgs s_Sheet_init) (defBody s_Sheet_init) (defScope s_Sheet_init) .none kV_Sheet_init dc_Sheet_init pm_Sheet_init an_Sheet_init cd_Sheet_init ct_Sheet_init), sl_Sheet_init⟩)
    (c_Sheet_init : PySem.W.codeIn K cd_Sheet_init "Sheet.__init__" = true)
    (k_Sheet_init : PySem.W.keepIn K (.ref f_Sheet_init) = true)
    (at_Sheet_kinds : PySem.W.findIn K (.ref C_Sheet) "kinds" = some (some (.ref r_Sheet_kinds)))
    (gt_Sheet_kinds : PySem.W.specialIn K (.ref r_Sheet_kinds) "__get__" = some (some (.builtin "property.__get__")))
    (tk_Sheet_kinds : PySem.W.takesIn K (.ref r_Sheet_kinds) = some true)
    (rc_Sheet_kinds : PySem.W.recIn K r_Sheet_kinds "property" = some (.ref f_Sheet_kinds :: rs_Sheet_kinds))
    (l_Sheet_kinds : K.lookup f_Sheet_kinds = some ⟨oc_Sheet_kinds, od_Sheet_kinds, .func (PySem.W.fnOf "kinds" "Sheet.kinds" (defArgs s_Sheet_kinds) (defBody s_Sheet_kinds) (defScope s_Sheet_kinds) .none kV_Sheet_kinds dc_Sheet_kinds pm_Sheet_kinds an_Sheet_kinds cd_Sheet_kinds ct_Sheet_kinds), sl_Sheet_kinds⟩)
    (c_Sheet_kinds : PySem.W.codeIn K cd_Sheet_kinds "Sheet.kinds" = true)
    (k_Sheet_kinds : PySem.W.keepIn K (.ref f_Sheet_kinds) = true)
    (at_Sheet_words : PySem.W.findIn K (.ref C_Sheet) "words" = some (some (.ref r_Sheet_words)))
    (gt_Sheet_words : PySem.W.specialIn K (.ref r_Sheet_words) "__get__" = some (some (.builtin "property.__get__")))
    (tk_Sheet_words : PySem.W.takesIn K (.ref r_Sheet_words) = some true)
    (rc_Sheet_words : PySem.W.recIn K r_Sheet_words "property" = some (.ref f_Sheet_words :: rs_Sheet_words))
    (l_Sheet_words : K.lookup f_Sheet_words = some ⟨oc_Sheet_words, od_Sheet_words, .func (PySem.W.fnOf "words" "Sheet.words" (defArgs s_Sheet_words) (defBody s_Sheet_words) (defScope s_Sheet_words) .none kV_Sheet_words dc_Sheet_words pm_Sheet_words an_Sheet_words cd_Sheet_words ct_Sheet_words), sl_Sheet_words⟩)
    (c_Sheet_words : PySem.W.codeIn K cd_Sheet_words "Sheet.words" = true)
    (k_Sheet_words : PySem.W.keepIn K (.ref f_Sheet_words) = true)
    (a_Sheet_eq : PySem.W.findIn K (.ref C_Sheet) "__eq__" = some (some (.ref f_Sheet_eq)))
    (i_Sheet_eq : PySem.W.isFn K (.ref f_Sheet_eq) = true)
    (l_Sheet_eq : K.lookup f_Sheet_eq = some ⟨oc_Sheet_eq, od_Sheet_eq, .func (PySem.W.fnOf "__eq__" "Sheet.__eq__" (defArgs s_Sheet_eq) (defBody s_Sheet_eq) (defScope s_Sheet_eq) .none kV_Sheet_eq dc_Sheet_eq pm_Sheet_eq an_Sheet_eq cd_Sheet_eq ct_Sheet_eq), sl_Sheet_eq⟩)
    (c_Sheet_eq : PySem.W.codeIn K cd_Sheet_eq "Sheet.__eq__" = true)
    (k_Sheet_eq : PySem.W.keepIn K (.ref f_Sheet_eq) = true)
    (a_Sheet_str : PySem.W.findIn K (.ref C_Sheet) "__str__" = some (some (.ref f_Sheet_str)))
    (i_Sheet_str : PySem.W.isFn K (.ref f_Sheet_str) = true)
    (l_Sheet_str : K.lookup f_Sheet_str = some ⟨oc_Sheet_str, od_Sheet_str, .func (PySem.W.fnOf "__str__" "Sheet.__str__" (defArgs s_Sheet_str) (defBody s_Sheet_str) (defScope s_Sheet_str) .none kV_Sheet_str dc_Sheet_str pm_Sheet_str an_Sheet_str cd_Sheet_str ct_Sheet_str), sl_Sheet_str⟩)
    (c_Sheet_str : PySem.W.codeIn K cd_Sheet_str "Sheet.__str__" = true)
    (k_Sheet_str : PySem.W.keepIn K (.ref f_Sheet_str) = true)
    (a_require_sheet : PySem.W.nsIn K mainGlobals "require_sheet" = some (some (.ref f_require_sheet)))
    (l_require_sheet : K.lookup f_require_sheet = some ⟨oc_require_sheet, od_require_sheet, .func (PySem.W.fnOf "require_sheet" "require_sheet" (defArgs s_require_sheet) (defBody s_require_sheet) (defScope s_require_sheet) .none kV_require_sheet dc_require_sheet pm_require_sheet an_require_sheet cd_require_sheet ct_require_sheet), sl_require_sheet⟩)
    (c_require_sheet : PySem.W.codeIn K cd_require_sheet "require_sheet" = true)
    (k_require_sheet : PySem.W.keepIn K (.ref f_require_sheet) = true)
    (a_is_kind : PySem.W.nsIn K mainGlobals "is_kind" = some (some (.ref f_is_kind)))
    (l_is_kind : K.lookup f_is_kind = some ⟨oc_is_kind, od_is_kind, .func (PySem.W.fnOf "is_kind" "is_kind" (defArgs s_is_kind) (defBody s_is_kind) (defScope s_is_kind) .none kV_is_kind dc_is_kind pm_is_kind an_is_kind cd_is_kind ct_is_kind), sl_is_kind⟩)
    (c_is_kind : PySem.W.codeIn K cd_is_kind "is_kind" = true)
    (k_is_kind : PySem.W.keepIn K (.ref f_is_kind) = true)
    (a_is_tie : PySem.W.nsIn K mainGlobals "is_tie" = some (some (.ref f_is_tie)))
    (l_is_tie : K.lookup f_is_tie = some ⟨oc_is_tie, od_is_tie, .func (PySem.W.fnOf "is_tie" "is_tie" (defArgs s_is_tie) (defBody s_is_tie) (defScope s_is_tie) .none kV_is_tie dc_is_tie pm_is_tie an_is_tie cd_is_tie ct_is_tie), sl_is_tie⟩)
    (c_is_tie : PySem.W.codeIn K cd_is_tie "is_tie" = true)
    (k_is_tie : PySem.W.keepIn K (.ref f_is_tie) = true)
    (a_are_posts : PySem.W.nsIn K mainGlobals "are_posts" = some (some (.ref f_are_posts)))
    (l_are_posts : K.lookup f_are_posts = some ⟨oc_are_posts, od_are_posts, .func (PySem.W.fnOf "are_posts" "are_posts" (defArgs s_are_posts) (defBody s_are_posts) (defScope s_are_posts) .none kV_are_posts dc_are_posts pm_are_posts an_are_posts cd_are_posts ct_are_posts), sl_are_posts⟩)
    (c_are_posts : PySem.W.codeIn K cd_are_posts "are_posts" = true)
    (k_are_posts : PySem.W.keepIn K (.ref f_are_posts) = true)
    (a_is_triple_of : PySem.W.nsIn K mainGlobals "is_triple_of" = some (some (.ref f_is_triple_of)))
    (l_is_triple_of : K.lookup f_is_triple_of = some ⟨oc_is_triple_of, od_is_triple_of, .func (PySem.W.fnOf "is_triple_of" "is_triple_of" (defArgs s_is_triple_of) (defBody s_is_triple_of) (defScope s_is_triple_of) .none kV_is_triple_of dc_is_triple_of pm_is_triple_of an_is_triple_of cd_is_triple_of ct_is_triple_of), sl_is_triple_of⟩)
    (c_is_triple_of : PySem.W.codeIn K cd_is_triple_of "is_triple_of" = true)
    (k_is_triple_of : PySem.W.keepIn K (.ref f_is_triple_of) = true)
    (a_are_triples : PySem.W.nsIn K mainGlobals "are_triples" = some (some (.ref f_are_triples)))
    (l_are_triples : K.lookup f_are_triples = some ⟨oc_are_triples, od_are_triples, .func (PySem.W.fnOf "are_triples" "are_triples" (defArgs s_are_triples) (defBody s_are_triples) (defScope s_are_triples) .none kV_are_triples dc_are_triples pm_are_triples an_are_triples cd_are_triples ct_are_triples), sl_are_triples⟩)
    (c_are_triples : PySem.W.codeIn K cd_are_triples "are_triples" = true)
    (k_are_triples : PySem.W.keepIn K (.ref f_are_triples) = true)
    (a_Shape_init : PySem.W.findIn K (.ref C_Shape) "__init__" = some (some (.ref f_Shape_init)))
    (i_Shape_init : PySem.W.isFn K (.ref f_Shape_init) = true)
    (l_Shape_init : K.lookup f_Shape_init = some ⟨oc_Shape_init, od_Shape_init, .func (PySem.W.fnOf "__init__" "Shape.__init__" (defArgs s_Shape_init) (defBody s_Shape_init) (defScope s_Shape_init) (.ref dT_Shape_init) kV_Shape_init dc_Shape_init pm_Shape_init an_Shape_init cd_Shape_init ct_Shape_init), sl_Shape_init⟩)
    (c_Shape_init : PySem.W.codeIn K cd_Shape_init "Shape.__init__" = true)
    (k_Shape_init : PySem.W.keepIn K (.ref f_Shape_init) = true)
    (dl_Shape_init : K.lookup dT_Shape_init = some ⟨to_Shape_init, td_Shape_init, .seq #[.ref e_Shape_init_0, .ref e_Shape_init_1] tn_Shape_init, ts_Shape_init⟩)
    (el_Shape_init_0 : K.lookup e_Shape_init_0 = some ⟨.type "tuple", ed_Shape_init_0, .seq #[] en_Shape_init_0, es_Shape_init_0⟩)
    (el_Shape_init_1 : K.lookup e_Shape_init_1 = some ⟨.type "tuple", ed_Shape_init_1, .seq #[] en_Shape_init_1, es_Shape_init_1⟩)
    (at_Shape_sheet : PySem.W.findIn K (.ref C_Shape) "sheet" = some (some (.ref r_Shape_sheet)))
    (gt_Shape_sheet : PySem.W.specialIn K (.ref r_Shape_sheet) "__get__" = some (some (.builtin "property.__get__")))
    (tk_Shape_sheet : PySem.W.takesIn K (.ref r_Shape_sheet) = some true)
    (rc_Shape_sheet : PySem.W.recIn K r_Shape_sheet "property" = some (.ref f_Shape_sheet :: rs_Shape_sheet))
    (l_Shape_sheet : K.lookup f_Shape_sheet = some ⟨oc_Shape_sheet, od_Shape_sheet, .func (PySem.W.fnOf "sheet" "Shape.sheet" (defArgs s_Shape_sheet) (defBody s_Shape_sheet) (defScope s_Shape_sheet) .none kV_Shape_sheet dc_Shape_sheet pm_Shape_sheet an_Shape_sheet cd_Shape_sheet ct_Shape_sheet), sl_Shape_sheet⟩)
    (c_Shape_sheet : PySem.W.codeIn K cd_Shape_sheet "Shape.sheet" = true)
    (k_Shape_sheet : PySem.W.keepIn K (.ref f_Shape_sheet) = true)
    (at_Shape_posts : PySem.W.findIn K (.ref C_Shape) "posts" = some (some (.ref r_Shape_posts)))
    (gt_Shape_posts : PySem.W.specialIn K (.ref r_Shape_posts) "__get__" = some (some (.builtin "property.__get__")))
    (tk_Shape_posts : PySem.W.takesIn K (.ref r_Shape_posts) = some true)
    (rc_Shape_posts : PySem.W.recIn K r_Shape_posts "property" = some (.ref f_Shape_posts :: rs_Shape_posts))
    (l_Shape_posts : K.lookup f_Shape_posts = some ⟨oc_Shape_posts, od_Shape_posts, .func (PySem.W.fnOf "posts" "Shape.posts" (defArgs s_Shape_posts) (defBody s_Shape_posts) (defScope s_Shape_posts) .none kV_Shape_posts dc_Shape_posts pm_Shape_posts an_Shape_posts cd_Shape_posts ct_Shape_posts), sl_Shape_posts⟩)
    (c_Shape_posts : PySem.W.codeIn K cd_Shape_posts "Shape.posts" = true)
    (k_Shape_posts : PySem.W.keepIn K (.ref f_Shape_posts) = true)
    (at_Shape_there : PySem.W.findIn K (.ref C_Shape) "there" = some (some (.ref r_Shape_there)))
    (gt_Shape_there : PySem.W.specialIn K (.ref r_Shape_there) "__get__" = some (some (.builtin "property.__get__")))
    (tk_Shape_there : PySem.W.takesIn K (.ref r_Shape_there) = some true)
    (rc_Shape_there : PySem.W.recIn K r_Shape_there "property" = some (.ref f_Shape_there :: rs_Shape_there))
    (l_Shape_there : K.lookup f_Shape_there = some ⟨oc_Shape_there, od_Shape_there, .func (PySem.W.fnOf "there" "Shape.there" (defArgs s_Shape_there) (defBody s_Shape_there) (defScope s_Shape_there) .none kV_Shape_there dc_Shape_there pm_Shape_there an_Shape_there cd_Shape_there ct_Shape_there), sl_Shape_there⟩)
    (c_Shape_there : PySem.W.codeIn K cd_Shape_there "Shape.there" = true)
    (k_Shape_there : PySem.W.keepIn K (.ref f_Shape_there) = true)
    (at_Shape_lacking : PySem.W.findIn K (.ref C_Shape) "lacking" = some (some (.ref r_Shape_lacking)))
    (gt_Shape_lacking : PySem.W.specialIn K (.ref r_Shape_lacking) "__get__" = some (some (.builtin "property.__get__")))
    (tk_Shape_lacking : PySem.W.takesIn K (.ref r_Shape_lacking) = some true)
    (rc_Shape_lacking : PySem.W.recIn K r_Shape_lacking "property" = some (.ref f_Shape_lacking :: rs_Shape_lacking))
    (l_Shape_lacking : K.lookup f_Shape_lacking = some ⟨oc_Shape_lacking, od_Shape_lacking, .func (PySem.W.fnOf "lacking" "Shape.lacking" (defArgs s_Shape_lacking) (defBody s_Shape_lacking) (defScope s_Shape_lacking) .none kV_Shape_lacking dc_Shape_lacking pm_Shape_lacking an_Shape_lacking cd_Shape_lacking ct_Shape_lacking), sl_Shape_lacking⟩)
    (c_Shape_lacking : PySem.W.codeIn K cd_Shape_lacking "Shape.lacking" = true)
    (k_Shape_lacking : PySem.W.keepIn K (.ref f_Shape_lacking) = true)
    (at_Shape_names : PySem.W.findIn K (.ref C_Shape) "names" = some (some (.ref r_Shape_names)))
    (gt_Shape_names : PySem.W.specialIn K (.ref r_Shape_names) "__get__" = some (some (.builtin "property.__get__")))
    (tk_Shape_names : PySem.W.takesIn K (.ref r_Shape_names) = some true)
    (rc_Shape_names : PySem.W.recIn K r_Shape_names "property" = some (.ref f_Shape_names :: rs_Shape_names))
    (l_Shape_names : K.lookup f_Shape_names = some ⟨oc_Shape_names, od_Shape_names, .func (PySem.W.fnOf "names" "Shape.names" (defArgs s_Shape_names) (defBody s_Shape_names) (defScope s_Shape_names) .none kV_Shape_names dc_Shape_names pm_Shape_names an_Shape_names cd_Shape_names ct_Shape_names), sl_Shape_names⟩)
    (c_Shape_names : PySem.W.codeIn K cd_Shape_names "Shape.names" = true)
    (k_Shape_names : PySem.W.keepIn K (.ref f_Shape_names) = true)
    (at_Shape_is_sure : PySem.W.findIn K (.ref C_Shape) "is_sure" = some (some (.ref r_Shape_is_sure)))
    (gt_Shape_is_sure : PySem.W.specialIn K (.ref r_Shape_is_sure) "__get__" = some (some (.builtin "property.__get__")))
    (tk_Shape_is_sure : PySem.W.takesIn K (.ref r_Shape_is_sure) = some true)
    (rc_Shape_is_sure : PySem.W.recIn K r_Shape_is_sure "property" = some (.ref f_Shape_is_sure :: rs_Shape_is_sure))
    (l_Shape_is_sure : K.lookup f_Shape_is_sure = some ⟨oc_Shape_is_sure, od_Shape_is_sure, .func (PySem.W.fnOf "is_sure" "Shape.is_sure" (defArgs s_Shape_is_sure) (defBody s_Shape_is_sure) (defScope s_Shape_is_sure) .none kV_Shape_is_sure dc_Shape_is_sure pm_Shape_is_sure an_Shape_is_sure cd_Shape_is_sure ct_Shape_is_sure), sl_Shape_is_sure⟩)
    (c_Shape_is_sure : PySem.W.codeIn K cd_Shape_is_sure "Shape.is_sure" = true)
    (k_Shape_is_sure : PySem.W.keepIn K (.ref f_Shape_is_sure) = true)
    (a_Shape_len : PySem.W.findIn K (.ref C_Shape) "__len__" = some (some (.ref f_Shape_len)))
    (i_Shape_len : PySem.W.isFn K (.ref f_Shape_len) = true)
    (l_Shape_len : K.lookup f_Shape_len = some ⟨oc_Shape_len, od_Shape_len, .func (PySem.W.fnOf "__len__" "Shape.__len__" (defArgs s_Shape_len) (defBody s_Shape_len) (defScope s_Shape_len) .none kV_Shape_len dc_Shape_len pm_Shape_len an_Shape_len cd_Shape_len ct_Shape_len), sl_Shape_len⟩)
    (c_Shape_len : PySem.W.codeIn K cd_Shape_len "Shape.__len__" = true)
    (k_Shape_len : PySem.W.keepIn K (.ref f_Shape_len) = true)
    (a_Shape_eq : PySem.W.findIn K (.ref C_Shape) "__eq__" = some (some (.ref f_Shape_eq)))
    (i_Shape_eq : PySem.W.isFn K (.ref f_Shape_eq) = true)
    (l_Shape_eq : K.lookup f_Shape_eq = some ⟨oc_Shape_eq, od_Shape_eq, .func (PySem.W.fnOf "__eq__" "Shape.__eq__" (defArgs s_Shape_eq) (defBody s_Shape_eq) (defScope s_Shape_eq) .none kV_Shape_eq dc_Shape_eq pm_Shape_eq an_Shape_eq cd_Shape_eq ct_Shape_eq), sl_Shape_eq⟩)
    (c_Shape_eq : PySem.W.codeIn K cd_Shape_eq "Shape.__eq__" = true)
    (k_Shape_eq : PySem.W.keepIn K (.ref f_Shape_eq) = true)
    (a_Shape_str : PySem.W.findIn K (.ref C_Shape) "__str__" = some (some (.ref f_Shape_str)))
    (i_Shape_str : PySem.W.isFn K (.ref f_Shape_str) = true)
    (l_Shape_str : K.lookup f_Shape_str = some ⟨oc_Shape_str, od_Shape_str, .func (PySem.W.fnOf "__str__" "Shape.__str__" (defArgs s_Shape_str) (defBody s_Shape_str) (defScope s_Shape_str) .none kV_Shape_str dc_Shape_str pm_Shape_str an_Shape_str cd_Shape_str ct_Shape_str), sl_Shape_str⟩)
    (c_Shape_str : PySem.W.codeIn K cd_Shape_str "Shape.__str__" = true)
    (k_Shape_str : PySem.W.keepIn K (.ref f_Shape_str) = true)
    (a_is_sure_in : PySem.W.nsIn K mainGlobals "is_sure_in" = some (some (.ref f_is_sure_in)))
    (l_is_sure_in : K.lookup f_is_sure_in = some ⟨oc_is_sure_in, od_is_sure_in, .func (PySem.W.fnOf "is_sure_in" "is_sure_in" (defArgs s_is_sure_in) (defBody s_is_sure_in) (defScope s_is_sure_in) .none kV_is_sure_in dc_is_sure_in pm_is_sure_in an_is_sure_in cd_is_sure_in ct_is_sure_in), sl_is_sure_in⟩)
    (c_is_sure_in : PySem.W.codeIn K cd_is_sure_in "is_sure_in" = true)
    (k_is_sure_in : PySem.W.keepIn K (.ref f_is_sure_in) = true)
    (a_law_dice : PySem.W.nsIn K mainGlobals "_law_dice" = some (some (.ref f_law_dice)))
    (l_law_dice : K.lookup f_law_dice = some ⟨oc_law_dice, od_law_dice, .func (PySem.W.fnOf "_law_dice" "_law_dice" (defArgs s_law_dice) (defBody s_law_dice) (defScope s_law_dice) .none kV_law_dice dc_law_dice pm_law_dice an_law_dice cd_law_dice ct_law_dice), sl_law_dice⟩)
    (c_law_dice : PySem.W.codeIn K cd_law_dice "_law_dice" = true)
    (k_law_dice : PySem.W.keepIn K (.ref f_law_dice) = true)
    (a_law_roll : PySem.W.nsIn K mainGlobals "_law_roll" = some (some (.ref f_law_roll)))
    (l_law_roll : K.lookup f_law_roll = some ⟨oc_law_roll, od_law_roll, .func (PySem.W.fnOf "_law_roll" "_law_roll" (defArgs s_law_roll) (defBody s_law_roll) (defScope s_law_roll) .none kV_law_roll dc_law_roll pm_law_roll an_law_roll cd_law_roll ct_law_roll), sl_law_roll⟩)
    (c_law_roll : PySem.W.codeIn K cd_law_roll "_law_roll" = true)
    (k_law_roll : PySem.W.keepIn K (.ref f_law_roll) = true)
    (a_law_pick : PySem.W.nsIn K mainGlobals "_law_pick" = some (some (.ref f_law_pick)))
    (l_law_pick : K.lookup f_law_pick = some ⟨oc_law_pick, od_law_pick, .func (PySem.W.fnOf "_law_pick" "_law_pick" (defArgs s_law_pick) (defBody s_law_pick) (defScope s_law_pick) .none kV_law_pick dc_law_pick pm_law_pick an_law_pick cd_law_pick ct_law_pick), sl_law_pick⟩)
    (c_law_pick : PySem.W.codeIn K cd_law_pick "_law_pick" = true)
    (k_law_pick : PySem.W.keepIn K (.ref f_law_pick) = true)
    (a_law_mixed : PySem.W.nsIn K mainGlobals "_law_mixed" = some (some (.ref f_law_mixed)))
    (l_law_mixed : K.lookup f_law_mixed = some ⟨oc_law_mixed, od_law_mixed, .func (PySem.W.fnOf "_law_mixed" "_law_mixed" (defArgs s_law_mixed) (defBody s_law_mixed) (defScope s_law_mixed) .none kV_law_mixed dc_law_mixed pm_law_mixed an_law_mixed cd_law_mixed ct_law_mixed), sl_law_mixed⟩)
    (c_law_mixed : PySem.W.codeIn K cd_law_mixed "_law_mixed" = true)
    (k_law_mixed : PySem.W.keepIn K (.ref f_law_mixed) = true)
    (a_law_labels : PySem.W.nsIn K mainGlobals "_law_labels" = some (some (.ref f_law_labels)))
    (l_law_labels : K.lookup f_law_labels = some ⟨oc_law_labels, od_law_labels, .func (PySem.W.fnOf "_law_labels" "_law_labels" (defArgs s_law_labels) (defBody s_law_labels) (defScope s_law_labels) .none kV_law_labels dc_law_labels pm_law_labels an_law_labels cd_law_labels ct_law_labels), sl_law_labels⟩)
    (c_law_labels : PySem.W.codeIn K cd_law_labels "_law_labels" = true)
    (k_law_labels : PySem.W.keepIn K (.ref f_law_labels) = true)
    (a_law_drawn : PySem.W.nsIn K mainGlobals "_law_drawn" = some (some (.ref f_law_drawn)))
    (l_law_drawn : K.lookup f_law_drawn = some ⟨oc_law_drawn, od_law_drawn, .func (PySem.W.fnOf "_law_drawn" "_law_drawn" (defArgs s_law_drawn) (defBody s_law_drawn) (defScope s_law_drawn) .none kV_law_drawn dc_law_drawn pm_law_drawn an_law_drawn cd_law_drawn ct_law_drawn), sl_law_drawn⟩)
    (c_law_drawn : PySem.W.codeIn K cd_law_drawn "_law_drawn" = true)
    (k_law_drawn : PySem.W.keepIn K (.ref f_law_drawn) = true)
    (a_law_is : PySem.W.nsIn K mainGlobals "_law_is" = some (some (.ref f_law_is)))
    (l_law_is : K.lookup f_law_is = some ⟨oc_law_is, od_law_is, .func (PySem.W.fnOf "_law_is" "_law_is" (defArgs s_law_is) (defBody s_law_is) (defScope s_law_is) .none kV_law_is dc_law_is pm_law_is an_law_is cd_law_is ct_law_is), sl_law_is⟩)
    (c_law_is : PySem.W.codeIn K cd_law_is "_law_is" = true)
    (k_law_is : PySem.W.keepIn K (.ref f_law_is) = true)
    (a_law_unlike : PySem.W.nsIn K mainGlobals "_law_unlike" = some (some (.ref f_law_unlike)))
    (l_law_unlike : K.lookup f_law_unlike = some ⟨oc_law_unlike, od_law_unlike, .func (PySem.W.fnOf "_law_unlike" "_law_unlike" (defArgs s_law_unlike) (defBody s_law_unlike) (defScope s_law_unlike) .none kV_law_unlike dc_law_unlike pm_law_unlike an_law_unlike cd_law_unlike ct_law_unlike), sl_law_unlike⟩)
    (c_law_unlike : PySem.W.codeIn K cd_law_unlike "_law_unlike" = true)
    (k_law_unlike : PySem.W.keepIn K (.ref f_law_unlike) = true)
    (a_law_right : PySem.W.nsIn K mainGlobals "_law_right" = some (some (.ref f_law_right)))
    (l_law_right : K.lookup f_law_right = some ⟨oc_law_right, od_law_right, .func (PySem.W.fnOf "_law_right" "_law_right" (defArgs s_law_right) (defBody s_law_right) (defScope s_law_right) .none kV_law_right dc_law_right pm_law_right an_law_right cd_law_right ct_law_right), sl_law_right⟩)
    (c_law_right : PySem.W.codeIn K cd_law_right "_law_right" = true)
    (k_law_right : PySem.W.keepIn K (.ref f_law_right) = true)
    (a_law : PySem.W.nsIn K mainGlobals "law" = some (some (.ref f_law)))
    (l_law : K.lookup f_law = some ⟨oc_law, od_law, .func (PySem.W.fnOf "law" "law" (defArgs s_law) (defBody s_law) (defScope s_law) .none kV_law dc_law pm_law an_law cd_law ct_law), sl_law⟩)
    (c_law : PySem.W.codeIn K cd_law "law" = true)
    (k_law : PySem.W.keepIn K (.ref f_law) = true)
    (pg_Sheet : PySem.W.plainGet K C_Sheet Str.empty = true)
    (hd_Sheet : PySem.W.hasDictIn K C_Sheet = true)
    (po_Sheet : PySem.W.plainOver K C_Sheet = true)
    (sa_Sheet : PySem.W.findIn K (.ref C_Sheet) "__setattr__" = some (some (.builtin "object.__setattr__")))
    (cc_Sheet : PySem.W.findIn K (.ref C_Sheet) "__class__" = some (some (.builtin "object.__class__")))
    (cg_Sheet : PySem.W.specialIn K (.builtin "object.__class__") "__get__" = some (some (.builtin "getset_descriptor.__get__")))
    (ct_Sheet : PySem.W.takesIn K (.builtin "object.__class__") = some true)
    (mr_Sheet : PySem.W.mroIn K C_Sheet (.type "object") = some true)
    (ne_Sheet : PySem.W.findIn K (.ref C_Sheet) "__ne__" = some (some (.builtin "object.__ne__")))
    (ic_Sheet : PySem.W.isClsIn K C_Sheet = true)
    (it_Sheet : PySem.W.typeIn K (.ref C_Sheet) = some (.type "type"))
    (mk_Sheet : PySem.W.makesIn K C_Sheet = true)
    (kc_Sheet : PySem.W.keepIn K (.ref C_Sheet) = true)
    (n_Sheet_own_kinds : PySem.W.findIn K (.ref C_Sheet) "own_kinds" = some none)
    (n_Sheet_own_words : PySem.W.findIn K (.ref C_Sheet) "own_words" = some none)
    (pg_Shape : PySem.W.plainGet K C_Shape Str.empty = true)
    (hd_Shape : PySem.W.hasDictIn K C_Shape = true)
    (po_Shape : PySem.W.plainOver K C_Shape = true)
    (sa_Shape : PySem.W.findIn K (.ref C_Shape) "__setattr__" = some (some (.builtin "object.__setattr__")))
    (cc_Shape : PySem.W.findIn K (.ref C_Shape) "__class__" = some (some (.builtin "object.__class__")))
    (cg_Shape : PySem.W.specialIn K (.builtin "object.__class__") "__get__" = some (some (.builtin "getset_descriptor.__get__")))
    (ct_Shape : PySem.W.takesIn K (.builtin "object.__class__") = some true)
    (mr_Shape : PySem.W.mroIn K C_Shape (.type "object") = some true)
    (ne_Shape : PySem.W.findIn K (.ref C_Shape) "__ne__" = some (some (.builtin "object.__ne__")))
    (ic_Shape : PySem.W.isClsIn K C_Shape = true)
    (it_Shape : PySem.W.typeIn K (.ref C_Shape) = some (.type "type"))
    (mk_Shape : PySem.W.makesIn K C_Shape = true)
    (kc_Shape : PySem.W.keepIn K (.ref C_Shape) = true)
    (n_Shape_own_sheet : PySem.W.findIn K (.ref C_Shape) "own_sheet" = some none)
    (n_Shape_own_posts : PySem.W.findIn K (.ref C_Shape) "own_posts" = some none)
    (n_Shape_own_there : PySem.W.findIn K (.ref C_Shape) "own_there" = some none)
    (n_Shape_own_lacking : PySem.W.findIn K (.ref C_Shape) "own_lacking" = some none)
    (x_ShapeError : PySem.W.excIn K C_ShapeError [.type "ValueError", .type "Exception", .type "BaseException", .type "object"] "ValueError.__new__" = true)
    (k_ShapeError : PySem.W.keepIn K (.ref C_ShapeError) = true)
    (s_ShapeError : PySem.W.subIn K (.ref C_ShapeError) (.type "BaseException") = some true)
    (t_ShapeError : PySem.W.typeIn K (.ref C_ShapeError) = some (.type "type"))
    (i_ShapeError : PySem.W.isClsIn K C_ShapeError = true)
    (ss_ShapeError : PySem.W.subIn K (.ref C_ShapeError) (.ref C_ShapeError) = some true)
    (x_InvalidSheet : PySem.W.excIn K C_InvalidSheet [.type "ValueError", .type "Exception", .type "BaseException", .type "object"] "ValueError.__new__" = true)
    (k_InvalidSheet : PySem.W.keepIn K (.ref C_InvalidSheet) = true)
    (s_InvalidSheet : PySem.W.subIn K (.ref C_InvalidSheet) (.type "BaseException") = some true)
    (t_InvalidSheet : PySem.W.typeIn K (.ref C_InvalidSheet) = some (.type "type"))
    (i_InvalidSheet : PySem.W.isClsIn K C_InvalidSheet = true)
    (ss_InvalidSheet : PySem.W.subIn K (.ref C_InvalidSheet) (.ref C_InvalidSheet) = some true)
    (x_InvalidShape : PySem.W.excIn K C_InvalidShape [.type "ValueError", .type "Exception", .type "BaseException", .type "object"] "ValueError.__new__" = true)
    (k_InvalidShape : PySem.W.keepIn K (.ref C_InvalidShape) = true)
    (s_InvalidShape : PySem.W.subIn K (.ref C_InvalidShape) (.type "BaseException") = some true)
    (t_InvalidShape : PySem.W.typeIn K (.ref C_InvalidShape) = some (.type "type"))
    (i_InvalidShape : PySem.W.isClsIn K C_InvalidShape = true)
    (ss_InvalidShape : PySem.W.subIn K (.ref C_InvalidShape) (.ref C_InvalidShape) = some true)
    (y_ss_no : PySem.W.subIn K (.ref C_Sheet) (.ref C_Shape) = some false)
    (y_ss_ne : (Value.ref C_Sheet == Value.ref C_Shape) = false)
    (v_MAX_KINDS : PySem.W.nsIn K mainGlobals "MAX_KINDS" = some (some (.int 3 t_MAX_KINDS)))
    (v_MAX_WORDS : PySem.W.nsIn K mainGlobals "MAX_WORDS" = some (some (.int 2 t_MAX_WORDS)))
    (v_MAX_LETTERS : PySem.W.nsIn K mainGlobals "MAX_LETTERS" = some (some (.int 8 t_MAX_LETTERS)))
    (v_LETTERS : PySem.W.nsIn K mainGlobals "LETTERS" = some (some (.str "abcdefghijklmnopqrstuvwxyz" t_LETTERS)))
    (v_MAX_NAMES : PySem.W.nsIn K mainGlobals "MAX_NAMES" = some (some (.int 12 t_MAX_NAMES)))
    (z_abs : PySem.W.nsIn K mainGlobals "abs" = some none)
    (z_all : PySem.W.nsIn K mainGlobals "all" = some none)
    (z_any : PySem.W.nsIn K mainGlobals "any" = some none)
    (z_dict : PySem.W.nsIn K mainGlobals "dict" = some none)
    (z_int : PySem.W.nsIn K mainGlobals "int" = some none)
    (z_isinstance : PySem.W.nsIn K mainGlobals "isinstance" = some none)
    (z_len : PySem.W.nsIn K mainGlobals "len" = some none)
    (z_list : PySem.W.nsIn K mainGlobals "list" = some none)
    (z_max : PySem.W.nsIn K mainGlobals "max" = some none)
    (z_min : PySem.W.nsIn K mainGlobals "min" = some none)
    (z_property : PySem.W.nsIn K mainGlobals "property" = some none)
    (z_range : PySem.W.nsIn K mainGlobals "range" = some none)
    (z_repr : PySem.W.nsIn K mainGlobals "repr" = some none)
    (z_sorted : PySem.W.nsIn K mainGlobals "sorted" = some none)
    (z_str : PySem.W.nsIn K mainGlobals "str" = some none)
    (z_tuple : PySem.W.nsIn K mainGlobals "tuple" = some none)
    : ∃ fd : FuncData, (∀ (s : Shared) (v : Value), BindsTo s fd ⟨[v], []⟩ [("_law_script", v)]) ∧ ∀ base : Heap, K.In base → base.Ns mainGlobals mg → FnG l.prog w K mg base 7 fa fd ["_law_script"] (spLaw K) := by
  have e : f_law = fa := by
    have e := hfa.symm.trans (PySem.W.mg_of X G a_law)
    cases e
    rfl
  subst e
  have F_is_name := fun_mk (st := s_is_name) l_is_name c_is_name k_is_name
  have b_is_name := F_is_name.binds (ps := ["value"]) fun _ _ _ _ _ _ us hl => match us, hl with | [_], _ => rfl
  have F_are_names := fun_mk (st := s_are_names) l_are_names c_are_names k_are_names
  have b_are_names := F_are_names.binds (ps := ["value", "most"]) fun _ _ _ _ _ _ us hl => match us, hl with | [_, _], _ => rfl
  have F_Sheet_init := fun_mk (st := s_Sheet_init) l_Sheet_init c_Sheet_init k_Sheet_init
  have b_Sheet_init := F_Sheet_init.binds (ps := ["self", "kinds", "words"]) fun _ _ _ _ _ _ us hl => match us, hl with | [_, _, _], _ => rfl
  have F_Sheet_kinds := fun_mk (st := s_Sheet_kinds) l_Sheet_kinds c_Sheet_kinds k_Sheet_kinds
  have b_Sheet_kinds := F_Sheet_kinds.binds (ps := ["self"]) fun _ _ _ _ _ _ us hl => match us, hl with | [_], _ => rfl
  have F_Sheet_words := fun_mk (st := s_Sheet_words) l_Sheet_words c_Sheet_words k_Sheet_words
  have b_Sheet_words := F_Sheet_words.binds (ps := ["self"]) fun _ _ _ _ _ _ us hl => match us, hl with | [_], _ => rfl
  have F_Sheet_eq := fun_mk (st := s_Sheet_eq) l_Sheet_eq c_Sheet_eq k_Sheet_eq
  have b_Sheet_eq := F_Sheet_eq.binds (ps := ["self", "other"]) fun _ _ _ _ _ _ us hl => match us, hl with | [_, _], _ => rfl
  have F_Sheet_str := fun_mk (st := s_Sheet_str) l_Sheet_str c_Sheet_str k_Sheet_str
  have b_Sheet_str := F_Sheet_str.binds (ps := ["self"]) fun _ _ _ _ _ _ us hl => match us, hl with | [_], _ => rfl
  have F_require_sheet := fun_mk (st := s_require_sheet) l_require_sheet c_require_sheet k_require_sheet
  have b_require_sheet := F_require_sheet.binds (ps := ["sheet"]) fun _ _ _ _ _ _ us hl => match us, hl with | [_], _ => rfl
  have F_is_kind := fun_mk (st := s_is_kind) l_is_kind c_is_kind k_is_kind
  have b_is_kind := F_is_kind.binds (ps := ["sheet", "value"]) fun _ _ _ _ _ _ us hl => match us, hl with | [_, _], _ => rfl
  have F_is_tie := fun_mk (st := s_is_tie) l_is_tie c_is_tie k_is_tie
  have b_is_tie := F_is_tie.binds (ps := ["sheet", "value"]) fun _ _ _ _ _ _ us hl => match us, hl with | [_, _], _ => rfl
  have F_are_posts := fun_mk (st := s_are_posts) l_are_posts c_are_posts k_are_posts
  have b_are_posts := F_are_posts.binds (ps := ["sheet", "value"]) fun _ _ _ _ _ _ us hl => match us, hl with | [_, _], _ => rfl
  have F_is_triple_of := fun_mk (st := s_is_triple_of) l_is_triple_of c_is_triple_of k_is_triple_of
  have b_is_triple_of := F_is_triple_of.binds (ps := ["sheet", "names", "value"]) fun _ _ _ _ _ _ us hl => match us, hl with | [_, _, _], _ => rfl
  have F_are_triples := fun_mk (st := s_are_triples) l_are_triples c_are_triples k_are_triples
  have b_are_triples := F_are_triples.binds (ps := ["sheet", "names", "value"]) fun _ _ _ _ _ _ us hl => match us, hl with | [_, _, _], _ => rfl
  have F_Shape_init : FunD K "__init__" "Shape.__init__" (defArgs s_Shape_init) (defBody s_Shape_init) (defScope s_Shape_init) [.ref e_Shape_init_0, .ref e_Shape_init_1] [] f_Shape_init _ := ⟨⟨_, _, _, _, _, _, _, _, _, _, rfl, l_Shape_init, c_Shape_init, .inr ⟨(fun z => nomatch z), dT_Shape_init, _, _, _, rfl, dl_Shape_init, rfl, (.cons rfl (.cons rfl .nil))⟩, .inl rfl⟩, k_Shape_init⟩
  have b_Shape_init : Binds K _ ["self", "sheet", "posts", "there", "lacking"] [] := dfl_binds F_Shape_init dl_Shape_init 5 2 rfl fun us its h1 h2 => match us, its, h1, h2 with | [_, _, _, _, _], [_, _], _, _ => ⟨_, rfl, rfl⟩
  have b_Shape_init_1 : Binds K _ ["self", "sheet", "posts", "there", "lacking"] [.ref e_Shape_init_1] := dfl_binds F_Shape_init dl_Shape_init 4 1 rfl fun us its h1 h2 => match us, its, h1, h2 with | [_, _, _, _], [_, _], _, _ => ⟨_, rfl, rfl⟩
  have b_Shape_init_2 : Binds K _ ["self", "sheet", "posts", "there", "lacking"] [.ref e_Shape_init_0, .ref e_Shape_init_1] := dfl_binds F_Shape_init dl_Shape_init 3 0 rfl fun us its h1 h2 => match us, its, h1, h2 with | [_, _, _], [_, _], _, _ => ⟨_, rfl, rfl⟩
  have F_Shape_sheet := fun_mk (st := s_Shape_sheet) l_Shape_sheet c_Shape_sheet k_Shape_sheet
  have b_Shape_sheet := F_Shape_sheet.binds (ps := ["self"]) fun _ _ _ _ _ _ us hl => match us, hl with | [_], _ => rfl
  have F_Shape_posts := fun_mk (st := s_Shape_posts) l_Shape_posts c_Shape_posts k_Shape_posts
  have b_Shape_posts := F_Shape_posts.binds (ps := ["self"]) fun _ _ _ _ _ _ us hl => match us, hl with | [_], _ => rfl
  have F_Shape_there := fun_mk (st := s_Shape_there) l_Shape_there c_Shape_there k_Shape_there
  have b_Shape_there := F_Shape_there.binds (ps := ["self"]) fun _ _ _ _ _ _ us hl => match us, hl with | [_], _ => rfl
  have F_Shape_lacking := fun_mk (st := s_Shape_lacking) l_Shape_lacking c_Shape_lacking k_Shape_lacking
  have b_Shape_lacking := F_Shape_lacking.binds (ps := ["self"]) fun _ _ _ _ _ _ us hl => match us, hl with | [_], _ => rfl
  have F_Shape_names := fun_mk (st := s_Shape_names) l_Shape_names c_Shape_names k_Shape_names
  have b_Shape_names := F_Shape_names.binds (ps := ["self"]) fun _ _ _ _ _ _ us hl => match us, hl with | [_], _ => rfl
  have F_Shape_is_sure := fun_mk (st := s_Shape_is_sure) l_Shape_is_sure c_Shape_is_sure k_Shape_is_sure
  have b_Shape_is_sure := F_Shape_is_sure.binds (ps := ["self"]) fun _ _ _ _ _ _ us hl => match us, hl with | [_], _ => rfl
  have F_Shape_len := fun_mk (st := s_Shape_len) l_Shape_len c_Shape_len k_Shape_len
  have b_Shape_len := F_Shape_len.binds (ps := ["self"]) fun _ _ _ _ _ _ us hl => match us, hl with | [_], _ => rfl
  have F_Shape_eq := fun_mk (st := s_Shape_eq) l_Shape_eq c_Shape_eq k_Shape_eq
  have b_Shape_eq := F_Shape_eq.binds (ps := ["self", "other"]) fun _ _ _ _ _ _ us hl => match us, hl with | [_, _], _ => rfl
  have F_Shape_str := fun_mk (st := s_Shape_str) l_Shape_str c_Shape_str k_Shape_str
  have b_Shape_str := F_Shape_str.binds (ps := ["self"]) fun _ _ _ _ _ _ us hl => match us, hl with | [_], _ => rfl
  have F_is_sure_in := fun_mk (st := s_is_sure_in) l_is_sure_in c_is_sure_in k_is_sure_in
  have b_is_sure_in := F_is_sure_in.binds (ps := ["shape"]) fun _ _ _ _ _ _ us hl => match us, hl with | [_], _ => rfl
  have F_law_dice := fun_mk (st := s_law_dice) l_law_dice c_law_dice k_law_dice
  have b_law_dice := F_law_dice.binds (ps := ["_law_script", "_law_at"]) fun _ _ _ _ _ _ us hl => match us, hl with | [_, _], _ => rfl
  have F_law_roll := fun_mk (st := s_law_roll) l_law_roll c_law_roll k_law_roll
  have b_law_roll := F_law_roll.binds (ps := ["_law_dice_here", "_law_upto"]) fun _ _ _ _ _ _ us hl => match us, hl with | [_, _], _ => rfl
  have F_law_pick := fun_mk (st := s_law_pick) l_law_pick c_law_pick k_law_pick
  have b_law_pick := F_law_pick.binds (ps := ["_law_dice_here", "_law_items"]) fun _ _ _ _ _ _ us hl => match us, hl with | [_, _], _ => rfl
  have F_law_mixed := fun_mk (st := s_law_mixed) l_law_mixed c_law_mixed k_law_mixed
  have b_law_mixed := F_law_mixed.binds (ps := ["_law_dice_here", "_law_items"]) fun _ _ _ _ _ _ us hl => match us, hl with | [_, _], _ => rfl
  have F_law_labels := fun_mk (st := s_law_labels) l_law_labels c_law_labels k_law_labels
  have b_law_labels := F_law_labels.binds (ps := ["_law_dice_here", "_law_many"]) fun _ _ _ _ _ _ us hl => match us, hl with | [_, _], _ => rfl
  have F_law_drawn := fun_mk (st := s_law_drawn) l_law_drawn c_law_drawn k_law_drawn
  have b_law_drawn := F_law_drawn.binds (ps := ["_law_dice_here", "_law_kinds", "_law_words"]) fun _ _ _ _ _ _ us hl => match us, hl with | [_, _, _], _ => rfl
  have F_law_is := fun_mk (st := s_law_is) l_law_is c_law_is k_law_is
  have b_law_is := F_law_is.binds (ps := ["_law_shape", "_law_sheet", "_law_posts", "_law_some", "_law_others"]) fun _ _ _ _ _ _ us hl => match us, hl with | [_, _, _, _, _], _ => rfl
  have F_law_unlike := fun_mk (st := s_law_unlike) l_law_unlike c_law_unlike k_law_unlike
  have b_law_unlike := F_law_unlike.binds (ps := ["_law_dice_here", "_law_kinds", "_law_words", "_law_plain"]) fun _ _ _ _ _ _ us hl => match us, hl with | [_, _, _, _], _ => rfl
  have F_law_right := fun_mk (st := s_law_right) l_law_right c_law_right k_law_right
  have b_law_right := F_law_right.binds (ps := ["_law_dice_here"]) fun _ _ _ _ _ _ us hl => match us, hl with | [_], _ => rfl
  have F_law := fun_mk (st := s_law) l_law c_law k_law
  have b_law := F_law.binds (ps := ["_law_script"]) fun _ _ _ _ _ _ us hl => match us, hl with | [_], _ => rfl
  have cl_Sheet : Cls K C_Sheet := ⟨pg_Sheet, hd_Sheet, po_Sheet, sa_Sheet⟩
  have cl_Shape : Cls K C_Shape := ⟨pg_Shape, hd_Shape, po_Shape, sa_Shape⟩
  have T : Txt K mg { a_is_name := f_is_name, d_is_name := PySem.W.fnOf "is_name" "is_name" (defArgs s_is_name) (defBody s_is_name) (defScope s_is_name) .none kV_is_name dc_is_name pm_is_name an_is_name cd_is_name ct_is_name, a_are_names := f_are_names, d_are_names := PySem.W.fnOf "are_names" "are_names" (defArgs s_are_names) (defBody s_are_names) (defScope s_are_names) .none kV_are_names dc_are_names pm_are_names an_are_names cd_are_names ct_are_names, a_Sheet_init := f_Sheet_init, d_Sheet_init := PySem.W.fnOf "__init__" "Sheet.__init__" (defArgs s_Sheet_init) (defBody s_Sheet_init) (defScope s_Sheet_init) .none kV_Sheet_init dc_Sheet_init pm_Sheet_init an_Sheet_init cd_Sheet_init ct_Sheet_init, a_Sheet_kinds := f_Sheet_kinds, d_Sheet_kinds := PySem.W.fnOf "kinds" "Sheet.kinds" (defArgs s_Sheet_kinds) (defBody s_Sheet_kinds) (defScope s_Sheet_kinds) .none kV_Sheet_kinds dc_Sheet_kinds pm_Sheet_kinds an_Sheet_kinds cd_Sheet_kinds ct_Sheet_kinds, p_Sheet_kinds := r_Sheet_kinds, a_Sheet_words := f_Sheet_words, d_Sheet_words := PySem.W.fnOf "words" "Sheet.words" (defArgs s_Sheet_words) (defBody s_Sheet_words) (defScope s_Sheet_words) .none kV_Sheet_words dc_Sheet_words pm_Sheet_words an_Sheet_words cd_Sheet_words ct_Sheet_words, p_Sheet_words := r_Sheet_words, a_Sheet_eq := f_Sheet_eq, d_Sheet_eq := PySem.W.fnOf "__eq__" "Sheet.__eq__" (defArgs s_Sheet_eq) (defBody s_Sheet_eq) (defScope s_Sheet_eq) .none kV_Sheet_eq dc_Sheet_eq pm_Sheet_eq an_Sheet_eq cd_Sheet_eq ct_Sheet_eq, a_Sheet_str := f_Sheet_str, d_Sheet_str := PySem.W.fnOf "__str__" "Sheet.__str__" (defArgs s_Sheet_str) (defBody s_Sheet_str) (defScope s_Sheet_str) .none kV_Sheet_str dc_Sheet_str pm_Sheet_str an_Sheet_str cd_Sheet_str ct_Sheet_str, a_require_sheet := f_require_sheet, d_require_sheet := PySem.W.fnOf "require_sheet" "require_sheet" (defArgs s_require_sheet) (defBody s_require_sheet) (defScope s_require_sheet) .none kV_require_sheet dc_require_sheet pm_require_sheet an_require_sheet cd_require_sheet ct_require_sheet, a_is_kind := f_is_kind, d_is_kind := PySem.W.fnOf "is_kind" "is_kind" (defArgs s_is_kind) (defBody s_is_kind) (defScope s_is_kind) .none kV_is_kind dc_is_kind pm_is_kind an_is_kind cd_is_kind ct_is_kind, a_is_tie := f_is_tie, d_is_tie := PySem.W.fnOf "is_tie" "is_tie" (defArgs s_is_tie) (defBody s_is_tie) (defScope s_is_tie) .none kV_is_tie dc_is_tie pm_is_tie an_is_tie cd_is_tie ct_is_tie, a_are_posts := f_are_posts, d_are_posts := PySem.W.fnOf "are_posts" "are_posts" (defArgs s_are_posts) (defBody s_are_posts) (defScope s_are_posts) .none kV_are_posts dc_are_posts pm_are_posts an_are_posts cd_are_posts ct_are_posts, a_is_triple_of := f_is_triple_of, d_is_triple_of := PySem.W.fnOf "is_triple_of" "is_triple_of" (defArgs s_is_triple_of) (defBody s_is_triple_of) (defScope s_is_triple_of) .none kV_is_triple_of dc_is_triple_of pm_is_triple_of an_is_triple_of cd_is_triple_of ct_is_triple_of, a_are_triples := f_are_triples, d_are_triples := PySem.W.fnOf "are_triples" "are_triples" (defArgs s_are_triples) (defBody s_are_triples) (defScope s_are_triples) .none kV_are_triples dc_are_triples pm_are_triples an_are_triples cd_are_triples ct_are_triples, e_Shape_init_0 := e_Shape_init_0, e_Shape_init_1 := e_Shape_init_1, a_Shape_init := f_Shape_init, d_Shape_init := PySem.W.fnOf "__init__" "Shape.__init__" (defArgs s_Shape_init) (defBody s_Shape_init) (defScope s_Shape_init) (.ref dT_Shape_init) kV_Shape_init dc_Shape_init pm_Shape_init an_Shape_init cd_Shape_init ct_Shape_init, a_Shape_sheet := f_Shape_sheet, d_Shape_sheet := PySem.W.fnOf "sheet" "Shape.sheet" (defArgs s_Shape_sheet) (defBody s_Shape_sheet) (defScope s_Shape_sheet) .none kV_Shape_sheet dc_Shape_sheet pm_Shape_sheet an_Shape_sheet cd_Shape_sheet ct_Shape_sheet, p_Shape_sheet := r_Shape_sheet, a_Shape_posts := f_Shape_posts, d_Shape_posts := PySem.W.fnOf "posts" "Shape.posts" (defArgs s_Shape_posts) (defBody s_Shape_posts) (defScope s_Shape_posts) .none kV_Shape_posts dc_Shape_posts pm_Shape_posts an_Shape_posts cd_Shape_posts ct_Shape_posts, p_Shape_posts := r_Shape_posts, a_Shape_there := f_Shape_there, d_Shape_there := PySem.W.fnOf "there" "Shape.there" (defArgs s_Shape_there) (defBody s_Shape_there) (defScope s_Shape_there) .none kV_Shape_there dc_Shape_there pm_Shape_there an_Shape_there cd_Shape_there ct_Shape_there, p_Shape_there := r_Shape_there, a_Shape_lacking := f_Shape_lacking, d_Shape_lacking := PySem.W.fnOf "lacking" "Shape.lacking" (defArgs s_Shape_lacking) (defBody s_Shape_lacking) (defScope s_Shape_lacking) .none kV_Shape_lacking dc_Shape_lacking pm_Shape_lacking an_Shape_lacking cd_Shape_lacking ct_Shape_lacking, p_Shape_lacking := r_Shape_lacking, a_Shape_names := f_Shape_names, d_Shape_names := PySem.W.fnOf "names" "Shape.names" (defArgs s_Shape_names) (defBody s_Shape_names) (defScope s_Shape_names) .none kV_Shape_names dc_Shape_names pm_Shape_names an_Shape_names cd_Shape_names ct_Shape_names, p_Shape_names := r_Shape_names, a_Shape_is_sure := f_Shape_is_sure, d_Shape_is_sure := PySem.W.fnOf "is_sure" "Shape.is_sure" (defArgs s_Shape_is_sure) (defBody s_Shape_is_sure) (defScope s_Shape_is_sure) .none kV_Shape_is_sure dc_Shape_is_sure pm_Shape_is_sure an_Shape_is_sure cd_Shape_is_sure ct_Shape_is_sure, p_Shape_is_sure := r_Shape_is_sure, a_Shape_len := f_Shape_len, d_Shape_len := PySem.W.fnOf "__len__" "Shape.__len__" (defArgs s_Shape_len) (defBody s_Shape_len) (defScope s_Shape_len) .none kV_Shape_len dc_Shape_len pm_Shape_len an_Shape_len cd_Shape_len ct_Shape_len, a_Shape_eq := f_Shape_eq, d_Shape_eq := PySem.W.fnOf "__eq__" "Shape.__eq__" (defArgs s_Shape_eq) (defBody s_Shape_eq) (defScope s_Shape_eq) .none kV_Shape_eq dc_Shape_eq pm_Shape_eq an_Shape_eq cd_Shape_eq ct_Shape_eq, a_Shape_str := f_Shape_str, d_Shape_str := PySem.W.fnOf "__str__" "Shape.__str__" (defArgs s_Shape_str) (defBody s_Shape_str) (defScope s_Shape_str) .none kV_Shape_str dc_Shape_str pm_Shape_str an_Shape_str cd_Shape_str ct_Shape_str, a_is_sure_in := f_is_sure_in, d_is_sure_in := PySem.W.fnOf "is_sure_in" "is_sure_in" (defArgs s_is_sure_in) (defBody s_is_sure_in) (defScope s_is_sure_in) .none kV_is_sure_in dc_is_sure_in pm_is_sure_in an_is_sure_in cd_is_sure_in ct_is_sure_in, a_law_dice := f_law_dice, d_law_dice := PySem.W.fnOf "_law_dice" "_law_dice" (defArgs s_law_dice) (defBody s_law_dice) (defScope s_law_dice) .none kV_law_dice dc_law_dice pm_law_dice an_law_dice cd_law_dice ct_law_dice, a_law_roll := f_law_roll, d_law_roll := PySem.W.fnOf "_law_roll" "_law_roll" (defArgs s_law_roll) (defBody s_law_roll) (defScope s_law_roll) .none kV_law_roll dc_law_roll pm_law_roll an_law_roll cd_law_roll ct_law_roll, a_law_pick := f_law_pick, d_law_pick := PySem.W.fnOf "_law_pick" "_law_pick" (defArgs s_law_pick) (defBody s_law_pick) (defScope s_law_pick) .none kV_law_pick dc_law_pick pm_law_pick an_law_pick cd_law_pick ct_law_pick, a_law_mixed := f_law_mixed, d_law_mixed := PySem.W.fnOf "_law_mixed" "_law_mixed" (defArgs s_law_mixed) (defBody s_law_mixed) (defScope s_law_mixed) .none kV_law_mixed dc_law_mixed pm_law_mixed an_law_mixed cd_law_mixed ct_law_mixed, a_law_labels := f_law_labels, d_law_labels := PySem.W.fnOf "_law_labels" "_law_labels" (defArgs s_law_labels) (defBody s_law_labels) (defScope s_law_labels) .none kV_law_labels dc_law_labels pm_law_labels an_law_labels cd_law_labels ct_law_labels, a_law_drawn := f_law_drawn, d_law_drawn := PySem.W.fnOf "_law_drawn" "_law_drawn" (defArgs s_law_drawn) (defBody s_law_drawn) (defScope s_law_drawn) .none kV_law_drawn dc_law_drawn pm_law_drawn an_law_drawn cd_law_drawn ct_law_drawn, a_law_is := f_law_is, d_law_is := PySem.W.fnOf "_law_is" "_law_is" (defArgs s_law_is) (defBody s_law_is) (defScope s_law_is) .none kV_law_is dc_law_is pm_law_is an_law_is cd_law_is ct_law_is, a_law_unlike := f_law_unlike, d_law_unlike := PySem.W.fnOf "_law_unlike" "_law_unlike" (defArgs s_law_unlike) (defBody s_law_unlike) (defScope s_law_unlike) .none kV_law_unlike dc_law_unlike pm_law_unlike an_law_unlike cd_law_unlike ct_law_unlike, a_law_right := f_law_right, d_law_right := PySem.W.fnOf "_law_right" "_law_right" (defArgs s_law_right) (defBody s_law_right) (defScope s_law_right) .none kV_law_right dc_law_right pm_law_right an_law_right cd_law_right ct_law_right, a_law := f_law, d_law := PySem.W.fnOf "law" "law" (defArgs s_law) (defBody s_law) (defScope s_law) .none kV_law dc_law pm_law an_law cd_law ct_law, C_Sheet := C_Sheet, C_Shape := C_Shape, C_ShapeError := C_ShapeError, C_InvalidSheet := C_InvalidSheet, C_InvalidShape := C_InvalidShape, c_MAX_KINDS := .int 3 t_MAX_KINDS, c_MAX_WORDS := .int 2 t_MAX_WORDS, c_MAX_LETTERS := .int 8 t_MAX_LETTERS, c_LETTERS := .str "abcdefghijklmnopqrstuvwxyz" t_LETTERS, c_MAX_NAMES := .int 12 t_MAX_NAMES : Ads } := { F_is_name := F_is_name, b_is_name := b_is_name, g_is_name := PySem.W.mg_of X G a_is_name, k_is_name := k_is_name, F_are_names := F_are_names, b_are_names := b_are_names, g_are_names := PySem.W.mg_of X G a_are_names, k_are_names := k_are_names, F_Sheet_init := F_Sheet_init, b_Sheet_init := b_Sheet_init, m_Sheet_init := ⟨a_Sheet_init, i_Sheet_init, k_Sheet_init⟩, F_Sheet_kinds := F_Sheet_kinds, b_Sheet_kinds := b_Sheet_kinds, P_Sheet_kinds := ⟨at_Sheet_kinds, gt_Sheet_kinds, tk_Sheet_kinds, _, rc_Sheet_kinds⟩, F_Sheet_words := F_Sheet_words, b_Sheet_words := b_Sheet_words, P_Sheet_words := ⟨at_Sheet_words, gt_Sheet_words, tk_Sheet_words, _, rc_Sheet_words⟩, F_Sheet_eq := F_Sheet_eq, b_Sheet_eq := b_Sheet_eq, m_Sheet_eq := ⟨a_Sheet_eq, i_Sheet_eq, k_Sheet_eq⟩, F_Sheet_str := F_Sheet_str, b_Sheet_str := b_Sheet_str, m_Sheet_str := ⟨a_Sheet_str, i_Sheet_str, k_Sheet_str⟩, F_require_sheet := F_require_sheet, b_require_sheet := b_require_sheet, g_require_sheet := PySem.W.mg_of X G a_require_sheet, k_require_sheet := k_require_sheet, F_is_kind := F_is_kind, b_is_kind := b_is_kind, g_is_kind := PySem.W.mg_of X G a_is_kind, k_is_kind := k_is_kind, F_is_tie := F_is_tie, b_is_tie := b_is_tie, g_is_tie := PySem.W.mg_of X G a_is_tie, k_is_tie := k_is_tie, F_are_posts := F_are_posts, b_are_posts := b_are_posts, g_are_posts := PySem.W.mg_of X G a_are_posts, k_are_posts := k_are_posts, F_is_triple_of := F_is_triple_of, b_is_triple_of := b_is_triple_of, g_is_triple_of := PySem.W.mg_of X G a_is_triple_of, k_is_triple_of := k_is_triple_of, F_are_triples := F_are_triples, b_are_triples := b_are_triples, g_are_triples := PySem.W.mg_of X G a_are_triples, k_are_triples := k_are_triples, q_Shape_init_0 := fun H => .inr ⟨_, _, _, el_Shape_init_0, rfl, rfl, Nat.zero_le _, .nil⟩, q_Shape_init_1 := fun H => .inr ⟨_, _, _, el_Shape_init_1, rfl, rfl, Nat.zero_le _, .nil⟩, b_Shape_init_1 := b_Shape_init_1, b_Shape_init_2 := b_Shape_init_2, F_Shape_init := F_Shape_init, b_Shape_init := b_Shape_init, m_Shape_init := ⟨a_Shape_init, i_Shape_init, k_Shape_init⟩, F_Shape_sheet := F_Shape_sheet, b_Shape_sheet := b_Shape_sheet, P_Shape_sheet := ⟨at_Shape_sheet, gt_Shape_sheet, tk_Shape_sheet, _, rc_Shape_sheet⟩, F_Shape_posts := F_Shape_posts, b_Shape_posts := b_Shape_posts, P_Shape_posts := ⟨at_Shape_posts, gt_Shape_posts, tk_Shape_posts, _, rc_Shape_posts⟩, F_Shape_there := F_Shape_there, b_Shape_there := b_Shape_there, P_Shape_there := ⟨at_Shape_there, gt_Shape_there, tk_Shape_there, _, rc_Shape_there⟩, F_Shape_lacking := F_Shape_lacking, b_Shape_lacking := b_Shape_lacking, P_Shape_lacking := ⟨at_Shape_lacking, gt_Shape_lacking, tk_Shape_lacking, _, rc_Shape_lacking⟩, F_Shape_names := F_Shape_names, b_Shape_names := b_Shape_names, P_Shape_names := ⟨at_Shape_names, gt_Shape_names, tk_Shape_names, _, rc_Shape_names⟩, F_Shape_is_sure := F_Shape_is_sure, b_Shape_is_sure := b_Shape_is_sure, P_Shape_is_sure := ⟨at_Shape_is_sure, gt_Shape_is_sure, tk_Shape_is_sure, _, rc_Shape_is_sure⟩, F_Shape_len := F_Shape_len, b_Shape_len := b_Shape_len, m_Shape_len := ⟨a_Shape_len, i_Shape_len, k_Shape_len⟩, F_Shape_eq := F_Shape_eq, b_Shape_eq := b_Shape_eq, m_Shape_eq := ⟨a_Shape_eq, i_Shape_eq, k_Shape_eq⟩, F_Shape_str := F_Shape_str, b_Shape_str := b_Shape_str, m_Shape_str := ⟨a_Shape_str, i_Shape_str, k_Shape_str⟩, F_is_sure_in := F_is_sure_in, b_is_sure_in := b_is_sure_in, g_is_sure_in := PySem.W.mg_of X G a_is_sure_in, k_is_sure_in := k_is_sure_in, F_law_dice := F_law_dice, b_law_dice := b_law_dice, g_law_dice := PySem.W.mg_of X G a_law_dice, k_law_dice := k_law_dice, F_law_roll := F_law_roll, b_law_roll := b_law_roll, g_law_roll := PySem.W.mg_of X G a_law_roll, k_law_roll := k_law_roll, F_law_pick := F_law_pick, b_law_pick := b_law_pick, g_law_pick := PySem.W.mg_of X G a_law_pick, k_law_pick := k_law_pick, F_law_mixed := F_law_mixed, b_law_mixed := b_law_mixed, g_law_mixed := PySem.W.mg_of X G a_law_mixed, k_law_mixed := k_law_mixed, F_law_labels := F_law_labels, b_law_labels := b_law_labels, g_law_labels := PySem.W.mg_of X G a_law_labels, k_law_labels := k_law_labels, F_law_drawn := F_law_drawn, b_law_drawn := b_law_drawn, g_law_drawn := PySem.W.mg_of X G a_law_drawn, k_law_drawn := k_law_drawn, F_law_is := F_law_is, b_law_is := b_law_is, g_law_is := PySem.W.mg_of X G a_law_is, k_law_is := k_law_is, F_law_unlike := F_law_unlike, b_law_unlike := b_law_unlike, g_law_unlike := PySem.W.mg_of X G a_law_unlike, k_law_unlike := k_law_unlike, F_law_right := F_law_right, b_law_right := b_law_right, g_law_right := PySem.W.mg_of X G a_law_right, k_law_right := k_law_right, F_law := F_law, b_law := b_law, g_law := PySem.W.mg_of X G a_law, k_law := k_law, g_Sheet := PySem.W.mg_of X G gC_Sheet, cl_Sheet := cl_Sheet, I_Sheet := ⟨cl_Sheet, cc_Sheet, cg_Sheet, ct_Sheet, mr_Sheet, ne_Sheet, ic_Sheet, it_Sheet⟩, M_Sheet := ⟨mk_Sheet, a_Sheet_init, i_Sheet_init, kc_Sheet⟩, n_Sheet_own_kinds := n_Sheet_own_kinds, n_Sheet_own_words := n_Sheet_own_words, g_Shape := PySem.W.mg_of X G gC_Shape, cl_Shape := cl_Shape, I_Shape := ⟨cl_Shape, cc_Shape, cg_Shape, ct_Shape, mr_Shape, ne_Shape, ic_Shape, it_Shape⟩, M_Shape := ⟨mk_Shape, a_Shape_init, i_Shape_init, kc_Shape⟩, n_Shape_own_sheet := n_Shape_own_sheet, n_Shape_own_posts := n_Shape_own_posts, n_Shape_own_there := n_Shape_own_there, n_Shape_own_lacking := n_Shape_own_lacking, g_ShapeError := PySem.W.mg_of X G gC_ShapeError, x_ShapeError := x_ShapeError, k_ShapeError := k_ShapeError, s_ShapeError := s_ShapeError, t_ShapeError := t_ShapeError, e_ShapeError := Kd.exm_own s_ShapeError i_ShapeError t_ShapeError s_ShapeError ss_ShapeError, g_InvalidSheet := PySem.W.mg_of X G gC_InvalidSheet, x_InvalidSheet := x_InvalidSheet, k_InvalidSheet := k_InvalidSheet, s_InvalidSheet := s_InvalidSheet, t_InvalidSheet := t_InvalidSheet, e_InvalidSheet := Kd.exm_own s_InvalidSheet i_InvalidSheet t_InvalidSheet s_InvalidSheet ss_InvalidSheet, g_InvalidShape := PySem.W.mg_of X G gC_InvalidShape, x_InvalidShape := x_InvalidShape, k_InvalidShape := k_InvalidShape, s_InvalidShape := s_InvalidShape, t_InvalidShape := t_InvalidShape, e_InvalidShape := Kd.exm_own s_InvalidShape i_InvalidShape t_InvalidShape s_InvalidShape ss_InvalidShape, ss_no := y_ss_no, ss_ne := y_ss_ne, c_MAX_KINDS := PySem.W.mg_of X G v_MAX_KINDS, r_MAX_KINDS := ⟨_, rfl⟩, c_MAX_WORDS := PySem.W.mg_of X G v_MAX_WORDS, r_MAX_WORDS := ⟨_, rfl⟩, c_MAX_LETTERS := PySem.W.mg_of X G v_MAX_LETTERS, r_MAX_LETTERS := ⟨_, rfl⟩, c_LETTERS := PySem.W.mg_of X G v_LETTERS, r_LETTERS := ⟨_, rfl⟩, c_MAX_NAMES := PySem.W.mg_of X G v_MAX_NAMES, r_MAX_NAMES := ⟨_, rfl⟩, n_abs := PySem.W.mg_none_of X G z_abs, n_all := PySem.W.mg_none_of X G z_all, n_any := PySem.W.mg_none_of X G z_any, n_dict := PySem.W.mg_none_of X G z_dict, n_int := PySem.W.mg_none_of X G z_int, n_isinstance := PySem.W.mg_none_of X G z_isinstance, n_len := PySem.W.mg_none_of X G z_len, n_list := PySem.W.mg_none_of X G z_list, n_max := PySem.W.mg_none_of X G z_max, n_min := PySem.W.mg_none_of X G z_min, n_property := PySem.W.mg_none_of X G z_property, n_range := PySem.W.mg_none_of X G z_range, n_repr := PySem.W.mg_none_of X G z_repr, n_sorted := PySem.W.mg_none_of X G z_sorted, n_str := PySem.W.mg_none_of X G z_str, n_tuple := PySem.W.mg_none_of X G z_tuple }
  exact ⟨_, fun s v => .of_eq rfl, fun base _ _ => ok_law T⟩
theorem walk {l : PySem.W.OpenLaw} {q : Program} {loose : List Str} {XP : (Str → Option Value) → Heap → Prop} {YP : World → Heap → Prop} {d : DefRec} {K : Params → PySem.W.Frag} (hn : l.most = some 63) (hdf : d.params.defaults = [])
    (hY : ∀ (w : World) (h : Heap), YP w h → (K w.params).In h)
    (F : ∀ (w : World) (mg : Str → Option Value) (fa : Addr) (h : Heap), (K w.params).In h → h.Ns mainGlobals mg → mg d.name = some (.ref fa) →
      ∃ fd : FuncData, (∀ (s : Shared) (u : Value), BindsTo s fd ⟨[u], []⟩ [("_law_script", u)]) ∧ ∀ base : Heap, (K w.params).In base → base.Ns mainGlobals mg → FnG l.prog w (K w.params) mg base 7 fa fd ["_law_script"] (spLaw (K w.params))) :
    PySem.W.WalkO q loose XP YP l.row.toRowW d [] (fun f vs => PySem.call f vs) :=
  L2.walk_ofG (n := 63) (k := 7) (x := "_law_script") (sp := fun w => spLaw (K w.params)) hn (by decide) hdf ⟨rfl, by decide, by decide⟩ hY F (fun _ _ a ns hl hS => ⟨a, ns, rfl, hS, hl, fun _ => rfl⟩)
end K6
open PySem PySem.W PyProof.Rows
set_option maxRecDepth 100000 in
set_option maxHeartbeats 0 in
theorem PySem.Challenge.cw_keptshapes_k06_shapes_made_and_asked_holds : PySem.Challenge.rw_keptshapes_k06_shapes_made_and_asked.Holds := by
  w_on; o_law; k_head; (case hw => w_witness2)
  k_fill
  refine K6.walk (l := PySem.Challenge.rw_keptshapes_k06_shapes_made_and_asked) rfl rfl (fun w h Y => PySem.W.kIn_of Y) ?F
  case F =>
    intro w mg fa h KX G hmg
    refine' K6.all_mk KX G hmg ?gC_Sheet ?gC_Shape ?gC_ShapeError ?gC_InvalidSheet ?gC_InvalidShape ?a_is_name ?l_is_name ?c_is_name ?k_is_name ?a_are_names ?l_are_names ?c_are_names ?k_are_names ?a_Sheet_init ?i_Sheet_init ?l_Sheet_init ?c_Sheet_init ?k_Sheet_init ?at_Sheet_kinds ?gt_Sheet_kinds ?tk_Sheet_kinds ?rc_Sheet_kinds ?l_Sheet_kinds ?c_Sheet_kinds ?k_Sheet_kinds ?at_Sheet_words ?gt_Sheet_words ?tk_Sheet_words ?rc_Sheet_words ?l_Sheet_words ?c_Sheet_words ?k_Sheet_words ?a_Sheet_eq ?i_Sheet_eq ?l_Sheet_eq ?c_Sheet_eq ?k_Sheet_eq ?a_Sheet_str ?i_Sheet_str ?l_Sheet_str ?c_Sheet_str ?k_Sheet_str ?a_require_sheet ?l_require_sheet ?c_require_sheet ?k_require_sheet ?a_is_kind ?l_is_kind ?c_is_kind ?k_is_kind ?a_is_tie ?l_is_tie ?c_is_tie ?k_is_tie ?a_are_posts ?l_are_posts ?c_are_posts ?k_are_posts ?a_is_triple_of ?l_is_triple_of ?c_is_triple_of ?k_is_triple_of ?a_are_triples ?l_are_triples ?c_are_triples ?k_are_triples ?a_Shape_init ?i_Shape_init ?l_Shape_init ?c_Shape_init ?k_Shape_init ?dl_Shape_init ?el_Shape_init_0 ?el_Shape_init_1 ?at_Shape_sheet ?gt_Shape_sheet ?tk_Shape_sheet ?rc_Shape_sheet ?l_Shape_sheet ?c_Shape_sheet ?k_Shape_sheet ?at_Shape_posts ?gt_Shape_posts ?tk_Shape_posts ?rc_Shape_posts ?l_Shape_posts ?c_Shape_posts ?k_Shape_posts ?at_Shape_there ?gt_Shape_there ?tk_Shape_there ?rc_Shape_there ?l_Shape_there ?c_Shape_there ?k_Shape_there ?at_Shape_lacking ?gt_Shape_lacking ?tk_Shape_lacking ?rc_Shape_lacking ?l_Shape_lacking ?c_Shape_lacking ?k_Shape_lacking ?at_Shape_names ?gt_Shape_names ?tk_Shape_names ?rc_Shape_names ?l_Shape_names ?c_Shape_names ?k_Shape_names ?at_Shape_is_sure ?gt_Shape_is_sure ?tk_Shape_is_sure ?rc_Shape_is_sure ?l_Shape_is_sure ?c_Shape_is_sure ?k_Shape_is_sure ?a_Shape_len ?i_Shape_len ?l_Shape_len ?c_Shape_len ?k_Shape_len ?a_Shape_eq ?i_Shape_eq ?l_Shape_eq ?c_Shape_eq ?k_Shape_eq ?a_Shape_str ?i_Shape_str ?l_Shape_str ?c_Shape_str ?k_Shape_str ?a_is_sure_in ?l_is_sure_in ?c_is_sure_in ?k_is_sure_in ?a_law_dice ?l_law_dice ?c_law_dice ?k_law_dice ?a_law_roll ?l_law_roll ?c_law_roll ?k_law_roll ?a_law_pick ?l_law_pick ?c_law_pick ?k_law_pick ?a_law_mixed ?l_law_mixed ?c_law_mixed ?k_law_mixed ?a_law_labels ?l_law_labels ?c_law_labels ?k_law_labels ?a_law_drawn ?l_law_drawn ?c_law_drawn ?k_law_drawn ?a_law_is ?l_law_is ?c_law_is ?k_law_is ?a_law_unlike ?l_law_unlike ?c_law_unlike ?k_law_unlike ?a_law_right ?l_law_right ?c_law_right ?k_law_right ?a_law ?l_law ?c_law ?k_law ?pg_Sheet ?hd_Sheet ?po_Sheet ?sa_Sheet ?cc_Sheet ?cg_Sheet ?ct_Sheet ?mr_Sheet ?ne_Sheet ?ic_Sheet ?it_Sheet ?mk_Sheet ?kc_Sheet ?n_Sheet_own_kinds ?n_Sheet_own_words ?pg_Shape ?hd_Shape ?po_Shape ?sa_Shape ?cc_Shape ?cg_Shape ?ct_Shape ?mr_Shape ?ne_Shape ?ic_Shape ?it_Shape ?mk_Shape ?kc_Shape ?n_Shape_own_sheet ?n_Shape_own_posts ?n_Shape_own_there ?n_Shape_own_lacking ?x_ShapeError ?k_ShapeError ?s_ShapeError ?t_ShapeError ?i_ShapeError ?ss_ShapeError ?x_InvalidSheet ?k_InvalidSheet ?s_InvalidSheet ?t_InvalidSheet ?i_InvalidSheet ?ss_InvalidSheet ?x_InvalidShape ?k_InvalidShape ?s_InvalidShape ?t_InvalidShape ?i_InvalidShape ?ss_InvalidShape ?y_ss_no ?y_ss_ne ?v_MAX_KINDS ?v_MAX_WORDS ?v_MAX_LETTERS ?v_LETTERS ?v_MAX_NAMES ?z_abs ?z_all ?z_any ?z_dict ?z_int ?z_isinstance ?z_len ?z_list ?z_max ?z_min ?z_property ?z_range ?z_repr ?z_sorted ?z_str ?z_tuple
    (case gC_Sheet => k_is)
    (case gC_Shape => k_is)
    (case gC_ShapeError => k_is)
    (case gC_InvalidSheet => k_is)
    (case gC_InvalidShape => k_is)
    (case a_is_name => k_is)
    (case l_is_name => k_is)
    (case c_is_name => k_is)
    (case k_is_name => k_is)
    (case a_are_names => k_is)
    (case l_are_names => k_is)
    (case c_are_names => k_is)
    (case k_are_names => k_is)
    (case a_Sheet_init => k_is)
    (case i_Sheet_init => k_is)
    (case l_Sheet_init => k_is)
    (case c_Sheet_init => k_is)
    (case k_Sheet_init => k_is)
    (case at_Sheet_kinds => k_is)
    (case gt_Sheet_kinds => k_is)
    (case tk_Sheet_kinds => k_is)
    (case rc_Sheet_kinds => k_is)
    (case l_Sheet_kinds => k_is)
    (case c_Sheet_kinds => k_is)
    (case k_Sheet_kinds => k_is)
    (case at_Sheet_words => k_is)
    (case gt_Sheet_words => k_is)
    (case tk_Sheet_words => k_is)
    (case rc_Sheet_words => k_is)
    (case l_Sheet_words => k_is)
    (case c_Sheet_words => k_is)
    (case k_Sheet_words => k_is)
    (case a_Sheet_eq => k_is)
    (case i_Sheet_eq => k_is)
    (case l_Sheet_eq => k_is)
    (case c_Sheet_eq => k_is)
    (case k_Sheet_eq => k_is)
    (case a_Sheet_str => k_is)
    (case i_Sheet_str => k_is)
    (case l_Sheet_str => k_is)
    (case c_Sheet_str => k_is)
    (case k_Sheet_str => k_is)
    (case a_require_sheet => k_is)
    (case l_require_sheet => k_is)
    (case c_require_sheet => k_is)
    (case k_require_sheet => k_is)
    (case a_is_kind => k_is)
    (case l_is_kind => k_is)
    (case c_is_kind => k_is)
    (case k_is_kind => k_is)
    (case a_is_tie => k_is)
    (case l_is_tie => k_is)
    (case c_is_tie => k_is)
    (case k_is_tie => k_is)
    (case a_are_posts => k_is)
    (case l_are_posts => k_is)
    (case c_are_posts => k_is)
    (case k_are_posts => k_is)
    (case a_is_triple_of => k_is)
    (case l_is_triple_of => k_is)
    (case c_is_triple_of => k_is)
    (case k_is_triple_of => k_is)
    (case a_are_triples => k_is)
    (case l_are_triples => k_is)
    (case c_are_triples => k_is)
    (case k_are_triples => k_is)
    (case a_Shape_init => k_is)
    (case i_Shape_init => k_is)
    (case l_Shape_init => k_is)
    (case c_Shape_init => k_is)
    (case k_Shape_init => k_is)
    (case dl_Shape_init => k_is)
    (case el_Shape_init_0 => k_is)
    (case el_Shape_init_1 => k_is)
    (case at_Shape_sheet => k_is)
    (case gt_Shape_sheet => k_is)
    (case tk_Shape_sheet => k_is)
    (case rc_Shape_sheet => k_is)
    (case l_Shape_sheet => k_is)
    (case c_Shape_sheet => k_is)
    (case k_Shape_sheet => k_is)
    (case at_Shape_posts => k_is)
    (case gt_Shape_posts => k_is)
    (case tk_Shape_posts => k_is)
    (case rc_Shape_posts => k_is)
    (case l_Shape_posts => k_is)
    (case c_Shape_posts => k_is)
    (case k_Shape_posts => k_is)
    (case at_Shape_there => k_is)
    (case gt_Shape_there => k_is)
    (case tk_Shape_there => k_is)
    (case rc_Shape_there => k_is)
    (case l_Shape_there => k_is)
    (case c_Shape_there => k_is)
    (case k_Shape_there => k_is)
    (case at_Shape_lacking => k_is)
    (case gt_Shape_lacking => k_is)
    (case tk_Shape_lacking => k_is)
    (case rc_Shape_lacking => k_is)
    (case l_Shape_lacking => k_is)
    (case c_Shape_lacking => k_is)
    (case k_Shape_lacking => k_is)
    (case at_Shape_names => k_is)
    (case gt_Shape_names => k_is)
    (case tk_Shape_names => k_is)
    (case rc_Shape_names => k_is)
    (case l_Shape_names => k_is)
    (case c_Shape_names => k_is)
    (case k_Shape_names => k_is)
    (case at_Shape_is_sure => k_is)
    (case gt_Shape_is_sure => k_is)
    (case tk_Shape_is_sure => k_is)
    (case rc_Shape_is_sure => k_is)
    (case l_Shape_is_sure => k_is)
    (case c_Shape_is_sure => k_is)
    (case k_Shape_is_sure => k_is)
    (case a_Shape_len => k_is)
    (case i_Shape_len => k_is)
    (case l_Shape_len => k_is)
    (case c_Shape_len => k_is)
    (case k_Shape_len => k_is)
    (case a_Shape_eq => k_is)
    (case i_Shape_eq => k_is)
    (case l_Shape_eq => k_is)
    (case c_Shape_eq => k_is)
    (case k_Shape_eq => k_is)
    (case a_Shape_str => k_is)
    (case i_Shape_str => k_is)
    (case l_Shape_str => k_is)
    (case c_Shape_str => k_is)
    (case k_Shape_str => k_is)
    (case a_is_sure_in => k_is)
    (case l_is_sure_in => k_is)
    (case c_is_sure_in => k_is)
    (case k_is_sure_in => k_is)
    (case a_law_dice => k_is)
    (case l_law_dice => k_is)
    (case c_law_dice => k_is)
    (case k_law_dice => k_is)
    (case a_law_roll => k_is)
    (case l_law_roll => k_is)
    (case c_law_roll => k_is)
    (case k_law_roll => k_is)
    (case a_law_pick => k_is)
    (case l_law_pick => k_is)
    (case c_law_pick => k_is)
    (case k_law_pick => k_is)
    (case a_law_mixed => k_is)
    (case l_law_mixed => k_is)
    (case c_law_mixed => k_is)
    (case k_law_mixed => k_is)
    (case a_law_labels => k_is)
    (case l_law_labels => k_is)
    (case c_law_labels => k_is)
    (case k_law_labels => k_is)
    (case a_law_drawn => k_is)
    (case l_law_drawn => k_is)
    (case c_law_drawn => k_is)
    (case k_law_drawn => k_is)
    (case a_law_is => k_is)
    (case l_law_is => k_is)
    (case c_law_is => k_is)
    (case k_law_is => k_is)
    (case a_law_unlike => k_is)
    (case l_law_unlike => k_is)
    (case c_law_unlike => k_is)
    (case k_law_unlike => k_is)
    (case a_law_right => k_is)
    (case l_law_right => k_is)
    (case c_law_right => k_is)
    (case k_law_right => k_is)
    (case a_law => k_is)
    (case l_law => k_is)
    (case c_law => k_is)
    (case k_law => k_is)
    (case pg_Sheet => k_is)
    (case hd_Sheet => k_is)
    (case po_Sheet => k_is)
    (case sa_Sheet => k_is)
    (case cc_Sheet => k_is)
    (case cg_Sheet => k_is)
    (case ct_Sheet => k_is)
    (case mr_Sheet => k_is)
    (case ne_Sheet => k_is)
    (case ic_Sheet => k_is)
    (case it_Sheet => k_is)
    (case mk_Sheet => k_is)
    (case kc_Sheet => k_is)
    (case n_Sheet_own_kinds => k_is)
    (case n_Sheet_own_words => k_is)
    (case pg_Shape => k_is)
    (case hd_Shape => k_is)
    (case po_Shape => k_is)
    (case sa_Shape => k_is)
    (case cc_Shape => k_is)
    (case cg_Shape => k_is)
    (case ct_Shape => k_is)
    (case mr_Shape => k_is)
    (case ne_Shape => k_is)
    (case ic_Shape => k_is)
    (case it_Shape => k_is)
    (case mk_Shape => k_is)
    (case kc_Shape => k_is)
    (case n_Shape_own_sheet => k_is)
    (case n_Shape_own_posts => k_is)
    (case n_Shape_own_there => k_is)
    (case n_Shape_own_lacking => k_is)
    (case x_ShapeError => k_exc)
    (case k_ShapeError => k_is)
    (case s_ShapeError => k_is)
    (case t_ShapeError => k_is)
    (case i_ShapeError => k_is)
    (case ss_ShapeError => first | rfl | k_is)
    (case x_InvalidSheet => k_exc)
    (case k_InvalidSheet => k_is)
    (case s_InvalidSheet => k_is)
    (case t_InvalidSheet => k_is)
    (case i_InvalidSheet => k_is)
    (case ss_InvalidSheet => first | rfl | k_is)
    (case x_InvalidShape => k_exc)
    (case k_InvalidShape => k_is)
    (case s_InvalidShape => k_is)
    (case t_InvalidShape => k_is)
    (case i_InvalidShape => k_is)
    (case ss_InvalidShape => first | rfl | k_is)
    (case y_ss_no => first | k_is | kernel_rfl | rfl)
    (case y_ss_ne => first | k_is | kernel_rfl | rfl)
    (case v_MAX_KINDS => k_is)
    (case v_MAX_WORDS => k_is)
    (case v_MAX_LETTERS => k_is)
    (case v_LETTERS => k_is)
    (case v_MAX_NAMES => k_is)
    (case z_abs => first | rfl | k_is)
    (case z_all => first | rfl | k_is)
    (case z_any => first | rfl | k_is)
    (case z_dict => first | rfl | k_is)
    (case z_int => first | rfl | k_is)
    (case z_isinstance => first | rfl | k_is)
    (case z_len => first | rfl | k_is)
    (case z_list => first | rfl | k_is)
    (case z_max => first | rfl | k_is)
    (case z_min => first | rfl | k_is)
    (case z_property => first | rfl | k_is)
    (case z_range => first | rfl | k_is)
    (case z_repr => first | rfl | k_is)
    (case z_sorted => first | rfl | k_is)
    (case z_str => first | rfl | k_is)
    (case z_tuple => first | rfl | k_is)

