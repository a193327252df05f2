import PyProof.Rows.All
import Wide.All
import OpenK.AllK
import Wide.FinOn
import HandS.ForMost
import HandS.Wide
import HandS.IsInst
import HandS.Style
import HandS.Defaults
import HandS.Walk
import KE.IntTextLaws
import HandS.ForExc
import HandS.TryMany
import HandS.TryElse
import KE.KTryMore
import HandS.ExcInit
import HandS.CallSlots
import HandS.ExcField
import HandS.ExcIs
import KE.KEqNest
import PyProof.NeKinds
import KE.KExcIs
import HandS.Zip
import KE.KRevSl
import HandS.OwnEq
import HandS.Small
import HandS.More
import KE.GoesEnum
import KE.GoesMore
import KE.DataMinMax
import KE.KFmtOwn
import KE.KCallOwn
import PyProof.InstNe
import HandS.FStr
import PyProof.Rows.StrJoinMade
import HandS.DictComp
import HandS.HotCalls
import HandS.CallLocal
import HandS.Deep
import HandS.DictTup
import HandS.TupLen
import HandS.Conv
import PySem.Challenge.RW_causehall_k15_whole_one_row_changed
set_option Elab.async false
set_option maxRecDepth 100000
set_option maxHeartbeats 4000000
/-! == of things of any make: what is one thing, numbers, texts, lists and tuples of such. -/
namespace My
open PySem L2 PySem.SeqAt PySem.W
/-- what == says of two flat things, numbers and truths together -/
def eqF : V → V → Option Bool
  | .int i, .int j => some (i == j)
  | .bl i, .bl j => some (i == j)
  | .str i, .str j => some (i == j)
  | .bl a, .int j => some ((if a then 1 else 0) == j)
  | .int i, .bl b => some (i == (if b then 1 else 0))
  | .non, .non => some true
  | .int _, .non | .non, .int _ | .int _, .str _ | .str _, .int _ | .str _, .non | .non, .str _ | .bl _, .non | .non, .bl _ | .bl _, .str _ | .str _, .bl _ => some false
  | _, _ => none
theorem eqF_at {A : Around} {s : Shared} {x y : V} {b : Bool} {u v : Value} (h : eqF x y = some b) (ru : RelV x u) (rv : RelV y v) : EqAt A s u v b := by
  cases x with
  | non =>
    cases y with
    | non =>
      obtain rfl : u = Value.none := ru
      obtain rfl : v = Value.none := rv
      obtain rfl := Option.some.inj h
      exact .same _
    | bl q =>
      obtain rfl : u = Value.none := ru
      obtain rfl : v = Value.bool q := rv
      obtain rfl := Option.some.inj h
      exact .none_bool _
    | int q =>
      obtain rfl : u = Value.none := ru
      obtain ⟨tq, rfl⟩ : ∃ t, v = Value.int q t := rv
      obtain rfl := Option.some.inj h
      exact .none_int _ _
    | str q =>
      obtain rfl : u = Value.none := ru
      obtain ⟨tq, rfl⟩ : ∃ t, v = Value.str q t := rv
      obtain rfl := Option.some.inj h
      exact .none_str _ _
    | _ => cases h
  | bl p =>
    cases y with
    | non =>
      obtain rfl : u = Value.bool p := ru
      obtain rfl : v = Value.none := rv
      obtain rfl := Option.some.inj h
      exact .bool_none _
    | bl q =>
      obtain rfl : u = Value.bool p := ru
      obtain rfl : v = Value.bool q := rv
      obtain rfl := Option.some.inj h
      exact .bool_bool _ _
    | int q =>
      obtain rfl : u = Value.bool p := ru
      obtain ⟨tq, rfl⟩ : ∃ t, v = Value.int q t := rv
      obtain rfl := Option.some.inj h
      exact .bool_int _ _ _
    | str q =>
      obtain rfl : u = Value.bool p := ru
      obtain ⟨tq, rfl⟩ : ∃ t, v = Value.str q t := rv
      obtain rfl := Option.some.inj h
      exact .bool_str _ _ _
    | _ => cases h
  | int p =>
    cases y with
    | non =>
      obtain ⟨tp, rfl⟩ : ∃ t, u = Value.int p t := ru
      obtain rfl : v = Value.none := rv
      obtain rfl := Option.some.inj h
      exact .int_none _ _
    | bl q =>
      obtain ⟨tp, rfl⟩ : ∃ t, u = Value.int p t := ru
      obtain rfl : v = Value.bool q := rv
      obtain rfl := Option.some.inj h
      exact .int_bool _ _ _
    | int q =>
      obtain ⟨tp, rfl⟩ : ∃ t, u = Value.int p t := ru
      obtain ⟨tq, rfl⟩ : ∃ t, v = Value.int q t := rv
      obtain rfl := Option.some.inj h
      exact .int_int _ _ _ _
    | str q =>
      obtain ⟨tp, rfl⟩ : ∃ t, u = Value.int p t := ru
      obtain ⟨tq, rfl⟩ : ∃ t, v = Value.str q t := rv
      obtain rfl := Option.some.inj h
      exact .int_str _ _ _ _
    | _ => cases h
  | str p =>
    cases y with
    | non =>
      obtain ⟨tp, rfl⟩ : ∃ t, u = Value.str p t := ru
      obtain rfl : v = Value.none := rv
      obtain rfl := Option.some.inj h
      exact .str_none _ _
    | bl q =>
      obtain ⟨tp, rfl⟩ : ∃ t, u = Value.str p t := ru
      obtain rfl : v = Value.bool q := rv
      obtain rfl := Option.some.inj h
      exact .str_bool _ _ _
    | int q =>
      obtain ⟨tp, rfl⟩ : ∃ t, u = Value.str p t := ru
      obtain ⟨tq, rfl⟩ : ∃ t, v = Value.int q t := rv
      obtain rfl := Option.some.inj h
      exact .str_int _ _ _ _
    | str q =>
      obtain ⟨tp, rfl⟩ : ∃ t, u = Value.str p t := ru
      obtain ⟨tq, rfl⟩ : ∃ t, v = Value.str q t := rv
      obtain rfl := Option.some.inj h
      exact .str_str _ _ _ _
    | _ => cases h
  | _ => cases y <;> cases h
mutual
/-- x == y is b, as an item of a list tells it -/
inductive EqV (K : Frag) (H : Hp) : Nat → V → V → Bool → Prop
  | one {n : Nat} {a : Addr} : EqV K H n (.ref a) (.ref a) true
  | flat {n : Nat} {x y : V} {b : Bool} (h : eqF x y = some b) : EqV K H n x y b
  | lsts {n : Nat} {a c : Addr} {xs ys : List V} {b : Bool} (d : a ≠ c) (h1 : SqL K H a xs) (h2 : SqL K H c ys) (h : EqVs K H n xs ys b) : EqV K H (n + 1) (.ref a) (.ref c) b
  | tups {n : Nat} {a c : Addr} {xs ys : List V} {b : Bool} (d : a ≠ c) (h1 : SqT K H a xs) (h2 : SqT K H c ys) (h : EqVs K H n xs ys b) : EqV K H (n + 1) (.ref a) (.ref c) b
/-- of two rows -/
inductive EqVs (K : Frag) (H : Hp) : Nat → List V → List V → Bool → Prop
  | nil {n : Nat} : EqVs K H n [] [] true
  | cons {n : Nat} {x y : V} {xs ys : List V} {b c : Bool} (h : EqV K H n x y b) (t : EqVs K H n xs ys c) : EqVs K H n (x :: xs) (y :: ys) (b && c)
  | nilc {n : Nat} {y : V} {ys : List V} : EqVs K H n [] (y :: ys) false
  | cnil {n : Nat} {x : V} {xs : List V} : EqVs K H n (x :: xs) [] false
end
section
variable {X : Cx} {pins : List (Addr × Obj)} {σ : St} {H : Hp} {s : Shared}
/-- of a row: each place's answer -/
def RowT (s : Shared) (n : Nat) (us ws : List Value) (b : Bool) : Prop :=
  ∃ e : Nat → Bool, (∀ j (h1 : j < us.length) (h2 : j < ws.length) (A : Around), A.units + n < cLine → EqAt A s us[j] ws[j] (e j)) ∧ (us.length = ws.length → b = (List.range us.length).all e) ∧ (us.length ≠ ws.length → b = false)
theorem all_succ (e : Nat → Bool) (n : Nat) : (List.range (n + 1)).all e = (e 0 && (List.range n).all fun j => e (j + 1)) := by
  rw [List.range_succ_eq_map, List.all_cons, List.all_map]
  rfl
theorem RowT.lists {n : Nat} {us ws : List Value} {b : Bool} {a c : Addr} (r : RowT s n us ws b) (ha : s.heap.IsList a us.toArray) (hc : s.heap.IsList c ws.toArray) {A : Around} (hu : A.units + (n + 1) < cLine) : RcAt A s (.ref a) (.ref c) b ∧ RcNeAt A s (.ref a) (.ref c) (!b) := by
  obtain ⟨e, t, q1, q2⟩ := r
  have t' : ∀ j (h1 : j < us.toArray.size) (h2 : j < ws.toArray.size), EqAt A.in1 s us.toArray[j] ws.toArray[j] (e j) := fun j h1 h2 => t j h1 h2 A.in1 (by show A.units + 1 + n < cLine; omega)
  by_cases hl : us.length = ws.length
  · rw [q1 hl]
    exact ⟨.lists ha hc hl (by omega) t', .lists ha hc hl (by omega) t'⟩
  · rw [q2 hl]
    have hb : (us.toArray.size != ws.toArray.size) = true := by simpa using hl
    exact ⟨.lists_lengths ha hc hb (by omega), .lists_lengths ha hc hb (by omega)⟩
theorem RowT.tups {n : Nat} {us ws : List Value} {b : Bool} {a c : Addr} (r : RowT s n us ws b) (ha : s.heap.IsTuple a us.toArray) (hc : s.heap.IsTuple c ws.toArray) {A : Around} (hu : A.units + (n + 1) < cLine) : RcAt A s (.ref a) (.ref c) b ∧ RcNeAt A s (.ref a) (.ref c) (!b) := by
  obtain ⟨e, t, q1, q2⟩ := r
  have t' : ∀ j (h1 : j < us.toArray.size) (h2 : j < ws.toArray.size), EqAt A.in1 s us.toArray[j] ws.toArray[j] (e j) := fun j h1 h2 => t j h1 h2 A.in1 (by show A.units + 1 + n < cLine; omega)
  have g1 := RcAt.tuples ha hc (by omega) t'
  have g2 := RcNeAt.tuples ha hc (by omega) t'
  have e1 : ((List.range (min us.toArray.size ws.toArray.size)).all e && us.toArray.size == ws.toArray.size) = b := by
    by_cases hl : us.length = ws.length
    · rw [q1 hl]
      simp [hl]
    · rw [q2 hl]
      simp [hl]
  rw [e1] at g1 g2
  exact ⟨g1, g2⟩
mutual
theorem EqV.at (I : Inv X pins σ H s) : ∀ {n : Nat} {x y : V} {b : Bool}, EqV X.K H n x y b → ∀ {u v : Value}, RelV x u → RelV y v → ∀ A : Around, A.units + n < cLine → EqAt A s u v b
  | _, _, _, _, .one, _, _, ru, rv, _, _ => by
    cases ru
    cases rv
    exact .same _
  | _, _, _, _, .flat h, _, _, ru, rv, _, _ => eqF_at h ru rv
  | _, _, _, _, .lsts d h1 h2 h, _, _, ru, rv, A, hu => by
    cases ru
    cases rv
    obtain ⟨us, r1, p1, _⟩ := I.list h1
    obtain ⟨ws, r2, p2, _⟩ := I.list h2
    exact .of_refs d ((EqVs.row I h r1 r2).lists p1.isList p2.isList hu).1
  | _, _, _, _, .tups d h1 h2 h, _, _, ru, rv, A, hu => by
    cases ru
    cases rv
    obtain ⟨us, r1, p1, _⟩ := I.tuple h1
    obtain ⟨ws, r2, p2, _⟩ := I.tuple h2
    exact .of_refs d ((EqVs.row I h r1 r2).tups (show s.heap.IsTuple _ us.toArray from p1) (show s.heap.IsTuple _ ws.toArray from p2) hu).1
theorem EqVs.row (I : Inv X pins σ H s) : ∀ {n : Nat} {xs ys : List V} {b : Bool}, EqVs X.K H n xs ys b → ∀ {us ws : List Value}, Vals xs us → Vals ys ws → RowT s n us ws b
  | _, _, _, _, .nil, _, _, .nil, .nil => ⟨fun _ => true, fun j h1 => absurd h1 (Nat.not_lt_zero _), fun _ => rfl, fun h => absurd rfl h⟩
  | _, _, _, _, .nilc, _, _, .nil, .cons _ _ => ⟨fun _ => true, fun j h1 => absurd h1 (Nat.not_lt_zero _), fun h => absurd h (by simp), fun _ => rfl⟩
  | _, _, _, _, .cnil, _, _, .cons _ _, .nil => ⟨fun _ => true, fun j _ h2 => absurd h2 (Nat.not_lt_zero _), fun h => absurd h (by simp), fun _ => rfl⟩
  | _, _, _, _, .cons (b := b) h t, _, _, .cons r1 s1, .cons r2 s2 => by
    obtain ⟨e, q, q1, q2⟩ := EqVs.row I t s1 s2
    have q0 := EqV.at I h r1 r2
    refine ⟨fun j => match j with | 0 => b | j + 1 => e j, ?_, ?_, ?_⟩
    · intro j h1 h2 A hu
      cases j with
      | zero => exact q0 A hu
      | succ j => exact q j (Nat.lt_of_succ_lt_succ h1) (Nat.lt_of_succ_lt_succ h2) A hu
    · intro hl
      rw [q1 (Nat.succ.inj hl)]
      show _ = (List.range (_ + 1)).all _
      rw [all_succ]
    · intro hl
      rw [q2 (fun z => hl (congrArg Nat.succ z)), Bool.and_false]
end
end
/-- == and != of two lists or two tuples, whatever stands in them -/
def rEqG (K : Frag) (ne : Bool) : R2 := fun x y H Q => ∃ (a c : Addr) (xs ys : List V) (n : Nat) (b : Bool), x = .ref a ∧ y = .ref c ∧ ((SqL K H a xs ∧ SqL K H c ys) ∨ (SqT K H a xs ∧ SqT K H c ys)) ∧ n < 60 ∧ EqVs K H n xs ys b ∧ Q (.bl (if ne then !b else b)) H
section
variable {X : Cx}
theorem op_eqG (hu : X.A.units + 64 < cLine) {K : Frag} (hK : X.K = K := by rfl) : OpR X (compareOp .Eq) (rEqG K false) := by
  subst hK
  intro pins s σ H x y v u Q I rx ry h
  obtain ⟨a, c, xs, ys, n, b, rfl, rfl, hs, hn, t, q⟩ := h
  cases rx
  cases ry
  rcases hs with ⟨h1, h2⟩ | ⟨h1, h2⟩
  · obtain ⟨us, r1, p1, _⟩ := I.list h1
    obtain ⟨ws, r2, p2, _⟩ := I.list h2
    exact ((EqVs.row I t r1 r2).lists p1.isList p2.isList (by omega)).1 _ _ _ _ ⟨.bl b, H, I, rfl, q⟩
  · obtain ⟨us, r1, p1, _⟩ := I.tuple h1
    obtain ⟨ws, r2, p2, _⟩ := I.tuple h2
    exact ((EqVs.row I t r1 r2).tups (show s.heap.IsTuple _ us.toArray from p1) (show s.heap.IsTuple _ ws.toArray from p2) (by omega)).1 _ _ _ _ ⟨.bl b, H, I, rfl, q⟩
theorem op_neG (hu : X.A.units + 64 < cLine) {K : Frag} (hK : X.K = K := by rfl) : OpR X (compareOp .NotEq) (rEqG K true) := by
  subst hK
  intro pins s σ H x y v u Q I rx ry h
  obtain ⟨a, c, xs, ys, n, b, rfl, rfl, hs, hn, t, q⟩ := h
  cases rx
  cases ry
  rcases hs with ⟨h1, h2⟩ | ⟨h1, h2⟩
  · obtain ⟨us, r1, p1, _⟩ := I.list h1
    obtain ⟨ws, r2, p2, _⟩ := I.list h2
    exact ((EqVs.row I t r1 r2).lists p1.isList p2.isList (by omega)).2 _ _ _ _ ⟨.bl (!b), H, I, rfl, q⟩
  · obtain ⟨us, r1, p1, _⟩ := I.tuple h1
    obtain ⟨ws, r2, p2, _⟩ := I.tuple h2
    exact ((EqVs.row I t r1 r2).tups (show s.heap.IsTuple _ us.toArray from p1) (show s.heap.IsTuple _ ws.toArray from p2) (by omega)).2 _ _ _ _ ⟨.bl (!b), H, I, rfl, q⟩
end
end My
/-! My own small layer: rules of one name for what several of the layer's rules say, told apart by the values. -/
namespace My
open PySem L2
/-- a is seen as o: a list, a tuple (by whatever stands there), anything else as it is tracked -/
def Obs (K : PySem.W.Frag) (H : Hp) (a : Addr) : HO → Prop
  | .lst xs => SqL K H a xs
  | .tup xs => SqT K H a xs
  | o => H a = some o
theorem Obs.of {K : PySem.W.Frag} {H : Hp} {a : Addr} {o : HO} (h : H a = some o) : Obs K H a o := by
  cases o <;> first | exact h | exact Or.inl (Or.inl h)
/-- of two numbers the greater, the lesser, as max and min tell them -/
def maxP (i j : Int) : Int := if j > i then j else i
def minP (i j : Int) : Int := if j < i then j else i
theorem maxP_eq (i j : Int) : maxP i j = max i j := by unfold maxP; omega
theorem minP_eq (i j : Int) : minP i j = min i j := by unfold minP; omega
def rMaxU : List V → Hp → VK → Prop := fun xs H Q => ∃ i j, xs = [.int i, .int j] ∧ Q (.int (maxP i j)) H
def rMinU : List V → Hp → VK → Prop := fun xs H Q => ∃ i j, xs = [.int i, .int j] ∧ Q (.int (minP i j)) H
section
variable {X : Cx}
/-! ### operators -/
def rAddU (K : PySem.W.Frag) : R2 := fun x y H Q => match x, y with
  | .int i, .int j => Q (.int (i + j)) H
  | .str i, .str j => i.length + j.length ≤ sizeLine ∧ Q (.str (i ++ j)) H
  | .ref a, .ref b => (∃ xs ys, H a = some (.lst xs) ∧ H b = some (.lst ys) ∧ xs.length + ys.length ≤ sizeLine ∧ ∀ p, H p = none → Q (.ref p) (upd H p (.lst (xs ++ ys))))
      ∨ rCatT K (.ref a) (.ref b) H Q
  | _, _ => False
theorem op_addU {K : PySem.W.Frag} (hK : X.K = K := by rfl) : OpR X (binaryOp .Add) (rAddU K) := by
  subst hK
  intro pins s σ H x y v u Q I rx ry h
  cases x <;> cases y <;> first | exact False.elim h | skip
  · exact op_add pins s σ H _ _ v u Q I rx ry ⟨_, _, rfl, rfl, h⟩
  · exact op_add_str pins s σ H _ _ v u Q I rx ry ⟨_, _, rfl, rfl, h.1, h.2⟩
  · rcases h with ⟨xs, ys, h1, h2, h3, h4⟩ | h
    · exact op_cat pins s σ H _ _ v u Q I rx ry ⟨_, _, xs, ys, rfl, rfl, h1, h2, h3, h4⟩
    · exact op_catT pins s σ H _ _ v u Q I rx ry h
theorem op_subU : OpR X (binaryOp .Sub) (rI0 fun i j => .int (i - j)) := op_sub
def rMulU : R2 := fun x y H Q => match x, y with
  | .int i, .int j => CMulW i j ∧ Q (.int (i * j)) H
  | .ref a, .int k => rRep (.ref a) (.int k) H Q
  | _, _ => False
theorem op_mulU : OpR X (binaryOp .Mult) rMulU := by
  intro pins s σ H x y v u Q I rx ry h
  cases x <;> cases y <;> first | exact False.elim h | skip
  · exact op_mulW pins s σ H _ _ v u Q I rx ry ⟨_, _, rfl, rfl, h.1, h.2⟩
  · exact op_rep pins s σ H _ _ v u Q I rx ry h
theorem op_fdivU : OpR X (binaryOp .FloorDiv) (rI CDivW fun i j => .int (i / j)) := op_fdivW
theorem op_modU : OpR X (binaryOp .Mod) (rI (fun _ j => 0 < j) fun i j => .int (i % j)) := op_mod
theorem op_powU : OpR X (binaryOp .Pow) (rI CPow fun i j => .int (i ^ j.toNat)) := op_pow
/-! ### comparisons -/
theorem op_ltU : OpR X (compareOp .Lt) (rI0 fun i j => .bl (decide (i < j))) := op_lt
theorem op_leU : OpR X (compareOp .LtE) (rI0 fun i j => .bl (decide (i ≤ j))) := op_le
theorem op_gtU : OpR X (compareOp .Gt) (rI0 fun i j => .bl (decide (j < i))) := op_gt
theorem op_geU : OpR X (compareOp .GtE) (rI0 fun i j => .bl (decide (j ≤ i))) := op_ge
/-- what == says of two flat things -/
def eqS : V → V → Option Bool
  | .int i, .int j => some (decide (i = j))
  | .bl i, .bl j => some (decide (i = j))
  | .str i, .str j => some (decide (i = j))
  | .non, .non => some true
  | .int _, .non | .non, .int _ | .int _, .str _ | .str _, .int _ | .str _, .non | .non, .str _ | .bl _, .non | .non, .bl _ | .bl _, .str _ | .str _, .bl _ => some false
  | _, _ => none
theorem eqS_scal : ∀ {x y : V} {b : Bool}, eqS x y = some b → scal x y = true ∧ decide (x = y) = b := by
  intro x y b h
  cases x <;> cases y <;> first | (cases h; done) | (cases Option.some.inj h; exact ⟨rfl, by simp⟩)
def rEqU (K : PySem.W.Frag) : R2 := fun x y H Q => match eqS x y with
  | some b => Q (.bl b) H
  | none => rEqD K x y H Q ∨ rEqG K false x y H Q
def rNeU (K : PySem.W.Frag) : R2 := fun x y H Q => match eqS x y with
  | some b => Q (.bl (!b)) H
  | none => rNeD K x y H Q ∨ rEqG K true x y H Q
theorem op_eqU (hu : X.A.units + 64 < cLine) {K : PySem.W.Frag} (hK : X.K = K := by rfl) : OpR X (compareOp .Eq) (rEqU K) := by
  subst hK
  intro pins s σ H x y v u Q I rx ry h
  unfold rEqU at h
  split at h
  · rename_i b e
    obtain ⟨e1, e2⟩ := eqS_scal e
    exact op_eq pins s σ H _ _ v u Q I rx ry ⟨e1, by rw [e2]; exact h⟩
  · rcases h with h | h
    · exact op_eqD hu pins s σ H _ _ v u Q I rx ry h
    · exact op_eqG hu rfl pins s σ H _ _ v u Q I rx ry h
theorem op_neU (hu : X.A.units + 64 < cLine) {K : PySem.W.Frag} (hK : X.K = K := by rfl) : OpR X (compareOp .NotEq) (rNeU K) := by
  subst hK
  intro pins s σ H x y v u Q I rx ry h
  unfold rNeU at h
  split at h
  · rename_i b e
    obtain ⟨e1, e2⟩ := eqS_scal e
    exact op_ne pins s σ H _ _ v u Q I rx ry ⟨e1, by rw [e2]; exact h⟩
  · rcases h with h | h
    · exact op_neD hu pins s σ H _ _ v u Q I rx ry h
    · exact op_neG hu rfl pins s σ H _ _ v u Q I rx ry h
def rIsU : R2 := fun x y H Q => match x, y with
  | .bl a, .bl b => Q (.bl (decide (a = b))) H
  | x, .non => Q (.bl (decide (x = .non))) H
  | .ref a, .ref b => ∃ oa ob, H a = some oa ∧ isObj oa = true ∧ H b = some ob ∧ isObj ob = true ∧ Q (.bl (decide (a = b))) H
  | _, _ => False
def rIsnU : R2 := fun x y H Q => match x, y with
  | .bl a, .bl b => Q (.bl (!decide (a = b))) H
  | x, .non => Q (.bl (!decide (x = .non))) H
  | .ref a, .ref b => ∃ oa ob, H a = some oa ∧ isObj oa = true ∧ H b = some ob ∧ isObj ob = true ∧ Q (.bl (!decide (a = b))) H
  | _, _ => False
theorem op_isU : OpR X (compareOp .Is) rIsU := by
  intro pins s σ H x y v u Q I rx ry h
  cases y <;> cases x <;> first
    | exact False.elim h
    | exact op_isN pins s σ H _ _ v u Q I rx ry ⟨rfl, h⟩
    | exact op_isBl pins s σ H _ _ v u Q I rx ry ⟨_, _, rfl, rfl, h⟩
    | exact op_is_ref pins s σ H _ _ v u Q I rx ry (let ⟨oa, ob, h1, h2, h3, h4, h5⟩ := h; ⟨_, _, oa, ob, rfl, rfl, h1, h2, h3, h4, h5⟩)
theorem op_isnU : OpR X (compareOp .IsNot) rIsnU := by
  intro pins s σ H x y v u Q I rx ry h
  cases y <;> cases x <;> first
    | exact False.elim h
    | exact op_notN pins s σ H _ _ v u Q I rx ry ⟨rfl, h⟩
    | exact op_notBl pins s σ H _ _ v u Q I rx ry ⟨_, _, rfl, rfl, h⟩
    | exact op_isnot_ref pins s σ H _ _ v u Q I rx ry (let ⟨oa, ob, h1, h2, h3, h4, h5⟩ := h; ⟨_, _, oa, ob, rfl, rfl, h1, h2, h3, h4, h5⟩)
/-- one sign in a text; a flat thing in a list or a tuple -/
def rInU (K : PySem.W.Frag) : R2 := fun x y H Q => match y with
  | .str z => ∃ c : Nat, x = .str ⟨#[c]⟩ ∧ Q (.bl (decide (c ∈ z.cps.toList))) H
  | _ => rIn K false x y H Q
theorem op_inU {K : PySem.W.Frag} (hK : X.K = K := by rfl) : OpR X (compareOp .In) (rInU K) := by
  subst hK
  intro pins s σ H x y v u Q I rx ry h
  cases y <;> first
    | exact op_in_seq pins s σ H _ _ v u Q I rx ry h
    | exact op_in_sign pins s σ H _ _ v u Q I rx ry (let ⟨c, e, q⟩ := h; ⟨c, _, e, rfl, q⟩)
/-! ### subscripts, slices -/
def rIxU (K : PySem.W.Frag) : R2 := fun x y H Q => match x, y with
  | .str z, .int i => z.length ≤ sizeLine ∧ ∃ c, atI z.cps.toList i = some c ∧ Q (.str ⟨#[c]⟩) H
  | .ref a, .int i => ∃ xs v, (SqL K H a xs ∨ SqT K H a xs) ∧ atI xs i = some v ∧ Q v H
  | _, _ => False
theorem ix_U {K : PySem.W.Frag} (hK : X.K = K := by rfl) : IxR X (rIxU K) := by
  subst hK
  intro e1 e2 pins s σ H x y v u Q I rx ry h hs
  cases x <;> cases y <;> first | exact False.elim h | skip
  · obtain ⟨h1, c, h2, h3⟩ := h
    exact ix_str e1 e2 pins s σ H _ _ v u Q I rx ry ⟨_, _, c, rfl, rfl, h1, h2, h3⟩ hs
  · obtain ⟨xs, w, h1, h2, h3⟩ := h
    rcases h1 with h1 | h1
    · exact ix_list e1 e2 pins s σ H _ _ v u Q I rx ry ⟨_, xs, _, w, rfl, rfl, h1, h2, h3⟩ hs
    · exact ix_tup e1 e2 pins s σ H _ _ v u Q I rx ry ⟨_, xs, _, w, rfl, rfl, h1, h2, h3⟩ hs
def rSlU (K : PySem.W.Frag) : V → Option Int → Option Int → Hp → VK → Prop := fun x lo hi H Q => match x with
  | .str z => z.length ≤ sizeLine ∧ Q (.str (cutS z lo hi)) H
  | .ref a => rSlL K (.ref a) lo hi H Q ∨ rSlT K (.ref a) lo hi H Q
  | _ => False
theorem sl_U {K : PySem.W.Frag} (hK : X.K = K := by rfl) : SlR X (rSlU K) := by
  subst hK
  intro pins s σ H x v vl vu lo hi sl Q I rx h1 h2 h3 h
  cases x <;> first | exact False.elim h | skip
  · exact sl_str pins s σ H _ v vl vu lo hi sl Q I rx h1 h2 h3 ⟨_, rfl, h.1, h.2⟩
  · exact sl_list.or sl_tup pins s σ H _ v vl vu lo hi sl Q I rx h1 h2 h3 h
/-! ### len, isinstance, int, str -/
def rLenU (K : PySem.W.Frag) : List V → Hp → VK → Prop := fun xs H Q => ∃ x n, xs = [x] ∧ LenV K x H n ∧ Q (.int n) H
theorem call_lenU {K : PySem.W.Frag} (hK : X.K = K := by rfl) : CallR X (.builtin "len") (rLenU K) := by
  subst hK
  exact call_len
def rIntU : List V → Hp → VK → Prop := fun xs H Q => match xs with
  | [.int i] => Q (.int i) H
  | [.bl k] => Q (.int (if k then 1 else 0)) H
  | [.str a] => ∃ n, PySem.intText? a = some n ∧ a.length ≤ 640 ∧ Q (.int n) H
  | _ => False
theorem call_intU : CallR X (.type "int") rIntU := by
  intro pins s σ H xs us Q I r h
  unfold rIntU at h
  split at h
  · exact call_int1 pins s σ H _ us Q I r (.inl ⟨_, rfl, h⟩)
  · exact call_int1 pins s σ H _ us Q I r (.inr ⟨_, rfl, h⟩)
  · obtain ⟨n, h1, h2, h3⟩ := h
    exact call_int_str pins s σ H _ us Q I r ⟨_, n, rfl, h1, h2, h3⟩
  · exact False.elim h
/-! ### isinstance -/
end
/-- the built-in classes that are asked for -/
inductive Kd where | int | bl | str | lst | tup | dct
  deriving DecidableEq
def Kd.name : Kd → String | .int => "int" | .bl => "bool" | .str => "str" | .lst => "list" | .tup => "tuple" | .dct => "dict"
/-- what the text says of a class of its own, for isinstance of its instances and of others -/
structure IsC (K : PySem.W.Frag) (C : Addr) : Prop where
  ha : PySem.W.findIn K (.ref C) "__class__" = some (some (.builtin "object.__class__"))
  hn : PySem.W.specialIn K (.builtin "object.__class__") "__get__" = some (some (.builtin "getset_descriptor.__get__"))
  htk : PySem.W.takesIn K (.builtin "object.__class__") = some true
  hm : PySem.W.mroIn K C (.type "object") = some true
  out : ∀ d : Kd, PySem.W.kitOne K (.ref C) (.type d.name) = some false
  inn : ∀ t : String, t ∈ ["NoneType", "int", "bool", "str", "list", "tuple", "dict"] → PySem.W.kitOne K (.type t) (.ref C) = some false
theorem kit_out {K : PySem.W.Frag} {C : Addr} {n : String} {b : Bool} (hm : PySem.W.kitMeta n = true) (h : PySem.W.subIn K (.ref C) (.type n) = some b) : PySem.W.kitOne K (.ref C) (.type n) = some b := by
  unfold PySem.W.kitOne PySem.W.kitCls
  rw [if_neg (show ¬ ((Value.ref C == Value.type n) = true) by simp)]
  show (if PySem.W.kitMeta n = true then _ else _) = _
  rw [if_pos hm, h]
theorem kit_in {K : PySem.W.Frag} {C : Addr} {t : Value} {b : Bool} (h0 : (t == Value.ref C) = false) (h1 : PySem.W.isClsIn K C = true) (h2 : PySem.W.typeIn K (.ref C) = some (.type "type")) (h : PySem.W.subIn K t (.ref C) = some b) : PySem.W.kitOne K t (.ref C) = some b := by
  unfold PySem.W.kitOne PySem.W.kitCls
  rw [if_neg (by rw [h0]; exact Bool.false_ne_true)]
  show (if ((PySem.W.clsIn K C).isSome && PySem.W.typeIn K (.ref C) == some (.type "type")) = true then _ else _) = _
  have e : (PySem.W.clsIn K C).isSome = true := h1
  rw [if_pos (by rw [e, h2]; rfl), h]
/-- is x of the kind d: what the value alone tells -/
def Kd.has (d : Kd) : V → Bool
  | .int _ => d == .int
  | .bl _ => d == .int || d == .bl
  | .str _ => d == .str
  | _ => false
def Kd.hasO (d : Kd) : HO → Bool
  | .lst _ => d == .lst
  | .tup _ => d == .tup
  | .dK _ => d == .dct
  | .dT _ => d == .dct
  | _ => false
/-- an object whose class is known -/
def KnO (K : PySem.W.Frag) : HO → Prop
  | .lst _ => True
  | .tup _ => True
  | .dK _ => True
  | .dT _ => True
  | .ins C _ _ => Cls K C ∧ IsC K C
  | _ => False
def Kn (K : PySem.W.Frag) (H : Hp) : V → Prop
  | .non => True
  | .bl _ => True
  | .int _ => True
  | .str _ => True
  | .ref a => ∃ o, Obs K H a o ∧ KnO K o
  | _ => False
/-- the class of a value as the library tells it -/
def isO (K : PySem.W.Frag) (x : V) (H : Hp) (R : (Kd → Bool) → Option Addr → Prop) : Prop := match x with
  | .non => R (fun _ => false) none
  | .bl b => R (fun d => d.has (.bl b)) none
  | .int i => R (fun d => d.has (.int i)) none
  | .str z => R (fun d => d.has (.str z)) none
  | .ref a => ∃ o, Obs K H a o ∧ match o with
    | .lst _ => R (fun d => d == .lst) none
    | .tup _ => R (fun d => d == .tup) none
    | .dK _ => R (fun d => d == .dct) none
    | .dT _ => R (fun d => d == .dct) none
    | .ins C _ _ => Cls K C ∧ IsC K C ∧ R (fun _ => false) (some C)
    | _ => False
  | _ => False
theorem tyx_lst {K : PySem.W.Frag} {H : Hp} {a : Addr} {xs : List V} (h : SqL K H a xs) : TyX K H (.ref a) (.type "list") := by
  rcases h with (h | ⟨o, h⟩) | ⟨o, its, n, h1, h2, _⟩
  · exact .base (.lst h)
  · exact .base (.frz h)
  · exact .kList h1 h2
theorem tyx_tup {K : PySem.W.Frag} {H : Hp} {a : Addr} {xs : List V} (h : SqT K H a xs) : TyX K H (.ref a) (.type "tuple") := by
  rcases h with (h | ⟨o, h⟩) | ⟨o, its, n, h1, h2, _⟩
  · exact .base (.tup h)
  · exact .fTuple h
  · exact .kTuple h1 h2
theorem kdk : ∀ (t : String) (d : Kd), t ∈ ["NoneType", "int", "bool", "str", "list", "tuple", "dict"] → kitB t d.name = some (t == d.name || (t == "bool" && d == .int)) := by
  intro t d ht
  simp only [List.mem_cons, List.not_mem_nil, or_false] at ht
  rcases ht with rfl | rfl | rfl | rfl | rfl | rfl | rfl <;> cases d <;> decide +kernel
/-- the type t of x, and what each asked class says of it -/
theorem isO_ty {K : PySem.W.Frag} {x : V} {H : Hp} {R : (Kd → Bool) → Option Addr → Prop} (h : isO K x H R) : ∃ t f c, TyX K H x t ∧ R f c ∧ (∀ d : Kd, PySem.W.kitOne K t (.type d.name) = some (f d)) ∧
    ((c = none ∧ ∃ n, t = .type n ∧ n ∈ ["NoneType", "int", "bool", "str", "list", "tuple", "dict"]) ∨ ∃ C, c = some C ∧ t = .ref C ∧ IsC K C) := by
  have kk : ∀ n, n ∈ ["NoneType", "int", "bool", "str", "list", "tuple", "dict"] → ∀ f : Kd → Bool, (∀ d : Kd, (n == d.name || (n == "bool" && d == .int)) = f d) → ∀ d : Kd, PySem.W.kitOne K (.type n) (.type d.name) = some (f d) := fun n hn f hf d => by
    have e := kdk n d hn
    rw [hf d] at e
    exact kit_ty e
  cases x with
  | non => exact ⟨_, _, _, .base .non, h, kk "NoneType" (by decide) _ (fun d => by cases d <;> decide), .inl ⟨rfl, _, rfl, by decide⟩⟩
  | bl b => exact ⟨_, _, _, .base (.bl b), h, kk "bool" (by decide) _ (fun d => by cases d <;> rfl), .inl ⟨rfl, _, rfl, by decide⟩⟩
  | int i => exact ⟨_, _, _, .base (.int i), h, kk "int" (by decide) _ (fun d => by cases d <;> rfl), .inl ⟨rfl, _, rfl, by decide⟩⟩
  | str z => exact ⟨_, _, _, .base (.str z), h, kk "str" (by decide) _ (fun d => by cases d <;> rfl), .inl ⟨rfl, _, rfl, by decide⟩⟩
  | byt _ => exact h.elim
  | flt _ => exact h.elim
  | ty _ => exact h.elim
  | ref a =>
    obtain ⟨o, ho, h⟩ := h
    cases o with
    | lst xs => exact ⟨_, _, _, tyx_lst ho, h, kk "list" (by decide) _ (fun d => by cases d <;> rfl), .inl ⟨rfl, _, rfl, by decide⟩⟩
    | tup xs => exact ⟨_, _, _, tyx_tup ho, h, kk "tuple" (by decide) _ (fun d => by cases d <;> rfl), .inl ⟨rfl, _, rfl, by decide⟩⟩
    | dK kvs => exact ⟨_, _, _, .base (.dK ho), h, kk "dict" (by decide) _ (fun d => by cases d <;> rfl), .inl ⟨rfl, _, rfl, by decide⟩⟩
    | dT kvs => exact ⟨_, _, _, .base (.dT ho), h, kk "dict" (by decide) _ (fun d => by cases d <;> rfl), .inl ⟨rfl, _, rfl, by decide⟩⟩
    | ins C dx fs =>
      obtain ⟨c, ic, h⟩ := h
      exact ⟨_, _, _, .base (.ins ho c ic.ha ic.hn ic.htk ic.hm), h, ic.out, .inr ⟨C, rfl, rfl, ic⟩⟩
    | _ => exact h.elim
/-- isinstance(x, T) -/
def rIsiB (d : Kd) (K : PySem.W.Frag) : List V → Hp → VK → Prop := fun xs H Q => ∃ x, xs = [x, .ty d.name] ∧ isO K x H fun f _ => Q (.bl (f d)) H
/-- isinstance(x, (T, U)), the tuple just laid -/
def rIsiBs (ds : List Kd) (K : PySem.W.Frag) : List V → Hp → VK → Prop := fun xs H Q => ∃ x tp, xs = [x, .ref tp] ∧ H tp = some (.tup (ds.map fun d => .ty d.name)) ∧ isO K x H fun f _ => Q (.bl (ds.any f)) H
/-- isinstance(x, C), C of the text -/
def rIsiC (C : Addr) (K : PySem.W.Frag) : List V → Hp → VK → Prop := fun xs H Q => ∃ x, xs = [x, .ref C] ∧ isO K x H fun _ c => match c with
  | none => Q (.bl false) H
  | some D => ∃ b, PySem.W.kitOne K (.ref D) (.ref C) = some b ∧ Q (.bl b) H
section
variable {X : Cx}
theorem call_isiB (d : Kd) {K : PySem.W.Frag} (hK : X.K = K := by rfl) : CallR X (.builtin "isinstance") (rIsiB d K) := by
  subst hK
  intro pins s σ H xs us Q I r h
  obtain ⟨x, rfl, h⟩ := h
  obtain ⟨t, f, c, ty, q, k, _⟩ := isO_ty h
  exact call_isi pins s σ H _ us Q I r ⟨x, _, t, _, _, rfl, .ty _, ty, k d, q⟩
theorem kitAny_kds {K : PySem.W.Frag} {t : Value} {f : Kd → Bool} (k : ∀ d : Kd, PySem.W.kitOne K t (.type d.name) = some (f d)) : ∀ ds : List Kd, PySem.W.kitAny K t (ds.map fun d => .type d.name) = some (ds.any f)
  | [] => rfl
  | d :: ds => kitAny_cons (k d) (fun e => by rw [kitAny_kds k ds, List.any_cons, e]; rfl) (fun e => by rw [List.any_cons, e]; rfl)
theorem clsV_kds : ∀ ds : List Kd, Paired ClsV (ds.map fun d => V.ty d.name) (ds.map fun d => Value.type d.name)
  | [] => .nil
  | _ :: ds => .cons (.ty _) (clsV_kds ds)
theorem call_isiBs (ds : List Kd) {K : PySem.W.Frag} (hK : X.K = K := by rfl) : CallR X (.builtin "isinstance") (rIsiBs ds K) := by
  subst hK
  intro pins s σ H xs us Q I r h
  obtain ⟨x, tp, rfl, ht, h⟩ := h
  obtain ⟨t, f, c, ty, q, k, _⟩ := isO_ty h
  exact call_isiT pins s σ H _ us Q I r ⟨x, tp, _, t, _, _, rfl, ht, clsV_kds ds, ty, kitAny_kds k ds, q⟩
theorem call_isiC {C : Addr} {K : PySem.W.Frag} (ic : IsC K C) (hK : X.K = K := by rfl) : CallR X (.builtin "isinstance") (rIsiC C K) := by
  subst hK
  intro pins s σ H xs us Q I r h
  obtain ⟨x, rfl, h⟩ := h
  obtain ⟨t, f, c, ty, q, k, e⟩ := isO_ty h
  rcases e with ⟨rfl, n, rfl, hn⟩ | ⟨D, rfl, rfl, _⟩
  · exact call_isi pins s σ H _ us Q I r ⟨x, _, _, _, _, rfl, .own _, ty, ic.inn n hn, q⟩
  · obtain ⟨b, e, q⟩ := q
    exact call_isi pins s σ H _ us Q I r ⟨x, _, _, _, _, rfl, .own _, ty, e, q⟩
/-! ### rules of the layer, the written part named -/
theorem call_maxU (hc : X.calm = true) : CallR X (.builtin "max") (rMaxU) := call_max2 hc
theorem call_minU (hc : X.calm = true) : CallR X (.builtin "min") (rMinU) := call_min2 hc
theorem cr_allK {K : PySem.W.Frag} (hc : X.calm = true) (hK : X.K = K := by rfl) : CallR X (.builtin "all") (rAll K) := by
  subst hK
  exact cr_all hc
theorem cr_anyK {K : PySem.W.Frag} (hc : X.calm = true) (hK : X.K = K := by rfl) : CallR X (.builtin "any") (rAny K) := by
  subst hK
  exact cr_any hc
theorem cr_sumK {K : PySem.W.Frag} (hc : X.calm = true) (hK : X.K = K := by rfl) : CallR X (.builtin "sum") (rSum K) := by
  subst hK
  exact cr_sum hc
theorem cr_maxK {K : PySem.W.Frag} (hc : X.calm = true) (hK : X.K = K := by rfl) : CallR X (.builtin "max") (rMax K) := by
  subst hK
  exact cr_max hc
theorem cr_minK {K : PySem.W.Frag} (hc : X.calm = true) (hK : X.K = K := by rfl) : CallR X (.builtin "min") (rMin K) := by
  subst hK
  exact cr_min hc
theorem pi_listK {tg l : Expr} {tl : TE} {K : PySem.W.Frag} (hl : PE X l tl) (hK : X.K = K := by rfl) : PI X tg l (iList K tl) := by
  subst hK
  exact pi_list hl
theorem pi_tupK {tg l : Expr} {tl : TE} {K : PySem.W.Frag} (hl : PE X l tl) (hK : X.K = K := by rfl) : PI X tg l (iTup K tl) := by
  subst hK
  exact pi_tup hl
theorem pi_strK {tg l : Expr} {tl : TE} (hl : PE X l tl) : PI X tg l (iStr tl) := pi_str hl
theorem pg_tupK {es : List Expr} {k : Nat} {t : TGs} {n : Nat} {pos : Pos} {K : PySem.W.Frag} (hc : X.calm = true) (h : PGs X es t) (hK : X.K = K := by rfl)
    (hn : (assignEach es X.env).length = n := by rfl) (hst : (assignEach es X.env).findIdx? (·.1) = none := by rfl) : PG X (.Tuple es k pos) (gTup K n t) := by
  subst hK
  exact pg_tup hc h hn hst
theorem pe_fldK {e : Expr} {f : Str} {pos : Pos} {ta : TE} {K : PySem.W.Frag} (he : PE X e ta) (hK : X.K = K := by rfl) (hb : attributeBase e f X.env (eval e X.env) = eval e X.env := by rfl) : PE X (.Attribute e f pos) (tFld K ta f) := by
  subst hK
  exact pe_fld he hb
theorem ps_fldK {o value : Expr} {f : Str} {pos pos' : Pos} {ta tv : TE} {K : PySem.W.Frag} (ha : PE X o ta) (hv : PE X value tv) (hK : X.K = K := by rfl) (hs : swapsWith value (some (.Attribute o f pos')) pos.line X.env = pure false := by rfl) : PS X (.Assign [.Attribute o f pos'] value pos) (sFld K ta tv f) := by
  subst hK
  exact ps_fld ha hv hs
/-! ### names of the module, calls with defaults -/
theorem pe_globE {x : Str} {v : V} {pos : Pos} (hg : Gl X x) (hm : ∃ u, X.mg x = some u ∧ RelV v u) (hd : (x == ("__debug__" : Str)) = false := by decide) : PE X (.Name x pos) (tC v) := by
  obtain ⟨u, hm, r⟩ := hm
  exact pe_glob hg hm r hd
theorem pe_callD {CX : CXT} {k : Nat} {f : Addr} {fd : FuncData} {ps : List Str} {sp : Sp} {dvs : List V} {E : XK} {x : Str} {p pos : Pos} {e : Expr} {es : List Expr} {t : TA}
    (F : FnOk X.prog X.w X.K X.mg X.base CX k f fd ps sp) (hr : Room k X.A) (hg : Gl X x) (hm : X.mg x = some (.ref f)) (hk : PySem.W.keepIn X.K (.ref f) = true) (hb : ∃ ds, Vals dvs ds ∧ Binds X.K fd ps ds) (hx : Passes CX X E)
    (ha : PA X (e :: es) t) (hdb : (x == ("__debug__" : Str)) = false := by decide) (he : starEach (e :: es) X.env = (false, eval e X.env) :: starEach es X.env := by rfl) (hpl : (backTo pos (starEach es X.env)).any (·.1) = false := by rfl) :
    PE X (.Call (.Name x p) (e :: es) [] pos) (tCall sp dvs E t) := by
  obtain ⟨ds, hd, hb⟩ := hb
  exact pe_call F hr hg hm hk hb hd hx ha hdb he hpl
theorem pe_callNE {CX : CXT} {k n : Nat} {f : Addr} {fd : FuncData} {ps ks : List Str} {sp : Sp} {E : XK} {x : Str} {p pos : Pos} {e : Expr} {es : List Expr} {kws : List Keyword} {t tk : TA} {gV : List V → List V → List V}
    (F : FnOk X.prog X.w X.K X.mg X.base CX k f fd ps sp) (hr : Room k X.A) (hg : Gl X x) (hm : X.mg x = some (.ref f)) (hk : PySem.W.keepIn X.K (.ref f) = true) (hb : ∃ g, KBn X.K fd ps n ks g gV) (hx : Passes CX X E)
    (ha : PA X (e :: es) t) (hkw : PK X kws tk) (hall : (backToKw pos (keywordEach kws X.env)).all (·.1.isSome) = true := by rfl) (hks : (backToKw pos (keywordEach kws X.env)).filterMap (·.1) = ks := by rfl)
    (hdb : (x == ("__debug__" : Str)) = false := by decide) (he : starEach (e :: es) X.env = (false, eval e X.env) :: starEach es X.env := by rfl)
    (hpl : ((backTo pos (starEach (e :: es) X.env)).any (·.1) || (backToKw pos (keywordEach kws X.env)).any (·.1.isNone)) = false := by rfl) :
    PE X (.Call (.Name x p) (e :: es) kws pos) (tCallN n ks.length sp gV E t tk) := by
  obtain ⟨g, hb⟩ := hb
  exact pe_callN F hr hg hm hk hb hx ha hkw hall hks hdb he hpl
end
/-! ### what the top has left -/
theorem fund_mk {K : PySem.W.Frag} {x qual : Str} {st : Stmt} {f : Addr} {dvs : List V} {oc dV : Value} {od an : Option Addr} {osl : Array (Option Value)} {kV doc pm cdv ct : Value}
    (l : K.lookup f = some ⟨oc, od, .func (PySem.W.fnOf x qual (defArgs st) (defBody st) (defScope st) dV kV doc pm an cdv ct), osl⟩) (c : PySem.W.codeIn K cdv qual = true) (k : PySem.W.keepIn K (.ref f) = true) (d : DflV K dV dvs) :
    FunD K x qual (defArgs st) (defBody st) (defScope st) dvs [] f (PySem.W.fnOf x qual (defArgs st) (defBody st) (defScope st) dV kV doc pm an cdv ct) :=
  ⟨⟨oc, od, dV, kV, doc, pm, an, cdv, ct, osl, rfl, l, c, d, .inl rfl⟩, k⟩
theorem dfl_mk {K : PySem.W.Frag} {dV : Value} {T : Addr} {o : Obj} {its : List Value} {n : Nat} {dvs : List V} (e : dV = .ref T) (l : K.lookup T = some o) (hd : o.data = .seq its.toArray n) (r : Vals dvs its) (hn : dvs ≠ []) : DflV K dV dvs := .inr ⟨hn, T, o, its, n, e, l, hd, r⟩
section
variable {K : PySem.W.Frag} {x qual : Str} {st : Stmt} {dvs : List V} {f : Addr} {fd : FuncData} {ps : List Str}
/-- all parameters are written, no defaults stand -/
theorem fund_all0 (F : FunD K x qual (defArgs st) (defBody st) (defScope st) [] [] f fd)
    (h : ∀ (kV doc pm : Value) (an : Option Addr) (cdv ct : Value) (us : List Value), us.length = ps.length → bindArgs (PySem.W.fnOf x qual (defArgs st) (defBody st) (defScope st) .none kV doc pm an cdv ct) ⟨us, []⟩ = pure (ps.zip us)) : Binds K fd ps [] := F.bindsN h
/-- all parameters are written, and defaults stand -/
theorem fund_allD (F : FunD K x qual (defArgs st) (defBody st) (defScope st) dvs [] f fd) (hd : dvs ≠ [])
    (h : ∀ (T : Addr) (kV doc pm : Value) (an : Option Addr) (cdv ct : Value) (us its : List Value), us.length = ps.length → its.length = dvs.length →
      ∃ k, bindArgs (PySem.W.fnOf x qual (defArgs st) (defBody st) (defScope st) (.ref T) kV doc pm an cdv ct) ⟨us, []⟩ = seqItems? (.ref T) >>= k ∧ k (some its.toArray) = pure (ps.zip us)) : Binds K fd ps [] := by
  obtain ⟨ds, r, b⟩ := F.binds1 (ps := ps) ps.length dvs.length hd (by omega) (fun T kV doc pm an cdv ct us its h1 h2 => by
    obtain ⟨k, e1, e2⟩ := h T kV doc pm an cdv ct us its h1 h2
    refine ⟨k, e1, ?_⟩
    rw [e2, List.drop_eq_nil_of_le (Nat.le_of_eq h2), List.append_nil])
  have e : ds = [] := by
    have := r.length
    rw [List.drop_length] at this
    exact List.eq_nil_of_length_eq_zero this.symm
  rw [e] at b
  exact b
theorem Vals.pick {xs : List V} {us : List Value} (r : Vals xs us) : ∀ ix : List Nat, Vals (ix.filterMap fun i => xs[i]?) (ix.filterMap fun i => us[i]?)
  | [] => .nil
  | i :: ix => by
    rw [List.filterMap_cons, List.filterMap_cons]
    cases e : xs[i]? with
    | none =>
      rw [Vals.none_of r e]
      exact Vals.pick r ix
    | some y =>
      obtain ⟨u, e2, r2⟩ := Vals.get r e
      rw [e2]
      exact .cons r2 (Vals.pick r ix)
/-- keywords: the parameters picked from the written values, the keywords' values, the defaults -/
theorem fund_kw (F : FunD K x qual (defArgs st) (defBody st) (defScope st) dvs [] f fd) (n : Nat) (ks : List Str) (ix : List Nat) (hd : dvs ≠ [])
    (h : ∀ (T : Addr) (kV doc pm : Value) (an : Option Addr) (cdv ct : Value) (us ws its : List Value), us.length = n → ws.length = ks.length → its.length = dvs.length →
      ∃ k, bindArgs (PySem.W.fnOf x qual (defArgs st) (defBody st) (defScope st) (.ref T) kV doc pm an cdv ct) ⟨us, ks.zip ws⟩ = seqItems? (.ref T) >>= k ∧ k (some its.toArray) = pure (ps.zip (ix.filterMap fun i => (us ++ (ws ++ its))[i]?))) :
    ∃ g, KBn K fd ps n ks g (fun vs zs => ix.filterMap fun i => (vs ++ (zs ++ dvs))[i]?) := by
  obtain ⟨oc, od, dV, kV, doc, pm, an, cdv, ct, osl, rfl, lk, hcd, hD, hK⟩ := F.ex
  rcases hD with ⟨e, _⟩ | ⟨_, T, o, its, m, rfl, lT, oT, rT⟩
  · exact absurd e hd
  · refine ⟨fun us ws => ix.filterMap fun i => (us ++ (ws ++ its))[i]?, ⟨fun s us ws X l1 l2 => ?_, fun r1 r2 => Vals.pick (r1.append (r2.append rT)) ix⟩⟩
    obtain ⟨k, e1, e2⟩ := h T kV doc pm an cdv ct us ws its l1 l2 rT.length.symm
    refine BindsTo.of_looks fun M => ?_
    rw [e1]
    exact looks_items X lT oT (.of_pure e2)
theorem fund_kw0 (F : FunD K x qual (defArgs st) (defBody st) (defScope st) [] [] f fd) (n : Nat) (ks : List Str) (ix : List Nat)
    (h : ∀ (kV doc pm : Value) (an : Option Addr) (cdv ct : Value) (us ws : List Value), us.length = n → ws.length = ks.length →
      bindArgs (PySem.W.fnOf x qual (defArgs st) (defBody st) (defScope st) .none kV doc pm an cdv ct) ⟨us, ks.zip ws⟩ = pure (ps.zip (ix.filterMap fun i => (us ++ ws)[i]?))) :
    ∃ g, KBn K fd ps n ks g (fun vs zs => ix.filterMap fun i => (vs ++ zs)[i]?) := by
  obtain ⟨oc, od, dV, kV, doc, pm, an, cdv, ct, osl, rfl, lk, hcd, hD, hK⟩ := F.ex
  rcases hD with ⟨_, rfl⟩ | ⟨e, _⟩
  · refine ⟨fun us ws => ix.filterMap fun i => (us ++ ws)[i]?, ⟨fun s us ws X l1 l2 => ?_, fun r1 r2 => Vals.pick (r1.append r2) ix⟩⟩
    exact .of_eq (h kV doc pm an cdv ct us ws l1 l2)
  · exact absurd rfl e
end
/-! ### the heap -/
theorem get_upd {H : Hp} {a p : Addr} {o u : HO} (hp : H p = none) (h : H a = some o) : upd H p u a = some o := by
  rw [upd_ne (ne_of_none h hp)]
  exact h
theorem get_same {H H' : Hp} {a : Addr} {o : HO} (s : Same H H') (h : H a = some o) : H' a = some o := s a o h
theorem same_upd {H H' : Hp} {p : Addr} {u : HO} (s : Same H H') (hp : H' p = none) : Same H (upd H' p u) := fun _ _ e => get_upd hp (s _ _ e)
/-! ### comprehensions whose element gives a value of the item alone (none: it is left out) -/
theorem take_succ_get {α : Type} {xs : List α} {i : Nat} {x : α} (h : xs[i]? = some x) : xs.take (i + 1) = xs.take i ++ [x] := by
  rw [List.take_succ, h]
  rfl
theorem lc_fm {J : It} {G : Hp → Prop} {g : TG} {tt : TT} {te : TE} {vs : List Nat} {σ : St} {H1 : Hp} {D : Addr} {Qd : Hp → Prop} (xs : List V) (f : V → Option V) (w : Walk J xs.length G (YAt xs)) (hl : xs.length < sizeLine)
    (hG : ∀ H, Same H1 H → G H) (hD : H1 D = none)
    (hs : ∀ x ∈ xs, ∀ H (Q : VK) (R : Hp → Prop), Same H1 H → (∀ H', Same H H' → match f x with | some y => Q y H' | none => R H') → g x (wipe σ vs) H fun σ2 H2 => wipe σ2 vs = wipe σ vs ∧ tt σ2 H2 fun b H3 => if b = true then te σ2 H3 Q else R H3)
    (hd : ∀ H, Same H1 H → H D = some (.lst (xs.filterMap f)) → Qd H) :
    ∃ W : Nat → Nat → Hp → Prop, (∃ m, W 0 m (upd H1 D (.lst []))) ∧ ∀ i m H, W i m H →
      (J.stop i H ∧ Qd H) ∨ (J.go i H ∧ ∃ Nx : Hp → Prop, (∀ H', Nx H' → ∃ m', m' < m ∧ W (i + 1) m' H') ∧ ∀ x H', J.yld i H x H' → g x (wipe σ vs) H' fun σ2 H2 => wipe σ2 vs = wipe σ vs ∧ tt σ2 H2 fun b H3 =>
        if b = true then te σ2 H3 fun y H4 => ∃ acc, H4 D = some (.lst acc) ∧ acc.length < sizeLine ∧ Nx (upd H4 D (.lst (acc ++ [y]))) else Nx H3) := by
  refine lc_it w (fun i H => Same H1 H ∧ H D = some (.lst ((xs.take i).filterMap f))) ⟨same_upd (Same.refl H1) hD, upd_same⟩ (fun i H _ h => hG H h.1) ?_ (fun H h => ?_)
  · rintro i x H H' hi ⟨s1, e1⟩ ⟨rfl, hx⟩
    refine hs x (List.mem_of_getElem? hx) H' _ _ s1 fun H4 s4 => ?_
    have e4 := s4 _ _ e1
    have s14 := s1.trans s4
    cases ef : f x with
    | none =>
      refine ⟨s14, ?_⟩
      rw [take_succ_get hx, List.filterMap_append, List.filterMap_cons, ef]
      simpa using e4
    | some y =>
      refine ⟨_, e4, ?_, fun b o hb => ?_, ?_⟩
      · refine Nat.lt_of_le_of_lt (List.length_filterMap_le _ _) (Nat.lt_of_le_of_lt ?_ hl)
        rw [List.length_take]
        exact Nat.min_le_right _ _
      · rw [upd_ne (ne_of_none hb hD)]
        exact s14 _ _ hb
      · rw [upd_same, take_succ_get hx, List.filterMap_append, List.filterMap_cons, ef]
        rfl
  · rw [List.take_length] at h
    exact hd H h.1 h.2
theorem lc_map {J : It} {G : Hp → Prop} {g : TG} {tt : TT} {te : TE} {vs : List Nat} {σ : St} {H1 : Hp} {D : Addr} {Qd : Hp → Prop} (xs : List V) (f : V → V) (w : Walk J xs.length G (YAt xs)) (hl : xs.length < sizeLine)
    (hG : ∀ H, Same H1 H → G H) (hD : H1 D = none)
    (hs : ∀ x ∈ xs, ∀ H (Q : VK) (R : Hp → Prop), Same H1 H → (∀ H', Same H H' → Q (f x) H') → g x (wipe σ vs) H fun σ2 H2 => wipe σ2 vs = wipe σ vs ∧ tt σ2 H2 fun b H3 => if b = true then te σ2 H3 Q else R H3)
    (hd : ∀ H, Same H1 H → H D = some (.lst (xs.map f)) → Qd H) :
    ∃ W : Nat → Nat → Hp → Prop, (∃ m, W 0 m (upd H1 D (.lst []))) ∧ ∀ i m H, W i m H →
      (J.stop i H ∧ Qd H) ∨ (J.go i H ∧ ∃ Nx : Hp → Prop, (∀ H', Nx H' → ∃ m', m' < m ∧ W (i + 1) m' H') ∧ ∀ x H', J.yld i H x H' → g x (wipe σ vs) H' fun σ2 H2 => wipe σ2 vs = wipe σ vs ∧ tt σ2 H2 fun b H3 =>
        if b = true then te σ2 H3 fun y H4 => ∃ acc, H4 D = some (.lst acc) ∧ acc.length < sizeLine ∧ Nx (upd H4 D (.lst (acc ++ [y]))) else Nx H3) :=
  lc_fm xs (fun x => some (f x)) w hl hG hD (fun x hx H Q R s h => hs x hx H Q R s h) (fun H s e => hd H s (by rw [e, List.filterMap_eq_map']))
/-- the signs of a text as texts of one sign -/
def signs (z : Str) : List V := z.cps.toList.map fun c => .str ⟨#[c]⟩
theorem walk_signs {z : Str} : Walk (Its z) (signs z).length (fun _ => True) (YAt (signs z)) := by
  have e : (signs z).length = z.cps.size := by
    unfold signs
    rw [List.length_map]
    rfl
  rw [e]
  refine walk_str.mono (fun _ h => h) fun i H x H' _ _ ⟨h1, c, h2, h3⟩ => ⟨h1, ?_⟩
  unfold signs
  rw [List.getElem?_map, Array.getElem?_toList, h2, h3]
  rfl
/-- a for, item by item -/
def forW (G : Hp → Prop) (g : TG) (tb : TS) (D : Ends) : List V → St → Hp → Prop
  | [], σ, H => G H ∧ D.nx σ H
  | x :: xs, σ, H => G H ∧ g x σ H fun σ2 H2 => tb { D with nx := forW G g tb D xs, ct := forW G g tb D xs, bk := D.nx } σ2 H2
theorem forW_G {G : Hp → Prop} {g : TG} {tb : TS} {D : Ends} : ∀ {xs : List V} {σ : St} {H : Hp}, forW G g tb D xs σ H → G H
  | [], _, _, h => h.1
  | _ :: _, _, _, h => h.1
theorem for_W {J : It} {G : Hp → Prop} {g : TG} {tb : TS} {D : Ends} {σ : St} {H : Hp} (xs : List V) (w : Walk J xs.length G (YAt xs)) (h : forW G g tb D xs σ H) :
    ∃ W : Nat → Nat → St → Hp → Prop, (∃ m, W 0 m σ H) ∧ ∀ i m σ H, W i m σ H →
      (J.stop i H ∧ D.nx σ H) ∨ (J.go i H ∧ ∃ N : St → Hp → Prop, (∀ σ' H', N σ' H' → ∃ m', m' < m ∧ W (i + 1) m' σ' H') ∧ ∀ x H', J.yld i H x H' → g x σ H' fun σ2 H2 => tb { D with nx := N, ct := N, bk := D.nx } σ2 H2) := by
  refine ⟨fun i m σ H => i ≤ xs.length ∧ m = xs.length - i ∧ forW G g tb D (xs.drop i) σ H, ⟨_, Nat.zero_le _, rfl, h⟩, ?_⟩
  rintro i m σ H ⟨hi, rfl, h⟩
  by_cases c : i = xs.length
  · subst c
    rw [List.drop_length] at h
    exact .inl ⟨w.stops H h.1, h.2⟩
  · have hi' : i < xs.length := by omega
    refine .inr ⟨w.goes i H hi' (forW_G h), forW G g tb D (xs.drop (i + 1)), fun σ' H' q => ⟨xs.length - (i + 1), by omega, by omega, rfl, q⟩, fun x H' hy => ?_⟩
    obtain ⟨rfl, hx⟩ := w.yields i H x H' hi' (forW_G h) hy
    rw [List.drop_eq_getElem_cons hi'] at h
    obtain ⟨_, rfl⟩ := List.getElem?_eq_some_iff.mp hx
    exact h.2
/-! ### a def of which nothing raised leaves -/
theorem fund_ok0 {P : Program} {w : World} {K : PySem.W.Frag} {mg : Str → Option Value} {base : Heap} {x qual : Str} {params : Arguments} {body : List Stmt} {scope : Scope} {dvs : List V} {f : Addr} {fd : FuncData} {N ps : List Str} {k : Nat} {sp : Sp}
    (F : FunD K x qual params body scope dvs [] f fd) (S : FnScope N ps scope) (len : ∀ vs H Q E, sp vs H Q E → vs.length = ps.length)
    (hbody : ∀ (cdv : Value) (A : Around) (outer : List Env) (s : Shared) (H : Hp) (vs : List V) (Q : VK) (E : XK), Room k (A.deeper (PyProof.Rows.envOfC qual scope s.heap.objs.size f cdv)) → sp vs H Q E →
      ∃ t, PSs (cxOf CX0 P w K mg base N qual scope f cdv A outer s H E).nox body t ∧ t { nx := fun _ H' => Q .non H', rt := Q } (start N vs) H) : FnOk P w K mg base CX0 (k + 1) f fd ps sp :=
  F.ok S len fun cdv A outer s H vs Q E hr h => let ⟨t, h1, h2⟩ := hbody cdv A outer s H vs Q E hr h; ⟨t, h1.nox, h2⟩
/-! ### one step of a reading -/
section
variable {D : Ends} {σ : St} {H : Hp} {Q : VK} {K : PySem.W.Frag} {t u : TS} {ta tb te to tl : TE} {tc td : TT} {TQ : Bool → Hp → Prop} {A : TA} {AQ : List V → Hp → Prop} {g : TG} {gs : TGs} {GQ : St → Hp → Prop} {r r' : R2} {v x y : V} {i : Nat}
theorem i_seq (h : t { D with nx := u D } σ H) : tSeq t u D σ H := h
theorem i_ifS (h : tc σ H fun b H1 => if b = true then t D σ H1 else u D σ H1) : tIfS tc t u D σ H := h
theorem i_ret (h : te σ H D.rt) : tRet te D σ H := h
theorem i_retN (h : D.rt .non H) : tRetN D σ H := h
theorem i_next (h : D.nx σ H) : tNext D σ H := h
theorem i_brk (h : D.bk σ H) : tBreak D σ H := h
theorem i_cont (h : D.ct σ H) : tCont D σ H := h
theorem i_asg (h : te σ H fun x H1 => g x σ H1 D.nx) : tAsg te g D σ H := h
theorem i_drop (h : te σ H fun _ H1 => D.nx σ H1) : tDrop te D σ H := h
theorem i_name (h : GQ (σ.set i (some v)) H) : gName i v σ H GQ := h
theorem i_sub {ti : TE} {ts : TSet} (h : to σ H fun o H1 => ti σ H1 fun i H2 => ts o i v H2 fun H3 => GQ σ H3) : gSub to ti ts v σ H GQ := h
theorem i_tupT {n : Nat} {a : Addr} {xs : List V} (h1 : SqT K H a xs) (h2 : xs.length = n) (h3 : gs xs σ H GQ) : gTup K n gs (.ref a) σ H GQ := ⟨a, xs, rfl, h1, h2, h3⟩
theorem i_gnil (h : GQ σ H) : gNil [] σ H GQ := ⟨rfl, h⟩
theorem i_gcons {vs : List V} (h : g v σ H fun σ' H' => gs vs σ' H' GQ) : gCons g gs (v :: vs) σ H GQ := ⟨v, vs, rfl, h⟩
theorem i_setL {p : Addr} {xs : List V} {k : Int} {j : Nat} {HQ : Hp → Prop} (h1 : H p = some (.lst xs)) (h2 : ixN xs.length k = some j) (h3 : HQ (upd H p (.lst (xs.set j v)))) : rSetL (.ref p) (.int k) v H HQ := ⟨p, xs, k, j, rfl, rfl, h1, h2, h3⟩
theorem i_test (h : te σ H fun x H' => ∃ k, x = .bl k ∧ TQ k H') : tTest te σ H TQ := h
theorem i_tB (h : te σ H fun x H' => ∃ k, x = .bl k ∧ TQ k H') : tB te σ H TQ := h
theorem i_bl {b : Bool} {R : Bool → Prop} (h : R b) : ∃ k, V.bl b = .bl k ∧ R k := ⟨b, rfl, h⟩
theorem i_not (h : tc σ H fun c H1 => TQ (!c) H1) : tNot tc σ H TQ := h
theorem i_and (h : tc σ H fun c H1 => if c = true then td σ H1 TQ else TQ false H1) : tAnd tc td σ H TQ := h
theorem i_or (h : tc σ H fun c H1 => if c = true then TQ true H1 else td σ H1 TQ) : tOr tc td σ H TQ := h
theorem i_andV (h : ta σ H fun x H1 => ∃ c, x = .bl c ∧ if c = true then tb σ H1 Q else Q (.bl false) H1) : tAndV ta tb σ H Q := h
theorem i_orV (h : ta σ H fun x H1 => ∃ c, x = .bl c ∧ if c = true then Q (.bl true) H1 else tb σ H1 Q) : tOrV ta tb σ H Q := h
theorem i_notV (h : ta σ H fun x H1 => ∃ c, x = .bl c ∧ Q (.bl (!c)) H1) : tNotV ta σ H Q := h
theorem i_if (h : tc σ H fun c H1 => if c = true then ta σ H1 Q else tb σ H1 Q) : tIf tc ta tb σ H Q := h
theorem i_var (h1 : σ[i]? = some (some v)) (h2 : Q v H) : tVar i σ H Q := ⟨v, h1, h2⟩
theorem i_c (h : Q v H) : tC v σ H Q := h
theorem i_op (h : ta σ H fun x H1 => tb σ H1 fun y H2 => r x y H2 Q) : tOp r ta tb σ H Q := h
theorem i_un {r1 : V → Hp → VK → Prop} (h : ta σ H fun x H1 => r1 x H1 Q) : tUn r1 ta σ H Q := h
theorem i_rU {f : Int → V} {n : Int} (h : Q (f n) H) : rU f (.int n) H Q := ⟨n, rfl, h⟩
theorem i_rI {C : Int → Int → Prop} {f : Int → Int → V} {n m : Int} (h1 : C n m) (h2 : Q (f n m) H) : rI C f (.int n) (.int m) H Q := ⟨n, m, rfl, rfl, h1, h2⟩
theorem i_rI0 {f : Int → Int → V} {n m : Int} (h2 : Q (f n m) H) : rI0 f (.int n) (.int m) H Q := ⟨n, m, rfl, rfl, h2⟩
theorem i_chain (h : ta σ H fun x H1 => tb σ H1 fun y H2 => r x y H2 fun z H3 => ∃ k, z = .bl k ∧ (if k = true then te σ H3 fun w' H4 => r' y w' H4 Q else Q (.bl false) H3)) : tChain r r' ta tb te σ H Q := h
theorem i_addI {n m : Int} (h : Q (.int (n + m)) H) : rAddU K (.int n) (.int m) H Q := h
theorem i_addS {n m : Str} (h1 : n.length + m.length ≤ sizeLine) (h : Q (.str (n ++ m)) H) : rAddU K (.str n) (.str m) H Q := ⟨h1, h⟩
theorem i_addL {p q : Addr} {xs ys : List V} (h1 : H p = some (.lst xs)) (h2 : H q = some (.lst ys)) (h3 : xs.length + ys.length ≤ sizeLine) (h : ∀ b, H b = none → Q (.ref b) (upd H b (.lst (xs ++ ys)))) : rAddU K (.ref p) (.ref q) H Q := .inl ⟨xs, ys, h1, h2, h3, h⟩
theorem i_addT {p q : Addr} {xs ys : List V} (h1 : SqT K H p xs) (h2 : SqT K H q ys) (h0 : xs ≠ []) (h3 : xs.length + ys.length ≤ sizeLine) (e : ys = [] → Q (.ref p) H) (h : ys ≠ [] → ∀ b, H b = none → Q (.ref b) (upd H b (.tup (xs ++ ys)))) : rAddU K (.ref p) (.ref q) H Q :=
  .inr ⟨p, q, xs, ys, rfl, rfl, h1, h2, h0, h3, e, h⟩
theorem i_mulI {n m : Int} (h1 : CMulW n m) (h : Q (.int (n * m)) H) : rMulU (.int n) (.int m) H Q := ⟨h1, h⟩
theorem i_eqS {b : Bool} (h1 : eqS x y = some b) (h : Q (.bl b) H) : rEqU K x y H Q := by
  unfold rEqU
  rw [h1]
  exact h
theorem i_neS {b : Bool} (h1 : eqS x y = some b) (h : Q (.bl (!b)) H) : rNeU K x y H Q := by
  unfold rNeU
  rw [h1]
  exact h
theorem i_eqD {a' b' : PyData} (h0 : eqS x y = none) (h1 : Dp K H x a') (h2 : Dp K H y b') (h3 : SeqAt.shaped a' = true) (h4 : SeqAt.shaped b' = true) (h : Q (.bl (PyData.eqv a' b')) H) : rEqU K x y H Q := by
  unfold rEqU
  rw [h0]
  exact .inl ⟨a', b', h1, h2, h3, h4, h⟩
theorem i_eqG {p q : Addr} {xs ys : List V} {n : Nat} {b : Bool} (h1 : (SqL K H p xs ∧ SqL K H q ys) ∨ (SqT K H p xs ∧ SqT K H q ys)) (hn : n < 60) (t : EqVs K H n xs ys b) (h : Q (.bl b) H) : rEqU K (.ref p) (.ref q) H Q := .inr ⟨p, q, xs, ys, n, b, rfl, rfl, h1, hn, t, h⟩
theorem i_neG {p q : Addr} {xs ys : List V} {n : Nat} {b : Bool} (h1 : (SqL K H p xs ∧ SqL K H q ys) ∨ (SqT K H p xs ∧ SqT K H q ys)) (hn : n < 60) (t : EqVs K H n xs ys b) (h : Q (.bl (!b)) H) : rNeU K (.ref p) (.ref q) H Q := .inr ⟨p, q, xs, ys, n, b, rfl, rfl, h1, hn, t, h⟩
theorem i_neD {a' b' : PyData} (h0 : eqS x y = none) (h1 : Dp K H x a') (h2 : Dp K H y b') (h3 : SeqAt.shaped a' = true) (h4 : SeqAt.shaped b' = true) (h : Q (.bl (!PyData.eqv a' b')) H) : rNeU K x y H Q := by
  unfold rNeU
  rw [h0]
  exact .inl ⟨a', b', h1, h2, h3, h4, h⟩
theorem i_isB {a' b' : Bool} (h : Q (.bl (decide (a' = b'))) H) : rIsU (.bl a') (.bl b') H Q := h
theorem i_isN (h : Q (.bl (decide (x = .non))) H) : rIsU x .non H Q := by cases x <;> exact h
theorem i_isnB {a' b' : Bool} (h : Q (.bl (!decide (a' = b'))) H) : rIsnU (.bl a') (.bl b') H Q := h
theorem i_isnN (h : Q (.bl (!decide (x = .non))) H) : rIsnU x .non H Q := by cases x <;> exact h
theorem i_inS {c : Nat} {z : Str} (h : Q (.bl (decide (c ∈ z.cps.toList))) H) : rInU K (.str ⟨#[c]⟩) (.str z) H Q := ⟨c, rfl, h⟩
theorem i_ixL {p : Addr} {xs : List V} {n : Int} {w' : V} (h1 : SqL K H p xs) (h2 : atI xs n = some w') (h : Q w' H) : rIxU K (.ref p) (.int n) H Q := ⟨xs, w', .inl h1, h2, h⟩
theorem i_ixT {p : Addr} {xs : List V} {n : Int} {w' : V} (h1 : SqT K H p xs) (h2 : atI xs n = some w') (h : Q w' H) : rIxU K (.ref p) (.int n) H Q := ⟨xs, w', .inr h1, h2, h⟩
theorem i_ixS {z : Str} {n : Int} {c : Nat} (h0 : z.length ≤ sizeLine) (h2 : atI z.cps.toList n = some c) (h : Q (.str ⟨#[c]⟩) H) : rIxU K (.str z) (.int n) H Q := ⟨h0, c, h2, h⟩
theorem i_sl {rs : V → Option Int → Option Int → Hp → VK → Prop} {tl th : TO} (h : te σ H fun x H1 => tl σ H1 fun l H2 => th σ H2 fun u H3 => rs x l u H3 Q) : tSl rs te tl th σ H Q := h
theorem i_slS {z : Str} {lo hi : Option Int} (h0 : z.length ≤ sizeLine) (h : Q (.str (cutS z lo hi)) H) : rSlU K (.str z) lo hi H Q := ⟨h0, h⟩
theorem i_slL {p : Addr} {xs : List V} {lo hi : Option Int} (h0 : SqL K H p xs) (h : ∀ b, H b = none → Q (.ref b) (upd H b (.lst (cutV xs lo hi)))) : rSlU K (.ref p) lo hi H Q := .inl ⟨p, xs, rfl, h0, h⟩
theorem i_po0 {OQ : Option Int → Hp → Prop} (h : OQ none H) : tNoPart σ H OQ := h
theorem i_po1 {OQ : Option Int → Hp → Prop} (h : te σ H fun x H1 => ∃ i, x = .int i ∧ OQ (some i) H1) : tPart te σ H OQ := h
theorem i_poI {R : Int → Prop} {n : Int} (h : R n) : ∃ i, V.int n = .int i ∧ R i := ⟨n, rfl, h⟩
theorem i_lst (h : A σ H fun xs H1 => xs.length ≤ sizeLine ∧ ∀ p, H1 p = none → Q (.ref p) (upd H1 p (.lst xs))) : tLst A σ H Q := h
theorem i_tup (h : A σ H fun xs H1 => xs.length ≤ sizeLine ∧ ∀ p, H1 p = none → Q (.ref p) (upd H1 p (.tup xs))) : tTup A σ H Q := h
theorem i_new {n : Nat} {R : Addr → Prop} (h1 : n ≤ 1000) (h : ∀ p, H p = none → R p) : n ≤ sizeLine ∧ ∀ p, H p = none → R p := ⟨Nat.le_of_lt (small1000 h1), h⟩
theorem i_nil (h : AQ [] H) : tNil σ H AQ := h
theorem i_cons (h : te σ H fun x H1 => A σ H1 fun xs H2 => AQ (x :: xs) H2) : tCons te A σ H AQ := h
theorem i_cB {rb : List V → Hp → VK → Prop} (h : A σ H fun vs H1 => rb vs H1 Q) : tCB rb A σ H Q := h
theorem i_call {sp : Sp} {dvs : List V} {E : XK} (h : A σ H fun vs H1 => sp (vs ++ dvs) H1 Q E) : tCall sp dvs E A σ H Q := h
theorem i_callN {n m : Nat} {sp : Sp} {gV : List V → List V → List V} {E : XK} {B : TA} (h : A σ H fun vs H1 => B σ H1 fun zs H2 => vs.length = n ∧ zs.length = m ∧ sp (gV vs zs) H2 Q E) : tCallN n m sp gV E A B σ H Q := h
theorem i_lenS {z : Str} (h0 : z.length ≤ sizeLine) (h : Q (.int z.length) H) : rLenU K [.str z] H Q := ⟨_, _, rfl, ⟨h0, rfl⟩, h⟩
theorem i_lenL {p : Addr} {xs : List V} (h0 : SqL K H p xs) (h : Q (.int xs.length) H) : rLenU K [.ref p] H Q := ⟨_, _, rfl, .inl ⟨xs, h0, rfl⟩, h⟩
theorem i_lenT {p : Addr} {xs : List V} (h0 : SqT K H p xs) (h : Q (.int xs.length) H) : rLenU K [.ref p] H Q := ⟨_, _, rfl, .inr ⟨xs, h0, rfl⟩, h⟩
theorem i_isiB {d : Kd} (h1 : y = .ty d.name) (h : isO K x H fun f _ => Q (.bl (f d)) H) : rIsiB d K [x, y] H Q := ⟨x, by rw [h1], h⟩
theorem i_isiBs {ds : List Kd} {p : Addr} (h0 : H p = some (.tup (ds.map fun d => .ty d.name))) (h : isO K x H fun f _ => Q (.bl (ds.any f)) H) : rIsiBs ds K [x, .ref p] H Q := ⟨x, p, rfl, h0, h⟩
theorem i_all {p : Addr} {bs : List Bool} (h0 : SqL K H p (bs.map V.bl)) (h : Q (.bl (bs.all id)) H) : rAll K [.ref p] H Q := ⟨p, bs, rfl, h0, h⟩
theorem i_isoN {R : (Kd → Bool) → Option Addr → Prop} (h : R (fun _ => false) none) : isO K .non H R := h
theorem i_isoB {R : (Kd → Bool) → Option Addr → Prop} {b : Bool} (h : R (fun d => d == .int || d == .bl) none) : isO K (.bl b) H R := h
theorem i_isoI {R : (Kd → Bool) → Option Addr → Prop} {n : Int} (h : R (fun d => d == .int) none) : isO K (.int n) H R := h
theorem i_isoS {R : (Kd → Bool) → Option Addr → Prop} {z : Str} (h : R (fun d => d == .str) none) : isO K (.str z) H R := h
theorem i_isoL {R : (Kd → Bool) → Option Addr → Prop} {p : Addr} {xs : List V} (h0 : SqL K H p xs) (h : R (fun d => d == .lst) none) : isO K (.ref p) H R := ⟨.lst xs, h0, h⟩
theorem i_isoT {R : (Kd → Bool) → Option Addr → Prop} {p : Addr} {xs : List V} (h0 : SqT K H p xs) (h : R (fun d => d == .tup) none) : isO K (.ref p) H R := ⟨.tup xs, h0, h⟩
/-- of an object: it is none of int, bool, str -/
theorem i_isoR {R : (Kd → Bool) → Option Addr → Prop} {p : Addr} (kn : Kn K H (.ref p)) (h : ∀ f c, f .int = false → f .bl = false → f .str = false → R f c) : isO K (.ref p) H R := by
  obtain ⟨o, ho, k⟩ := kn
  refine ⟨o, ho, ?_⟩
  cases o <;> first | exact h _ _ rfl rfl rfl | exact ⟨k.1, k.2, h _ _ rfl rfl rfl⟩ | exact k.elim
theorem i_dec {p : Prop} [Decidable p] {A' B' : Prop} (h1 : p → A') (h2 : ¬ p → B') : if decide p = true then A' else B' := by
  by_cases h : p
  · rw [if_pos (decide_eq_true h)]
    exact h1 h
  · rw [if_neg (by rw [decide_eq_false h]; exact Bool.false_ne_true)]
    exact h2 h
theorem i_decT {p : Prop} [Decidable p] {A' B' : Prop} (h : p) (h1 : A') : if decide p = true then A' else B' := i_dec (fun _ => h1) (fun z => absurd h z)
theorem i_decF {p : Prop} [Decidable p] {A' B' : Prop} (h : ¬ p) (h1 : B') : if decide p = true then A' else B' := i_dec (fun z => absurd z h) (fun _ => h1)
theorem i_ifN {b : Bool} {A' B' : Prop} (h : if b = true then B' else A') : if (!b) = true then A' else B' := by cases b <;> exact h
theorem i_ifAnd {b c : Bool} {A' B' : Prop} (h : if b = true then (if c = true then A' else B') else B') : if (b && c) = true then A' else B' := by cases b <;> exact h
theorem i_isIf {c A' B' : Prop} [Decidable c] (h : if c then A' else B') : if c then A' else B' := h
theorem i_tT {b : Bool} {A' B' : Prop} (h : b = true) (h1 : A') : if b = true then A' else B' := by rw [h]; exact h1
theorem i_tF {b : Bool} {A' B' : Prop} (h : b = false) (h1 : B') : if b = true then A' else B' := by rw [h]; exact h1
theorem i_boo {b : Bool} {A' B' : Prop} (h1 : b = true → A') (h2 : b = false → B') : if b = true then A' else B' := by cases b <;> first | exact h1 rfl | exact h2 rfl
end
/-! ### loops and comprehensions, up to the loop's own question -/
section
variable {D : Ends} {σ : St} {H : Hp} {Q : VK} {K : PySem.W.Frag} {tb : TS} {te : TE} {wi : TI} {g : TG} {A : TA} {R : It → Hp → Prop}
theorem i_for (h : wi σ H fun J H1 => ∃ W : Nat → Nat → St → Hp → Prop, (∃ m, W 0 m σ H1) ∧ ∀ i m σ H, W i m σ H →
  (J.stop i H ∧ D.nx σ H) ∨ (J.go i H ∧ ∃ N : St → Hp → Prop, (∀ σ' H', N σ' H' → ∃ m', m' < m ∧ W (i + 1) m' σ' H') ∧ ∀ x H', J.yld i H x H' → g x σ H' fun σ2 H2 => tb { D with nx := N, ct := N, bk := D.nx } σ2 H2)) : tFor wi g tb D σ H := h
theorem i_lc {tt : TT} {vs : List Nat} (h : wi σ H fun J H1 => ∀ D, H1 D = none → ∃ W : Nat → Nat → Hp → Prop, (∃ m, W 0 m (upd H1 D (.lst []))) ∧ ∀ i m H, W i m H →
  (J.stop i H ∧ Q (.ref D) H) ∨ (J.go i H ∧ ∃ Nx : Hp → Prop, (∀ H', Nx H' → ∃ m', m' < m ∧ W (i + 1) m' H') ∧ ∀ x H', J.yld i H x H' → g x (wipe σ vs) H' fun σ2 H2 => wipe σ2 vs = wipe σ vs ∧ tt σ2 H2 fun b H3 =>
    if b = true then te σ2 H3 fun y H4 => ∃ acc, H4 D = some (.lst acc) ∧ acc.length < sizeLine ∧ Nx (upd H4 D (.lst (acc ++ [y]))) else Nx H3)) : tLc wi g tt te vs σ H Q := h
theorem i_iStr (h : te σ H fun v H1 => ∃ x, v = .str x ∧ R (Its x) H1) : iStr te σ H R := h
theorem i_itS {z : Str} {R : Str → Prop} (h : R z) : ∃ x, V.str z = .str x ∧ R x := ⟨z, rfl, h⟩
theorem i_iList (h : te σ H fun x H1 => ∃ a, x = .ref a ∧ (∃ xs, SqL K H1 a xs) ∧ R (Itl K a) H1) : iList K te σ H R := h
theorem i_iTup (h : te σ H fun x H1 => ∃ a, x = .ref a ∧ (∃ xs, SqT K H1 a xs) ∧ R (Itt K a) H1) : iTup K te σ H R := h
theorem i_itL {a : Addr} {xs : List V} {R : Addr → Prop} (h0 : SqL K H a xs) (h : R a) : ∃ b, V.ref a = .ref b ∧ (∃ xs, SqL K H b xs) ∧ R b := ⟨a, rfl, ⟨xs, h0⟩, h⟩
theorem i_itT {a : Addr} {xs : List V} {R : Addr → Prop} (h0 : SqT K H a xs) (h : R a) : ∃ b, V.ref a = .ref b ∧ (∃ xs, SqT K H b xs) ∧ R b := ⟨a, rfl, ⟨xs, h0⟩, h⟩
theorem i_iR1 (h : A σ H fun vs H1 => ∃ j : Int, vs = [.int j] ∧ -(2 ^ 62) ≤ j ∧ j < 2 ^ 62 ∧ R (Itr 0 j.toNat) H1) : iRng1 A σ H R := h
theorem i_r1 {j : Int} {R : Int → Prop} (h0 : -(2 ^ 62) ≤ j ∧ j < 2 ^ 62) (h : R j) : ∃ i, [V.int j] = [.int i] ∧ -(2 ^ 62) ≤ i ∧ i < 2 ^ 62 ∧ R i := ⟨j, rfl, h0.1, h0.2, h⟩
theorem i_forC {G : Hp → Prop} {x : V} {xs : List V} (h1 : G H) (h2 : g x σ H fun σ2 H2 => tb { D with nx := forW G g tb D xs, ct := forW G g tb D xs, bk := D.nx } σ2 H2) : forW G g tb D (x :: xs) σ H := ⟨h1, h2⟩
theorem i_forN {G : Hp → Prop} (h1 : G H) (h2 : D.nx σ H) : forW G g tb D [] σ H := ⟨h1, h2⟩
end
theorem cast_bl {Q : VK} {H : Hp} {b c : Bool} (k : Q (.bl b) H) (e : b = c) : Q (.bl c) H := e ▸ k
theorem cast_v {Q : VK} {H : Hp} {b c : V} (k : Q b H) (e : b = c) : Q c H := e ▸ k
theorem atI_in {α : Type} {xs : List α} {r : Int} (h0 : 0 ≤ r) (h1 : r < xs.length) : ∃ v, v ∈ xs ∧ xs[r.toNat]? = some v ∧ atI xs r = some v := by
  obtain ⟨n, rfl⟩ : ∃ n : Nat, r = n := ⟨r.toNat, by omega⟩
  have h : n < xs.length := by omega
  exact ⟨xs[n], List.getElem_mem h, by simp [h], atI_nat (by simp [h])⟩
/-- an object's class stays known -/
theorem Rd.same {H H' : Hp} {a : Addr} {u : HO} (s : Same H H') (r : Rd H a u) : Rd H' a u := by
  rcases r with h | ⟨o, h⟩
  · exact .inl (s _ _ h)
  · exact .inr ⟨o, s _ _ h⟩
theorem SqT.same {K : PySem.W.Frag} {H H' : Hp} {a : Addr} {xs : List V} (s : Same H H') (h : SqT K H a xs) : SqT K H' a xs := by
  rcases h with h | h
  · exact .inl (Rd.same s h)
  · exact .inr h
theorem Obs.same {K : PySem.W.Frag} {H H' : Hp} {a : Addr} {o : HO} (s : Same H H') (h : Obs K H a o) : Obs K H' a o := by
  cases o with
  | lst xs => exact Same.seq s h
  | tup xs => exact SqT.same s h
  | _ => exact s _ _ h
theorem Kn.same {K : PySem.W.Frag} {H H' : Hp} {x : V} (s : Same H H') (h : Kn K H x) : Kn K H' x := by
  cases x <;> first | exact h | skip
  obtain ⟨o, ho, k⟩ := h
  exact ⟨o, ho.same s, k⟩
theorem Kn.of {K : PySem.W.Frag} {H : Hp} {a : Addr} {o : HO} (h : H a = some o) (k : KnO K o) : Kn K H (.ref a) := ⟨o, .of h, k⟩
theorem i_yes {σ : St} {H : Hp} {TQ : Bool → Hp → Prop} (h : TQ true H) : tYes σ H TQ := h
theorem i_wipe {σ σ' : St} {vs : List Nat} {R : Prop} (h1 : wipe σ vs = wipe σ' vs) (h : R) : wipe σ vs = wipe σ' vs ∧ R := ⟨h1, h⟩
/-- is x one sign of z -/
def sgIn (z : Str) : V → Bool
  | .str y => match y.cps.toList with
    | [c] => decide (c ∈ z.cps.toList)
    | _ => false
  | _ => false
theorem signs_all (z u : Str) : ((signs u).map fun x => sgIn z x).all id = u.cps.toList.all fun c => decide (c ∈ z.cps.toList) := by
  unfold signs
  rw [List.map_map, List.all_map]
  rfl
theorem mulW {i j : Int} (hi : i.natAbs < 2 ^ 400) (hj : j.natAbs < 2 ^ 400) : CMulW i j := wide_mul hi hj (by decide) (by decide) (by decide)
theorem mulW64 {i j : Int} (hi : i.natAbs < 18446744073709551616) (hj : j.natAbs < 18446744073709551616) : CMulW i j := wide_mul (a := 64) (b := 64) hi hj (by decide) (by decide) (by decide)
theorem cpow {i j : Int} (h0 : 0 ≤ j) (h1 : j ≤ 1000000) (hi : i.natAbs < 18446744073709551616) : CPow i j := ⟨h0, h1, hi⟩
/-- all but what stands at p is kept -/
def SameBut (p : Addr) (H H' : Hp) : Prop := ∀ b o, b ≠ p → H b = some o → H' b = some o
theorem SameBut.refl (p : Addr) (H : Hp) : SameBut p H H := fun _ _ _ h => h
theorem SameBut.trans {p : Addr} {H H1 H2 : Hp} (a : SameBut p H H1) (b : SameBut p H1 H2) : SameBut p H H2 := fun c o n h => b c o n (a c o n h)
theorem SameBut.of {p : Addr} {H H' : Hp} (s : Same H H') : SameBut p H H' := fun b o _ h => s b o h
theorem SameBut.upd (p : Addr) (H : Hp) (o : HO) : SameBut p H (upd H p o) := fun b u n h => by
  rw [upd_ne n]
  exact h
theorem SameBut.new {p q : Addr} {H H' : Hp} {o : HO} (s : SameBut p H H') (h : H' q = none) : SameBut p H (L2.upd H' q o) := fun b u n e => get_upd h (s b u n e)
theorem SameBut.at {p : Addr} {H H' : Hp} {o : HO} (s : SameBut p H H') : SameBut p H (L2.upd H' p o) := s.trans (SameBut.upd p H' o)
/-- what was new ahead is not lost -/
theorem SameBut.same {p : Addr} {H H' : Hp} (s : SameBut p H H') (h : H p = none) : Same H H' := fun b o e => s b o (ne_of_none e h) e
theorem get_but {p : Addr} {H H' : Hp} {a : Addr} {o : HO} (s : SameBut p H H') (n : a ≠ p) (h : H a = some o) : H' a = some o := s a o n h
theorem get_ne {H : Hp} {a p : Addr} {o u : HO} (n : a ≠ p) (h : H a = some o) : upd H p u a = some o := by
  rw [upd_ne n]
  exact h
theorem str_pos {t : Str} (h : ¬ t = "") : 0 < t.length := by
  rcases Nat.eq_zero_or_pos t.length with e | e
  · refine absurd ?_ h
    cases t with
    | mk c =>
      have : c = #[] := Array.eq_empty_of_size_eq_zero e
      rw [this]
      rfl
  · exact e
theorem str_len (t : Str) : t.cps.toList.length = t.length := rfl
theorem len_app (a b : Str) : (a ++ b).length = a.length + b.length := by
  show (a.cps ++ b.cps).size = _
  rw [Array.size_append]
  rfl
theorem line_le {n : Nat} (h : n ≤ 1000) : n ≤ sizeLine := Nat.le_of_lt (small1000 h)
theorem pool_next (z X : Int) (q : Nat) (h0 : 0 ≤ z) (h1 : z.natAbs < q) : 0 ≤ z * 2147483629 + X % 2147483629 ∧ (z * 2147483629 + X % 2147483629).natAbs < q * 2147483648 := by omega
theorem i_maxU {m n : Int} {H : Hp} {Q : VK} (h : Q (.int (maxP m n)) H) : rMaxU [.int m, .int n] H Q := ⟨m, n, rfl, h⟩
theorem i_minU {m n : Int} {H : Hp} {Q : VK} (h : Q (.int (minP m n)) H) : rMinU [.int m, .int n] H Q := ⟨m, n, rfl, h⟩
theorem bT {b : Bool} (e : b = true) : ¬ b = false := by rw [e]; decide
theorem bF {b : Bool} (e : ¬ b = true) : b = false := by cases b <;> first | rfl | exact absurd rfl e
theorem i_lens {m n k l : Nat} {R : Prop} (h1 : m = n) (h2 : k = l) (h : R) : m = n ∧ k = l ∧ R := ⟨h1, h2, h⟩
theorem i_eqDv {K : PySem.W.Frag} {H : Hp} {Q : VK} {x y : V} {a' b' : PyData} {c : Bool} (h0 : eqS x y = none) (h1 : Dp K H x a') (h2 : Dp K H y b') (h3 : SeqAt.shaped a' = true) (h4 : SeqAt.shaped b' = true) (hv : PyData.eqv a' b' = c) (h : Q (.bl c) H) : rEqU K x y H Q := i_eqD h0 h1 h2 h3 h4 (by rw [hv]; exact h)
theorem i_neDv {K : PySem.W.Frag} {H : Hp} {Q : VK} {x y : V} {a' b' : PyData} {c : Bool} (h0 : eqS x y = none) (h1 : Dp K H x a') (h2 : Dp K H y b') (h3 : SeqAt.shaped a' = true) (h4 : SeqAt.shaped b' = true) (hv : PyData.eqv a' b' = c) (h : Q (.bl (!c)) H) : rNeU K x y H Q := i_neD h0 h1 h2 h3 h4 (by rw [hv]; exact h)
/-! ### == of lists and tuples of numbers, truths, None -/
def isNB : V → Bool
  | .non => true
  | .bl _ => true
  | .int _ => true
  | _ => false
def datNB : V → PyData
  | .bl b => .bool b
  | .int i => .int i
  | _ => .none
def eqNB : V → V → Bool
  | .bl a, .bl b => a == b
  | .bl a, .int j => (if a then 1 else 0) == j
  | .int i, .bl b => i == (if b then 1 else 0)
  | .int i, .int j => i == j
  | .non, .non => true
  | _, _ => false
def eqLF : List V → List V → Bool
  | [], [] => true
  | x :: xs, y :: ys => eqNB x y && eqLF xs ys
  | _, _ => false
theorem dp_NB {K : PySem.W.Frag} {H : Hp} {x : V} (f : isNB x = true) : Dp K H x (datNB x) := by
  cases x with
  | non => exact .non
  | bl b => exact .bl b
  | int i => exact .int i
  | _ => cases f
theorem dps_NB {K : PySem.W.Frag} {H : Hp} : ∀ {xs : List V}, xs.all isNB = true → DpAll K H xs (xs.map datNB)
  | [], _ => .nil
  | x :: xs, f => by
    rw [List.all_cons, Bool.and_eq_true] at f
    exact .cons (dp_NB f.1) (dps_NB f.2)
theorem eqv_NB {x y : V} (f : isNB x = true) (g : isNB y = true) : PyData.eqv (datNB x) (datNB y) = eqNB x y := by
  cases x <;> first | (cases f; done) | skip
  all_goals cases y <;> first | (cases g; done) | rfl
theorem eqv_NBs : ∀ {xs ys : List V}, xs.all isNB = true → ys.all isNB = true → PyData.eqvAll (xs.map datNB) (ys.map datNB) = eqLF xs ys
  | [], [], _, _ => rfl
  | [], _ :: _, _, _ => rfl
  | _ :: _, [], _, _ => rfl
  | x :: xs, y :: ys, f, g => by
    rw [List.all_cons, Bool.and_eq_true] at f g
    show (PyData.eqv (datNB x) (datNB y) && PyData.eqvAll (xs.map datNB) (ys.map datNB)) = _
    rw [eqv_NB f.1 g.1, eqv_NBs f.2 g.2]
    rfl
theorem lay_NBs : ∀ {xs : List V}, PyData.canLayAll0 (xs.map datNB) = true
  | [] => rfl
  | x :: xs => by
    show (PyData.canLay0 (datNB x) && PyData.canLayAll0 (xs.map datNB)) = true
    rw [lay_NBs (xs := xs), Bool.and_true]
    cases x <;> rfl
theorem dep_NBs : ∀ {xs : List V}, PyData.depthAll (xs.map datNB) ≤ 1
  | [] => Nat.zero_le _
  | x :: xs => by
    have h := dep_NBs (xs := xs)
    show max (PyData.depth (datNB x)) (PyData.depthAll (xs.map datNB)) ≤ 1
    have : PyData.depth (datNB x) ≤ 1 := by cases x <;> exact Nat.zero_le 1
    omega
theorem shp_NBl {xs : List V} : SeqAt.shaped (.list (xs.map datNB)) = true := by
  show (PyData.canLayAll0 (xs.map datNB) && decide (PyData.depth (.list (xs.map datNB)) ≤ 64)) = true
  rw [lay_NBs, Bool.true_and]
  have h := dep_NBs (xs := xs)
  refine decide_eq_true ?_
  show PyData.depthAll (xs.map datNB) + 1 ≤ 64
  omega
theorem shp_NBt {xs : List V} : SeqAt.shaped (.tuple (xs.map datNB)) = true := by
  show (PyData.canLayAll0 (xs.map datNB) && decide (PyData.depth (.tuple (xs.map datNB)) ≤ 64)) = true
  rw [lay_NBs, Bool.true_and]
  have h := dep_NBs (xs := xs)
  refine decide_eq_true ?_
  show PyData.depthAll (xs.map datNB) + 1 ≤ 64
  omega
section
variable {K : PySem.W.Frag} {H : Hp} {Q : VK} {p q : Addr} {xs ys : List V}
theorem i_eqLF (h1 : SqL K H p xs) (h2 : SqL K H q ys) (f1 : xs.all isNB = true) (f2 : ys.all isNB = true) (h : Q (.bl (eqLF xs ys)) H) : rEqU K (.ref p) (.ref q) H Q :=
  i_eqDv rfl (.lst h1 (dps_NB f1)) (.lst h2 (dps_NB f2)) shp_NBl shp_NBl (eqv_NBs f1 f2) h
theorem i_neLF (h1 : SqL K H p xs) (h2 : SqL K H q ys) (f1 : xs.all isNB = true) (f2 : ys.all isNB = true) (h : Q (.bl (!eqLF xs ys)) H) : rNeU K (.ref p) (.ref q) H Q :=
  i_neDv rfl (.lst h1 (dps_NB f1)) (.lst h2 (dps_NB f2)) shp_NBl shp_NBl (eqv_NBs f1 f2) h
theorem i_eqTF (h1 : SqT K H p xs) (h2 : SqT K H q ys) (f1 : xs.all isNB = true) (f2 : ys.all isNB = true) (h : Q (.bl (eqLF xs ys)) H) : rEqU K (.ref p) (.ref q) H Q :=
  i_eqDv rfl (.tup h1 (dps_NB f1)) (.tup h2 (dps_NB f2)) shp_NBt shp_NBt (eqv_NBs f1 f2) h
theorem i_neTF (h1 : SqT K H p xs) (h2 : SqT K H q ys) (f1 : xs.all isNB = true) (f2 : ys.all isNB = true) (h : Q (.bl (!eqLF xs ys)) H) : rNeU K (.ref p) (.ref q) H Q :=
  i_neDv rfl (.tup h1 (dps_NB f1)) (.tup h2 (dps_NB f2)) shp_NBt shp_NBt (eqv_NBs f1 f2) h
end
theorem lc_mapL {K : PySem.W.Frag} {a : Addr} {xs : List V} {g : TG} {tt : TT} {te : TE} {vs : List Nat} {σ : St} {H1 : Hp} {D : Addr} {Qd : Hp → Prop} (f : V → V) (h0 : SqL K H1 a xs) (hD : H1 D = none) (hl : xs.length ≤ 1000)
    (hs : ∀ x ∈ xs, ∀ H (Q : VK) (R : Hp → Prop), Same H1 H → (∀ H', Same H H' → Q (f x) H') → g x (wipe σ vs) H fun σ2 H2 => wipe σ2 vs = wipe σ vs ∧ tt σ2 H2 fun b H3 => if b = true then te σ2 H3 Q else R H3)
    (hd : ∀ H, Same H1 H → H D = some (.lst (xs.map f)) → Qd H) :
    ∃ W : Nat → Nat → Hp → Prop, (∃ m, W 0 m (upd H1 D (.lst []))) ∧ ∀ i m H, W i m H →
      ((Itl K a).stop i H ∧ Qd H) ∨ ((Itl K a).go i H ∧ ∃ Nx : Hp → Prop, (∀ H', Nx H' → ∃ m', m' < m ∧ W (i + 1) m' H') ∧ ∀ x H', (Itl K a).yld i H x H' → g x (wipe σ vs) H' fun σ2 H2 => wipe σ2 vs = wipe σ vs ∧ tt σ2 H2 fun b H3 =>
        if b = true then te σ2 H3 fun y H4 => ∃ acc, H4 D = some (.lst acc) ∧ acc.length < sizeLine ∧ Nx (upd H4 D (.lst (acc ++ [y]))) else Nx H3) :=
  lc_map xs f walk_list (small1000 hl) (fun _ s => Same.seq s h0) hD hs hd
theorem lc_mapT {K : PySem.W.Frag} {a : Addr} {xs : List V} {g : TG} {tt : TT} {te : TE} {vs : List Nat} {σ : St} {H1 : Hp} {D : Addr} {Qd : Hp → Prop} (f : V → V) (h0 : SqT K H1 a xs) (hD : H1 D = none) (hl : xs.length ≤ 1000)
    (hs : ∀ x ∈ xs, ∀ H (Q : VK) (R : Hp → Prop), Same H1 H → (∀ H', Same H H' → Q (f x) H') → g x (wipe σ vs) H fun σ2 H2 => wipe σ2 vs = wipe σ vs ∧ tt σ2 H2 fun b H3 => if b = true then te σ2 H3 Q else R H3)
    (hd : ∀ H, Same H1 H → H D = some (.lst (xs.map f)) → Qd H) :
    ∃ W : Nat → Nat → Hp → Prop, (∃ m, W 0 m (upd H1 D (.lst []))) ∧ ∀ i m H, W i m H →
      ((Itt K a).stop i H ∧ Qd H) ∨ ((Itt K a).go i H ∧ ∃ Nx : Hp → Prop, (∀ H', Nx H' → ∃ m', m' < m ∧ W (i + 1) m' H') ∧ ∀ x H', (Itt K a).yld i H x H' → g x (wipe σ vs) H' fun σ2 H2 => wipe σ2 vs = wipe σ vs ∧ tt σ2 H2 fun b H3 =>
        if b = true then te σ2 H3 fun y H4 => ∃ acc, H4 D = some (.lst acc) ∧ acc.length < sizeLine ∧ Nx (upd H4 D (.lst (acc ++ [y]))) else Nx H3) :=
  lc_map xs f walk_tup (small1000 hl) (fun _ s => SqT.same s h0) hD hs hd
/-! ### a list or a tuple walked -/
def iSeq (K : PySem.W.Frag) (tl : TE) : TI := fun σ H R => tl σ H fun x H1 => ∃ a, x = .ref a ∧ (((∃ xs, SqL K H1 a xs) ∧ R (Itl K a) H1) ∨ ((∃ xs, SqT K H1 a xs) ∧ R (Itt K a) H1))
theorem pi_seqK {X : Cx} {tg l : Expr} {tl : TE} {K : PySem.W.Frag} (hl : PE X l tl) (hK : X.K = K := by rfl) : PI X tg l (iSeq K tl) := by
  subst hK
  refine ⟨fun pins s σ H R I h => thn (hl.run pins s σ H _ I h) fun v s1 ⟨x, H1, I1, r1, a, ea, q1⟩ => ?_⟩
  subst ea
  cases r1
  rcases q1 with ⟨⟨xs, hq⟩, q⟩ | ⟨⟨xs, hq⟩, q⟩
  · obtain ⟨its, _, pl, _⟩ := I1.list hq
    exact wpAny_pyIter_list pl.isList (pi_one (tk := s1.toks) I1 _ (turn_list a _) ⟨_, Heap.get?_push_size _ rfl, rfl, rfl⟩ q)
  · obtain ⟨its, _, pt, _⟩ := I1.tuple hq
    exact wpAny_pyIter_tuple (show s1.heap.IsTuple a its.toArray from pt) (pi_one (tk := s1.toks) I1 _ (turn_tuple a _) ⟨_, Heap.get?_push_size _ rfl, rfl, rfl⟩ q)
section
variable {D : Ends} {σ : St} {H : Hp} {Q : VK} {K : PySem.W.Frag} {te : TE} {A : TA} {R : It → Hp → Prop}
theorem i_iSeq (h : te σ H fun x H1 => ∃ a, x = .ref a ∧ (((∃ xs, SqL K H1 a xs) ∧ R (Itl K a) H1) ∨ ((∃ xs, SqT K H1 a xs) ∧ R (Itt K a) H1))) : iSeq K te σ H R := h
theorem i_sqL {a : Addr} {xs : List V} {R R' : Addr → Prop} {L : Addr → Prop} (h0 : SqL K H a xs) (h : R a) : ∃ b, V.ref a = .ref b ∧ (((∃ xs, SqL K H b xs) ∧ R b) ∨ (L b ∧ R' b)) := ⟨a, rfl, .inl ⟨⟨xs, h0⟩, h⟩⟩
theorem i_sqT {a : Addr} {xs : List V} {R R' : Addr → Prop} {L : Addr → Prop} (h0 : SqT K H a xs) (h : R' a) : ∃ b, V.ref a = .ref b ∧ ((L b ∧ R b) ∨ ((∃ xs, SqT K H b xs) ∧ R' b)) := ⟨a, rfl, .inr ⟨⟨xs, h0⟩, h⟩⟩
theorem i_fld {f : Str} (h : te σ H fun x H1 => ∃ a C dx fs v, x = .ref a ∧ H1 a = some (.ins C dx fs) ∧ Cls K C ∧ NoAttr K C f ∧ fs.lookup f = some v ∧ Q v H1) : tFld K te f σ H Q := h
theorem i_sfld {tv : TE} {f : Str} (h : tv σ H fun y H1 => te σ H1 fun x H2 => ∃ a C dx fs, x = .ref a ∧ H2 a = some (.ins C dx fs) ∧ Cls K C ∧ NoAttr K C f ∧ fs.length < 1000 ∧ D.nx σ (upd H2 a (.ins C dx (putF f y fs)))) : sFld K te tv f D σ H := h
theorem i_fldR {a C dx : Addr} {fs : List (Str × V)} {f : Str} {v : V} {R : V → Prop} (h1 : H a = some (.ins C dx fs)) (h2 : Cls K C) (h3 : NoAttr K C f) (h4 : fs.lookup f = some v) (h : R v) :
    ∃ b C dx fs v, V.ref a = .ref b ∧ H b = some (.ins C dx fs) ∧ Cls K C ∧ NoAttr K C f ∧ fs.lookup f = some v ∧ R v := ⟨a, C, dx, fs, v, rfl, h1, h2, h3, h4, h⟩
theorem i_sfldR {a C dx : Addr} {fs : List (Str × V)} {f : Str} {R : Addr → Addr → Addr → List (Str × V) → Prop} (h1 : H a = some (.ins C dx fs)) (h2 : Cls K C) (h3 : NoAttr K C f) (h4 : fs.length < 1000) (h : R a C dx fs) :
    ∃ b C dx fs, V.ref a = .ref b ∧ H b = some (.ins C dx fs) ∧ Cls K C ∧ NoAttr K C f ∧ fs.length < 1000 ∧ R b C dx fs := ⟨a, C, dx, fs, rfl, h1, h2, h3, h4, h⟩
theorem i_make {C : Addr} {sp : Sp} {dvs : List V} {E : XK} (h : A σ H fun vs H1 => ∀ x dx, H1 x = none → H1 dx = none → dx ≠ x → sp (.ref x :: (vs ++ dvs)) (upd (upd H1 dx (.own x)) x (.ins C dx [])) (fun v H2 => v = .non ∧ Q (.ref x) H2) E) : tMake C sp dvs E A σ H Q := h
theorem i_meth {C : Addr} {m : Str} {sp : Sp} {dvs : List V} {E : XK} (h : te σ H fun x H1 => ∃ a dx fs, x = .ref a ∧ H1 a = some (.ins C dx fs) ∧ fs.lookup m = none ∧ A σ H1 fun vs H2 => sp (x :: (vs ++ dvs)) H2 Q E) : tMeth C m sp dvs E te A σ H Q := h
theorem i_methR {a C dx : Addr} {fs : List (Str × V)} {m : Str} {R : Prop} (h1 : H a = some (.ins C dx fs)) (h2 : fs.lookup m = none) (h : R) : ∃ b dx fs, V.ref a = .ref b ∧ H b = some (.ins C dx fs) ∧ fs.lookup m = none ∧ R := ⟨a, dx, fs, rfl, h1, h2, h⟩
end
def rTupOf (K : PySem.W.Frag) : List V → Hp → VK → Prop := fun xs H Q => ∃ p ys, xs = [.ref p] ∧ ((SqL K H p ys ∧ ∀ l, H l = none → Q (.ref l) (upd H l (.tup ys))) ∨ (SqT K H p ys ∧ Q (.ref p) H))
def rLstOf (K : PySem.W.Frag) : List V → Hp → VK → Prop := fun xs H Q => ∃ p ys, xs = [.ref p] ∧ (SqL K H p ys ∨ SqT K H p ys) ∧ ∀ l, H l = none → Q (.ref l) (upd H l (.lst ys))
theorem call_tupOf {X : Cx} {K : PySem.W.Frag} (hK : X.K = K := by rfl) : CallR X (.type "tuple") (rTupOf K) := by
  subst hK
  exact call_tuple_of
theorem call_lstOf {X : Cx} {K : PySem.W.Frag} (hK : X.K = K := by rfl) : CallR X (.type "list") (rLstOf K) := by
  subst hK
  exact call_list_of
section
variable {H : Hp} {Q : VK} {K : PySem.W.Frag} {p : Addr} {xs : List V}
theorem i_tupOfL (h0 : SqL K H p xs) (h : ∀ l, H l = none → Q (.ref l) (upd H l (.tup xs))) : rTupOf K [.ref p] H Q := ⟨p, xs, rfl, .inl ⟨h0, h⟩⟩
theorem i_tupOfT (h0 : SqT K H p xs) (h : Q (.ref p) H) : rTupOf K [.ref p] H Q := ⟨p, xs, rfl, .inr ⟨h0, h⟩⟩
theorem i_lstOfL (h0 : SqL K H p xs) (h : ∀ l, H l = none → Q (.ref l) (upd H l (.lst xs))) : rLstOf K [.ref p] H Q := ⟨p, xs, rfl, .inl h0, h⟩
theorem i_lstOfT (h0 : SqT K H p xs) (h : ∀ l, H l = none → Q (.ref l) (upd H l (.lst xs))) : rLstOf K [.ref p] H Q := ⟨p, xs, rfl, .inr h0, h⟩
end
section
variable {σ : St} {H : Hp} {Q : VK} {K : PySem.W.Frag}
theorem i_dnew (h : ∀ p, H p = none → Q (.ref p) (upd H p (.dK []))) : tDNewK σ H Q := h
theorem i_dnewT (h : ∀ p, H p = none → Q (.ref p) (upd H p (.dT []))) : tDNewT σ H Q := h
theorem i_all1 {R : Addr → Prop} (h : ∀ p, H p = none → R p) : ∀ p, H p = none → R p := h
theorem i_disp {trs : List (TE × TE)} (h : ∀ p, H p = none → tPairs trs σ (upd H p (.dK [])) fun ps H2 => H2 p = some (.dK []) ∧ ∃ kvs : List (Key × V), ps = kvs.map (fun kv => (kV kv.1, kv.2)) ∧ kvs.length ≤ 15 ∧ Q (.ref p) (upd H2 p (.dK (mergeK [] kvs)))) : tDisp trs σ H Q := h
end
theorem upd_same' {H : Hp} {a : Addr} {o o' : HO} (e : o = o') : upd H a o a = some o' := by rw [← e]; exact upd_same
theorem SqL.up {K : PySem.W.Frag} {H : Hp} {p q : Addr} {o : HO} {xs : List V} (hq : H q = none) (h : SqL K H p xs) : SqL K (upd H q o) p xs := Same.seq (same_upd (Same.refl _) hq) h
theorem SqT.up {K : PySem.W.Frag} {H : Hp} {p q : Addr} {o : HO} {xs : List V} (hq : H q = none) (h : SqT K H p xs) : SqT K (upd H q o) p xs := SqT.same (same_upd (Same.refl _) hq) h
theorem Rd.ne {H : Hp} {p q : Addr} {o u : HO} (n : p ≠ q) (h : Rd H p u) : Rd (upd H q o) p u := by
  rcases h with h | ⟨b, h⟩
  · exact .inl (get_ne n h)
  · exact .inr ⟨b, get_ne n h⟩
theorem SqL.un {K : PySem.W.Frag} {H : Hp} {p q : Addr} {o : HO} {xs : List V} (n : p ≠ q) (h : SqL K H p xs) : SqL K (upd H q o) p xs := by
  rcases h with h | h
  · exact .inl (Rd.ne n h)
  · exact .inr h
theorem SqT.un {K : PySem.W.Frag} {H : Hp} {p q : Addr} {o : HO} {xs : List V} (n : p ≠ q) (h : SqT K H p xs) : SqT K (upd H q o) p xs := by
  rcases h with h | h
  · exact .inl (Rd.ne n h)
  · exact .inr h
theorem Rd.but {H H' : Hp} {p q : Addr} {u : HO} (s : SameBut q H H') (n : p ≠ q) (h : Rd H p u) : Rd H' p u := by
  rcases h with h | ⟨b, h⟩
  · exact .inl (s _ _ n h)
  · exact .inr ⟨b, s _ _ n h⟩
theorem SqL.but {K : PySem.W.Frag} {H H' : Hp} {p q : Addr} {xs : List V} (s : SameBut q H H') (n : p ≠ q) (h : SqL K H p xs) : SqL K H' p xs := by
  rcases h with h | h
  · exact .inl (Rd.but s n h)
  · exact .inr h
theorem SqT.but {K : PySem.W.Frag} {H H' : Hp} {p q : Addr} {xs : List V} (s : SameBut q H H') (n : p ≠ q) (h : SqT K H p xs) : SqT K H' p xs := by
  rcases h with h | h
  · exact .inl (Rd.but s n h)
  · exact .inr h
theorem SqL.sm {K : PySem.W.Frag} {H H' : Hp} {p : Addr} {xs : List V} (s : Same H H') (h : SqL K H p xs) : SqL K H' p xs := Same.seq s h
theorem Kn.up {K : PySem.W.Frag} {H : Hp} {x : V} {q : Addr} {o : HO} (hq : H q = none) (h : Kn K H x) : Kn K (upd H q o) x := h.same (same_upd (Same.refl _) hq)
theorem i_tp0 {σ : St} {H : Hp} {R : List (V × V) → Hp → Prop} (h : R [] H) : tPairs [] σ H R := h
theorem i_tp1 {σ : St} {H : Hp} {R : List (V × V) → Hp → Prop} {tk tv : TE} {r : List (TE × TE)} (h : tk σ H fun x H1 => tv σ H1 fun y H2 => tPairs r σ H2 fun ps H3 => R ((x, y) :: ps) H3) : tPairs ((tk, tv) :: r) σ H R := h
theorem i_call0 {sp : Sp} {σ : St} {H : Hp} {Q : VK} {E : XK} {A : TA} (h : A σ H fun vs H1 => sp vs H1 Q E) : tCall sp [] E A σ H Q := by
  unfold tCall
  simp only [List.append_nil]
  exact h
theorem i_mk {H : Hp} {R : Addr → Addr → Prop} (h : ∀ x dx, H dx = none → upd H dx (.own x) x = none → H x = none → dx ≠ x → R x dx) : ∀ x dx, H x = none → H dx = none → dx ≠ x → R x dx := fun x dx h1 h2 n =>
  h x dx h2 (by rw [upd_ne (Ne.symm n)]; exact h1) h1 n
theorem Rd.uk {H : Hp} {p q : Addr} {o u v : HO} (hq : H q = some v) (h1 : v ≠ u) (h2 : ∀ b, v ≠ .frz b u) (h : Rd H p u) : Rd (upd H q o) p u := by
  rcases h with h | ⟨b, h⟩
  · exact .inl (get_ne (ne_of h hq (Ne.symm h1)) h)
  · exact .inr ⟨b, get_ne (ne_of h hq (Ne.symm (h2 b))) h⟩
theorem SqT.uk {K : PySem.W.Frag} {H : Hp} {p q : Addr} {o v : HO} {xs : List V} (hq : H q = some v) (h1 : ∀ ys, v ≠ .tup ys) (h2 : ∀ b u, v ≠ .frz b u) (h : SqT K H p xs) : SqT K (upd H q o) p xs := by
  rcases h with h | h
  · exact .inl (Rd.uk hq (h1 _) (fun b => h2 b _) h)
  · exact .inr h
theorem SqL.uk {K : PySem.W.Frag} {H : Hp} {p q : Addr} {o v : HO} {xs : List V} (hq : H q = some v) (h1 : ∀ ys, v ≠ .lst ys) (h2 : ∀ b u, v ≠ .frz b u) (h : SqL K H p xs) : SqL K (upd H q o) p xs := by
  rcases h with h | h
  · exact .inl (Rd.uk hq (h1 _) (fun b => h2 b _) h)
  · exact .inr h
/-! ### one look for all kinds -/
theorem get_o {H : Hp} {a : Addr} {o o' : HO} (h : H a = some o) (e : o = o') : H a = some o' := by rw [← e]; exact h
def seqOf : HO → Option (List V)
  | .lst xs => some xs
  | .tup xs => some xs
  | _ => none
theorem seqOf_sq {K : PySem.W.Frag} {H : Hp} {a : Addr} {o : HO} {xs : List V} (h : H a = some o) (e : seqOf o = some xs) : SqL K H a xs ∨ SqT K H a xs := by
  cases o <;> first | (cases e; done) | skip
  · cases Option.some.inj e
    exact .inl (.of h)
  · cases Option.some.inj e
    exact .inr (.of h)
section
variable {H : Hp} {Q : VK} {K : PySem.W.Frag} {p : Addr} {o : HO} {xs : List V}
theorem i_ixG {n : Int} {w' : V} (h : H p = some o) (e : seqOf o = some xs) (h2 : atI xs n = some w') (q : Q w' H) : rIxU K (.ref p) (.int n) H Q := ⟨xs, w', seqOf_sq h e, h2, q⟩
theorem i_lenG (h : H p = some o) (e : seqOf o = some xs) (q : Q (.int xs.length) H) : rLenU K [.ref p] H Q := by
  rcases seqOf_sq (K := K) h e with h | h
  · exact i_lenL h q
  · exact i_lenT h q
theorem i_isoG {R : (Kd → Bool) → Option Addr → Prop} {f : Kd → Bool} (h : H p = some o) (e : (match o with | .lst _ => some fun d => d == Kd.lst | .tup _ => some fun d => d == Kd.tup | .dK _ => some fun d => d == Kd.dct | .dT _ => some fun d => d == Kd.dct | _ => none) = some f) (q : R f none) : isO K (.ref p) H R := by
  refine ⟨o, .of h, ?_⟩
  cases o <;> first | (cases e; done) | (cases Option.some.inj e; exact q)
theorem i_isoC {R : (Kd → Bool) → Option Addr → Prop} {C dx : Addr} {fs : List (Str × V)} (h : H p = some (.ins C dx fs)) (c : Cls K C) (i : IsC K C) (q : R (fun _ => false) (some C)) : isO K (.ref p) H R := ⟨_, .of h, c, i, q⟩
theorem SqL.of' (h : H p = some o) (e : o = .lst xs) : SqL K H p xs := .of (get_o h e)
theorem SqT.of' (h : H p = some o) (e : o = .tup xs) : SqT K H p xs := .of (get_o h e)
end
/-- a for over a list whose body changes nothing that stood ahead of the loop -/
theorem for_pred {K : PySem.W.Frag} {a : Addr} {xs : List V} {g : TG} {tb : TS} {D : Ends} {σ : St} {H : Hp} (S : St → Prop) (Pr : Hp → V → Prop) (hL : SqL K H a xs) (hp : ∀ y ∈ xs, Pr H y) (h0 : S σ)
    (hs : ∀ y σ H', Pr H y → S σ → Same H H' → g y σ H' fun σ2 H2 => tb { D with nx := fun σ H' => S σ ∧ Same H H', ct := fun σ H' => S σ ∧ Same H H', bk := D.nx } σ2 H2) (hd : ∀ σ H', S σ → Same H H' → D.nx σ H') :
    ∃ W : Nat → Nat → St → Hp → Prop, (∃ m, W 0 m σ H) ∧ ∀ i m σ H, W i m σ H →
      ((Itl K a).stop i H ∧ D.nx σ H) ∨ ((Itl K a).go i H ∧ ∃ N : St → Hp → Prop, (∀ σ' H', N σ' H' → ∃ m', m' < m ∧ W (i + 1) m' σ' H') ∧ ∀ x H', (Itl K a).yld i H x H' → g x σ H' fun σ2 H2 => tb { D with nx := N, ct := N, bk := D.nx } σ2 H2) :=
  for_list (xs := xs) (fun _ σ H' => S σ ∧ Same H H') ⟨h0, Same.refl _⟩ (fun _ _ _ _ h => Same.seq h.2 hL) (fun _ y σ H' hi h => hs y σ H' (hp y (List.mem_of_getElem? hi)) h.1 h.2) (fun σ H' h => hd σ H' h.1 h.2)
theorem Kn.ofG {K : PySem.W.Frag} {H : Hp} {a : Addr} {o : HO} (h : H a = some o) (k : KnO K o) : Kn K H (.ref a) := .of h k
end My
/-! try: body / except clauses of one class or of a tuple of classes, with a name or without / else. -/
namespace My
open PySem PySem.Spec L2
open PyProof.Rows hiding St
/-- what a clause asks for: a class, or a tuple of two to four classes -/
inductive ClT (X : Cx) : Expr → List Value → Prop
  | one {x : Str} {p : Pos} {c : Value} (h : Names X x c) : ClT X (.Name x p) [c]
  | two {x1 x2 : Str} {p1 p2 p : Pos} {c1 c2 : Value} {k : Nat} (h1 : Names X x1 c1) (h2 : Names X x2 c2) : ClT X (.Tuple [.Name x1 p1, .Name x2 p2] k p) [c1, c2]
  | three {x1 x2 x3 : Str} {p1 p2 p3 p : Pos} {c1 c2 c3 : Value} {k : Nat} (h1 : Names X x1 c1) (h2 : Names X x2 c2) (h3 : Names X x3 c3) : ClT X (.Tuple [.Name x1 p1, .Name x2 p2, .Name x3 p3] k p) [c1, c2, c3]
  | four {x1 x2 x3 x4 : Str} {p1 p2 p3 p4 p : Pos} {c1 c2 c3 c4 : Value} {k : Nat} (h1 : Names X x1 c1) (h2 : Names X x2 c2) (h3 : Names X x3 c3) (h4 : Names X x4 c4) :
      ClT X (.Tuple [.Name x1 p1, .Name x2 p2, .Name x3 p3, .Name x4 p4] k p) [c1, c2, c3, c4]
/-- one clause: its classes, the slot of its name, its suite -/
structure Clause where
  cs : List Value
  nm : Option Nat
  ts : Addr → Value → Option Addr → TS
def unD (i : Nat) (D : Ends) : Ends := { nx := fun σ' H' => D.nx (σ'.set i none) H', rt := D.rt, bk := fun σ' H' => D.bk (σ'.set i none) H', ct := fun σ' H' => D.ct (σ'.set i none) H' }
def Clause.go (q : Clause) (a : Addr) (cls : Value) (d : Option Addr) : TS := fun D σ H => match q.nm with
  | none => q.ts a cls d D σ H
  | some i => q.ts a cls d (unD i D) (σ.set i (some (.ref a))) H
/-- what the clauses wish of an exception of the body, one behind the other -/
def wCl (K : PySem.W.Frag) (Wout : WX) (D : Ends) : List Clause → WX
  | [] => Wout
  | q :: r => fun cls d σ H => ∃ b, PySem.W.exmAny K cls q.cs = some b ∧ (b = true → ∀ a, H a = none → q.go a cls d D σ H) ∧ (b = false → wCl K Wout D r cls d σ H)
abbrev SuOk (X : Cx) (su : List Stmt) (ts : Addr → Value → Option Addr → TS) : Prop :=
  ∀ (a : Addr) (oe : Obj) (cls : Value) (d : Option Addr) (pn : List (Addr × Obj)), Zc cls d oe → (∃ vs, oe.data = .fields vs) → PSs (X.suite a ((a, oe) :: pn)) su (ts a cls d)
inductive ClsOk (X : Cx) : List ExceptHandler → List Clause → Prop
  | nil : ClsOk X [] []
  | bare {e : Expr} {cs : List Value} {ts : Addr → Value → Option Addr → TS} {b₀ : Stmt} {su : List Stmt} {p : Pos} {hd : List ExceptHandler} {l : List Clause} (hc : ClT X e cs) (hs : SuOk X (b₀ :: su) ts) (r : ClsOk X hd l) :
      ClsOk X (.ExceptHandler (some e) none (b₀ :: su) p :: hd) (⟨cs, none, ts⟩ :: l)
  | named {e : Expr} {cs : List Value} {ts : Addr → Value → Option Addr → TS} {b₀ : Stmt} {su : List Stmt} {p : Pos} {hd : List ExceptHandler} {l : List Clause} {i : Nat} {n : Str} (hi : X.N[i]? = some n) (hl : X.env.kindOf n = some .local) (hc : ClT X e cs) (hs : SuOk X (b₀ :: su) ts) (r : ClsOk X hd l) :
      ClsOk X (.ExceptHandler (some e) (some n) (b₀ :: su) p :: hd) (⟨cs, some i, ts⟩ :: l)
theorem exm1 {K : PySem.W.Frag} {cls c : Value} {b : Bool} (h : PySem.W.exmAny K cls [c] = some b) : PySem.W.exmOne K cls c = some b := by
  obtain ⟨b1, d1, x1, y1, z1⟩ := PySem.W.exmAny_cons h
  cases (show some false = some d1 from y1)
  rw [z1, x1, Bool.or_false]
section
variable {X : Cx}
theorem names_ld {pins : List (Addr × Obj)} {σ : St} {H : Hp} {s : Shared} {x : Str} {c : Value} {p : Pos} {a : Addr} {pn : List (Addr × Obj)} {Q : Value → Shared → Prop} {E : Value → Shared → Prop} (h : Names X x c) (I : Inv (X.suite a pn) pins σ H s) (q : Q c s) :
    wpAny (model X.prog X.w) (X.A.mark (some (.ref a))) (eval (.Name x p) X.env) Q E s := by
  obtain ⟨g, nd, hm | ⟨hm, hv, nn⟩⟩ := h
  · exact ld_glob (X := X.suite a pn) I g hm q nd
  · exact ld_blt (X := X.suite a pn) I g hm hv q nn nd
theorem ClT.test {e : Expr} {cs : List Value} {pins : List (Addr × Obj)} {σ : St} {H : Hp} {s : Shared} {a : Addr} {pn : List (Addr × Obj)} {cls : Value} {b : Bool} {Q : Bool → Shared → Prop} {E : Value → Shared → Prop} (h : ClT X e cs)
    (I : Inv (X.suite a pn) pins σ H s) (L : PySem.W.Looks (model X.prog X.w) s.heap (typeOf (.ref a)) cls) (hb : PySem.W.exmAny X.K cls cs = some b) (q : ∀ h', (∀ y o, s.heap.get? y = some o → h'.get? y = some o) → Q b { s with heap := h' }) :
    wpAny (model X.prog X.w) (X.A.mark (some (.ref a))) (eval e X.env) (fun c s1 => wpAny (model X.prog X.w) (X.A.mark (some (.ref a))) (excMatches (.ref a) c) Q E s1) E s := by
  have kp : ∀ (o : Obj) y z, s.heap.get? y = some z → (s.heap.push o).get? y = some z := fun o _ _ z => Heap.get?_push_of_some _ z
  have kI : X.K.In s.heap := I.kIn
  cases h with
  | one n => exact names_ld n I ((PySem.W.exm_one kI L (exm1 hb)).here (q _ fun _ _ z => z))
  | two n1 n2 =>
    refine wpAny_Tuple (wpAny_items_cons (names_ld n1 I (wpAny_items_cons (names_ld n2 I (wpAny_items_nil ⟨by size_fits, ?_⟩)))))
    exact (PySem.W.exm_tup2 (kI.keeps (kp _)) (L.keeps (kp _)) (Heap.get?_push_size s.heap rfl) hb).here (q _ (kp _))
  | three n1 n2 n3 =>
    refine wpAny_Tuple (wpAny_items_cons (names_ld n1 I (wpAny_items_cons (names_ld n2 I (wpAny_items_cons (names_ld n3 I (wpAny_items_nil ⟨by size_fits, ?_⟩)))))))
    exact (PySem.W.exm_tup3 (kI.keeps (kp _)) (L.keeps (kp _)) (Heap.get?_push_size s.heap rfl) hb).here (q _ (kp _))
  | four n1 n2 n3 n4 =>
    refine wpAny_Tuple (wpAny_items_cons (names_ld n1 I (wpAny_items_cons (names_ld n2 I (wpAny_items_cons (names_ld n3 I (wpAny_items_cons (names_ld n4 I (wpAny_items_nil ⟨by size_fits, ?_⟩)))))))))
    exact (PySem.W.exm_tup4 (kI.keeps (kp _)) (L.keeps (kp _)) (Heap.get?_push_size s.heap rfl) hb).here (q _ (kp _))
theorem fly_keeps {B h h' : Heap} {l : List Env} {a : Addr} {Z : Obj → Prop} (f : HandSPX.FlyingZ B l a Z h) (k : ∀ y o, h.get? y = some o → h'.get? y = some o) : HandSPX.FlyingZ B l a Z h' := by
  obtain ⟨f1, f2, f3, oe, vs, T, oT, ts, he, hz, hd, h1, hn, hne, hT, hdT, h3⟩ := f
  exact ⟨fun y o q => k _ _ (f1 y o q), f2, f3.of_keeps fun y o q _ => ⟨o, k _ _ q, rfl⟩, oe, vs, T, oT, ts, k _ _ he, hz, hd, h1, hn, hne, k _ _ hT, hdT, h3⟩
theorem fly_out {B h : Heap} {l : List Env} {a : Addr} {Z : Obj → Prop} (f : HandSPX.FlyingZ B l a Z h) : a ∉ frs l := fun m => by
  obtain ⟨oe, vs, e1, _, e2⟩ := f.there
  obtain ⟨_, o, e3, no⟩ := f.2.2.1.mem m
  rw [e1] at e3
  cases e3
  exact no _ e2
variable {body orelse : List Stmt} {h₀ : ExceptHandler} {hds : List ExceptHandler} {l : List Clause} {pos : Pos} {tb : WX → TS} {u : TS} {Wout : WX}
theorem handle_cl {pins : List (Addr × Obj)} {σ : St} {H : Hp} {sI s : Shared} {B : Heap} {a : Addr} {cls : Value} {d : Option Addr} {D : Ends} {hs : List ExceptHandler} {l : List Clause} (hst : X.stack = X.env :: X.outer) (hf : X.env.frame = some X.env.locals) (hN : X.N.Nodup) (tk : Takes X Wout)
    (hk : ClsOk X hs l) (J : Inv X pins σ H sI) (nb : ∀ b o, sI.heap.get? b = some o → b ∉ frs X.stack → B.get? b = some o) (os : s.os = sI.os) (ag : AllBare s.gens) (na : H a = none) :
    ∀ h, HandSPX.FlyingZ B (X.env :: X.outer) a (Zc cls d) h → sI.heap.UpToSlots h → wCl X.K Wout D l cls d σ H → wpAny (model X.prog X.w) X.A (handleBy (.ref a) X.env hs) (SP X pins D) X.xe { s with heap := h } := by
  have ok := J.ok
  have nLF : ∀ {h}, HandSPX.FlyingZ B (X.env :: X.outer) a (Zc cls d) h → a ≠ X.env.locals ∧ a ∉ X.fs := fun f => by
    have nf := fly_out f
    refine ⟨fun z => nf (List.mem_filterMap.mpr ⟨X.env, List.mem_cons_self, by rw [hf, z]⟩), fun m => ?_⟩
    obtain ⟨e, he, q⟩ := List.mem_filterMap.mp m
    exact nf (List.mem_filterMap.mpr ⟨e, List.mem_cons_of_mem _ he, q⟩)
  have su : ∀ {h}, HandSPX.FlyingZ B (X.env :: X.outer) a (Zc cls d) h → sI.heap.UpToSlots h → ∃ oe, Zc cls d oe ∧ (∃ vs, oe.data = .fields vs) ∧ h.get? a = some oe ∧ ∀ t, Inv (X.suite a ((a, oe) :: (X.pn ++ pins))) [] σ H { s with heap := h, toks := t } := fun {h} f up => by
    obtain ⟨oe, vs, e1, e2, e3⟩ := f.there
    exact ⟨oe, e2, ⟨vs, e3⟩, e1, fun t => ((J.landed (s' := { s with heap := h, toks := t }) nb f.1 up os ag).suite e1 e3 na (nLF f).1 (nLF f).2)⟩
  induction hk with
  | nil =>
    intro h f up w
    refine wpAny_handleBy_nil ?_
    obtain ⟨-, -, -, oe, vs, T, -, -, he, -, hd, h1, -⟩ := id f
    unfold PySem.passOn
    refine wpAny_bind (wpAny_field he hd h1 ?_)
    rw [if_neg (show ¬ ((Value.ref T == Value.none) = true) from by simp)]
    have fin : wpAny (model X.prog X.w) X.A (setFlight (.ref a) X.env.frame) (fun _ s4 => wpAny (model X.prog X.w) X.A (throw (.ref a) : Sem Flow) (SP X pins D) X.xe s4) X.xe { s with heap := h } := by
      rw [hf]
      refine HandSPX.setFlight_upZ f fun h4 f4 up4 => wpAny_throw (tk _ _ ⟨a, B, sI, pins, σ, H, cls, d, rfl, J, nb, up.trans up4, .inr (.inr ?_), na, os, ag, w⟩)
      rw [hst]
      exact f4
    first
      | exact wpAny_bind (wpAny_pure (wpAny_bind fin))
      | exact wpAny_bind fin
  | @bare e cs ts b₀ su' p hd l hc hs r ih =>
    intro h f up w
    obtain ⟨b, hb, hy, hn⟩ := w
    obtain ⟨oe, z1, z2, z3, S⟩ := su f up
    refine wpAny_handleBy_cons (codeAny_handlers_test (hc.test (S s.toks) (fun A Q E s k q => wpAny_typeOf_ref (k _ _ z3) (by rw [z1.1]; exact q)) hb fun h2 k => ?_)) (fun q => by cases q)
    have f2 := fly_keeps f k
    have up2 := up.trans (Heap.UpToSlots.of_keeps k)
    cases b with
    | true =>
      refine codeAny_handlers_suite (HandSPX.lands_againZ f2 fun h4 f4 up4 => ?_)
      obtain ⟨oe4, y1, y2, y3, S4⟩ := su f4 (up2.trans up4)
      refine wpAny_mono ((hs a oe4 cls d _ y1 y2).run [] _ _ H _ (S4 s.toks) (hy rfl a na)) (fun fl s6 hq => ?_) (fun _ _ z => False.elim z)
      cases fl with
      | next => exact hq.imp fun _ q => q.imp fun _ q => ⟨q.1.unsuite ok, q.2⟩
      | brk => exact hq.imp fun _ q => q.imp fun _ q => ⟨q.1.unsuite ok, q.2⟩
      | cont => exact hq.imp fun _ q => q.imp fun _ q => ⟨q.1.unsuite ok, q.2⟩
      | ret v => exact hq.imp fun _ q => q.imp fun _ q => q.imp fun _ q => ⟨q.1.unsuite ok, q.2⟩
    | false => exact ih h2 f2 up2 (hn rfl)
  | @named e cs ts b₀ su' p hd l i n hi hl hc hs r ih =>
    intro h f up w
    obtain ⟨b, hb, hy, hn⟩ := w
    obtain ⟨oe, z1, z2, z3, S⟩ := su f up
    refine wpAny_handleBy_cons (codeAny_handlers_test (hc.test (S s.toks) (fun A Q E s k q => wpAny_typeOf_ref (k _ _ z3) (by rw [z1.1]; exact q)) hb fun h2 k => ?_)) (fun q => by cases q)
    have f2 := fly_keeps f k
    have up2 := up.trans (Heap.UpToSlots.of_keeps k)
    cases b with
    | true =>
      refine codeAny_handlers_suite_as (HandSPX.lands_againZ f2 fun h4 f4 up4 => ?_)
      obtain ⟨oe4, y1, y2, y3, S4⟩ := su f4 (up2.trans up4)
      refine store_ok (X := X.suite a ((a, oe4) :: (X.pn ++ pins))) (v := .ref a) (S4 s.toks) hN hi (.inl hl) rfl (fun s5 S5 => ?_) (.inr hl)
      refine wpAny_mono ((hs a oe4 cls d _ y1 y2).run [] s5 _ H _ S5 (hy rfl a na)) (fun fl s6 hq => ?_) (fun _ _ z => False.elim z)
      cases fl with
      | next =>
        obtain ⟨σ6, H6, S6, q6⟩ := hq
        exact gone_ok (S6.unsuite ok) hN hi hl fun s7 J7 => ⟨_, _, J7, q6⟩
      | brk =>
        obtain ⟨σ6, H6, S6, q6⟩ := hq
        exact gone_ok (S6.unsuite ok) hN hi hl fun s7 J7 => ⟨_, _, J7, q6⟩
      | cont =>
        obtain ⟨σ6, H6, S6, q6⟩ := hq
        exact gone_ok (S6.unsuite ok) hN hi hl fun s7 J7 => ⟨_, _, J7, q6⟩
      | ret v =>
        obtain ⟨v6, σ6, H6, S6, r6, q6⟩ := hq
        exact gone_ok (S6.unsuite ok) hN hi hl fun s7 J7 => ⟨_, _, _, J7, r6, q6⟩
    | false => exact ih h2 f2 up2 (hn rfl)
theorem ps_tryC (hst : X.stack = X.env :: X.outer) (hf : X.env.frame = some X.env.locals) (hN : X.N.Nodup) (tk : Takes X Wout)
    (hb : ∀ (W : WX) (pn : List (Addr × Obj)) (xe : Value → Shared → Prop), Takes (X.tr pn xe) W → PassesOwn (model X.prog X.w) X.A X.env xe → PSs (X.tr pn xe) body (tb W))
    (hh : ClsOk X (h₀ :: hds) l) (ho : PSs X orelse u) : PS X (.Try body (h₀ :: hds) orelse [] pos) (fun D σ H => tb (wCl X.K Wout D l) { D with nx := u D } σ H) := by
  refine ⟨fun pins s σ H D I h => wpAny_Try_except ?_⟩
  have ok := I.ok
  refine wpAny_mono ((hb (wCl X.K Wout D l) (X.pn ++ pins) _ (fun v s' xx => ?_) PassesOwn.looking).run [] s σ H { D with nx := u D } (I.toTry _) h) (fun f s1 hq => ?_) (fun e s1 he => he)
  · obtain ⟨a, B, sI, pins', σ', H', cls, d, rfl, J, nb, up, sky, na, os, ag, w⟩ := xx
    refine Sky.land Zc.steady (by rw [ok.frames, hst]) hf (by rw [← hst]; exact sky) fun h3 f3 up3 => ?_
    exact handle_cl hst hf hN tk hh (J.ofTry ok) nb os ag na h3 f3 (up.trans up3) w
  · cases f with
    | next =>
      obtain ⟨σ', H', J, q⟩ := hq
      exact ho.run pins s1 σ' H' D (J.ofTry ok) q
    | brk => exact hq.imp fun _ q => q.imp fun _ q => ⟨q.1.ofTry ok, q.2⟩
    | cont => exact hq.imp fun _ q => q.imp fun _ q => ⟨q.1.ofTry ok, q.2⟩
    | ret v => exact hq.imp fun _ q => q.imp fun _ q => q.imp fun _ q => ⟨q.1.ofTry ok, q.2⟩
end
end My
/-! Errors of the text: made, raised, caught. -/
namespace My
open PySem L2
section
variable {X : Cx} {CX : CXT} {k : Nat} {f C : Addr} {fd : FuncData} {ps : List Str} {sp : Sp} {dvs : List V} {ds : List Value} {E : St → XK} {x m : Str} {p pos apos : Pos} {e o : Expr} {es : List Expr} {ta : TE} {t : TA}
/-- o.m(e, ..), what is raised wished for at the caller's slots -/
def tMethS (C : Addr) (m : Str) (sp : Sp) (dvs : List V) (E : St → XK) (ta : TE) (t : TA) : TE := fun σ H Q => ta σ H fun x H1 => ∃ a dx fs, x = .ref a ∧ H1 a = some (.ins C dx fs) ∧ fs.lookup m = none ∧ t σ H1 fun vs H2 => sp (x :: (vs ++ dvs)) H2 Q (E σ)
theorem pe_methS {pl : Sem Bool} (he : PE X o ta) (c : Cls X.K C) (hm : Meth X.K C m f) (F : FnOk X.prog X.w X.K X.mg X.base CX k f fd ps sp) (hr : Room k X.A) (hb : Binds X.K fd ps ds) (hd : Vals dvs ds) (hx : ∀ σ, PassesAt CX X σ (E σ)) (ha : PA X (e :: es) t)
    (hst : starEach (e :: es) X.env = (false, eval e X.env) :: starEach es X.env := by rfl) (hpl : (backTo pos (starEach es X.env)).any (·.1) = false := by rfl)
    (ht : eval (.Call (.Attribute o m apos) (e :: es) [] pos) X.env = (do let ov ← eval o X.env; standAt apos.atName; let (f, first) ← holding [ov] (getMethod ov m pl); callWith pos f first (backTo pos (starEach (e :: es) X.env)) (backToKw pos (keywordEach [] X.env))) := by rfl) : PE X (.Call (.Attribute o m apos) (e :: es) [] pos) (tMethS C m sp dvs E ta t) := by
  refine ⟨fun pins s σ H Q I h => PySem.W.methodCall_KW (pl := pl) (thn (he.run pins s σ H _ I h) fun u s1 ⟨y, H1, I1, ry, a, dx, fs, ey, ea, l, q⟩ => ?_) ht⟩
  subst ey
  cases (show u = Value.ref a from ry)
  refine getmeth_ok I1 ea c hm l (PySem.W.callWith_K (first := [.ref a]) (h₀ := X.base) I.ok.mod.kin hm.kp (thn (ha.run pos pins s1 σ H1 _ I1 q) fun us s2 ⟨vs, H2, I2, r, q2⟩ => ⟨I2.kIn, ?_⟩) hst hpl)
  exact run_fnSD (us := .ref a :: us) (vs := .ref a :: vs) F hr hb hd (hx σ) I2 (.cons rfl r) q2
theorem pe_meth0S {pl : Sem Bool} (he : PE X o ta) (c : Cls X.K C) (hm : Meth X.K C m f) (F : FnOk X.prog X.w X.K X.mg X.base CX k f fd ps sp) (hr : Room k X.A) (hb : Binds X.K fd ps ds) (hd : Vals dvs ds) (hx : ∀ σ, PassesAt CX X σ (E σ))
    (ht : eval (.Call (.Attribute o m apos) [] [] pos) X.env = (do let ov ← eval o X.env; standAt apos.atName; let (f, first) ← holding [ov] (getMethod ov m pl); callWith pos f first (backTo pos (starEach [] X.env)) (backToKw pos (keywordEach [] X.env))) := by rfl) : PE X (.Call (.Attribute o m apos) [] [] pos) (tMethS C m sp dvs E ta tNil) := by
  refine ⟨fun pins s σ H Q I h => PySem.W.methodCall_KW (pl := pl) (thn (he.run pins s σ H _ I h) fun u s1 ⟨y, H1, I1, ry, a, dx, fs, ey, ea, l, q⟩ => ?_) ht⟩
  subst ey
  cases (show u = Value.ref a from ry)
  refine getmeth_ok I1 ea c hm l (PySem.W.callWith_K0 (first := [.ref a]) I1.kIn hm.kp ?_)
  exact run_fnSD (us := [.ref a]) (vs := [.ref a]) F hr hb hd (hx σ) I1 (.cons rfl .nil) q
def tMakeS (C : Addr) (sp : Sp) (dvs : List V) (E : St → XK) (t : TA) : TE := fun σ H Q => t σ H fun vs H1 => ∀ x dx, H1 x = none → H1 dx = none → dx ≠ x →
  sp (.ref x :: (vs ++ dvs)) (upd (upd H1 dx (.own x)) x (.ins C dx [])) (fun v H2 => v = .non ∧ Q (.ref x) H2) (E σ)
theorem run_makeS {pins : List (Addr × Obj)} {σ : St} {H : Hp} {s : Shared} {Q : VK} {us : List Value} {vs : List V} (M : Mk X.K C f) (F : FnOk X.prog X.w X.K X.mg X.base CX k f fd ps sp) (hr : Room (k + 1) X.A) (hb : Binds X.K fd ps ds) (hd : Vals dvs ds) (hx : PassesAt CX X σ (E σ))
    (I : Inv X pins σ H s) (rv : Vals vs us) (h : ∀ x dx, H x = none → H dx = none → dx ≠ x → sp (.ref x :: (vs ++ dvs)) (upd (upd H dx (.own x)) x (.ins C dx [])) (fun v H2 => v = .non ∧ Q (.ref x) H2) (E σ)) : wpAny (model X.prog X.w) X.A (call (.ref C) us) (EP X pins σ Q) X.xe s := by
  have q0 := h (s.heap.objs.size + 1) s.heap.objs.size (I.hok.fresh (Nat.le_succ _)) (I.hok.fresh (Nat.le_refl _)) (Nat.ne_of_lt (Nat.lt_succ_self _))
  have J := Inv.made (C := C) I
  have rr : Vals (V.ref (s.heap.objs.size + 1) :: (vs ++ dvs)) (Value.ref (s.heap.objs.size + 1) :: (us ++ ds)) := .cons rfl (rv.append hd)
  have len : (Value.ref (s.heap.objs.size + 1) :: us ++ ds).length = ps.length := (rr.length.symm.trans (F.len _ _ _ _ q0))
  have run := F.run _ X.stack _ _ ⟨Value.ref (s.heap.objs.size + 1) :: us, []⟩ (Value.ref (s.heap.objs.size + 1) :: (us ++ ds)) _ _ (E σ) (hr.make C us []) (J.env0.make C us []) (hb _ (Value.ref (s.heap.objs.size + 1) :: us) J.kIn len) rr q0
  refine wpAny_call (make_map (f := f) I.kIn M.makes M.init (beq_iff_eq.mp M.fn) (codeAny_mono run fun r s' z => ?_))
  match r, z with
  | .error e, z => exact hx pins _ _ e s' J z
  | .ok (.ret u), z =>
    obtain ⟨v, H', J', r', rfl, q'⟩ := J.after z
    exact ⟨r', ⟨V.ref (s.heap.objs.size + 1), H', J', rfl, q'⟩⟩
  | .ok .next, z => exact z.elim
  | .ok .brk, z => exact z.elim
  | .ok .cont, z => exact z.elim
/-- C(e, ..), C's own __init__ may raise -/
theorem pe_makeS (M : Mk X.K C f) (F : FnOk X.prog X.w X.K X.mg X.base CX k f fd ps sp) (hr : Room (k + 1) X.A) (hg : Gl X x) (hm : X.mg x = some (.ref C)) (hb : Binds X.K fd ps ds) (hd : Vals dvs ds) (hx : ∀ σ, PassesAt CX X σ (E σ)) (ha : PA X (e :: es) t)
    (hdb : (x == ("__debug__" : Str)) = false := by decide) (he : starEach (e :: es) X.env = (false, eval e X.env) :: starEach es X.env := by rfl) (hpl : (backTo pos (starEach es X.env)).any (·.1) = false := by rfl) : PE X (.Call (.Name x p) (e :: es) [] pos) (tMakeS C sp dvs E t) :=
  ⟨fun pins s σ H Q I h => wpAny_Call_Name_kw (ld_glob I hg hm (PySem.W.callWith_K (h₀ := X.base) I.ok.mod.kin M.kp (thn (ha.run pos pins s σ H _ I h) fun us s1 ⟨vs, H1, I1, rv, q⟩ => ⟨I1.kIn, run_makeS M F hr hb hd (hx _) I1 rv q⟩) he hpl) hdb)⟩
/-- an argument list's reading by what follows it -/
def taM (t : TA) : TA := fun σ H Q => ∃ R : List V → Hp → Prop, t σ H R ∧ ∀ vs H1, R vs H1 → Q vs H1
theorem pa_M (h : PA X es t) : PA X es (taM t) := ⟨fun pos pins s σ H Q I ⟨R, h1, h2⟩ => thn (h.run pos pins s σ H R I h1) fun us s1 ⟨vs, H1, I1, r, q⟩ => ⟨vs, H1, I1, r, h2 vs H1 q⟩⟩
/-! ### an error class of the text: class C(HallError): def __init__(self, f): HallError.__init__(self, '..'); self.f = f -/
/-- what its __init__ does -/
def spExI (C : Addr) (f : Str) : Sp := fun vs H Q _ => ∃ (a : Addr) (v : V), vs = [.ref a, v] ∧ H a = some (exo a C none) ∧ ∀ d, H d = none → d ≠ a → Q .non (upd (upd H d (exd d [(f, v)])) a (exo a C (some d)))
def tExc (C : Addr) (f : Str) (t : TA) : St → Hp → XK → Prop := fun σ H Q => t σ H fun vs H1 => ∃ v, vs = [v] ∧ ∀ d, H1 d = none → Q (.ref C) (some d) (upd H1 d (.xd [(f, v)]))
theorem pmk_exc {fI : Addr} {fl : Str} (T : OexC X.K C) (iC : PySem.W.findIn X.K (.ref C) "__init__" = some (some (.ref fI))) (tI : PySem.W.typeIn X.K (.ref fI) = some (.type "function"))
    (F1 : FnOk X.prog X.w X.K X.mg X.base CX0 k fI fd ps (spExI C fl)) (hr : Room (k + 1) X.A) (hb : Binds X.K fd ps []) (hg : Gl X x) (hm : X.mg x = some (.ref C)) (ha : PA X (e :: es) t)
    (hdb : (x == ("__debug__" : Str)) = false := by decide) (he : starEach (e :: es) X.env = (false, eval e X.env) :: starEach es X.env := by rfl) (hpl : (backTo pos (starEach es X.env)).any (·.1) = false := by rfl) : PMk X (.Call (.Name x p) (e :: es) [] pos) (tExc C fl t) := by
  intro pins s σ H Q I h
  refine pmk_oex T iC tI F1 hr hb .nil (fun _ _ _ _ _ _ _ z => z.elim) hg hm (pa_M ha) hdb he hpl pins s σ H Q I ⟨_, h, fun vs H1 hv => ?_⟩
  obtain ⟨v, rfl, hq⟩ := hv
  refine ⟨(by show 1 ≤ 1000; decide), fun a na => ⟨a, v, rfl, upd_same, fun d hd nd => ⟨rfl, d, [(fl, v)], upd_same, ?_, ?_, ?_⟩⟩⟩
  · rw [upd_ne nd, upd_same]
  · rw [upd_ne nd] at hd
    exact hd
  · have hd' : H1 d = none := by
      rw [upd_ne nd] at hd
      exact hd
    have e1 : upd (del (upd (upd (upd H1 a (exo a C none)) d (exd d [(fl, v)])) a (exo a C (some d))) a) d (.xd [(fl, v)]) = upd H1 d (.xd [(fl, v)]) := by
      funext b
      by_cases h1 : b = d
      · rw [h1, upd_same, upd_same]
      · rw [upd_ne h1, upd_ne h1]
        by_cases h2 : b = a
        · rw [h2, del_same, na]
        · rw [del_ne h2, upd_ne h2, upd_ne h1, upd_ne h2]
    rw [e1]
    exact hq d hd'
/-- HallError.__init__(self, '..'), HallError a class of the text over ValueError -/
theorem pe_hinit {H0 : Addr} {pl : Sem Bool} {p1 p2 : Pos} (hg : Gl X x) (hm : X.mg x = some (.ref H0)) (hs : PySem.W.specialIn X.K (.ref H0) "__getattribute__" = some (some (.builtin "type.__getattribute__"))) (hrd : PySem.W.readsIn X.K H0 (.type "type") = true)
    (hf : PySem.W.findCls X.K (.ref H0) (.type "type") "__init__" = some (.val (.builtin "ValueError.__init__"))) (ha : PA X (e :: es) t) (hdb : (x == ("__debug__" : Str)) = false := by decide)
    (hc : eval (.Call (.Attribute (.Name x p1) "__init__" p2) (e :: es) [] pos) X.env = (do let ov ← eval (.Name x p1) X.env; standAt p2.atName; let (f, first) ← holding [ov] (getMethod ov "__init__" pl); callWith pos f first (backTo pos (starEach (e :: es) X.env)) (backToKw pos (keywordEach [] X.env))) := by rfl)
    (he : starEach (e :: es) X.env = (false, eval e X.env) :: starEach es X.env := by rfl) (hpl : (backTo pos (starEach es X.env)).any (·.1) = false := by rfl) : PE X (.Call (.Attribute (.Name x p1) "__init__" p2) (e :: es) [] pos) (tVeI X.K t) := by
  refine ⟨fun pins s σ H Q I h => PySem.W.methodCall_KW (ld_glob I hg hm ?_ hdb) hc⟩
  refine PySem.W.method_cls I.kIn hs (PySem.W.cls_value I.kIn hrd hf (by decide +kernel) ?_)
  show wpAny _ _ (callWith pos (Value.builtin "ValueError.__init__") [] (backTo pos (starEach (e :: es) X.env)) []) _ _ _
  refine PyProof.Rows.callWith_method1 (thn (ha.run pos pins _ σ H _ (I.tok _) h) fun us s1 ⟨vs, H1, I1, r1, a, C, ws, ev, hl, T, ea, q⟩ => ?_) he hpl
  subst ev
  cases r1 with
  | @cons _ u0 _ ur ra rw' =>
    cases (show u0 = Value.ref a from ra)
    refine oinit_ok T I1 ea ?_ fun s' J => ⟨.non, H1, J, rfl, q⟩
    rw [← Paired.length rw']
    exact line_le hl
/-! ### in an except suite: e.f, isinstance(e, C), isinstance(e, (C, D)) -/
end
/-- what the text says of an error class -/
structure XcC (K : PySem.W.Frag) (D : Addr) : Prop where
  ga : PySem.W.findIn K (.ref D) "__getattribute__" = some (some (.builtin "BaseException.__getattribute__"))
  gg : PySem.W.findIn K (.ref D) "__getattr__" = some none
  ex : PySem.W.subIn K (.ref D) (.type "BaseException") = some true
  hd : PySem.W.hasDictIn K D = true
  ha : PySem.W.findIn K (.ref D) "__class__" = some (some (.builtin "object.__class__"))
  hn : PySem.W.specialIn K (.builtin "object.__class__") "__get__" = some (some (.builtin "getset_descriptor.__get__"))
  ht : PySem.W.takesIn K (.builtin "object.__class__") = some true
  hm : PySem.W.mroIn K D (.type "object") = some true
  ty : PySem.W.typeIn K (.ref D) = some (.type "type")
/-- the own dict of the caught one -/
def XdAt (H : Hp) (d : Option Addr) : Prop := d = none ∨ ∃ dd fs, d = some dd ∧ H dd = some (.xd fs)
/-- e.f, e the caught error -/
def tXfA (K : PySem.W.Frag) (a : Addr) (cls : Value) (d : Option Addr) (f : Str) (te : TE) : TE := fun σ H Q => te σ H fun x H1 => x = .ref a ∧ ∃ (C dd : Addr) (fs : List (Str × V)) (v : V), cls = .ref C ∧ XcC K C ∧ PySem.W.findIn K (.ref C) f = some none ∧ d = some dd ∧ H1 dd = some (.xd fs) ∧ fs.lookup f = some v ∧ Q v H1
section
variable {X : Cx} {a : Addr} {oe : Obj} {cls : Value} {d : Option Addr} {pn : List (Addr × Obj)}
theorem pe_xfA {e : Expr} {te : TE} {pos : Pos} {n : Str} {K : PySem.W.Frag} (hz : Zc cls d oe) (hf : ∃ vs, oe.data = .fields vs) (he : PE (X.suite a ((a, oe) :: pn)) e te) (hb : attributeBase e n X.env (eval e X.env) = eval e X.env := by rfl) (hK : X.K = K := by rfl) :
    PE (X.suite a ((a, oe) :: pn)) (.Attribute e n pos) (tXfA K a cls d n te) := by
  subst hK
  refine ⟨fun pins s σ H Q I h => attr_of hb (thn (he.run pins s σ H _ I h) fun u s1 hh => ?_)⟩
  obtain ⟨x, H1, I1, rx, rfl, C, dd, fs, v, rfl, T, no, rfl, xa, l, q⟩ := hh
  obtain rfl : u = Value.ref a := rx
  obtain ⟨pa, _⟩ := I1.pin (a, oe) (List.mem_append_left _ List.mem_cons_self)
  obtain ⟨vs, hv⟩ := hf
  obtain ⟨mA, ns, rl⟩ := (show ObjOk X.prog X.w H1 s1.heap dd (.xd fs) from I1.hok dd _ xa)
  obtain ⟨od, ho, hl⟩ := lookIn_ns ns
  obtain ⟨u, hu, ru⟩ := RelO.some_of (v := v) (o := mA n) (by rw [← l]; exact rl n)
  exact HandSPX.exc_get I1.kIn (od := some od) ⟨pa, hz.1, by unfold PySem.W.notCls; rw [hv] <;> rfl, by rw [hz.2]; exact ho⟩ T.ga T.gg T.ex (PySem.W.findObj_own T.hd no rfl (by rw [hl, hu])) (handed_of ru) ⟨v, H1, I1.tok _, ru, q⟩
/-- isinstance(e, C) -/
def rIsX (K : PySem.W.Frag) (a : Addr) (cls : Value) (d : Option Addr) : List V → Hp → VK → Prop := fun xs H Q => ∃ (D : Addr) (c : V) (cv : Value) (b : Bool), xs = [.ref a, c] ∧ cls = .ref D ∧ XcC K D ∧ XdAt H d ∧ ClsV c cv ∧ PySem.W.kitOne K (.ref D) cv = some b ∧ Q (.bl b) H
/-- isinstance(e, (C, D)), the tuple just laid -/
def rIsXs (K : PySem.W.Frag) (a : Addr) (cls : Value) (d : Option Addr) : List V → Hp → VK → Prop := fun xs H Q => ∃ (D tp : Addr) (cs : List V) (cvs : List Value) (b : Bool), xs = [.ref a, .ref tp] ∧ H tp = some (.tup cs) ∧ cls = .ref D ∧ XcC K D ∧ XdAt H d ∧ Paired ClsV cs cvs ∧ PySem.W.kitAny K (.ref D) cvs = some b ∧ Q (.bl b) H
theorem xc_kit {K : PySem.W.Frag} {D x : Addr} {ox : Obj} {od : Option Obj} (T : XcC K D) : PySem.W.KitX K (.ref x) (.ref D) (fun h => PySem.W.InstAt h x ox D od) := by
  have hc : (PySem.W.clsIn K D).isSome = true := by
    obtain ⟨cd, hc, _⟩ := PySem.W.any_some T.hd
    rw [hc]
    rfl
  exact PySem.W.kitx_exc hc T.ga T.gg T.ex T.ha T.hn T.ht T.hm
theorem xc_at {pins : List (Addr × Obj)} {σ : St} {H : Hp} {s : Shared} {D : Addr} (hz : Zc (.ref D) d oe) (hf : ∃ vs, oe.data = .fields vs) (I : Inv (X.suite a ((a, oe) :: pn)) pins σ H s) (xd : XdAt H d) : ∃ od, PySem.W.InstAt s.heap a oe D od := by
  obtain ⟨pa, _⟩ := I.pin (a, oe) (List.mem_append_left _ List.mem_cons_self)
  obtain ⟨vs, hv⟩ := hf
  have nc : PySem.W.notCls oe = true := by unfold PySem.W.notCls; rw [hv] <;> rfl
  rcases xd with rfl | ⟨dd, fs, rfl, xa⟩
  · exact ⟨none, pa, hz.1, nc, by rw [hz.2]; trivial⟩
  · obtain ⟨mA, ns, rl⟩ := (show ObjOk X.prog X.w H s.heap dd (.xd fs) from I.hok dd _ xa)
    obtain ⟨od, ho, hl⟩ := lookIn_ns ns
    exact ⟨some od, pa, hz.1, nc, by rw [hz.2]; exact ho⟩
theorem call_isX {K : PySem.W.Frag} (hz : Zc cls d oe) (hf : ∃ vs, oe.data = .fields vs) (hK : X.K = K := by rfl) : CallR (X.suite a ((a, oe) :: pn)) (.builtin "isinstance") (rIsX K a cls d) := by
  subst hK
  intro pins s σ H xs us Q I r h
  obtain ⟨D, c, cv, b, rfl, rfl, T, xd, k, e, q⟩ := h
  obtain ⟨u1, u2, rfl, r1, r2⟩ := vals2 r
  cases (show u1 = Value.ref a from r1)
  cases k.eq r2
  obtain ⟨od, J⟩ := xc_at hz hf I xd
  exact PySem.W.kia_one (xc_kit T) I.kIn J e (fun z => nomatch z) fun tk => ⟨.bl b, H, I.tok tk, rfl, q⟩
theorem call_isXs {K : PySem.W.Frag} (hz : Zc cls d oe) (hf : ∃ vs, oe.data = .fields vs) (hK : X.K = K := by rfl) : CallR (X.suite a ((a, oe) :: pn)) (.builtin "isinstance") (rIsXs K a cls d) := by
  subst hK
  intro pins s σ H xs us Q I r h
  obtain ⟨D, tp, cs, cvs, b, rfl, ht, rfl, T, xd, k, e, q⟩ := h
  obtain ⟨u1, u2, rfl, r1, r2⟩ := vals2 r
  cases (show u1 = Value.ref a from r1)
  cases (show u2 = Value.ref tp from r2)
  obtain ⟨od, J⟩ := xc_at hz hf I xd
  obtain ⟨_, its, rv, ⟨oc, odd, dt, sl⟩, h1, h2, n, h3⟩ := (show ObjOk X.prog X.w H s.heap tp (.tup cs) from I.hok tp _ ht)
  cases ClsV.all k rv
  simp only at h2 h3
  subst h2 h3
  exact PySem.W.kia_tup (xc_kit T) I.kIn J h1 e (fun z => nomatch z) fun tk => ⟨.bl b, H, I.tok tk, rfl, q⟩
end
theorem kit_self {K : PySem.W.Frag} {C : Addr} : PySem.W.kitOne K (.ref C) (.ref C) = some true := by
  unfold PySem.W.kitOne
  rw [if_pos (by simp)]
/-- does the class cls lie under D, an own error class -/
theorem exm_own {K : PySem.W.Frag} {C D : Addr} {b : Bool} (T : XcC K D) (h : PySem.W.subIn K (.ref C) (.ref D) = some b) : PySem.W.exmOne K (.ref C) (.ref D) = some b := PySem.W.exm_ref T.ex T.hd T.ty h
theorem any_nil {K : PySem.W.Frag} {c : Value} : PySem.W.exmAny K c [] = some false := rfl
theorem any_cons {K : PySem.W.Frag} {c e : Value} {r : List Value} {b1 b2 : Bool} (h1 : PySem.W.exmOne K c e = some b1) (h2 : PySem.W.exmAny K c r = some b2) : PySem.W.exmAny K c (e :: r) = some (b1 || b2) := by
  unfold PySem.W.exmAny
  rw [h1, h2]
theorem kany_nil {K : PySem.W.Frag} {c : Value} : PySem.W.kitAny K c [] = some false := rfl
theorem kany_cons {K : PySem.W.Frag} {c e : Value} {r : List Value} {b1 b2 : Bool} (h1 : PySem.W.kitOne K c e = some b1) (h2 : PySem.W.kitAny K c r = some b2) : PySem.W.kitAny K c (e :: r) = some (b1 || b2) := by
  unfold PySem.W.kitAny
  rw [h1]
  cases b1
  · exact h2
  · rfl
/-! ### statements, in the forms that the printed texts use -/
def tRaise (t : St → Hp → XK → Prop) (W : WX) : TS := fun _ σ H => t σ H fun cls d H' => W cls d σ H'
def tTry (K : PySem.W.Frag) (tb : WX → TS) (Wout : WX) (l : List Clause) (u : TS) : TS := fun D σ H => tb (wCl K Wout D l) { D with nx := u D } σ H
section
variable {X : Cx}
theorem ps_raiseM {W : WX} {e : Expr} {t : St → Hp → XK → Prop} {pos : Pos} (hc : X.calm = true) (tk : Takes X W) (he : PMk X e t) : PS X (.Raise (some e) none pos) (tRaise t W) := ps_raise hc tk he
theorem ps_tryM {body orelse : List Stmt} {h₀ : ExceptHandler} {hds : List ExceptHandler} {l : List Clause} {pos : Pos} {tb : WX → TS} {u : TS} {Wout : WX} (hst : X.stack = X.env :: X.outer) (hf : X.env.frame = some X.env.locals) (hN : X.N.Nodup) (tk : Takes X Wout)
    (hb : ∀ (W : WX) (pn : List (Addr × Obj)) (xe : Value → Shared → Prop), Takes (X.tr pn xe) W → PassesOwn (model X.prog X.w) X.A X.env xe → PSs (X.tr pn xe) body (tb W)) (hh : ClsOk X (h₀ :: hds) l) (ho : PSs X orelse u) : PS X (.Try body (h₀ :: hds) orelse [] pos) (tTry X.K tb Wout l u) :=
  ps_tryC hst hf hN tk hb hh ho
end
/-- a def that may raise -/
theorem fund_okX {P : Program} {w : World} {K : PySem.W.Frag} {mg : Str → Option Value} {base : Heap} {x qual : Str} {params : Arguments} {body : List Stmt} {scope : Scope} {dvs : List V} {f : Addr} {fd : FuncData} {N ps : List Str} {k : Nat} {sp : Sp}
    (F : FunD K x qual params body scope dvs [] f fd) (S : FnScope N ps scope) (len : ∀ vs H Q E, sp vs H Q E → vs.length = ps.length)
    (hbody : ∀ (cdv : Value) (A : Around) (outer : List Env) (s : Shared) (H : Hp) (vs : List V) (Q : VK) (E : XK), Room k (A.deeper (PyProof.Rows.envOfC qual scope s.heap.objs.size f cdv)) →
      Takes (cxOf (L2.CX P w) P w K mg base N qual scope f cdv A outer s H E) (fun cls d _ H' => E cls d H') →
      PassesOwn (model P w) (cxOf (L2.CX P w) P w K mg base N qual scope f cdv A outer s H E).A (cxOf (L2.CX P w) P w K mg base N qual scope f cdv A outer s H E).env (cxOf (L2.CX P w) P w K mg base N qual scope f cdv A outer s H E).xe → sp vs H Q E →
      ∃ t, PSs (cxOf (L2.CX P w) P w K mg base N qual scope f cdv A outer s H E) body t ∧ t { nx := fun _ H' => Q .non H', rt := Q } (start N vs) H) : FnOk P w K mg base (L2.CX P w) (k + 1) f fd ps sp :=
  F.ok S len fun cdv A outer s H vs Q E hr h => hbody cdv A outer s H vs Q E hr (takes_of rfl rfl rfl rfl) (passes_of rfl) h
section
variable {D : Ends} {σ : St} {H : Hp} {Q : VK} {K : PySem.W.Frag} {A : TA} {te ta : TE} {C : Addr} {m f : Str} {sp : Sp} {dvs : List V} {E : St → XK}
theorem i_raise {t : St → Hp → XK → Prop} {W : WX} (h : t σ H fun cls d H' => W cls d σ H') : tRaise t W D σ H := h
theorem i_exc {XQ : XK} (h : A σ H fun vs H1 => ∃ v, vs = [v] ∧ ∀ d, H1 d = none → XQ (.ref C) (some d) (upd H1 d (.xd [(f, v)]))) : tExc C f A σ H XQ := h
theorem i_excV {v : V} {R : V → Prop} (h : R v) : ∃ x, [v] = [x] ∧ R x := ⟨v, rfl, h⟩
theorem i_try {tb : WX → TS} {Wout : WX} {l : List Clause} {u : TS} (h : tb (wCl K Wout D l) { D with nx := u D } σ H) : tTry K tb Wout l u D σ H := h
theorem i_methS (h : te σ H fun x H1 => ∃ a dx fs, x = .ref a ∧ H1 a = some (.ins C dx fs) ∧ fs.lookup m = none ∧ A σ H1 fun vs H2 => sp (x :: (vs ++ dvs)) H2 Q (E σ)) : tMethS C m sp dvs E te A σ H Q := h
theorem i_callS (h : A σ H fun vs H1 => sp (vs ++ dvs) H1 Q (E σ)) : tCallSD sp dvs E A σ H Q := h
theorem i_makeS (h : A σ H fun vs H1 => ∀ x dx, H1 x = none → H1 dx = none → dx ≠ x → sp (.ref x :: (vs ++ dvs)) (upd (upd H1 dx (.own x)) x (.ins C dx [])) (fun v H2 => v = .non ∧ Q (.ref x) H2) (E σ)) : tMakeS C sp dvs E A σ H Q := h
/-- the clause takes it -/
theorem i_clT {Wout : WX} {q : Clause} {r : List Clause} {cls : Value} {d : Option Addr} (hb : PySem.W.exmAny K cls q.cs = some true) (h : ∀ ea, H ea = none → q.go ea cls d D σ H) : wCl K Wout D (q :: r) cls d σ H := ⟨true, hb, fun _ => h, fun z => by cases z⟩
/-- it doesn't -/
theorem i_clF {Wout : WX} {q : Clause} {r : List Clause} {cls : Value} {d : Option Addr} (hb : PySem.W.exmAny K cls q.cs = some false) (h : wCl K Wout D r cls d σ H) : wCl K Wout D (q :: r) cls d σ H := ⟨false, hb, (fun z => by cases z), fun _ => h⟩
theorem i_goN {cs : List Value} {i : Nat} {ts : Addr → Value → Option Addr → TS} {a : Addr} {cls : Value} {d : Option Addr} (h : ts a cls d (unD i D) (σ.set i (some (.ref a))) H) : Clause.go ⟨cs, some i, ts⟩ a cls d D σ H := h
theorem i_go0 {cs : List Value} {ts : Addr → Value → Option Addr → TS} {a : Addr} {cls : Value} {d : Option Addr} (h : ts a cls d D σ H) : Clause.go ⟨cs, none, ts⟩ a cls d D σ H := h
theorem i_xf {a dd : Addr} {fs : List (Str × V)} {v : V} {R : V → Prop} {C' : Addr} (T : XcC K C') (no : PySem.W.findIn K (.ref C') f = some none) (h1 : H dd = some (.xd fs)) (h2 : fs.lookup f = some v) (h : R v) :
    V.ref a = .ref a ∧ ∃ (C e : Addr) (fs : List (Str × V)) (v : V), Value.ref C' = .ref C ∧ XcC K C ∧ PySem.W.findIn K (.ref C) f = some none ∧ some dd = some e ∧ H e = some (.xd fs) ∧ fs.lookup f = some v ∧ R v := ⟨rfl, C', dd, fs, v, rfl, T, no, rfl, h1, h2, h⟩
theorem i_xfA {a : Addr} {d : Option Addr} {cls : Value} (h : te σ H fun x H1 => x = .ref a ∧ ∃ (C dd : Addr) (fs : List (Str × V)) (v : V), cls = .ref C ∧ XcC K C ∧ PySem.W.findIn K (.ref C) f = some none ∧ d = some dd ∧ H1 dd = some (.xd fs) ∧ fs.lookup f = some v ∧ Q v H1) : tXfA K a cls d f te σ H Q := h
theorem i_isX {a D' : Addr} {c : V} {cv cls : Value} {d : Option Addr} {b : Bool} (hc : cls = .ref D') (T : XcC K D') (xd : XdAt H d) (k : ClsV c cv) (e : PySem.W.kitOne K (.ref D') cv = some b) (h : Q (.bl b) H) : rIsX K a cls d [.ref a, c] H Q := ⟨D', c, cv, b, rfl, hc, T, xd, k, e, h⟩
theorem i_isXs {a D' tp : Addr} {cs : List V} {cvs : List Value} {cls : Value} {d : Option Addr} {b : Bool} (ht : H tp = some (.tup cs)) (hc : cls = .ref D') (T : XcC K D') (xd : XdAt H d) (k : Paired ClsV cs cvs) (e : PySem.W.kitAny K (.ref D') cvs = some b) (h : Q (.bl b) H) : rIsXs K a cls d [.ref a, .ref tp] H Q :=
  ⟨D', tp, cs, cvs, b, rfl, ht, hc, T, xd, k, e, h⟩
end
/-- an own error class's __init__, read -/
theorem exc_read {K : PySem.W.Frag} {C : Addr} {f : Str} {vs : List V} {H : Hp} {Q : VK} {E : XK} {N : List Str} {z : Str} (hN : N.length = 2) (T : OexC K C) (no : PySem.W.findIn K (.ref C) f = some none) (h : spExI C f vs H Q E) :
    tSeq (tDrop (tVeI K (tCons (tVar 0) (tCons (tC (.str z)) tNil)))) (tOst K f (tVar 0) (tVar 1)) { nx := fun _ H' => Q .non H', rt := Q } (start N vs) H := by
  obtain ⟨a, v, rfl, ha, k⟩ := h
  refine i_seq (i_drop ?_)
  show tVeI K _ _ _ _
  refine ⟨_, rfl, ?_⟩
  refine i_c (i_nil ⟨a, C, [.str z], rfl, Nat.le_of_ble_eq_true rfl, T, ha, ?_⟩)
  exact ⟨v, rfl, .ref a, rfl, a, C, rfl, T, no, .inl ⟨ha, fun d hd nd => k d hd nd⟩⟩
/-! ### isinstance(x, C), C of the text -/
section
variable {K : PySem.W.Frag} {H : Hp} {Q : VK} {x : V} {C : Addr}
theorem i_isiC (h : isO K x H fun _ c => match c with | none => Q (.bl false) H | some D => ∃ b, PySem.W.kitOne K (.ref D) (.ref C) = some b ∧ Q (.bl b) H) : rIsiC C K [x, .ref C] H Q := ⟨x, rfl, h⟩
theorem i_kit {c d : Value} {b : Bool} {R : Bool → Prop} (h1 : PySem.W.kitOne K c d = some b) (h : R b) : ∃ b, PySem.W.kitOne K c d = some b ∧ R b := ⟨b, h1, h⟩
end
end My
/-! comprehensions over zip -/
namespace My
open PySem L2 RZ
theorem walk_zipT {K : PySem.W.Frag} {a b : Addr} {xs ys : List V} {n : Nat} (hn : n = min xs.length ys.length) : Walk (ItzT K a b) n (fun H => SqT K H a xs ∧ SqT K H b ys) (YPair (fun i => xs[i]?) (fun i => ys[i]?)) := by
  subst hn
  refine ⟨fun i _ hi q => ?_, fun _ q => ⟨xs, ys, q.1, q.2, by omega⟩, fun i H v H' _ q ⟨T, x, z, y1, y2, y3, y4, y5⟩ => ⟨T, x, z, y1, y2, y3, y4 xs q.1, y5 ys q.2⟩⟩
  have l1 : i < xs.length := by omega
  have l2 : i < ys.length := by omega
  exact ⟨xs, ys, xs[i], ys[i], q.1, q.2, List.getElem?_eq_getElem l1, List.getElem?_eq_getElem l2⟩
theorem zw_take {α β γ : Type} (f : α → β → γ) {xs : List α} {ys : List β} {i : Nat} {x : α} {y : β} (hx : xs[i]? = some x) (hy : ys[i]? = some y) : (List.zipWith f xs ys).take (i + 1) = (List.zipWith f xs ys).take i ++ [f x y] := by
  rw [List.take_succ, List.getElem?_zipWith, hx, hy]
  rfl
/-- [.. for x, y in zip(xs, ys)] -/
theorem lc_zip {J : It} {G : Hp → Prop} {g : TG} {tt : TT} {te : TE} {vs : List Nat} {σ : St} {H1 : Hp} {D : Addr} {Qd : Hp → Prop} {n : Nat} (xs ys : List V) (f : V → V → V) (w : Walk J n G (YPair (fun i => xs[i]?) (fun i => ys[i]?))) (hn : n = min xs.length ys.length) (hl : n ≤ 1000)
    (hG : ∀ H, Same H1 H → G H) (hD : H1 D = none)
    (hs : ∀ (i : Nat) x y, xs[i]? = some x → ys[i]? = some y → ∀ H T (Q : VK) (R : Hp → Prop), Same H1 H → H T = some (.tup [x, y]) → (∀ H', Same H H' → Q (f x y) H') → g (.ref T) (wipe σ vs) H fun σ2 H2 => wipe σ2 vs = wipe σ vs ∧ tt σ2 H2 fun b H3 => if b = true then te σ2 H3 Q else R H3)
    (hd : ∀ H, Same H1 H → H D = some (.lst (List.zipWith f xs ys)) → Qd H) :
    ∃ W : Nat → Nat → Hp → Prop, (∃ m, W 0 m (upd H1 D (.lst []))) ∧ ∀ i m H, W i m H →
      (J.stop i H ∧ Qd H) ∨ (J.go i H ∧ ∃ Nx : Hp → Prop, (∀ H', Nx H' → ∃ m', m' < m ∧ W (i + 1) m' H') ∧ ∀ x H', J.yld i H x H' → g x (wipe σ vs) H' fun σ2 H2 => wipe σ2 vs = wipe σ vs ∧ tt σ2 H2 fun b H3 =>
        if b = true then te σ2 H3 fun y H4 => ∃ acc, H4 D = some (.lst acc) ∧ acc.length < sizeLine ∧ Nx (upd H4 D (.lst (acc ++ [y]))) else Nx H3) := by
  refine lc_it w (fun i H => Same H1 H ∧ H D = some (.lst ((List.zipWith f xs ys).take i))) ⟨same_upd (Same.refl H1) hD, upd_same⟩ (fun i H _ h => hG H h.1) ?_ (fun H h => hd H h.1 (h.2.trans ?_))
  · rintro i v H H' hi ⟨s1, e1⟩ ⟨T, x, y, rfl, nT, rfl, hx, hy⟩
    have s2 : Same H (upd H T (.tup [x, y])) := same_upd (Same.refl H) nT
    refine hs i x y hx hy _ T _ _ (s1.trans s2) upd_same fun H4 s4 => ?_
    have e4 := s4 _ _ (s2 _ _ e1)
    refine ⟨_, e4, ?_, fun b o q => ?_, ?_⟩
    · refine small1000 ?_
      rw [List.length_take]
      omega
    · by_cases z : b = D
      · subst z
        rw [hD] at q
        cases q
      · rw [upd_ne z]
        exact s4 _ _ (s2 _ _ (s1 _ _ q))
    · rw [upd_same, zw_take f hx hy]
  · rw [List.take_of_length_le (by rw [List.length_zipWith, hn]; exact Nat.le_refl _)]
theorem lc_zipT {K : PySem.W.Frag} {a b : Addr} {xs ys : List V} {g : TG} {tt : TT} {te : TE} {vs : List Nat} {σ : St} {H1 : Hp} {D : Addr} {Qd : Hp → Prop} (f : V → V → V) (h1 : SqT K H1 a xs) (h2 : SqT K H1 b ys) (hD : H1 D = none) (hl : min xs.length ys.length ≤ 1000)
    (hs : ∀ (i : Nat) x y, xs[i]? = some x → ys[i]? = some y → ∀ H T (Q : VK) (R : Hp → Prop), Same H1 H → H T = some (.tup [x, y]) → (∀ H', Same H H' → Q (f x y) H') → g (.ref T) (wipe σ vs) H fun σ2 H2 => wipe σ2 vs = wipe σ vs ∧ tt σ2 H2 fun b H3 => if b = true then te σ2 H3 Q else R H3)
    (hd : ∀ H, Same H1 H → H D = some (.lst (List.zipWith f xs ys)) → Qd H) :
    ∃ W : Nat → Nat → Hp → Prop, (∃ m, W 0 m (upd H1 D (.lst []))) ∧ ∀ i m H, W i m H →
      ((ItzT K a b).stop i H ∧ Qd H) ∨ ((ItzT K a b).go i H ∧ ∃ Nx : Hp → Prop, (∀ H', Nx H' → ∃ m', m' < m ∧ W (i + 1) m' H') ∧ ∀ x H', (ItzT K a b).yld i H x H' → g x (wipe σ vs) H' fun σ2 H2 => wipe σ2 vs = wipe σ vs ∧ tt σ2 H2 fun b H3 =>
        if b = true then te σ2 H3 fun y H4 => ∃ acc, H4 D = some (.lst acc) ∧ acc.length < sizeLine ∧ Nx (upd H4 D (.lst (acc ++ [y]))) else Nx H3) :=
  lc_zip xs ys f (walk_zipT rfl) rfl hl (fun _ s => ⟨SqT.same s h1, SqT.same s h2⟩) hD hs hd
theorem i_zipT {K : PySem.W.Frag} {σ : St} {H : Hp} {A : TA} {R : It → Hp → Prop} (h : A σ H fun vs H1 => ∃ a b xs ys, vs = [.ref a, .ref b] ∧ ((SqL K H1 a xs ∧ SqL K H1 b ys ∧ R (Itz K a b) H1) ∨ (SqT K H1 a xs ∧ SqT K H1 b ys ∧ R (ItzT K a b) H1))) : iZipA K A σ H R := h
theorem i_zipTT {K : PySem.W.Frag} {H : Hp} {a b : Addr} {xs ys : List V} {R1 R2 : Addr → Addr → Prop} (h1 : SqT K H a xs) (h2 : SqT K H b ys) (h : R2 a b) : ∃ a' b' xs ys, [V.ref a, V.ref b] = [.ref a', .ref b'] ∧ ((SqL K H a' xs ∧ SqL K H b' ys ∧ R1 a' b') ∨ (SqT K H a' xs ∧ SqT K H b' ys ∧ R2 a' b')) :=
  ⟨a, b, xs, ys, rfl, .inr ⟨h1, h2, h⟩⟩
theorem i_zipLL {K : PySem.W.Frag} {H : Hp} {a b : Addr} {xs ys : List V} {R1 R2 : Addr → Addr → Prop} (h1 : SqL K H a xs) (h2 : SqL K H b ys) (h : R1 a b) : ∃ a' b' xs ys, [V.ref a, V.ref b] = [.ref a', .ref b'] ∧ ((SqL K H a' xs ∧ SqL K H b' ys ∧ R1 a' b') ∨ (SqT K H a' xs ∧ SqT K H b' ys ∧ R2 a' b')) :=
  ⟨a, b, xs, ys, rfl, .inl ⟨h1, h2, h⟩⟩
theorem pi_zipK {X : Cx} {e e2 : Expr} {ta : TA} {p pos tpos : Pos} {elts : List Expr} {kk : Nat} {K : PySem.W.Frag} (hg : Gl X "zip") (hm : X.mg "zip" = none) (ha : PA X [e, e2] ta)
    (hs : starEach [e, e2] X.env = (false, eval e X.env) :: starEach [e2] X.env := by rfl) (hpl : (backTo pos (starEach [e2] X.env)).any (·.1) = false := by rfl) (hK : X.K = K := by rfl) :
    PI X (.Tuple elts kk tpos) (.Call (.Name "zip" p) [e, e2] [] pos) (iZipA K ta) := by
  subst hK
  exact pi_zipA hg hm ha hs hpl
def vI : V → Int
  | .int i => i
  | _ => 0
theorem zw_int (f : Int → Int → Int) (ns ms : List Int) : List.zipWith (fun x y => V.int (f (vI x) (vI y))) (ns.map V.int) (ms.map V.int) = (List.zipWith f ns ms).map V.int := by
  induction ns generalizing ms with
  | nil => rfl
  | cons n ns ih => cases ms with
    | nil => rfl
    | cons m ms => exact congrArg _ (ih ms)
theorem zw_bl (f : Int → Int → Bool) (ns ms : List Int) : List.zipWith (fun x y => V.bl (f (vI x) (vI y))) (ns.map V.int) (ms.map V.int) = (List.zipWith f ns ms).map V.bl := by
  induction ns generalizing ms with
  | nil => rfl
  | cons n ns ih => cases ms with
    | nil => rfl
    | cons m ms => exact congrArg _ (ih ms)
theorem map_int_at {ns : List Int} {i : Nat} {x : V} (h : (ns.map V.int)[i]? = some x) : ∃ n, n ∈ ns ∧ x = .int n ∧ ns[i]? = some n := by
  rw [List.getElem?_map, Option.map_eq_some_iff] at h
  obtain ⟨n, h1, rfl⟩ := h
  exact ⟨n, List.mem_of_getElem? h1, rfl, h1⟩
/-- [.. for k in range(n)], each item drawn of the pool at p -/
theorem lc_pool {J : It} {G : Hp → Prop} {g : TG} {tt : TT} {te : TE} {vs : List Nat} {σ : St} {H1 : Hp} {D p : Addr} {m0 : Int} {Qd : Hp → Prop} {n : Nat} {f : Nat → V} (Pr : V → Prop) (w : Walk J n G (YFn f)) (hl : n ≤ 1000) (hG : ∀ H, G H) (hp : H1 p = some (.lst [.int m0])) (hD : H1 D = none)
    (hs : ∀ i, i < n → ∀ H m (Q : VK) (R : Hp → Prop), SameBut p H1 H → H p = some (.lst [.int m]) → (∀ y H' m', SameBut p H H' → H' p = some (.lst [.int m']) → Pr y → Q y H') → g (f i) (wipe σ vs) H fun σ2 H2 => wipe σ2 vs = wipe σ vs ∧ tt σ2 H2 fun b H3 => if b = true then te σ2 H3 Q else R H3)
    (hd : ∀ H m ys, SameBut p H1 H → H p = some (.lst [.int m]) → H D = some (.lst ys) → ys.length = n → (∀ y ∈ ys, Pr y) → Qd H) :
    ∃ W : Nat → Nat → Hp → Prop, (∃ m, W 0 m (upd H1 D (.lst []))) ∧ ∀ i m H, W i m H →
      (J.stop i H ∧ Qd H) ∨ (J.go i H ∧ ∃ Nx : Hp → Prop, (∀ H', Nx H' → ∃ m', m' < m ∧ W (i + 1) m' H') ∧ ∀ x H', J.yld i H x H' → g x (wipe σ vs) H' fun σ2 H2 => wipe σ2 vs = wipe σ vs ∧ tt σ2 H2 fun b H3 =>
        if b = true then te σ2 H3 fun y H4 => ∃ acc, H4 D = some (.lst acc) ∧ acc.length < sizeLine ∧ Nx (upd H4 D (.lst (acc ++ [y]))) else Nx H3) := by
  have np : p ≠ D := ne_of_none hp hD
  have sb : ∀ {H o}, SameBut p H1 H → SameBut p H1 (upd H D o) := fun {H o} s b u nb e => by
    rw [upd_ne (ne_of_none e hD)]
    exact s b u nb e
  refine lc_it w (fun i H => SameBut p H1 H ∧ (∃ m, H p = some (.lst [.int m])) ∧ ∃ ys, H D = some (.lst ys) ∧ ys.length = i ∧ ∀ y ∈ ys, Pr y) ⟨sb (SameBut.refl p H1), ⟨m0, by rw [upd_ne np]; exact hp⟩, [], upd_same, rfl, fun _ h => nomatch h⟩ (fun i H _ _ => hG H) ?_ ?_
  · rintro i v H H' hi ⟨s1, ⟨m, e1⟩, ys, e2, e3, e4⟩ ⟨rfl, rfl⟩
    refine hs i hi H' m _ _ s1 e1 fun y H4 m' s2 e5 hy => ⟨ys, s2 _ _ (Ne.symm np) e2, small1000 (by omega), sb (s1.trans s2), ⟨m', by rw [upd_ne np]; exact e5⟩, ys ++ [y], upd_same, by rw [List.length_append, e3]; rfl, fun z hz => ?_⟩
    rcases List.mem_append.mp hz with h | h
    · exact e4 z h
    · rw [List.mem_singleton.mp h]
      exact hy
  · rintro H ⟨s1, ⟨m, e1⟩, ys, e2, e3, e4⟩
    exact hd H m ys s1 e1 e2 e3 e4
/-! ### xs.append(y) -/
def tApp (K : PySem.W.Frag) (to : TE) (A : TA) : TE := tBM K "list" rAppend to A
theorem pe_appK {X : Cx} {K : PySem.W.Frag} {e : Expr} {to : TE} {t : TA} (h : PE X e (tBM X.K "list" rAppend to t)) (hK : X.K = K := by rfl) : PE X e (tApp K to t) := by
  subst hK
  exact h
section
variable {K : PySem.W.Frag} {σ : St} {H : Hp} {Q : VK} {to : TE} {A : TA} {l : Addr} {xs : List V} {y : V}
theorem i_app (h : to σ H fun x H1 => tyV K "list" x H1 ∧ A σ H1 fun vs H2 => rAppend x vs H2 Q) : tApp K to A σ H Q := h
theorem i_tyL {R : Prop} (h0 : SqL K H l xs) (h : R) : tyV K "list" (.ref l) H ∧ R := ⟨.inl ⟨rfl, xs, h0⟩, h⟩
theorem i_rapp (h1 : H l = some (.lst xs)) (h2 : xs.length < sizeLine) (h : Q .non (upd H l (.lst (xs ++ [y])))) : rAppend (.ref l) [y] H Q := ⟨l, xs, y, rfl, rfl, h1, h2, h⟩
end
/-- [.. for k in range(n)], nothing older changed -/
theorem lc_rng {g : TG} {tt : TT} {te : TE} {vs : List Nat} {σ : St} {H1 : Hp} {D : Addr} {Qd : Hp → Prop} {n : Nat} (f : Nat → V) (hl : n ≤ 1000) (hD : H1 D = none)
    (hs : ∀ i, i < n → ∀ H (Q : VK) (R : Hp → Prop), Same H1 H → (∀ H', Same H H' → Q (f i) H') → g (.int (0 + i)) (wipe σ vs) H fun σ2 H2 => wipe σ2 vs = wipe σ vs ∧ tt σ2 H2 fun b H3 => if b = true then te σ2 H3 Q else R H3)
    (hd : ∀ H, Same H1 H → H D = some (.lst ((List.range n).map f)) → Qd H) :
    ∃ W : Nat → Nat → Hp → Prop, (∃ m, W 0 m (upd H1 D (.lst []))) ∧ ∀ i m H, W i m H →
      ((Itr 0 n).stop i H ∧ Qd H) ∨ ((Itr 0 n).go i H ∧ ∃ Nx : Hp → Prop, (∀ H', Nx H' → ∃ m', m' < m ∧ W (i + 1) m' H') ∧ ∀ x H', (Itr 0 n).yld i H x H' → g x (wipe σ vs) H' fun σ2 H2 => wipe σ2 vs = wipe σ vs ∧ tt σ2 H2 fun b H3 =>
        if b = true then te σ2 H3 fun y H4 => ∃ acc, H4 D = some (.lst acc) ∧ acc.length < sizeLine ∧ Nx (upd H4 D (.lst (acc ++ [y]))) else Nx H3) := by
  refine lc_it walk_range (fun i H => Same H1 H ∧ H D = some (.lst ((List.range i).map f))) ⟨same_upd (Same.refl H1) hD, upd_same⟩ (fun i H _ _ => trivial) ?_ (fun H h => hd H h.1 h.2)
  rintro i v H H' hi ⟨s1, e1⟩ ⟨rfl, rfl⟩
  refine hs i hi H' _ _ s1 fun H4 s4 => ⟨_, s4 _ _ e1, small1000 (by rw [List.length_map, List.length_range]; omega), fun b o q => ?_, ?_⟩
  · rw [upd_ne (ne_of_none q hD)]
    exact s4 _ _ (s1 _ _ q)
  · rw [upd_same, List.range_succ, List.map_append]
    rfl
theorem atI_D {ns : List Int} {i : Nat} (h : i < ns.length) : atI (ns.map V.int) (0 + (i : Int)) = some (.int (ns.getD i 0)) := by
  rw [Int.zero_add]
  refine atI_nat ?_
  rw [List.getElem?_map, List.getD_eq_getElem?_getD, List.getElem?_eq_getElem h]
  rfl
theorem rng_zip {α : Type} (f : Int → Int → α) {ns ms : List Int} (e : ms.length = ns.length) : (List.range ns.length).map (fun i => f (ns.getD i 0) (ms.getD i 0)) = List.zipWith f ns ms := by
  refine List.ext_getElem (by simp [e]) fun i h1 h2 => ?_
  simp only [List.length_map, List.length_range] at h1
  simp [List.getD_eq_getElem?_getD, List.getElem?_eq_getElem h1, List.getElem?_eq_getElem (show i < ms.length by omega)]
theorem i_intB {H : Hp} {Q : VK} {k : Bool} (h : Q (.int (if k then 1 else 0)) H) : rIntU [.bl k] H Q := h
theorem i_intI {H : Hp} {Q : VK} {i : Int} (h : Q (.int i) H) : rIntU [.int i] H Q := h
/-! ### comprehensions whose items are told by a word that holds of later heaps, too -/
theorem Rd.butO {H H' : Hp} {p D : Addr} {o u : HO} (hD : H D = some o) (n1 : o ≠ u) (n2 : ∀ b, o ≠ .frz b u) (s : SameBut D H H') (h : Rd H p u) : Rd H' p u := by
  rcases h with h | ⟨b, h⟩
  · exact .inl (s _ _ (ne_of h hD (Ne.symm n1)) h)
  · exact .inr ⟨b, s _ _ (ne_of h hD (Ne.symm (n2 b))) h⟩
theorem SqT.butL {K : PySem.W.Frag} {H H' : Hp} {p D : Addr} {acc xs : List V} (hD : H D = some (.lst acc)) (s : SameBut D H H') (h : SqT K H p xs) : SqT K H' p xs := by
  rcases h with h | h
  · exact .inl (Rd.butO hD (by intro z; cases z) (by intro b z; cases z) s h)
  · exact .inr h
/-- [.. for x in xs if ..]: each item keeps Pr, whatever is done later at the list itself -/
theorem lc_pr {J : It} {G : Hp → Prop} {g : TG} {tt : TT} {te : TE} {vs : List Nat} {σ : St} {H1 : Hp} {D : Addr} {Qd : Hp → Prop} {n : Nat} (at_ : Nat → V → Prop) (Pr : Hp → V → Prop) (w : Walk J n G fun i H x H' => H' = H ∧ at_ i x) (hl : n < sizeLine)
    (mono : ∀ H H' y, (∀ acc, H D = some (.lst acc) → SameBut D H H' → Pr H y → Pr H' y)) (hG : ∀ H, Same H1 H → G H) (hD : H1 D = none)
    (hs : ∀ i x, i < n → at_ i x → ∀ H (Q : VK) (R : Hp → Prop), Same H1 H → (∃ acc, H D = some (.lst acc)) → (∀ y H', Same H H' → Pr H' y → Q y H') → (∀ H', Same H H' → R H') → g x (wipe σ vs) H fun σ2 H2 => wipe σ2 vs = wipe σ vs ∧ tt σ2 H2 fun b H3 => if b = true then te σ2 H3 Q else R H3)
    (hd : ∀ H ys, Same H1 H → H D = some (.lst ys) → ys.length ≤ n → (∀ y ∈ ys, Pr H y) → Qd H) :
    ∃ W : Nat → Nat → Hp → Prop, (∃ m, W 0 m (upd H1 D (.lst []))) ∧ ∀ i m H, W i m H →
      (J.stop i H ∧ Qd H) ∨ (J.go i H ∧ ∃ Nx : Hp → Prop, (∀ H', Nx H' → ∃ m', m' < m ∧ W (i + 1) m' H') ∧ ∀ x H', J.yld i H x H' → g x (wipe σ vs) H' fun σ2 H2 => wipe σ2 vs = wipe σ vs ∧ tt σ2 H2 fun b H3 =>
        if b = true then te σ2 H3 fun y H4 => ∃ acc, H4 D = some (.lst acc) ∧ acc.length < sizeLine ∧ Nx (upd H4 D (.lst (acc ++ [y]))) else Nx H3) := by
  have sb : ∀ {H o}, Same H1 H → Same H1 (upd H D o) := fun {H o} s b u e => by
    rw [upd_ne (ne_of_none e hD)]
    exact s b u e
  refine lc_it w (fun i H => Same H1 H ∧ ∃ ys, H D = some (.lst ys) ∧ ys.length ≤ i ∧ ∀ y ∈ ys, Pr H y) ⟨sb (Same.refl H1), [], upd_same, Nat.le_refl _, fun _ h => nomatch h⟩ (fun i H _ h => hG H h.1) ?_ ?_
  · rintro i v H H' hi ⟨s1, ys, e2, e3, e4⟩ ⟨rfl, hx⟩
    refine hs i v hi hx H' _ _ s1 ⟨ys, e2⟩ (fun y H4 s4 hy => ?_) (fun H4 s4 => ?_)
    · have e5 := s4 _ _ e2
      have sD : SameBut D H4 (upd H4 D (.lst (ys ++ [y]))) := SameBut.upd _ _ _
      refine ⟨ys, e5, Nat.lt_of_le_of_lt (by omega) hl, sb (s1.trans s4), _, upd_same, by rw [List.length_append]; show ys.length + 1 ≤ i + 1; omega, fun z hz => ?_⟩
      rcases List.mem_append.mp hz with h | h
      · exact mono _ _ _ _ e5 sD (mono _ _ _ _ e2 (SameBut.of s4) (e4 z h))
      · rw [List.mem_singleton.mp h]
        exact mono _ _ _ _ e5 sD hy
    · exact ⟨s1.trans s4, ys, s4 _ _ e2, by omega, fun z hz => mono _ _ _ _ e2 (SameBut.of s4) (e4 z hz)⟩
  · rintro H ⟨s1, ys, e2, e3, e4⟩
    exact hd H ys s1 e2 e3 e4
/-- [.. for x in xs]: of each item the one at its place -/
theorem lc_rel {J : It} {G : Hp → Prop} {g : TG} {tt : TT} {te : TE} {vs : List Nat} {σ : St} {H1 : Hp} {D : Addr} {Qd : Hp → Prop} {n : Nat} (at_ : Nat → V → Prop) (Rl : Nat → Hp → V → Prop) (w : Walk J n G fun i H x H' => H' = H ∧ at_ i x) (hl : n < sizeLine)
    (mono : ∀ i H H' y, (∀ acc, H D = some (.lst acc) → SameBut D H H' → Rl i H y → Rl i H' y)) (hG : ∀ H, Same H1 H → G H) (hD : H1 D = none)
    (hs : ∀ i x, i < n → at_ i x → ∀ H (Q : VK) (R : Hp → Prop), Same H1 H → (∃ acc, H D = some (.lst acc)) → (∀ y H', Same H H' → Rl i H' y → Q y H') → g x (wipe σ vs) H fun σ2 H2 => wipe σ2 vs = wipe σ vs ∧ tt σ2 H2 fun b H3 => if b = true then te σ2 H3 Q else R H3)
    (hd : ∀ H (ys : List V), Same H1 H → H D = some (.lst ys) → ys.length = n → (∀ (i : Nat) (y : V), ys[i]? = some y → Rl i H y) → Qd H) :
    ∃ W : Nat → Nat → Hp → Prop, (∃ m, W 0 m (upd H1 D (.lst []))) ∧ ∀ i m H, W i m H →
      (J.stop i H ∧ Qd H) ∨ (J.go i H ∧ ∃ Nx : Hp → Prop, (∀ H', Nx H' → ∃ m', m' < m ∧ W (i + 1) m' H') ∧ ∀ x H', J.yld i H x H' → g x (wipe σ vs) H' fun σ2 H2 => wipe σ2 vs = wipe σ vs ∧ tt σ2 H2 fun b H3 =>
        if b = true then te σ2 H3 fun y H4 => ∃ acc, H4 D = some (.lst acc) ∧ acc.length < sizeLine ∧ Nx (upd H4 D (.lst (acc ++ [y]))) else Nx H3) := by
  have sb : ∀ {H o}, Same H1 H → Same H1 (upd H D o) := fun {H o} s b u e => by
    rw [upd_ne (ne_of_none e hD)]
    exact s b u e
  refine lc_it w (fun i H => Same H1 H ∧ ∃ ys, H D = some (.lst ys) ∧ ys.length = i ∧ ∀ j y, ys[j]? = some y → Rl j H y) ⟨sb (Same.refl H1), [], upd_same, rfl, fun j y h => by simp at h⟩ (fun i H _ h => hG H h.1) ?_ ?_
  · rintro i v H H' hi ⟨s1, ys, e2, e3, e4⟩ ⟨rfl, hx⟩
    refine hs i v hi hx H' _ _ s1 ⟨ys, e2⟩ (fun y H4 s4 hy => ?_)
    have e5 := s4 _ _ e2
    have sD : SameBut D H4 (upd H4 D (.lst (ys ++ [y]))) := SameBut.upd _ _ _
    refine ⟨ys, e5, Nat.lt_of_le_of_lt (by omega) hl, sb (s1.trans s4), _, upd_same, by rw [List.length_append, e3]; rfl, fun j z hz => ?_⟩
    by_cases c : j < ys.length
    · rw [List.getElem?_append_left c] at hz
      exact mono _ _ _ _ _ e5 sD (mono _ _ _ _ _ e2 (SameBut.of s4) (e4 j z hz))
    · rw [List.getElem?_append_right (by omega)] at hz
      have hj : j - ys.length = 0 := by
        have := (List.getElem?_eq_some_iff.mp hz).1
        simp at this
        omega
      rw [hj] at hz
      obtain rfl := Option.some.inj hz
      have : j = i := by omega
      subst this
      exact mono _ _ _ _ _ e5 sD hy
  · rintro H ⟨s1, ys, e2, e3, e4⟩
    exact hd H ys s1 e2 e3 e4
theorem EqV.selfI {K : PySem.W.Frag} {x : V} {H : Hp} {R : (Kd → Bool) → Option Addr → Prop} {n : Nat} (h : isO K x H R) : EqV K H n x x true := by
  cases x with
  | non => exact .flat rfl
  | bl b => exact .flat (by simp [eqF])
  | int i => exact .flat (by simp [eqF])
  | str z => exact .flat (by simp [eqF])
  | ref p => exact .one
  | _ => exact h.elim
theorem lc_prL {K : PySem.W.Frag} {a : Addr} {xs : List V} {g : TG} {tt : TT} {te : TE} {vs : List Nat} {σ : St} {H1 : Hp} {D : Addr} {Qd : Hp → Prop} (Pr : Hp → V → Prop) (h0 : SqL K H1 a xs) (hD : H1 D = none) (hl : xs.length ≤ 1000)
    (mono : ∀ H H' y, (∀ acc, H D = some (.lst acc) → SameBut D H H' → Pr H y → Pr H' y))
    (hs : ∀ x ∈ xs, ∀ H (Q : VK) (R : Hp → Prop), Same H1 H → (∃ acc, H D = some (.lst acc)) → (∀ y H', Same H H' → Pr H' y → Q y H') → (∀ H', Same H H' → R H') → g x (wipe σ vs) H fun σ2 H2 => wipe σ2 vs = wipe σ vs ∧ tt σ2 H2 fun b H3 => if b = true then te σ2 H3 Q else R H3)
    (hd : ∀ H ys, Same H1 H → H D = some (.lst ys) → ys.length ≤ xs.length → (∀ y ∈ ys, Pr H y) → Qd H) :
    ∃ W : Nat → Nat → Hp → Prop, (∃ m, W 0 m (upd H1 D (.lst []))) ∧ ∀ i m H, W i m H →
      ((Itl K a).stop i H ∧ Qd H) ∨ ((Itl K a).go i H ∧ ∃ Nx : Hp → Prop, (∀ H', Nx H' → ∃ m', m' < m ∧ W (i + 1) m' H') ∧ ∀ x H', (Itl K a).yld i H x H' → g x (wipe σ vs) H' fun σ2 H2 => wipe σ2 vs = wipe σ vs ∧ tt σ2 H2 fun b H3 =>
        if b = true then te σ2 H3 fun y H4 => ∃ acc, H4 D = some (.lst acc) ∧ acc.length < sizeLine ∧ Nx (upd H4 D (.lst (acc ++ [y]))) else Nx H3) :=
  lc_pr (fun i x => xs[i]? = some x) Pr walk_list (small1000 hl) mono (fun _ s => Same.seq s h0) hD (fun _ x _ hx => hs x (List.mem_of_getElem? hx)) hd
theorem lc_relL {K : PySem.W.Frag} {a : Addr} {xs : List V} {g : TG} {tt : TT} {te : TE} {vs : List Nat} {σ : St} {H1 : Hp} {D : Addr} {Qd : Hp → Prop} (Rl : Hp → V → V → Prop) (h0 : SqL K H1 a xs) (hD : H1 D = none) (hl : xs.length ≤ 1000)
    (mono : ∀ x H H' y, (∀ acc, H D = some (.lst acc) → SameBut D H H' → Rl H x y → Rl H' x y))
    (hs : ∀ x ∈ xs, ∀ H (Q : VK) (R : Hp → Prop), Same H1 H → (∃ acc, H D = some (.lst acc)) → (∀ y H', Same H H' → Rl H' x y → Q y H') → g x (wipe σ vs) H fun σ2 H2 => wipe σ2 vs = wipe σ vs ∧ tt σ2 H2 fun b H3 => if b = true then te σ2 H3 Q else R H3)
    (hd : ∀ H (ys : List V), Same H1 H → H D = some (.lst ys) → ys.length = xs.length → (∀ (i : Nat) (x y : V), xs[i]? = some x → ys[i]? = some y → Rl H x y) → Qd H) :
    ∃ W : Nat → Nat → Hp → Prop, (∃ m, W 0 m (upd H1 D (.lst []))) ∧ ∀ i m H, W i m H →
      ((Itl K a).stop i H ∧ Qd H) ∨ ((Itl K a).go i H ∧ ∃ Nx : Hp → Prop, (∀ H', Nx H' → ∃ m', m' < m ∧ W (i + 1) m' H') ∧ ∀ x H', (Itl K a).yld i H x H' → g x (wipe σ vs) H' fun σ2 H2 => wipe σ2 vs = wipe σ vs ∧ tt σ2 H2 fun b H3 =>
        if b = true then te σ2 H3 fun y H4 => ∃ acc, H4 D = some (.lst acc) ∧ acc.length < sizeLine ∧ Nx (upd H4 D (.lst (acc ++ [y]))) else Nx H3) :=
  lc_rel (fun i x => xs[i]? = some x) (fun i H y => ∀ x, xs[i]? = some x → Rl H x y) walk_list (small1000 hl) (fun i H H' y acc e s h x hx => mono x H H' y acc e s (h x hx)) (fun _ s => Same.seq s h0) hD
    (fun i x _ hx H Q R s e k => hs x (List.mem_of_getElem? hx) H Q R s e fun y H' s' r => k y H' s' fun x' hx' => by rw [hx] at hx'; cases hx'; exact r) (fun H ys s e l h => hd H ys s e l fun i x y hx hy => h i y hy x hx)
/-- for k in range(n): nothing older than the loop is changed -/
theorem for_rngS {n : Nat} {g : TG} {tb : TS} {D : Ends} {σ : St} {H : Hp} (S : St → Prop) (h0 : S σ)
    (hs : ∀ (i : Nat) σ H', i < n → S σ → Same H H' → g (.int (0 + i)) σ H' fun σ2 H2 => tb { D with nx := fun σ H' => S σ ∧ Same H H', ct := fun σ H' => S σ ∧ Same H H', bk := D.nx } σ2 H2) (hd : ∀ σ H', S σ → Same H H' → D.nx σ H') :
    ∃ W : Nat → Nat → St → Hp → Prop, (∃ m, W 0 m σ H) ∧ ∀ i m σ H, W i m σ H →
      ((Itr 0 n).stop i H ∧ D.nx σ H) ∨ ((Itr 0 n).go i H ∧ ∃ N : St → Hp → Prop, (∀ σ' H', N σ' H' → ∃ m', m' < m ∧ W (i + 1) m' σ' H') ∧ ∀ x H', (Itr 0 n).yld i H x H' → g x σ H' fun σ2 H2 => tb { D with nx := N, ct := N, bk := D.nx } σ2 H2) :=
  for_range (lo := 0) (fun _ σ H' => S σ ∧ Same H H') ⟨h0, Same.refl _⟩ (fun i σ H' hi h => hs i σ H' hi h.1 h.2) (fun σ H' h => hd σ H' h.1 h.2)
theorem i_rep1 {H : Hp} {Q : VK} {p : Addr} {z m : Int} (h1 : H p = some (.lst [.int z])) (h2 : -1000 ≤ m ∧ m ≤ 1000) (h : ∀ q, H q = none → Q (.ref q) (upd H q (.lst ((List.replicate m.toNat z).map V.int)))) : rMulU (.ref p) (.int m) H Q := by
  refine ⟨p, m, _, rfl, rfl, h1, by omega, by omega, line_le (by simp only [List.length_cons, List.length_nil]; omega), fun q hq => ?_⟩
  have e : (List.replicate m.toNat [V.int z]).flatten = (List.replicate m.toNat z).map V.int := by
    generalize m.toNat = k
    induction k with
    | zero => rfl
    | succ k ih => rw [List.replicate_succ, List.flatten_cons, ih]; rfl
  rw [e]
  exact h q hq
theorem nn_rep {z : Int} {k : Nat} (h : 0 ≤ z) : ∀ n ∈ List.replicate k z, 0 ≤ n := fun n hn => by rw [List.eq_of_mem_replicate hn]; exact h
theorem lc_rel2L {K : PySem.W.Frag} {a : Addr} {xs : List V} {g : TG} {tt : TT} {te : TE} {vs : List Nat} {σ : St} {H1 : Hp} {D : Addr} {Qd : Hp → Prop} (Rl : Nat → Hp → V → Prop) (h0 : SqL K H1 a xs) (hD : H1 D = none) (hl : xs.length ≤ 1000)
    (mono : ∀ i H H' y, (∀ acc, H D = some (.lst acc) → SameBut D H H' → Rl i H y → Rl i H' y))
    (hs : ∀ i x, xs[i]? = some x → ∀ H (Q : VK) (R : Hp → Prop), Same H1 H → (∃ acc, H D = some (.lst acc)) → (∀ y H', Same H H' → Rl i H' y → Q y H') → g x (wipe σ vs) H fun σ2 H2 => wipe σ2 vs = wipe σ vs ∧ tt σ2 H2 fun b H3 => if b = true then te σ2 H3 Q else R H3)
    (hd : ∀ H (ys : List V), Same H1 H → H D = some (.lst ys) → ys.length = xs.length → (∀ (i : Nat) (y : V), ys[i]? = some y → Rl i H y) → Qd H) :
    ∃ W : Nat → Nat → Hp → Prop, (∃ m, W 0 m (upd H1 D (.lst []))) ∧ ∀ i m H, W i m H →
      ((Itl K a).stop i H ∧ Qd H) ∨ ((Itl K a).go i H ∧ ∃ Nx : Hp → Prop, (∀ H', Nx H' → ∃ m', m' < m ∧ W (i + 1) m' H') ∧ ∀ x H', (Itl K a).yld i H x H' → g x (wipe σ vs) H' fun σ2 H2 => wipe σ2 vs = wipe σ vs ∧ tt σ2 H2 fun b H3 =>
        if b = true then te σ2 H3 fun y H4 => ∃ acc, H4 D = some (.lst acc) ∧ acc.length < sizeLine ∧ Nx (upd H4 D (.lst (acc ++ [y]))) else Nx H3) :=
  lc_rel (fun i x => xs[i]? = some x) Rl walk_list (small1000 hl) mono (fun _ s => Same.seq s h0) hD (fun i x _ hx => hs i x hx) hd
theorem lc_rel2T {K : PySem.W.Frag} {a : Addr} {xs : List V} {g : TG} {tt : TT} {te : TE} {vs : List Nat} {σ : St} {H1 : Hp} {D : Addr} {Qd : Hp → Prop} (Rl : Nat → Hp → V → Prop) (h0 : SqT K H1 a xs) (hD : H1 D = none) (hl : xs.length ≤ 1000)
    (mono : ∀ i H H' y, (∀ acc, H D = some (.lst acc) → SameBut D H H' → Rl i H y → Rl i H' y))
    (hs : ∀ i x, xs[i]? = some x → ∀ H (Q : VK) (R : Hp → Prop), Same H1 H → (∃ acc, H D = some (.lst acc)) → (∀ y H', Same H H' → Rl i H' y → Q y H') → g x (wipe σ vs) H fun σ2 H2 => wipe σ2 vs = wipe σ vs ∧ tt σ2 H2 fun b H3 => if b = true then te σ2 H3 Q else R H3)
    (hd : ∀ H (ys : List V), Same H1 H → H D = some (.lst ys) → ys.length = xs.length → (∀ (i : Nat) (y : V), ys[i]? = some y → Rl i H y) → Qd H) :
    ∃ W : Nat → Nat → Hp → Prop, (∃ m, W 0 m (upd H1 D (.lst []))) ∧ ∀ i m H, W i m H →
      ((Itt K a).stop i H ∧ Qd H) ∨ ((Itt K a).go i H ∧ ∃ Nx : Hp → Prop, (∀ H', Nx H' → ∃ m', m' < m ∧ W (i + 1) m' H') ∧ ∀ x H', (Itt K a).yld i H x H' → g x (wipe σ vs) H' fun σ2 H2 => wipe σ2 vs = wipe σ vs ∧ tt σ2 H2 fun b H3 =>
        if b = true then te σ2 H3 fun y H4 => ∃ acc, H4 D = some (.lst acc) ∧ acc.length < sizeLine ∧ Nx (upd H4 D (.lst (acc ++ [y]))) else Nx H3) :=
  lc_rel (fun i x => xs[i]? = some x) Rl walk_tup (small1000 hl) mono (fun _ s => SqT.same s h0) hD (fun i x _ hx => hs i x hx) hd
def flatV : V → Bool
  | .non => true
  | .bl _ => true
  | .int _ => true
  | .str _ => true
  | _ => false
theorem EqV.selfB {K : PySem.W.Frag} {x : V} {H : Hp} {n : Nat} (h : flatV x = true) : EqV K H n x x true := by
  cases x <;> first | (cases h; done) | exact .flat (by simp [eqF])
def plainO : HO → Bool
  | .lst _ => true
  | .tup _ => true
  | .dK _ => true
  | .dT _ => true
  | _ => false
theorem EqVs.selfs {K : PySem.W.Frag} {H : Hp} {n : Nat} : ∀ {xs : List V}, (∀ x ∈ xs, EqV K H n x x true) → EqVs K H n xs xs true
  | [], _ => .nil
  | x :: xs, h => .cons (b := true) (c := true) (h x List.mem_cons_self) (EqVs.selfs fun y hy => h y (List.mem_cons_of_mem _ hy))
theorem isO_mono {K : PySem.W.Frag} {x : V} {H : Hp} {R R' : (Kd → Bool) → Option Addr → Prop} (h : isO K x H R) (m : ∀ f c, R f c → R' f c) : isO K x H R' := by
  cases x with
  | ref a =>
    obtain ⟨o, ho, h⟩ := h
    refine ⟨o, ho, ?_⟩
    cases o <;> first | exact m _ _ h | exact h.elim | exact ⟨h.1, h.2.1, m _ _ h.2.2⟩
  | _ => first | exact m _ _ h | exact h.elim
/-- no instance of a class of the text -/
def NoC (K : PySem.W.Frag) (H : Hp) (x : V) : Prop := isO K x H fun _ c => c = none
def NoSeq (K : PySem.W.Frag) (H : Hp) (x : V) : Prop := isO K x H fun f _ => f .lst = false ∧ f .tup = false
theorem isO_same {K : PySem.W.Frag} {x : V} {H H' : Hp} {R : (Kd → Bool) → Option Addr → Prop} (s : Same H H') (h : isO K x H R) : isO K x H' R := by
  cases x with
  | ref a =>
    obtain ⟨o, ho, h⟩ := h
    exact ⟨o, ho.same s, h⟩
  | _ => exact h
theorem NoC.same {K : PySem.W.Frag} {H H' : Hp} {x : V} (s : Same H H') (h : NoC K H x) : NoC K H' x := isO_same s h
theorem NoC.ofG {K : PySem.W.Frag} {H : Hp} {p : Addr} {o : HO} (h : H p = some o) (e : plainO o = true) : NoC K H (.ref p) := by
  refine ⟨o, .of h, ?_⟩
  cases o <;> first | (cases e; done) | rfl
theorem NoC.non {K : PySem.W.Frag} {H : Hp} : NoC K H .non := rfl
theorem NoC.bl {K : PySem.W.Frag} {H : Hp} {b : Bool} : NoC K H (.bl b) := rfl
theorem NoC.int {K : PySem.W.Frag} {H : Hp} {b : Int} : NoC K H (.int b) := rfl
theorem NoC.str {K : PySem.W.Frag} {H : Hp} {b : Str} : NoC K H (.str b) := rfl
theorem EqV.noc {K : PySem.W.Frag} {x : V} {H : Hp} {n : Nat} (h : NoC K H x) : EqV K H n x x true := EqV.selfI h
/-! what is new later is new now -/
theorem none_upd {H : Hp} {p D : Addr} {o : HO} (h : upd H p o D = none) : H D = none := by
  by_cases e : D = p
  · subst e
    rw [upd_same] at h
    cases h
  · rw [upd_ne e] at h
    exact h
theorem none_same {H H' : Hp} {D : Addr} (s : Same H H') (h : H' D = none) : H D = none := by
  cases e : H D with
  | none => rfl
  | some o =>
    have := s _ _ e
    rw [h] at this
    cases this
theorem none_but {H H' : Hp} {p D : Addr} {o : HO} (s : SameBut p H H') (hp : H' p = some o) (h : H' D = none) : H D = none := by
  cases e : H D with
  | none => rfl
  | some o =>
    by_cases c : D = p
    · subst c
      rw [h] at hp
      cases hp
    · have := s _ _ c e
      rw [h] at this
      cases this
section
open PySem.Spec
open PyProof.Rows hiding St
/-! ### xs[::-1] -/
def tRev (K : PySem.W.Frag) (te : TE) (th : TO) : TE := fun σ H Q => te σ H fun x H1 => th σ H1 fun o H2 => o = some (-1) ∧ ∃ a xs, x = .ref a ∧ SqL K H2 a xs ∧ ∀ p, H2 p = none → Q (.ref p) (upd H2 p (.lst xs.reverse))
theorem pe_rev {X : Cx} {e : Expr} {st : Option Expr} {te : TE} {th : TO} {pos p2 : Pos} {K : PySem.W.Frag} (he : PE X e te) (hu : PO X st th) (hs : ∀ a sl : Addr, subscripted (.Slice none none st p2) false (.ref a) (.ref sl) = operate [.ref a, .ref sl] (getItem (.ref a) (.ref sl)) := by intro _ _; rfl) (hK : X.K = K := by rfl) : PE X (.Subscript e (.Slice none none st p2) pos) (tRev K te th) := by
  subst hK
  refine ⟨fun pins s σ H Q I h => ?_⟩
  refine Subscript_ (thn (he.run pins s σ H _ I h) fun v s1 ⟨x, H1, I1, r1, q1⟩ => ?_)
  refine wpAny_Slice ?_
  rw [evalPart_none]
  refine wpAny_pure ?_
  refine wpAny_pure ?_
  refine thn (hu.run pins s1 σ H1 _ I1 q1) fun vu s3 ⟨u, H3, I3, pu, eu, a, xs, ex, hx, q⟩ => ?_
  subst eu
  subst ex
  cases r1
  have I4 : Inv X pins σ H3 { s3 with heap := s3.heap.push { cls := .type "slice", data := .fields #[.none, .none, vu] } } := I3.kept (t' := s3.toks) fun b ob q => Heap.get?_push_of_some _ q
  obtain ⟨its, r, ht, hz⟩ := I4.list hx
  have hlen := r.length
  refine tail_any (ops := [.ref a, .ref s3.heap.objs.size]) ht.isList.typeIs slot_list_getitem.lookup ?_ (hs _ _)
  refine wpAny_getItem_list_slice ht.isList (Heap.IsSliceOf.new ..) .none .none pu (by decide) ?_ (by rw [List.size_toArray] <;> omega)
  rw [PySem.W.krv_pick]
  refine ⟨.ref _, _, I4.laid (t' := s3.toks) (o := .lst xs.reverse) (fun b ob q => Heap.get?_push_of_some _ q) (Nat.le_refl _) ?_, rfl, q _ (I4.hok.fresh (Nat.le_refl _))⟩
  exact ⟨by rw [List.length_reverse]; exact hz, _, 0, r.reverse, Heap.get?_push_size _ rfl⟩
end
theorem i_rev {K : PySem.W.Frag} {te : TE} {th : TO} {σ : St} {H : Hp} {Q : VK} (h : te σ H fun x H1 => th σ H1 fun o H2 => o = some (-1) ∧ ∃ a xs, x = .ref a ∧ SqL K H2 a xs ∧ ∀ p, H2 p = none → Q (.ref p) (upd H2 p (.lst xs.reverse))) : tRev K te th σ H Q := h
theorem i_revL {K : PySem.W.Frag} {H : Hp} {a : Addr} {xs : List V} {n : Int} {R : Addr → List V → Prop} (e : n = -1) (h1 : SqL K H a xs) (h : R a xs) : some n = some (-1) ∧ ∃ b xs, V.ref a = .ref b ∧ SqL K H b xs ∧ R b xs := ⟨by rw [e], a, xs, rfl, h1, h⟩
theorem NoSeq.same {K : PySem.W.Frag} {H H' : Hp} {x : V} (s : Same H H') (h : NoSeq K H x) : NoSeq K H' x := isO_same s h
theorem NoSeq.flat {K : PySem.W.Frag} {H : Hp} {x : V} (h : flatV x = true) : NoSeq K H x := by
  cases x <;> first | (cases h; done) | exact ⟨rfl, rfl⟩
theorem NoSeq.dict {K : PySem.W.Frag} {H : Hp} {p : Addr} {kvs : List (Key × V)} (h : H p = some (.dK kvs)) : NoSeq K H (.ref p) := ⟨_, .of h, rfl, rfl⟩
theorem NoSeq.inst {K : PySem.W.Frag} {H : Hp} {p C dx : Addr} {fs : List (Str × V)} (h : H p = some (.ins C dx fs)) (c : Cls K C) (i : IsC K C) : NoSeq K H (.ref p) := ⟨_, .of h, c, i, rfl, rfl⟩
theorem NoC.flat {K : PySem.W.Frag} {H : Hp} {x : V} (h : flatV x = true) : NoC K H x := by
  cases x <;> first | (cases h; done) | rfl
theorem NoC.sqL {K : PySem.W.Frag} {H : Hp} {p : Addr} {xs : List V} (h : SqL K H p xs) : NoC K H (.ref p) := ⟨.lst xs, h, rfl⟩
theorem NoC.sqT {K : PySem.W.Frag} {H : Hp} {p : Addr} {xs : List V} (h : SqT K H p xs) : NoC K H (.ref p) := ⟨.tup xs, h, rfl⟩
theorem i_isiBsN {K : PySem.W.Frag} {H : Hp} {Q : VK} {x : V} {p : Addr} (h0 : H p = some (.tup ([Kd.lst, Kd.tup].map fun d => .ty d.name))) (hn : NoSeq K H x) (h : Q (.bl false) H) : rIsiBs [.lst, .tup] K [x, .ref p] H Q := by
  refine ⟨x, p, rfl, h0, isO_mono hn fun f c e => ?_⟩
  have ea : [Kd.lst, Kd.tup].any f = false := by simp [e.1, e.2]
  rw [ea]
  exact h
theorem i_isiLN {K : PySem.W.Frag} {H : Hp} {Q : VK} {x : V} (hn : NoSeq K H x) (h : Q (.bl false) H) : rIsiB .lst K [x, .ty "list"] H Q := ⟨x, rfl, isO_mono hn fun f c e => by rw [e.1]; exact h⟩
theorem i_isiTN {K : PySem.W.Frag} {H : Hp} {Q : VK} {x : V} (hn : NoSeq K H x) (h : Q (.bl false) H) : rIsiB .tup K [x, .ty "tuple"] H Q := ⟨x, rfl, isO_mono hn fun f c e => by rw [e.2]; exact h⟩
theorem i_isiCN {K : PySem.W.Frag} {H : Hp} {Q : VK} {x : V} {C : Addr} (hn : NoC K H x) (h : Q (.bl false) H) : rIsiC C K [x, .ref C] H Q := ⟨x, rfl, isO_mono hn fun f c e => by subst e; exact h⟩
/-- for x in a tuple: nothing older than the loop is changed -/
theorem for_seqI {K : PySem.W.Frag} {a : Addr} {xs : List V} {g : TG} {tb : TS} {D : Ends} {σ : St} {H : Hp} (Pv : Nat → St → Hp → Prop) (hT : SqT K H a xs) (h0 : Pv 0 σ H)
    (hs : ∀ (i : Nat) x σ H', xs[i]? = some x → Same H H' → Pv i σ H' → g x σ H' fun σ2 H2 => tb { D with nx := fun σ H' => Same H H' ∧ Pv (i + 1) σ H', ct := fun σ H' => Same H H' ∧ Pv (i + 1) σ H', bk := D.nx } σ2 H2) (hd : ∀ σ H', Same H H' → Pv xs.length σ H' → D.nx σ H') :
    ∃ W : Nat → Nat → St → Hp → Prop, (∃ m, W 0 m σ H) ∧ ∀ i m σ H, W i m σ H →
      ((Itt K a).stop i H ∧ D.nx σ H) ∨ ((Itt K a).go i H ∧ ∃ N : St → Hp → Prop, (∀ σ' H', N σ' H' → ∃ m', m' < m ∧ W (i + 1) m' σ' H') ∧ ∀ x H', (Itt K a).yld i H x H' → g x σ H' fun σ2 H2 => tb { D with nx := N, ct := N, bk := D.nx } σ2 H2) :=
  for_tup (xs := xs) (fun i σ H' => Same H H' ∧ Pv i σ H') ⟨Same.refl _, h0⟩ (fun _ _ _ _ h => SqT.same h.1 hT) (fun i y σ H' hi h => hs i y σ H' hi h.1 h.2) (fun σ H' h => hd σ H' h.1 h.2)
theorem for_seqL {K : PySem.W.Frag} {a : Addr} {xs : List V} {g : TG} {tb : TS} {D : Ends} {σ : St} {H : Hp} (Pv : Nat → St → Hp → Prop) (hT : SqL K H a xs) (h0 : Pv 0 σ H)
    (hs : ∀ (i : Nat) x σ H', xs[i]? = some x → Same H H' → Pv i σ H' → g x σ H' fun σ2 H2 => tb { D with nx := fun σ H' => Same H H' ∧ Pv (i + 1) σ H', ct := fun σ H' => Same H H' ∧ Pv (i + 1) σ H', bk := D.nx } σ2 H2) (hd : ∀ σ H', Same H H' → Pv xs.length σ H' → D.nx σ H') :
    ∃ W : Nat → Nat → St → Hp → Prop, (∃ m, W 0 m σ H) ∧ ∀ i m σ H, W i m σ H →
      ((Itl K a).stop i H ∧ D.nx σ H) ∨ ((Itl K a).go i H ∧ ∃ N : St → Hp → Prop, (∀ σ' H', N σ' H' → ∃ m', m' < m ∧ W (i + 1) m' σ' H') ∧ ∀ x H', (Itl K a).yld i H x H' → g x σ H' fun σ2 H2 => tb { D with nx := N, ct := N, bk := D.nx } σ2 H2) :=
  for_list (xs := xs) (fun i σ H' => Same H H' ∧ Pv i σ H') ⟨Same.refl _, h0⟩ (fun _ _ _ _ h => Same.seq h.1 hT) (fun i y σ H' hi h => hs i y σ H' hi h.1 h.2) (fun σ H' h => hd σ H' h.1 h.2)
theorem i_nn {R : Prop} (h : R) : V.non = V.non ∧ R := ⟨rfl, h⟩
/-- a tuple of these ints -/
def TpAt (K : PySem.W.Frag) (H : Hp) (y : V) (ns : List Int) : Prop := ∃ t, y = .ref t ∧ SqT K H t (ns.map V.int)
theorem EqVs.ints {K : PySem.W.Frag} {H : Hp} {n : Nat} (ns : List Int) : EqVs K H n (ns.map V.int) (ns.map V.int) true := EqVs.selfs fun x hx => by
  obtain ⟨i, _, rfl⟩ := List.mem_map.mp hx
  exact .selfB rfl
theorem EqV.tp {K : PySem.W.Frag} {H : Hp} {n : Nat} {x y : V} {ns : List Int} (h1 : TpAt K H x ns) (h2 : TpAt K H y ns) : EqV K H (n + 1) x y true := by
  obtain ⟨t, rfl, h1⟩ := h1
  obtain ⟨u, rfl, h2⟩ := h2
  by_cases e : t = u
  · subst e
    exact .one
  · exact .tups e h1 h2 (.ints ns)
theorem EqVs.of_at {K : PySem.W.Frag} {H : Hp} {n : Nat} : ∀ {xs ys : List V}, xs.length = ys.length → (∀ (i : Nat) x y, xs[i]? = some x → ys[i]? = some y → EqV K H n x y true) → EqVs K H n xs ys true
  | [], [], _, _ => .nil
  | [], _ :: _, l, _ => by cases l
  | _ :: _, [], l, _ => by cases l
  | x :: xs, y :: ys, l, h => .cons (b := true) (c := true) (h 0 x y rfl rfl) (EqVs.of_at (Nat.succ.inj l) fun i u v h1 h2 => h (i + 1) u v h1 h2)
theorem line_lt {n : Nat} (h : n ≤ 16000000) : n < sizeLine := Nat.lt_of_le_of_lt h (by decide)
theorem EqV.selfA {K : PySem.W.Frag} {x : V} {H : Hp} {n : Nat} (h : Kn K H x) : EqV K H n x x true := by
  cases x <;> first | exact h.elim | exact .selfB rfl | exact .one
theorem lc_noneT {K : PySem.W.Frag} {a : Addr} {xs : List V} {g : TG} {tt : TT} {te : TE} {vs : List Nat} {σ : St} {H1 : Hp} {D : Addr} {Qd : Hp → Prop} (h0 : SqT K H1 a xs) (hl : xs.length ≤ 1000) (hD : H1 D = none)
    (hs : ∀ x ∈ xs, ∀ H (Q : VK) (R : Hp → Prop), Same H1 H → (∀ H', Same H H' → R H') → g x (wipe σ vs) H fun σ2 H2 => wipe σ2 vs = wipe σ vs ∧ tt σ2 H2 fun b H3 => if b = true then te σ2 H3 Q else R H3)
    (hd : ∀ H, Same H1 H → H D = some (.lst []) → Qd H) :
    ∃ W : Nat → Nat → Hp → Prop, (∃ m, W 0 m (upd H1 D (.lst []))) ∧ ∀ i m H, W i m H →
      ((Itt K a).stop i H ∧ Qd H) ∨ ((Itt K a).go i H ∧ ∃ Nx : Hp → Prop, (∀ H', Nx H' → ∃ m', m' < m ∧ W (i + 1) m' H') ∧ ∀ x H', (Itt K a).yld i H x H' → g x (wipe σ vs) H' fun σ2 H2 => wipe σ2 vs = wipe σ vs ∧ tt σ2 H2 fun b H3 =>
        if b = true then te σ2 H3 fun y H4 => ∃ acc, H4 D = some (.lst acc) ∧ acc.length < sizeLine ∧ Nx (upd H4 D (.lst (acc ++ [y]))) else Nx H3) :=
  lc_fm xs (fun _ => none) walk_tup (small1000 hl) (fun _ s => SqT.same s h0) hD hs (fun H s e => hd H s (by rw [e]; simp))
theorem for_predH {K : PySem.W.Frag} {a : Addr} {xs : List V} {g : TG} {tb : TS} {D : Ends} {σ : St} {H : Hp} (S : St → Hp → Prop) (Pr : Hp → V → Prop) (hL : SqL K H a xs) (hp : ∀ y ∈ xs, Pr H y) (h0 : S σ H)
    (hs : ∀ y σ H', Pr H y → S σ H' → Same H H' → g y σ H' fun σ2 H2 => tb { D with nx := fun σ H' => S σ H' ∧ Same H H', ct := fun σ H' => S σ H' ∧ Same H H', bk := D.nx } σ2 H2) (hd : ∀ σ H', S σ H' → Same H H' → D.nx σ H') :
    ∃ W : Nat → Nat → St → Hp → Prop, (∃ m, W 0 m σ H) ∧ ∀ i m σ H, W i m σ H →
      ((Itl K a).stop i H ∧ D.nx σ H) ∨ ((Itl K a).go i H ∧ ∃ N : St → Hp → Prop, (∀ σ' H', N σ' H' → ∃ m', m' < m ∧ W (i + 1) m' σ' H') ∧ ∀ x H', (Itl K a).yld i H x H' → g x σ H' fun σ2 H2 => tb { D with nx := N, ct := N, bk := D.nx } σ2 H2) :=
  for_list (xs := xs) (fun _ σ H' => S σ H' ∧ Same H H') ⟨h0, Same.refl _⟩ (fun _ _ _ _ h => Same.seq h.2 hL) (fun _ y σ H' hi h => hs y σ H' (hp y (List.mem_of_getElem? hi)) h.1 h.2) (fun σ H' h => hd σ H' h.1 h.2)
theorem EqV.nos {K : PySem.W.Frag} {x : V} {H : Hp} {n : Nat} (h : NoSeq K H x) : EqV K H n x x true := EqV.selfI h
theorem for_butL {K : PySem.W.Frag} {a p : Addr} {xs : List V} {g : TG} {tb : TS} {D : Ends} {σ : St} {H : Hp} (Pv : Nat → St → Hp → Prop) (hT : ∀ H', SameBut p H H' → SqL K H' a xs) (h0 : Pv 0 σ H)
    (hs : ∀ (i : Nat) x σ H', xs[i]? = some x → SameBut p H H' → Pv i σ H' → g x σ H' fun σ2 H2 => tb { D with nx := fun σ H' => SameBut p H H' ∧ Pv (i + 1) σ H', ct := fun σ H' => SameBut p H H' ∧ Pv (i + 1) σ H', bk := D.nx } σ2 H2) (hd : ∀ σ H', SameBut p H H' → Pv xs.length σ H' → D.nx σ H') :
    ∃ W : Nat → Nat → St → Hp → Prop, (∃ m, W 0 m σ H) ∧ ∀ i m σ H, W i m σ H →
      ((Itl K a).stop i H ∧ D.nx σ H) ∨ ((Itl K a).go i H ∧ ∃ N : St → Hp → Prop, (∀ σ' H', N σ' H' → ∃ m', m' < m ∧ W (i + 1) m' σ' H') ∧ ∀ x H', (Itl K a).yld i H x H' → g x σ H' fun σ2 H2 => tb { D with nx := N, ct := N, bk := D.nx } σ2 H2) :=
  for_list (xs := xs) (fun i σ H' => SameBut p H H' ∧ Pv i σ H') ⟨SameBut.refl _ _, h0⟩ (fun _ _ _ _ h => hT _ h.1) (fun i y σ H' hi h => hs i y σ H' hi h.1 h.2) (fun σ H' h => hd σ H' h.1 h.2)
theorem for_butT {K : PySem.W.Frag} {a p : Addr} {xs : List V} {g : TG} {tb : TS} {D : Ends} {σ : St} {H : Hp} (Pv : Nat → St → Hp → Prop) (hT : ∀ H', SameBut p H H' → SqT K H' a xs) (h0 : Pv 0 σ H)
    (hs : ∀ (i : Nat) x σ H', xs[i]? = some x → SameBut p H H' → Pv i σ H' → g x σ H' fun σ2 H2 => tb { D with nx := fun σ H' => SameBut p H H' ∧ Pv (i + 1) σ H', ct := fun σ H' => SameBut p H H' ∧ Pv (i + 1) σ H', bk := D.nx } σ2 H2) (hd : ∀ σ H', SameBut p H H' → Pv xs.length σ H' → D.nx σ H') :
    ∃ W : Nat → Nat → St → Hp → Prop, (∃ m, W 0 m σ H) ∧ ∀ i m σ H, W i m σ H →
      ((Itt K a).stop i H ∧ D.nx σ H) ∨ ((Itt K a).go i H ∧ ∃ N : St → Hp → Prop, (∀ σ' H', N σ' H' → ∃ m', m' < m ∧ W (i + 1) m' σ' H') ∧ ∀ x H', (Itt K a).yld i H x H' → g x σ H' fun σ2 H2 => tb { D with nx := N, ct := N, bk := D.nx } σ2 H2) :=
  for_tup (xs := xs) (fun i σ H' => SameBut p H H' ∧ Pv i σ H') ⟨SameBut.refl _ _, h0⟩ (fun _ _ _ _ h => hT _ h.1) (fun i y σ H' hi h => hs i y σ H' hi h.1 h.2) (fun σ H' h => hd σ H' h.1 h.2)
/-- no tuple -/
def NoTup (K : PySem.W.Frag) (H : Hp) (x : V) : Prop := isO K x H fun f _ => f .tup = false
theorem NoTup.same {K : PySem.W.Frag} {H H' : Hp} {x : V} (s : Same H H') (h : NoTup K H x) : NoTup K H' x := isO_same s h
theorem NoTup.seq {K : PySem.W.Frag} {H : Hp} {x : V} (h : NoSeq K H x) : NoTup K H x := isO_mono h fun _ _ e => e.2
theorem NoTup.lst {K : PySem.W.Frag} {H : Hp} {p : Addr} {xs : List V} (h : SqL K H p xs) : NoTup K H (.ref p) := ⟨.lst xs, h, rfl⟩
theorem i_isiTN2 {K : PySem.W.Frag} {H : Hp} {Q : VK} {x : V} (hn : NoTup K H x) (h : Q (.bl false) H) : rIsiB .tup K [x, .ty "tuple"] H Q := ⟨x, rfl, isO_mono hn fun f c e => by rw [e]; exact h⟩
/-- two lists, place by place -/
def All2 {α β : Type} (R : α → β → Prop) (xs : List α) (ys : List β) : Prop := xs.length = ys.length ∧ ∀ (i : Nat) x y, xs[i]? = some x → ys[i]? = some y → R x y
theorem All2.mono {α β : Type} {R R' : α → β → Prop} {xs : List α} {ys : List β} (h : All2 R xs ys) (m : ∀ x y, R x y → R' x y) : All2 R' xs ys := ⟨h.1, fun i x y h1 h2 => m x y (h.2 i x y h1 h2)⟩
theorem All2.get {α β : Type} {R : α → β → Prop} {xs : List α} {ys : List β} (h : All2 R xs ys) {i : Nat} {x : α} (e : xs[i]? = some x) : ∃ y, ys[i]? = some y ∧ R x y := by
  have hi := (List.getElem?_eq_some_iff.mp e).1
  have hj : i < ys.length := h.1 ▸ hi
  exact ⟨ys[i], List.getElem?_eq_getElem hj, h.2 i x _ e (List.getElem?_eq_getElem hj)⟩
theorem All2.swap {α β : Type} {R : α → β → Prop} {xs : List α} {ys : List β} (h : All2 R xs ys) : All2 (fun y x => R x y) ys xs := ⟨h.1.symm, fun i y x h1 h2 => h.2 i x y h2 h1⟩
theorem All2.nil {α β : Type} {R : α → β → Prop} : All2 R [] [] := ⟨rfl, fun i x y h => by simp at h⟩
theorem All2.cons {α β : Type} {R : α → β → Prop} {x : α} {y : β} {xs : List α} {ys : List β} (h : R x y) (t : All2 R xs ys) : All2 R (x :: xs) (y :: ys) := by
  refine ⟨by rw [List.length_cons, List.length_cons, t.1], fun i u v h1 h2 => ?_⟩
  cases i with
  | zero => cases h1; cases h2; exact h
  | succ i => exact t.2 i u v h1 h2
theorem All2.append {α β : Type} {R : α → β → Prop} {xs xs' : List α} {ys ys' : List β} (h : All2 R xs ys) (t : All2 R xs' ys') : All2 R (xs ++ xs') (ys ++ ys') := by
  refine ⟨by rw [List.length_append, List.length_append, h.1, t.1], fun i u v h1 h2 => ?_⟩
  by_cases c : i < xs.length
  · rw [List.getElem?_append_left c] at h1
    rw [List.getElem?_append_left (h.1 ▸ c)] at h2
    exact h.2 i u v h1 h2
  · rw [List.getElem?_append_right (by omega)] at h1
    rw [List.getElem?_append_right (by have := h.1; omega), ← h.1] at h2
    exact t.2 _ u v h1 h2
theorem All2.take {α β : Type} {R : α → β → Prop} {xs : List α} {ys : List β} (h : All2 R xs ys) (n : Nat) : All2 R (xs.take n) (ys.take n) := by
  refine ⟨by rw [List.length_take, List.length_take, h.1], fun i u v h1 h2 => ?_⟩
  rw [List.getElem?_take] at h1 h2
  split at h1
  · rename_i c
    rw [if_pos c] at h2
    exact h.2 i u v h1 h2
  · cases h1
theorem All2.drop {α β : Type} {R : α → β → Prop} {xs : List α} {ys : List β} (h : All2 R xs ys) (n : Nat) : All2 R (xs.drop n) (ys.drop n) := by
  refine ⟨by rw [List.length_drop, List.length_drop, h.1], fun i u v h1 h2 => ?_⟩
  rw [List.getElem?_drop] at h1 h2
  exact h.2 _ u v h1 h2
theorem All2.rev {α β : Type} {R : α → β → Prop} {xs : List α} {ys : List β} (h : All2 R xs ys) : All2 R xs.reverse ys.reverse := by
  refine ⟨by rw [List.length_reverse, List.length_reverse, h.1], fun i u v h1 h2 => ?_⟩
  have hi := (List.getElem?_eq_some_iff.mp h1).1
  rw [List.length_reverse] at hi
  have e := h.1
  rw [List.getElem?_reverse hi] at h1
  rw [List.getElem?_reverse (by omega), ← e] at h2
  exact h.2 _ u v h1 h2
end My
/-! own classes under the language's own words: len(x), str(x), repr(x), f"{x}", x == y, x != y. -/
namespace My
open PySem L2
section
variable {X : Cx} {CX : CXT} {n : Nat} {f C : Addr} {fd : FuncData} {ps : List Str} {sp : Sp} {E : XK}
/-- an own def run from within a word of the language -/
theorem run_own {A : Around} {pins : List (Addr × Obj)} {σ : St} {H : Hp} {s : Shared} {Q : VK} {vs : List V} {us : List Value} (F : FnOk X.prog X.w X.K X.mg X.base CX n f fd ps sp) (hb : Binds X.K fd ps []) (hx : Passes CX X E) (sb : Sub X n A) (I : Inv X pins σ H s)
    (rv : Vals vs us) (h : sp vs H Q E) : wpAny (model X.prog X.w) A (call (.ref f) us) (EP X pins σ Q) X.xe s := by
  have e0 : Env0 X.prog X.w X.K X.mg X.base A X.stack s H := by
    have e := I.env0
    exact ⟨by rw [sb.fr]; exact e.frames, e.mod, e.bs, e.bsz, e.funs, e.frf, e.hok, e.bare⟩
  have hl := F.len _ _ _ _ h
  refine wpAny_call (codeAny_mono (F.run A X.stack s H ⟨us, []⟩ us vs Q E sb.room e0 (by
    have := hb s us I.kIn (by rw [List.append_nil, ← rv.length]; exact hl)
    rw [List.append_nil] at this
    exact this) rv h) fun r s' hq => ?_)
  cases r with
  | error e => exact hx pins σ H s e s' I hq
  | ok fl =>
    cases fl with
    | ret w =>
      obtain ⟨z, H', I', rz, q⟩ := I.after hq
      exact ⟨z, H', I', rz, q⟩
    | next => exact False.elim hq
    | brk => exact False.elim hq
    | cont => exact False.elim hq
/-- len(x), str(x), repr(x): x of C, whose own word is sp -/
def rLenO (C : Addr) (sp : Sp) (E : XK) : List V → Hp → VK → Prop := fun xs H Q => ∃ a dx fs, xs = [.ref a] ∧ H a = some (.ins C dx fs) ∧ sp [.ref a] H (fun v H' => ∃ k : Int, v = .int k ∧ (0 ≤ k ∧ k < 2 ^ 63) ∧ Q (.int k) H') E
def rStrO (C : Addr) (sp : Sp) (E : XK) : List V → Hp → VK → Prop := fun xs H Q => ∃ a dx fs, xs = [.ref a] ∧ H a = some (.ins C dx fs) ∧ sp [.ref a] H (fun v H' => ∃ z : Str, v = .str z ∧ Q (.str z) H') E
theorem call_lenO (m : Meth X.K C "__len__" f) (F : FnOk X.prog X.w X.K X.mg X.base CX n f fd ps sp) (hr : Room (n + 1) X.A) (hb : Binds X.K fd ps []) (hx : Passes CX X E) : CallR X (.builtin "len") (rLenO C sp E) := by
  intro pins s σ H xs us Q I r h
  obtain ⟨a, dx, fs, rfl, ha, h⟩ := h
  obtain ⟨u, rfl, rx⟩ := vals1 r
  cases rx
  obtain ⟨mA, J, _⟩ := ins_get I.hok ha
  obtain ⟨od, J, _⟩ := J.look
  obtain ⟨mm, hF⟩ := I.fr
  refine PySem.W.len_K hF I.ok.mod.kin J m.at_ m.fn (wpAny_mono (run_own F hb hx ⟨hr.in1, rfl⟩ I (show Vals [V.ref a] [Value.ref a] from .cons rfl .nil) h) (fun v s' q => ?_) fun _ _ z => z)
  obtain ⟨x, H', I', rx, k, rfl, hk, q⟩ := q
  obtain ⟨t, rfl⟩ : ∃ t, v = Value.int k t := rx
  exact ⟨hk, .int k, H', I'.tok _, ⟨_, rfl⟩, q⟩
theorem call_strO (m : Meth X.K C "__str__" f) (F : FnOk X.prog X.w X.K X.mg X.base CX n f fd ps sp) (hr : Room (n + 2) X.A) (hb : Binds X.K fd ps []) (hx : Passes CX X E) : CallR X (.type "str") (rStrO C sp E) := by
  intro pins s σ H xs us Q I r h
  obtain ⟨a, dx, fs, rfl, ha, h⟩ := h
  obtain ⟨u, rfl, rx⟩ := vals1 r
  cases rx
  obtain ⟨mA, J, _⟩ := ins_get I.hok ha
  obtain ⟨od, J, _⟩ := J.look
  refine PySem.W.kso_call hr.in1.in1.units0 I.kIn J m.at_ m.fn (wpAny_mono (run_own F hb hx ⟨hr.in1.in1, rfl⟩ I (show Vals [V.ref a] [Value.ref a] from .cons rfl .nil) h) (fun v s' q => ?_) fun _ _ z => z)
  obtain ⟨x, H', I', rx, z, rfl, q⟩ := q
  obtain ⟨t, rfl⟩ : ∃ t, v = Value.str z t := rx
  exact ⟨.str z, H', I', ⟨_, rfl⟩, q⟩
theorem call_reprO (m : Meth X.K C "__repr__" f) (F : FnOk X.prog X.w X.K X.mg X.base CX n f fd ps sp) (hr : Room (n + 1) X.A) (hb : Binds X.K fd ps []) (hx : Passes CX X E) : CallR X (.builtin "repr") (rStrO C sp E) := by
  intro pins s σ H xs us Q I r h
  obtain ⟨a, dx, fs, rfl, ha, h⟩ := h
  obtain ⟨u, rfl, rx⟩ := vals1 r
  cases rx
  obtain ⟨mA, J, _⟩ := ins_get I.hok ha
  obtain ⟨od, J, _⟩ := J.look
  obtain ⟨mm, hF⟩ := I.fr
  refine PySem.W.repr_K hr.in1.units0 hF I.ok.mod.kin J m.at_ m.fn (wpAny_mono (run_own F hb hx ⟨hr.in1, rfl⟩ I (show Vals [V.ref a] [Value.ref a] from .cons rfl .nil) h) (fun v s' q => ?_) fun _ _ z => z)
  obtain ⟨x, H', I', rx, z, rfl, q⟩ := q
  obtain ⟨t, rfl⟩ : ∃ t, v = Value.str z t := rx
  exact ⟨.str z, H', I', ⟨_, rfl⟩, q⟩
end
section
open PySem.W Builtin PySem.Calls
open PyProof.Rows hiding St
variable {prog : Program} {w : World} {A : Around} {E : Value → Shared → Prop} {s : Shared} {K : Frag} {x C L f : Addr} {h₀ : Heap} {m : Str → Option Value} {ox : Obj} {od : Option Obj} {b tb : Value}
theorem ifBound_B {M : Model} {name : Str} {id : String} {args : List Value} {Q : Option Value → Shared → Prop} (X : K.In s.heap) (I : InstAt s.heap x ox C od) (hs : findIn K (.ref C) name = some (some (.builtin id))) (hb : ∀ self, bindSpecial (.builtin id) self = pure (.builtin id, [self]))
    (h : wpAny M A (call (.builtin id) (.ref x :: args)) (fun v => Q (some v)) E s) : wpAny M A (callSpecialIfBound? (.ref x) name args) Q E s := by
  simp only [callSpecialIfBound?, bindSpecialIfBound?]
  refine wpAny_holding (wpAny_bind (wpAny_bind (wpAny_bind (I.type.here ((looks_findIn X hs).here ?_)))))
  refine wpAny_bind (wpAny_askSetting (wpAny_ite ?_))
  have fin : wpAny M A (call (.builtin id) ([.ref x] ++ args) >>= fun v => pure (some v)) Q E s := wpAny_bind (wpAny_mono h (fun v s' h' => wpAny_pure h') fun _ _ h' => h')
  split
  · exact wpAny_bind ((Looks.of_pure (hb _)).here (wpAny_pure (by exact fin)))
  · exact wpAny_tryCatch (wpAny_bind ((Looks.of_pure (hb _)).here (wpAny_pure (by exact fin))))
/-- x != y by an own __eq__ -/
theorem ne_K {Q : Value → Shared → Prop} (hu : A.in1.units < cLine) (hu0 : A.units < cLine) (F : Fr h₀ L s.heap m) (X₀ : K.In h₀) (I : InstAt s.heap x ox C od) (hb : Looks (model prog w) s.heap (typeOf b) tb) (hn : notFirst K C tb = true)
    (hs : findIn K (.ref C) "__ne__" = some (some (.builtin "object.__ne__"))) (ho : mroIn K C (.type "object") = some true) (he : findIn K (.ref C) "__eq__" = some (some (.ref f))) (hf : isFn K (.ref f) = true)
    (h : wpAny (model prog w) A.in1 (call (.ref f) [.ref x, b]) (fun v s' => ∃ k, v = .bool k ∧ Q (.bool (!k)) s') E s) : wpAny (model prog w) A (richCompare .NotEq (.ref x) b) Q E s := by
  have X := X₀.keeps F.keep
  have body : wpAny (model prog w) A (call (.builtin "object.__ne__") [.ref x, b]) (fun v s' => v ≠ .notImplemented ∧ Q v s') E s := by
    refine wpAny_call (codeAny_call_builtin (by decide +kernel) PySem.F.cmpEntry_ne (check_slot (i := "object.__ne__") (owner := "object") (n := "__ne__") (by decide +kernel) (by decide +kernel) (I.type.andThen (looks_mroIn X ho)) (PySem.F.cmpArgs_ne _ _) ?_))
    unfold Builtin.«object.__ne__»
    refine wpAny_bind (m := slotArgs "__ne__" 1 _) (wpAny_pure ?_)
    refine wpAny_bind (m := cRoomFor _ _) (wpAny_cRoomFor hu ?_)
    refine wpAny_bind (m := callSpecialIfBound? (.ref x) (Str.ofString "__eq__") _) (ifBound_K X I he hf (wpAny_mono h (fun r s' hq => ?_) fun _ _ y => y))
    obtain ⟨k, rfl, hq⟩ := hq
    refine wpAny_bind (m := truthy (.bool _)) (wpAny_truthy_bool ?_)
    exact wpAny_pure ⟨(by intro z; cases z), hq⟩
  have one : wpAny (model prog w) A (tryCompare (.ref x) (cmpInfo .NotEq).2.1 b) (fun r s' => ∃ v, r = some v ∧ Q v s') E s := by
    unfold tryCompare
    refine wpAny_bind (ifBound_B X I hs PySem.F.cmp_object.ne.bind (wpAny_mono body (fun v s' hv => ?_) fun _ _ e => e))
    obtain ⟨hv, hq⟩ := hv
    cases v <;> first | exact absurd rfl hv | exact wpAny_pure ⟨_, rfl, hq⟩
  unfold richCompare
  simp only [oneThing_ref]
  refine wpAny_holding (wpAny_bind (wpAny_cRoomFor hu0 ?_))
  refine wpAny_bind (I.type.here (wpAny_bind (hb.here ?_)))
  split
  · rename_i q
    have e : subIn K tb (.ref C) = some false := by
      rcases Bool.or_eq_true_iff.mp hn with e | e
      · rw [beq_iff_eq.mp e] at q; simp at q
      · exact beq_iff_eq.mp e
    refine wpAny_bind ((looks_subIn X e).here ?_)
    simp only [Bool.false_eq_true, if_false]
    refine wpAny_bind (wpAny_mono one (fun r s' z => ?_) fun _ _ e => e)
    obtain ⟨v, rfl, hq⟩ := z
    exact wpAny_pure hq
  · refine wpAny_bind (wpAny_pure ?_)
    simp only [Bool.false_eq_true, if_false]
    refine wpAny_bind (wpAny_mono one (fun r s' z => ?_) fun _ _ e => e)
    obtain ⟨v, rfl, hq⟩ := z
    exact wpAny_pure hq
end
/-- the built-in classes stand not under C -/
def EqC (K : PySem.W.Frag) (C : Addr) : Prop := ∀ t : String, t ∈ ["NoneType", "int", "bool", "str", "list", "tuple", "dict"] → PySem.W.subIn K (.type t) (.ref C) = some false
/-- x == y, x != y: x of C, whose own == is sp -/
def rEqO (K : PySem.W.Frag) (C : Addr) (sp : Sp) (E : XK) (neg : Bool) : R2 := fun x y H Q => ∃ a dx fs, x = .ref a ∧ H a = some (.ins C dx fs) ∧ isO K y H (fun _ c => c = none ∨ c = some C) ∧ sp [x, y] H (fun v H' => ∃ b, v = .bl b ∧ Q (.bl (if neg then !b else b)) H') E
section
variable {X : Cx} {CX : CXT} {n : Nat} {f C : Addr} {fd : FuncData} {ps : List Str} {sp : Sp} {E : XK}
theorem ty_looks {pins : List (Addr × Obj)} {σ : St} {H : Hp} {s : Shared} {y : V} {u : Value} (q : EqC X.K C) (I : Inv X pins σ H s) (ry : RelV y u) (h : isO X.K y H (fun _ c => c = none ∨ c = some C)) :
    ∃ t, PySem.W.Looks (model X.prog X.w) s.heap (typeOf u) t ∧ PySem.W.notFirst X.K C t = true := by
  obtain ⟨t, f, c, ty, hc, _, e⟩ := isO_ty h
  obtain ⟨P, kx, hp, _⟩ := kit_of I ry ty
  refine ⟨t, kx.ty _ _ I.kIn hp, ?_⟩
  unfold PySem.W.notFirst
  rcases e with ⟨_, n, rfl, hn⟩ | ⟨D, rfl, rfl, _⟩
  · rw [q n hn]
    simp
  · rcases hc with hc | hc
    · cases hc
    · cases hc
      simp
theorem op_eqO {K : PySem.W.Frag} (m : Meth X.K C "__eq__" f) (F : FnOk X.prog X.w X.K X.mg X.base CX n f fd ps sp) (hr : Room (n + 1) X.A) (hb : Binds X.K fd ps []) (hx : Passes CX X E) (q : EqC X.K C) (hK : X.K = K := by rfl) : OpR X (compareOp .Eq) (rEqO K C sp E false) := by
  subst hK
  intro pins s σ H x y v u Q I rx ry h
  obtain ⟨a, dx, fs, rfl, ha, hy, h⟩ := h
  cases rx
  obtain ⟨mA, J, _⟩ := ins_get I.hok ha
  obtain ⟨od, J, _⟩ := J.look
  obtain ⟨mm, hF⟩ := I.fr
  obtain ⟨t, hl, hn⟩ := ty_looks q I ry hy
  show wpAny (model X.prog X.w) X.A (richCompare .Eq (.ref a) u) (EP X pins σ Q) X.xe s
  refine PySem.W.cmp_K (op := .Eq) hr.units0 hF I.ok.mod.kin J hl hn m.at_ m.fn (wpAny_mono (run_own F hb hx ⟨hr.mono (Nat.le_succ _), rfl⟩ I (show Vals [V.ref a, y] [Value.ref a, u] from .cons rfl (.cons ry .nil)) h) (fun v s' z => ?_) fun _ _ z => z)
  obtain ⟨x, H', I', rx, b, rfl, z⟩ := z
  obtain rfl : v = Value.bool b := rx
  exact ⟨.bl b, H', I', rfl, z⟩
theorem op_neO {K : PySem.W.Frag} (m : Meth X.K C "__eq__" f) (F : FnOk X.prog X.w X.K X.mg X.base CX n f fd ps sp) (hr : Room (n + 1) X.A) (hb : Binds X.K fd ps []) (hx : Passes CX X E) (q : EqC X.K C) (hs : PySem.W.findIn X.K (.ref C) "__ne__" = some (some (.builtin "object.__ne__"))) (ic : IsC X.K C) (hK : X.K = K := by rfl) : OpR X (compareOp .NotEq) (rEqO K C sp E true) := by
  subst hK
  intro pins s σ H x y v u Q I rx ry h
  obtain ⟨a, dx, fs, rfl, ha, hy, h⟩ := h
  cases rx
  obtain ⟨mA, J, _⟩ := ins_get I.hok ha
  obtain ⟨od, J, _⟩ := J.look
  obtain ⟨mm, hF⟩ := I.fr
  obtain ⟨t, hl, hn⟩ := ty_looks q I ry hy
  show wpAny (model X.prog X.w) X.A (richCompare .NotEq (.ref a) u) (EP X pins σ Q) X.xe s
  refine ne_K hr.in1.units0 hr.units0 hF I.ok.mod.kin J hl hn hs ic.hm m.at_ m.fn (wpAny_mono (run_own F hb hx ⟨hr.in1, rfl⟩ I (show Vals [V.ref a, y] [Value.ref a, u] from .cons rfl (.cons ry .nil)) h) (fun v s' z => ?_) fun _ _ z => z)
  obtain ⟨x, H', I', rx, b, rfl, z⟩ := z
  obtain rfl : v = Value.bool b := rx
  exact ⟨b, rfl, .bl (!b), H', I', rfl, z⟩
end
/-! ### o.m(e, .., k=v): what is raised wished for at the caller's slots -/
def tMethSN (C : Addr) (m : Str) (n nk : Nat) (sp : Sp) (gV : List V → List V → List V) (E : St → XK) (ta : TE) (t tk : TA) : TE := fun σ H Q => ta σ H fun x H1 => ∃ a dx fs, x = .ref a ∧ H1 a = some (.ins C dx fs) ∧ fs.lookup m = none ∧ t σ H1 fun vs H2 => tk σ H2 fun zs H3 => vs.length = n ∧ zs.length = nk ∧ sp (gV (x :: vs) zs) H3 Q (E σ)
section
variable {X : Cx} {CX : CXT} {k n : Nat} {f C : Addr} {fd : FuncData} {ps ks : List Str} {sp : Sp} {gV : List V → List V → List V} {E : St → XK} {m : Str} {pos apos : Pos} {e o : Expr} {es : List Expr} {kws : List Keyword} {ta : TE} {t tk : TA}
theorem run_fnSN {pins : List (Addr × Obj)} {σ : St} {H : Hp} {s : Shared} {Q : VK} {us ws : List Value} {vs zs : List V} {g : List Value → List Value → List Value} (F : FnOk X.prog X.w X.K X.mg X.base CX k f fd ps sp) (hr : Room k X.A) (hb : KBn X.K fd ps n ks g gV) (hx : PassesAt CX X σ (E σ)) (I : Inv X pins σ H s)
    (rv : Vals vs us) (rz : Vals zs ws) (l1 : vs.length = n) (l2 : zs.length = ks.length) (h : sp (gV vs zs) H Q (E σ)) : wpAny (model X.prog X.w) X.A (call (.ref f) us (ks.zip ws)) (EP X pins σ Q) X.xe s := by
  refine wpAny_call (codeAny_mono (F.run X.A X.stack s H ⟨us, ks.zip ws⟩ (g us ws) (gV vs zs) Q (E σ) hr I.env0 (hb.to s us ws I.kIn (by rw [← rv.length]; exact l1) (by rw [← rz.length]; exact l2)) (hb.rel rv rz) h) fun r s' hq => ?_)
  cases r with
  | error e => exact hx pins H s e s' I hq
  | ok fl =>
    cases fl with
    | ret w =>
      obtain ⟨z, H', I', rz, q⟩ := I.after hq
      exact ⟨z, H', I', rz, q⟩
    | next => exact False.elim hq
    | brk => exact False.elim hq
    | cont => exact False.elim hq
theorem pe_methSN {pl : Sem Bool} (he : PE X o ta) (c : Cls X.K C) (hm : Meth X.K C m f) (F : FnOk X.prog X.w X.K X.mg X.base CX k f fd ps sp) (hr : Room k X.A) (hb : ∃ g, KBn X.K fd ps (n + 1) ks g gV) (hx : ∀ σ, PassesAt CX X σ (E σ)) (ha : PA X (e :: es) t) (hkw : PK X kws tk)
    (hall : (backToKw pos (keywordEach kws X.env)).all (·.1.isSome) = true := by rfl) (hks : (backToKw pos (keywordEach kws X.env)).filterMap (·.1) = ks := by rfl)
    (hst : starEach (e :: es) X.env = (false, eval e X.env) :: starEach es X.env := by rfl) (hpl : ((backTo pos (starEach (e :: es) X.env)).any (·.1) || (backToKw pos (keywordEach kws X.env)).any (·.1.isNone)) = false := by rfl)
    (ht : eval (.Call (.Attribute o m apos) (e :: es) kws pos) X.env = (do let ov ← eval o X.env; standAt apos.atName; let (f, first) ← holding [ov] (getMethod ov m pl); callWith pos f first (backTo pos (starEach (e :: es) X.env)) (backToKw pos (keywordEach kws X.env))) := by rfl) :
    PE X (.Call (.Attribute o m apos) (e :: es) kws pos) (tMethSN C m n ks.length sp gV E ta t tk) := by
  obtain ⟨g, hb⟩ := hb
  refine ⟨fun pins s σ H Q I h => PySem.W.methodCall_KW (pl := pl) (thn (he.run pins s σ H _ I h) fun u s1 ⟨y, H1, I1, ry, a, dx, fs, ey, ea, l, q⟩ => ?_) ht⟩
  subst ey
  cases (show u = Value.ref a from ry)
  refine getmeth_ok I1 ea c hm l (PySem.W.callWith_KW (first := [.ref a]) (h₀ := X.base) I.ok.mod.kin hm.kp hall (thn (ha.run pos pins s1 σ H1 _ I1 q) fun us s2 ⟨vs, H2, I2, r, q2⟩ => ?_) hpl hst)
  refine thn (hkw.run pos pins s2 σ H2 _ I2 q2) fun ws s3 ⟨zs, H3, I3, rz, l1, l2, q3⟩ => ⟨I3.kIn, ?_⟩
  rw [hks]
  exact run_fnSN (us := .ref a :: us) (vs := .ref a :: vs) F hr hb (hx σ) I3 (.cons rfl r) rz (by rw [List.length_cons, l1]) l2 q3
/-- o.m(e, ..), the last parameters by their defaults -/
theorem pe_methSD {dvs : List V} {pl : Sem Bool} (he : PE X o ta) (c : Cls X.K C) (hm : Meth X.K C m f) (F : FnOk X.prog X.w X.K X.mg X.base CX k f fd ps sp) (hr : Room k X.A) (hb : ∃ ds, Vals dvs ds ∧ Binds X.K fd ps ds) (hx : ∀ σ, PassesAt CX X σ (E σ)) (ha : PA X (e :: es) t)
    (hst : starEach (e :: es) X.env = (false, eval e X.env) :: starEach es X.env := by rfl) (hpl : (backTo pos (starEach es X.env)).any (·.1) = false := by rfl)
    (ht : eval (.Call (.Attribute o m apos) (e :: es) [] pos) X.env = (do let ov ← eval o X.env; standAt apos.atName; let (f, first) ← holding [ov] (getMethod ov m pl); callWith pos f first (backTo pos (starEach (e :: es) X.env)) (backToKw pos (keywordEach [] X.env))) := by rfl) : PE X (.Call (.Attribute o m apos) (e :: es) [] pos) (tMethS C m sp dvs E ta t) := by
  obtain ⟨ds, hd, hb⟩ := hb
  exact pe_methS he c hm F hr hb hd hx ha hst hpl ht
end
/-! ### o[i] of a list, by values -/
def rGetL (K : PySem.W.Frag) : V → V → Hp → VK → Prop := fun x y H Q => ∃ p xs i z, x = .ref p ∧ y = .int i ∧ SqL K H p xs ∧ atI xs i = some z ∧ Q z H
theorem get_list {X : Cx} {K : PySem.W.Frag} (hK : X.K = K := by rfl) : PGet X (rGetL K) := by
  subst hK
  intro pins s σ H x y v u Q I rx ry h
  obtain ⟨p, xs, i, z, rfl, rfl, hq, he, q⟩ := h
  cases rx
  obtain ⟨t, rfl⟩ := ry
  obtain ⟨its, r, pl, hz⟩ := I.list hq
  obtain ⟨j, h1, h2, h3, h4, h5⟩ := atI_get he
  obtain ⟨w, ew, rw'⟩ := r.get h2
  have hl := r.length
  have hn := line63
  have fin : EP X pins σ Q w s := ⟨z, H, I, rw', q⟩
  by_cases h0 : 0 ≤ i
  · have hj : i.toNat = j := by
      rw [seqIndex_of h0 h5] at h1
      exact Option.some.inj h1
    exact wpAny_getItem_list pl.isList h0 (by omega) (by rw [hj]; simpa using ew) fin
  · have hj : (i + (its.toArray.size : Int)).toNat = j := by
      rw [seqIndex_neg (by omega) h4] at h1
      rw [List.size_toArray, ← hl]
      exact Option.some.inj h1
    exact wpAny_getItem_list_neg pl.isList (by omega) (by rw [List.size_toArray] <;> omega) (by omega) (by rw [hj]; simpa using ew) fin
theorem unit1 {k : Nat} {A : Around} (r : Room k A) : A.units + 1 < cLine := by have := r.units; omega
/-! ### steps -/
section
variable {K : PySem.W.Frag} {D : Ends} {σ : St} {H : Hp} {Q : VK} {C : Addr} {m : Str} {n nk : Nat} {sp : Sp} {gV : List V → List V → List V} {E : St → XK} {E0 : XK} {ta te to ti td ty : TE} {t tk : TA} {x y v : V}
theorem i_methSN (h : ta σ H fun x H1 => ∃ a dx fs, x = .ref a ∧ H1 a = some (.ins C dx fs) ∧ fs.lookup m = none ∧ t σ H1 fun vs H2 => tk σ H2 fun zs H3 => vs.length = n ∧ zs.length = nk ∧ sp (gV (x :: vs) zs) H3 Q (E σ)) : tMethSN C m n nk sp gV E ta t tk σ H Q := h
theorem i_augS {tget : V → V → Hp → VK → Prop} {tip : TIp} {tset : TSet} (h : to σ H fun o H1 => ti σ H1 fun i H2 => tget o i H2 fun x H3 => te σ H3 fun y H4 => tip x y H4 fun z H5 => tset o i z H5 fun H6 => D.nx σ H6) : tAugS to ti te tget tip tset D σ H := h
theorem i_getL {p : Addr} {xs : List V} {i : Int} {z : V} (h1 : SqL K H p xs) (h2 : atI xs i = some z) (h : Q z H) : rGetL K (.ref p) (.int i) H Q := ⟨p, xs, i, z, rfl, rfl, h1, h2, h⟩
theorem i_ipI {f : Int → Int → Int} {i j : Int} (h : Q (.int (f i j)) H) : ipI f (.int i) (.int j) H Q := ⟨i, j, rfl, rfl, h⟩
theorem i_din (h : ty σ H fun y H1 => td σ H1 fun x H2 => ∃ a o, x = .ref a ∧ DGet H2 a y o ∧ Q (.bl o.isSome) H2) : tDIn ty td σ H Q := h
theorem i_dnotin (h : ty σ H fun y H1 => td σ H1 fun x H2 => ∃ a o, x = .ref a ∧ DGet H2 a y o ∧ Q (.bl (!o.isSome)) H2) : tDNotIn ty td σ H Q := h
theorem i_dgk {p : Addr} {kvs : List (Key × V)} {k : Key} {R : Option V → Prop} (e : y = kV k) (h1 : H p = some (.dK kvs)) (h : R (valV kvs k)) : ∃ a o, V.ref p = .ref a ∧ DGet H a y o ∧ R o := ⟨p, _, rfl, e ▸ .k h1, h⟩
theorem i_dgkI {p : Addr} {kvs : List (Key × V)} {i : Int} {R : Option V → Prop} (h1 : H p = some (.dK kvs)) (h : R (valV kvs (.inl i))) : ∃ a o, V.ref p = .ref a ∧ DGet H a (.int i) o ∧ R o := ⟨p, _, rfl, .k (k := .inl i) h1, h⟩
theorem i_setDkI {p : Addr} {kvs : List (Key × V)} {i : Int} {HQ : Hp → Prop} (h1 : H p = some (.dK kvs)) (hl : kvs.length < sizeLine) (h : HQ (upd H p (.dK (putK kvs (.inl i) v)))) : rSetD (.ref p) (.int i) v H HQ := ⟨p, _, rfl, .k (k := .inl i) h1 hl, h⟩
theorem i_dgt {p b : Addr} {kvs : List (List Key × V)} {k : List Key} {R : Option V → Prop} (h1 : H p = some (.dT kvs)) (h2 : H b = some (.tup (k.map kV))) (h : R (valV kvs k)) : ∃ a o, V.ref p = .ref a ∧ DGet H a (.ref b) o ∧ R o := ⟨p, _, rfl, .t h1 h2, h⟩
theorem i_setDk {p : Addr} {kvs : List (Key × V)} {k : Key} {HQ : Hp → Prop} (e : x = kV k) (h1 : H p = some (.dK kvs)) (hl : kvs.length < sizeLine) (h : HQ (upd H p (.dK (putK kvs k v)))) : rSetD (.ref p) x v H HQ := ⟨p, _, rfl, e ▸ .k h1 hl, h⟩
theorem i_eqO {neg : Bool} {a dx : Addr} {fs : List (Str × V)} (ha : H a = some (.ins C dx fs)) (hy : isO K y H (fun _ c => c = none ∨ c = some C)) (h : sp [.ref a, y] H (fun v H' => ∃ b, v = .bl b ∧ Q (.bl (if neg then !b else b)) H') E0) : rEqO K C sp E0 neg (.ref a) y H Q := ⟨a, dx, fs, rfl, ha, hy, h⟩
theorem i_lenO {a dx : Addr} {fs : List (Str × V)} (ha : H a = some (.ins C dx fs)) (h : sp [.ref a] H (fun v H' => ∃ k : Int, v = .int k ∧ (0 ≤ k ∧ k < 2 ^ 63) ∧ Q (.int k) H') E0) : rLenO C sp E0 [.ref a] H Q := ⟨a, dx, fs, rfl, ha, h⟩
end
end My
/-! enumerate over a tuple; max, min, sum of a tuple of ints -/
namespace My
open PySem L2
section
open PySem.Spec PySem.Calls
open PyProof.Rows hiding St
set_option maxHeartbeats 4000000 in
theorem meets_enum1 {v : Value} {o : Obj} {H : Heap → Prop} (B : Begins v o H) :
    Meets (Builtin.«enumerate.__new__» ⟨[.type "enumerate", v], []⟩) (fun _ R s => H s.heap ∧
      R (.ok (.ret (.ref (s.heap.push o).objs.size))) { s with heap := (s.heap.push o).push { cls := .type "enumerate", data := .fields #[.none, .bool false, .ref s.heap.objs.size, rawInt 0, .none, .none] } }) :=
  .of_wp fun prog w A R s h => by
    obtain ⟨hp, g, d, tk, os⟩ := s; obtain ⟨h1, h⟩ := h
    have hsub := sub_enumerate
    have q1 : ∀ {A' : Around} {E : Value → Shared → Prop} {Q : Value → Shared → Prop}, Q (.ref hp.objs.size) ⟨hp.push o, g, d, tk, os⟩ → wpAny (model prog w) A' (pyIter v) Q E ⟨hp, g, d, tk, os⟩ :=
      fun q => B.iter prog w _ _ ⟨hp, g, d, tk, os⟩ _ h1 q
    wp_walk using q1
    refine wpAny_stack_any fun st => wpAny_pure ?_
    split
    · rename_i c _ _ _ _ _
      cases (c == Value.type "enumerate")
      · wp_walk using q1
        exact ⟨_, rfl, h⟩
      · wp_walk using q1
        exact ⟨_, rfl, h⟩
    · wp_walk using q1
      exact ⟨_, rfl, h⟩
theorem call_enum1 {prog : Program} {w : World} {A : Around} {E : Value → Shared → Prop} {s : Shared} {v : Value} {o : Obj} {H : Heap → Prop} {Q : Value → Shared → Prop} (B : Begins v o H) (h1 : H s.heap)
    (h : ∀ h', IsEnum h' (s.heap.objs.size + 1) s.heap.objs.size 0 .none → h'.get? s.heap.objs.size = some o → h'.objs.size = s.heap.objs.size + 2 →
      (∀ b o, s.heap.get? b = some o → h'.get? b = some o) → Q (.ref (s.heap.objs.size + 1)) { s with heap := h' }) :
    wpAny (model prog w) A (call (.type "enumerate") [v]) Q E s := by
  refine callType_new F.called_enumerate (by decide) (F.typeCall_enumerate_1 _) (F.newCall_enumerate_1 _) (fun obj => F.args_object_init_2 obj _) F.entry_enumerate_new
    (meets_enum1 B) ⟨h1, ?_⟩
  have hz : (s.heap.push o).objs.size = s.heap.objs.size + 1 := Heap.size_push ..
  show _ ∧ _
  rw [hz]
  have he : IsEnum ((s.heap.push o).push { cls := .type "enumerate", data := .fields #[.none, .bool false, .ref s.heap.objs.size, rawInt 0, .none, .none] }) (s.heap.objs.size + 1) s.heap.objs.size 0 .none := by
    have := Heap.get?_push_size (s.heap.push o) (o := { cls := .type "enumerate", data := .fields #[.none, .bool false, .ref s.heap.objs.size, rawInt 0, .none, .none] }) rfl
    rw [hz] at this; exact this
  refine ⟨⟨_, he, rfl⟩, h _ he (Heap.get?_push_of_some _ (Heap.get?_push_size _ B.free)) (by rw [Heap.size_push, hz]) fun b o x => Heap.get?_push_of_some _ (Heap.get?_push_of_some _ x)⟩
end
/-- the tuple at a as it stands at each turn, the items in new pairs with their places -/
def Itet (K : PySem.W.Frag) (a : Addr) : It :=
  ⟨fun i H => ∃ (xs : List V) (x : V), SqT K H a xs ∧ xs[i]? = some x, fun i H v H' => ∃ T x, v = .ref T ∧ H T = none ∧ H' = upd H T (.tup [.int (i : Nat), x]) ∧ ∀ xs, SqT K H a xs → xs[i]? = some x, fun i H => ∃ xs : List V, SqT K H a xs ∧ xs.length = i⟩
section
open PySem.Spec
open PyProof.Rows hiding St
theorem turn_enumT {P : Program} {w : World} {K : PySem.W.Frag} {elts : List Expr} {kk : Nat} {tpos : Pos} (a e it : Addr) :
    Turn P w K (.Tuple elts kk tpos) (Itet K a) [e, it] e (fun i h => (∃ old, IsEnum h e it ((i : Nat) : Int) old) ∧ h.IsTupleIter it a i ∧ e ≠ it) where
  mem := by simp
  obj := fun i h st b hb => by
    obtain ⟨⟨old, he⟩, ⟨o, ho, hc, hd⟩, _⟩ := st
    have e' : b = e ∨ b = it := by simpa using hb
    rcases e' with z | z
    · rw [z]; exact ⟨_, he, fun v q => nomatch q⟩
    · rw [z]; exact ⟨o, ho, fun v q => by rw [hd] at q; cases q⟩
  keep := fun i h h' st k => let ⟨⟨old, he⟩, hi, hne⟩ := st; ⟨⟨old, k e (by simp) _ he⟩, hi.at fun o q => k it (by simp) o q, hne⟩
  item := by
    intro X hP hw hK hc i pins s σ H E I hf st hg
    subst hP hw hK
    obtain ⟨⟨old, he⟩, hit, hne⟩ := st
    obtain ⟨xs, x, hq, hx⟩ := hg
    obtain ⟨its, rv, p, hz⟩ := I.tuple hq
    obtain ⟨u, hu, ru⟩ := rv.get hx
    have hel : e < s.heap.objs.size := Heap.lt_size he
    have hil : it < s.heap.objs.size := by obtain ⟨_, q, _⟩ := hit; exact Heap.lt_size q
    have pT : s.heap.IsTuple a its.toArray := p
    have hat : a ≠ it := fun z => by
      obtain ⟨o1, g1, c1, _⟩ := pT
      obtain ⟨o2, g2, c2, _⟩ := hit
      rw [z] at g1
      rw [g1] at g2
      cases g2
      rw [c1] at c2
      exact absurd c2 (by decide)
    have hea : e ≠ a := fun z => by
      obtain ⟨o1, g1, c1, _⟩ := pT
      have he' : s.heap.get? e = some _ := he
      rw [← z] at g1
      rw [g1] at he'
      cases he'
      have c1 : Value.type "enumerate" = Value.type "tuple" := c1
      exact absurd c1 (by decide)
    have hlt : i < its.toArray.size := by
      have := (List.getElem?_eq_some_iff.mp hu).1
      simpa using this
    refine wpAny_pyNext_enum_itemD (Draws.tuple (A := X.A.in1) (I.ok.hd hc) it a hat its.toArray) he ⟨hit, pT⟩ hlt hne (by simp [hne, hea]) fun x' h' tk hx' ho st' hT hsz hk => ?_
    obtain rfl : x' = u := by
      have : its[i]? = some x' := by simpa using hx'
      rw [hu] at this
      exact (Option.some.inj this).symm
    refine ⟨_, rfl, wpAny_letOwnedTupleGo_enum (s := { s with heap := h', toks := tk + 1 }) ho fun h'' he' sb => ?_⟩
    have hT2 : h''.get? s.heap.objs.size = some { cls := .type "tuple", data := .seq #[.int i tk, x'] } := (sb.2 _ (Nat.ne_of_gt hel)).trans hT
    have new : ObjOk X.prog X.w (upd H s.heap.objs.size (.tup [.int (i : Nat), x])) h'' s.heap.objs.size (.tup [.int (i : Nat), x]) :=
      ⟨by show 2 ≤ sizeLine; decide, [.int i tk, x'], .cons ⟨_, rfl⟩ (.cons ru .nil), ⟨_, hT2, rfl, _, rfl⟩⟩
    have I1 : Inv X pins σ (upd H s.heap.objs.size (.tup [.int (i : Nat), x])) { s with heap := h'', toks := tk + 1 } :=
      I.turnedNew (ch := [e, it]) (fun b ob hb q => (sb.2 b (fun z => hb (by simp [z]))).trans (hk b ob (fun z => hb (by simp [z])) (fun z => hb (by simp [z])) q)) hf (Nat.le_refl _) new
    refine ⟨.ref s.heap.objs.size, _, I1, rfl, ⟨_, x, rfl, I.hok.fresh (Nat.le_refl _), rfl, fun ys hy => by rw [I.tuple_inj hy hq]; exact hx⟩, ⟨⟨x', ?_⟩, st'.1.at fun o q => (sb.2 it (Ne.symm hne)).trans q, hne⟩, fun b hb => ?_⟩
    · have e1 : ((i + 1 : Nat) : Int) = (i : Int) + 1 := by omega
      rw [e1]; exact he'
    · have hb' : b < s.heap.objs.size := by
        have e' : b = e ∨ b = it := by simpa using hb
        rcases e' with z | z
        · rw [z]; exact hel
        · rw [z]; exact hil
      rw [upd_ne (Nat.ne_of_lt hb')]
      exact (hf b hb).1
  done := by
    intro X hP hw hK hc i pins s σ H E I hf st hg
    subst hP hw hK
    obtain ⟨⟨old, he⟩, hit, hne⟩ := st
    obtain ⟨xs, hq, hx⟩ := hg
    obtain ⟨its, rv, p, hz⟩ := I.tuple hq
    have pT : s.heap.IsTuple a its.toArray := p
    obtain ⟨f0, f1, f2, f3, f4, f5⟩ := hf it (by simp)
    have hl := rv.length
    have hat : a ≠ it := fun z => by
      obtain ⟨o1, g1, c1, _⟩ := pT
      obtain ⟨o2, g2, c2, _⟩ := hit
      rw [z] at g1
      rw [g1] at g2
      cases g2
      rw [c1] at c2
      exact absurd c2 (by decide)
    have hn : i = its.toArray.size := by rw [List.size_toArray]; omega
    exact wpAny_pyNext_enum_endD (Draws.tuple (A := X.A.in1) (I.ok.hd hc) it a hat its.toArray) he ⟨hn ▸ hit, pT⟩ fun h' eb => ⟨rfl, I.turned (t' := s.toks) (fun b o hb q => eb b o hb q) f0 f1 f3 f4 f5⟩
  self := fun A i s Q E st h => let ⟨⟨_, he⟩, _⟩ := st; wpAny_pyIter_enum he h
def iEnumT (K : PySem.W.Frag) (ta : TA) : TI := fun σ H R => ta σ H fun vs H1 => ∃ a xs, vs = [.ref a] ∧ SqT K H1 a xs ∧ R (Itet K a) H1
theorem pi_enumT {X : Cx} {e : Expr} {ta : TA} {p pos tpos : Pos} {elts : List Expr} {kk : Nat} {K : PySem.W.Frag} (hg : Gl X "enumerate") (hm : X.mg "enumerate" = none) (ha : PA X [e] ta) (hs : starEach [e] X.env = [(false, eval e X.env)] := by rfl) (hK : X.K = K := by rfl) :
    PI X (.Tuple elts kk tpos) (.Call (.Name "enumerate" p) [e] [] pos) (iEnumT K ta) := by
  subst hK
  refine ⟨fun pins s σ H R I h => ?_⟩
  refine Call_ (ld_blt I hg hm boot_enumerate (PyProof.Rows.callWith_type1 (thn (ha.run pos pins s σ H _ I h) fun us s1 ⟨vs, H1, I1, r1, q1⟩ => ?_) hs rfl))
  obtain ⟨a, xs, ex, hq, q⟩ := q1
  subst ex
  cases r1 with
  | cons r rr =>
    cases rr
    cases r
    obtain ⟨its, rv, p', hz⟩ := I1.tuple hq
    refine call_enum1 (begins_tuple a its.toArray) p' fun h' he hit hsz hk => wpAny_pyIter_enum he ?_
    have I2 : Inv X pins σ H1 { s1 with heap := h' } := I1.kept (t' := s1.toks) hk
    refine ⟨s1.heap.objs.size + 1, [s1.heap.objs.size + 1, s1.heap.objs.size], _, _, H1, rfl, I2, turn_enumT a (s1.heap.objs.size + 1) s1.heap.objs.size, ⟨⟨.none, he⟩, ⟨_, hit, rfl, rfl⟩, Nat.succ_ne_self _⟩, fun b hb => ?_, q⟩
    have e' : b = s1.heap.objs.size + 1 ∨ b = s1.heap.objs.size := by simpa using hb
    have hle : s1.heap.objs.size ≤ b := by
      rcases e' with z | z
      · rw [z]; exact Nat.le_add_right _ _
      · rw [z]; exact Nat.le_refl _
    exact I1.fpOk hle (I1.hok.fresh hle)
theorem walk_enumT {K : PySem.W.Frag} {a : Addr} {xs : List V} : Walk (Itet K a) xs.length (fun H => SqT K H a xs) (YPair (fun i => some (.int (i : Nat))) (fun i => xs[i]?)) :=
  ⟨fun i H hi q => ⟨xs, xs[i], q, List.getElem?_eq_getElem hi⟩, fun H q => ⟨xs, q, rfl⟩, fun i H v H' hi q ⟨T, x, h1, h2, h3, h4⟩ => ⟨T, .int (i : Nat), x, h1, h2, h3, rfl, h4 xs q⟩⟩
/-! max, sum -/
section
variable {prog : Program} {w : World} {A : Around} {E : Value → Shared → Prop} {s : Shared} {l : Addr}
theorem iterT {items : Array Value} {Q : Value → Shared → Prop} (hl : s.heap.IsTuple l items)
    (h : ∀ s₂ : Shared, s₂ = { s with heap := s.heap.push { cls := .type "tuple_iterator", data := .fields #[.ref l, .int 0 0] } } →
      (s₂.heap.IsTupleIter s.heap.objs.size l 0 ∧ s₂.heap.IsTuple l items) → (∀ b ∈ [s.heap.objs.size, l], b < s₂.heap.objs.size) → l ≠ s.heap.objs.size → Q (.ref s.heap.objs.size) s₂) :
    wpAny (model prog w) A (pyIter (.ref l)) Q E s := by
  have hlt : l < s.heap.objs.size := by obtain ⟨_, e, _⟩ := hl; exact Heap.lt_size e
  refine wpAny_pyIter_tuple hl (h _ rfl ⟨⟨_, Heap.get?_push_size _ rfl, rfl, rfl⟩, hl.push _⟩ (fun b hb => ?_) (Nat.ne_of_lt hlt))
  show b < (s.heap.push _).objs.size
  rw [Heap.size_push]
  rcases List.mem_cons.mp hb with rfl | hb
  · exact Nat.lt_succ_self _
  · rcases List.mem_cons.mp hb with rfl | hb
    · exact Nat.lt_succ_of_lt hlt
    · cases hb
theorem oldT {h' : Heap} {o1 : Obj} (hk : ∀ b o, b ∉ [s.heap.objs.size] → (s.heap.push o1).get? b = some o → h'.get? b = some o) :
    ∀ b o, s.heap.get? b = some o → h'.get? b = some o := fun b o e => by
  refine hk b o (fun hm => ?_) (Heap.get?_push_of_some _ e)
  rcases List.mem_cons.mp hm with e1 | hm
  · exact absurd (e1 ▸ Heap.lt_size e) (Nat.lt_irrefl _)
  · cases hm
theorem max_rawT {its : List Value} {ns : List Int} {Q : Value → Shared → Prop} (hh : A.handled = none) (hl : s.heap.IsTuple l its.toArray) (hi : IntsAre its ns) (hne : 0 < ns.length)
    (h : ∀ h' tk M t', (∀ b o, s.heap.get? b = some o → h'.get? b = some o) → M ∈ ns → (∀ a, a ∈ ns → a ≤ M) → Q (.int M t') { s with heap := h', toks := tk }) : wpAny (model prog w) A (call (.builtin "max") [.ref l]) Q E s := by
  obtain ⟨xs, e⟩ := hi.allInts.items
  have hn : numsOf (intItems xs).toList = ns := by rw [← e]; exact hi.numsOf
  rw [nums_intItems] at hn
  subst hn
  rw [e] at hl
  have hsz : 0 < xs.size := by simpa using hne
  refine call_max_walk (iterT hl fun s₂ e st hfp hlI => ?_)
  subst e
  refine ⟨_, _, _, _, _, _, _, rfl, Walks.tuple (A := A.in1) hh _ l hlI (intItems xs), st, hfp, by simpa [intItems] using hsz, CmpOf.ints_gt (numAt xs) (fun _ _ => intItems_at), fun v h' tk hP hk => ?_⟩
  have hP : (intItems xs)[argBest (fun i j => decide (numAt xs i > numAt xs j)) (xs.size - 1)]? = some v := by simpa [intItems] using hP
  obtain ⟨t, rfl⟩ := intItems_at hP
  obtain ⟨h1, h2⟩ := argBest_gt (numAt xs) (xs.size - 1)
  refine h h' tk _ t (oldT hk) ?_ fun a ha => ?_
  · rw [numAt_eq]; exact PySem.getD_mem (by rw [List.length_map, Array.length_toList]; omega)
  · obtain ⟨j, hj, rfl⟩ := mem_getD ha
    rw [List.length_map, Array.length_toList] at hj
    rw [← numAt_eq]; exact h2 j (by omega)
theorem sum_rawT {its : List Value} {ns : List Int} {Q : Value → Shared → Prop} (hh : A.handled = none) (hl : s.heap.IsTuple l its.toArray) (hi : IntsAre its ns)
    (h : ∀ h' tk t', (∀ b o, s.heap.get? b = some o → h'.get? b = some o) → Q (.int ns.sum t') { s with heap := h', toks := tk }) : wpAny (model prog w) A (call (.builtin "sum") [.ref l]) Q E s := by
  obtain ⟨xs, e⟩ := hi.allInts.items
  have hn : numsOf (intItems xs).toList = ns := by rw [← e]; exact hi.numsOf
  rw [nums_intItems] at hn
  rw [e] at hl
  refine call_sum_walkG (iterT hl fun s₂ e st hfp hlI => ?_)
  subst e
  refine ⟨_, _, _, _, _, _, numAt xs, rfl, Walks.tuple (A := A.in1) hh _ l hlI (intItems xs), st, hfp, (fun _ _ => intItems_at), fun h' tk t' hk => ?_⟩
  have := h h' tk t' (oldT hk)
  rw [← hn] at this
  have e2 : preSum (numAt xs) (intItems xs).size = (xs.toList.map (·.1)).sum := by
    rw [show (intItems xs).size = xs.size by simp [intItems], preSum_eq, List.take_of_length_le (by simp)]
  rw [e2]
  exact this
end
def rMaxT (K : PySem.W.Frag) : List V → Hp → VK → Prop := fun vs H Q => ∃ (a : Addr) (ns : List Int), vs = [V.ref a] ∧ SqT K H a (ns.map V.int) ∧ 0 < ns.length ∧ ∀ m, m ∈ ns → (∀ y, y ∈ ns → y ≤ m) → Q (.int m) H
def rSumT (K : PySem.W.Frag) : List V → Hp → VK → Prop := fun vs H Q => ∃ (a : Addr) (ns : List Int), vs = [V.ref a] ∧ SqT K H a (ns.map V.int) ∧ Q (.int ns.sum) H
theorem cr_maxT {X : Cx} {K : PySem.W.Frag} (hc : X.calm = true) (hK : X.K = K := by rfl) : CallR X (.builtin "max") (rMaxT K) := by
  subst hK
  intro pins s σ H xs us Q I r h
  obtain ⟨a, ns, rfl, hq, hne, q⟩ := h
  obtain ⟨u, rfl, rx⟩ := vals1 r
  cases rx
  obtain ⟨its, rv, p, hz⟩ := I.tuple hq
  exact max_rawT (I.ok.hd hc) (show s.heap.IsTuple a its.toArray from p) rv.ints hne fun h' tk m t' hk h1 h2 => ⟨.int _, H, I.kept hk, ⟨_, rfl⟩, q m h1 h2⟩
theorem cr_sumT {X : Cx} {K : PySem.W.Frag} (hc : X.calm = true) (hK : X.K = K := by rfl) : CallR X (.builtin "sum") (rSumT K) := by
  subst hK
  intro pins s σ H xs us Q I r h
  obtain ⟨a, ns, rfl, hq, q⟩ := h
  obtain ⟨u, rfl, rx⟩ := vals1 r
  cases rx
  obtain ⟨its, rv, p, hz⟩ := I.tuple hq
  exact sum_rawT (I.ok.hd hc) (show s.heap.IsTuple a its.toArray from p) rv.ints fun h' tk t' hk => ⟨.int _, H, I.kept hk, ⟨_, rfl⟩, q⟩
/-- [.. for i, x in enumerate(xs) if ..], xs a tuple: of each place what f says, or nothing -/
theorem lc_enumF {α : Type} {K : PySem.W.Frag} {a : Addr} {xs : List V} {g : TG} {tt : TT} {te : TE} {vs : List Nat} {σ : L2.St} {H1 : Hp} {D : Addr} {Qd : Hp → Prop} (f : Nat → Option α) (R : Hp → V → α → Prop) (mono : ∀ H H' y c acc, H D = some (.lst acc) → SameBut D H H' → R H y c → R H' y c)
    (h0 : SqT K H1 a xs) (hD : H1 D = none) (hl : xs.length ≤ 1000)
    (hs : ∀ (i : Nat) x, xs[i]? = some x → ∀ H T (Q : VK) (Rr : Hp → Prop), Same H1 H → H T = some (.tup [.int i, x]) → (∃ acc, H D = some (.lst acc)) → (∀ c, f i = some c → ∀ y H', Same H H' → R H' y c → Q y H') → (f i = none → ∀ H', Same H H' → Rr H') →
      g (.ref T) (wipe σ vs) H fun σ2 H2 => wipe σ2 vs = wipe σ vs ∧ tt σ2 H2 fun b H3 => if b = true then te σ2 H3 Q else Rr H3)
    (hd : ∀ H (ys : List V), Same H1 H → H D = some (.lst ys) → All2 (R H) ys ((List.range xs.length).filterMap f) → Qd H) :
    ∃ W : Nat → Nat → Hp → Prop, (∃ m, W 0 m (upd H1 D (.lst []))) ∧ ∀ i m H, W i m H →
      ((Itet K a).stop i H ∧ Qd H) ∨ ((Itet K a).go i H ∧ ∃ Nx : Hp → Prop, (∀ H', Nx H' → ∃ m', m' < m ∧ W (i + 1) m' H') ∧ ∀ x H', (Itet K a).yld i H x H' → g x (wipe σ vs) H' fun σ2 H2 => wipe σ2 vs = wipe σ vs ∧ tt σ2 H2 fun b H3 =>
        if b = true then te σ2 H3 fun y H4 => ∃ acc, H4 D = some (.lst acc) ∧ acc.length < sizeLine ∧ Nx (upd H4 D (.lst (acc ++ [y]))) else Nx H3) := by
  have sb : ∀ {H o}, Same H1 H → Same H1 (upd H D o) := fun {H o} s b u e => by
    rw [upd_ne (ne_of_none e hD)]
    exact s b u e
  refine lc_it walk_enumT (fun i H => Same H1 H ∧ ∃ ys, H D = some (.lst ys) ∧ ys.length ≤ i ∧ All2 (R H) ys ((List.range i).filterMap f)) ⟨sb (Same.refl H1), [], upd_same, Nat.le_refl _, All2.nil⟩ (fun i H _ h => SqT.same h.1 h0) ?_ ?_
  · rintro i v H H' hi ⟨s1, ys, e2, e3, e4⟩ ⟨T, x, y, rfl, nT, rfl, hx, hy⟩
    have hx : x = .int (i : Nat) := (Option.some.inj hx).symm
    subst hx
    have s2 : Same H (upd H T (.tup [.int (i : Nat), y])) := same_upd (Same.refl H) nT
    have e2' := s2 _ _ e2
    refine hs i y hy _ T _ _ (s1.trans s2) upd_same ⟨ys, e2'⟩ (fun c hc z H4 s4 hz => ?_) (fun hn H4 s4 => ?_)
    · have e5 := s4 _ _ e2'
      have sD : SameBut D H4 (upd H4 D (.lst (ys ++ [z]))) := SameBut.upd _ _ _
      refine ⟨ys, e5, Nat.lt_of_le_of_lt (Nat.le_trans e3 (Nat.le_of_lt hi)) (small1000 hl), sb ((s1.trans s2).trans s4), _, upd_same, by rw [List.length_append]; show ys.length + 1 ≤ i + 1; omega, ?_⟩
      rw [List.range_succ, List.filterMap_append, List.filterMap_cons, hc]
      refine All2.append (e4.mono fun u w h => mono _ _ _ _ _ e5 sD (mono _ _ _ _ _ e2' (SameBut.of s4) (mono _ _ _ _ _ e2 (SameBut.of s2) h))) (All2.cons (mono _ _ _ _ _ e5 sD hz) All2.nil)
    · refine ⟨(s1.trans s2).trans s4, ys, s4 _ _ e2', by omega, ?_⟩
      rw [List.range_succ, List.filterMap_append, List.filterMap_cons, hn, List.filterMap_nil, List.append_nil]
      exact e4.mono fun u w h => mono _ _ _ _ _ e2' (SameBut.of s4) (mono _ _ _ _ _ e2 (SameBut.of s2) h)
  · rintro H ⟨s1, ys, e2, e3, e4⟩
    exact hd H ys s1 e2 e4
theorem i_enumT {K : PySem.W.Frag} {σ : L2.St} {H : Hp} {A : TA} {R : It → Hp → Prop} (h : A σ H fun vs H1 => ∃ a xs, vs = [.ref a] ∧ SqT K H1 a xs ∧ R (Itet K a) H1) : iEnumT K A σ H R := h
theorem i_enumA {K : PySem.W.Frag} {H : Hp} {a : Addr} {xs : List V} {R : Addr → Prop} (h1 : SqT K H a xs) (h : R a) : ∃ b xs, [V.ref a] = [.ref b] ∧ SqT K H b xs ∧ R b := ⟨a, xs, rfl, h1, h⟩
theorem i_maxT {K : PySem.W.Frag} {H : Hp} {Q : VK} {a : Addr} {ns : List Int} (h1 : SqT K H a (ns.map V.int)) (h2 : 0 < ns.length) (h : ∀ m, m ∈ ns → (∀ y, y ∈ ns → y ≤ m) → Q (.int m) H) : rMaxT K [.ref a] H Q := ⟨a, ns, rfl, h1, h2, h⟩
theorem i_sumT {K : PySem.W.Frag} {H : Hp} {Q : VK} {a : Addr} {ns : List Int} (h1 : SqT K H a (ns.map V.int)) (h : Q (.int ns.sum) H) : rSumT K [.ref a] H Q := ⟨a, ns, rfl, h1, h⟩
end
end My
/-! cuts of rows, xs.insert(i, y), data of all makes -/
namespace My
open PySem L2
theorem cut_take {xs : List V} {i : Nat} : cutV xs none (some (i : Int)) = xs.take i := by
  unfold cutV
  rw [HT.sIx_none, HT.sIx_nat, List.drop_zero, Nat.sub_zero, ← List.take_eq_take_min]
theorem cut_drop {xs : List V} {i : Nat} : cutV xs (some (i : Int)) none = xs.drop i := by
  unfold cutV
  rw [HT.sIx_none, HT.sIx_nat]
  by_cases h : i ≤ xs.length
  · rw [Nat.min_eq_left h, List.take_of_length_le (by rw [List.length_drop]; exact Nat.le_refl _)]
  · rw [Nat.min_eq_right (by omega), List.drop_length, List.drop_of_length_le (by omega)]
    simp
theorem cut_drop1 {xs : List V} {i : Nat} : cutV xs (some ((i : Int) + 1)) none = xs.drop (i + 1) := cut_drop
theorem cut_set {ns : List Int} {i : Nat} {z : Int} (h : i < ns.length) : cutV (ns.map V.int) none (some (i : Int)) ++ [V.int z] ++ cutV (ns.map V.int) (some ((i : Int) + 1)) none = (ns.set i z).map V.int := by
  rw [cut_take, cut_drop1, List.set_eq_take_append_cons_drop, if_pos h, List.map_append, List.map_cons, List.map_take, List.map_drop, List.append_assoc]
  rfl
theorem kn_flat {K : PySem.W.Frag} {H : Hp} {x : V} (h : flatV x = true) : Kn K H x := by
  cases x <;> first | exact trivial | (cases h; done)
theorem log2_le {n : Int} (h0 : 0 ≤ n) (h1 : n ≤ 1000) : n.natAbs.log2 < 9000 := Nat.lt_of_le_of_lt (Nat.log2_le_self _) (by omega)
/-- xs.insert(i, y) -/
def rIns : V → List V → Hp → VK → Prop := fun x vs H Q => ∃ (l : Addr) (xs : List V) (i : Int) (y : V), x = .ref l ∧ vs = [.int i, y] ∧ H l = some (.lst xs) ∧ xs.length < sizeLine ∧ 0 ≤ i ∧ i < 2 ^ 63 ∧ Q .non (upd H l (.lst (xs.take i.toNat ++ [y] ++ xs.drop i.toNat)))
def tIns (K : PySem.W.Frag) (to : TE) (A : TA) : TE := tBM K "list" rIns to A
theorem pe_insK {X : Cx} {K : PySem.W.Frag} {e : Expr} {to : TE} {t : TA} (h : PE X e (tBM X.K "list" rIns to t)) (hK : X.K = K := by rfl) : PE X e (tIns K to t) := by
  subst hK
  exact h
theorem i_ins {K : PySem.W.Frag} {σ : St} {H : Hp} {Q : VK} {to : TE} {A : TA} (h : to σ H fun x H1 => tyV K "list" x H1 ∧ A σ H1 fun vs H2 => rIns x vs H2 Q) : tIns K to A σ H Q := h
theorem i_rins {H : Hp} {Q : VK} {l : Addr} {xs : List V} {i : Int} {y : V} (h1 : H l = some (.lst xs)) (h2 : xs.length < sizeLine) (h3 : 0 ≤ i) (h4 : i < 2 ^ 63) (h : Q .non (upd H l (.lst (xs.take i.toNat ++ [y] ++ xs.drop i.toNat)))) : rIns (.ref l) [.int i, y] H Q := ⟨l, xs, i, y, rfl, rfl, h1, h2, h3, h4, h⟩
end My
/-! x in [l, x]: x of an own class with an own ==, l a list -/
namespace My
open PySem L2
section
open PySem.W Builtin PySem.Calls
open PyProof.Rows hiding St
variable {prog : Program} {w : World} {A : Around} {E : Value → Shared → Prop} {s : Shared} {K : Frag} {x l C L f : Addr} {h₀ : Heap} {m : Str → Option Value} {ox : Obj} {od : Option Obj} {its : Array Value} {n : Nat}
theorem leq_other {Q : Value → Shared → Prop} (X : K.In s.heap) (I : InstAt s.heap x ox C od) (hl : s.heap.IsList l its) (hs : subIn K (.ref C) (.type "list") = some false) (h : Q .notImplemented s) :
    wpAny (model prog w) A (call (.builtin "list.__eq__") [.ref l, .ref x]) Q E s := by
  obtain ⟨ol, el, cl, kl, dl⟩ := hl
  refine GQ.call_here F.slot_list_eq ⟨ol, el, cl⟩ F.entry_list_eq (F.args_list_eq_2 _ _) ?_
  unfold Builtin.«list.__eq__»
  show wpAny _ _ (do
    let (a, [b]) ← slotArgs "__eq__" 1 ⟨[.ref l, .ref x], []⟩ | unsupported "internal:list.compare"
    _) _ _ _
  refine wpAny_bind (m := slotArgs "__eq__" 1 _) (wpAny_pure ?_)
  refine wpAny_bind (m := isInstance _ _) ((show Looks (model prog w) s.heap (isInstance (.ref x) (.type "list")) false from I.type.andThen (looks_subIn X hs)).here ?_)
  exact wpAny_pure h
/-- l == x, l a list, x of an own class -/
theorem rc_lx {Q : Value → Shared → Prop} (hu : A.units < cLine) (Fh : Fr h₀ L s.heap m) (X₀ : K.In h₀) (I : InstAt s.heap x ox C od) (hl : s.heap.IsList l its) (hs : subIn K (.ref C) (.type "list") = some false)
    (he : findIn K (.ref C) "__eq__" = some (some (.ref f))) (hf : isFn K (.ref f) = true)
    (h : wpAny (model prog w) A (call (.ref f) [.ref x, .ref l]) (fun v s' => ∃ k, v = .bool k ∧ Q (.bool k) s') E s) : wpAny (model prog w) A (richCompare .Eq (.ref l) (.ref x)) Q E s := by
  have X := X₀.keeps Fh.keep
  have tl : s.TypeIs (.ref l) "list" := by
    obtain ⟨ol, el, cl, _⟩ := hl
    exact ⟨ol, el, cl⟩
  have one : wpAny (model prog w) A (tryCompare (.ref l) (cmpInfo .Eq).2.1 (.ref x)) (fun r s' => r = none ∧ s' = s) E s := by
    unfold tryCompare
    refine wpAny_bind (wpAny_callSpecialIfBound?_slot tl F.slot_list_eq (leq_other X I hl hs ?_))
    exact wpAny_pure ⟨rfl, rfl⟩
  have two : wpAny (model prog w) A (tryCompare (.ref x) (cmpInfo .Eq).2.2 (.ref l)) (fun r s' => ∃ k, r = some (.bool k) ∧ Q (.bool k) s') E s := by
    unfold tryCompare
    refine wpAny_bind (ifBound_K X I he hf (wpAny_mono h (fun v s' hv => ?_) fun _ _ e => e))
    obtain ⟨k, rfl, hq⟩ := hv
    exact wpAny_pure ⟨k, rfl, hq⟩
  unfold richCompare
  simp only [oneThing_ref]
  refine wpAny_holding (wpAny_bind (wpAny_cRoomFor hu ?_))
  refine wpAny_bind (wpAny_typeOf tl ?_)
  refine wpAny_bind (I.type.here ?_)
  split
  · refine wpAny_bind ((looks_subIn X hs).here ?_)
    simp only [Bool.false_eq_true, if_false]
    refine wpAny_bind (wpAny_mono one (fun r s' z => ?_) fun _ _ e => e)
    obtain ⟨rfl, rfl⟩ := z
    simp only [Bool.not_false, if_true]
    refine wpAny_bind (wpAny_mono two (fun r s' z => ?_) fun _ _ e => e)
    obtain ⟨k, rfl, hq⟩ := z
    exact wpAny_pure hq
  · rename_i q
    simp at q
/-- the loop of `in` over a list, when the second one is it -/
def Is2 (h : Heap) (p : Addr) (u v : Value) : Prop := ∃ (dd : Option Addr) (sl : Array (Option Value)) (k : Nat) (items : Array Value), h.get? p = some { cls := .type "list", dict := dd, data := .seq items k, slots := sl } ∧ items[0]? = some u ∧ items[1]? = some v
theorem loop1 {p : Addr} {u : Value} {R : Except Value Flow → Shared → Prop} (hp : Is2 s.heap p u (.ref x)) (h : R (.ok (.ret (.bool true))) s) :
    wpAny (model prog w) A.in1 (Builtin.«list.__contains__.loop» ⟨[.ref p, .ref x, rawInt 1], []⟩) (GQ.FinOf prog w A R) (fun e s' => R (.error e) s') s := by
  obtain ⟨dd, sl, k, items, hg, _, h1⟩ := hp
  have hb : wpAny (model prog w) A.in1 (eqBool (.ref x) (.ref x)) (fun r s' => r = true ∧ s' = s) (fun e s' => R (.error e) s') s := SeqAt.EqAt.same _ _ _ _ _ ⟨rfl, rfl⟩
  obtain ⟨hp0, g, d, tk, os⟩ := s
  wp_walk using AutoSeq1.wpAny_loadPart' hg
  have e1 : items[(1 : Int).toNat]? = some (.ref x) := h1
  rw [e1]
  refine wpAny_bind (wpAny_mono hb (fun r s' z => ?_) fun _ _ z => z)
  obtain ⟨rfl, rfl⟩ := z
  wp_walk
  exact h
theorem loop0 {p : Addr} {R : Except Value Flow → Shared → Prop} (nlx : l ≠ x) (hp : Is2 s.heap p (.ref l) (.ref x))
    (h : wpAny (model prog w) A.in1 (richCompare .Eq (.ref l) (.ref x)) (fun v s' => v = .bool false ∧ Is2 s'.heap p (.ref l) (.ref x) ∧ R (.ok (.ret (.bool true))) s') (fun e s' => R (.error e) s') s) :
    wpAny (model prog w) A.in1 (Builtin.«list.__contains__.loop» ⟨[.ref p, .ref x, rawInt 0], []⟩) (GQ.FinOf prog w A R) (fun e s' => R (.error e) s') s := by
  have hb : wpAny (model prog w) A.in1 (eqBool (.ref l) (.ref x)) (fun r s' => r = false ∧ Is2 s'.heap p (.ref l) (.ref x) ∧ R (.ok (.ret (.bool true))) s') (fun e s' => R (.error e) s') s :=
    GQ.eqBool_refG nlx (wpAny_mono h (fun v s' z => ⟨false, z.1, rfl, z.2⟩) fun _ _ z => z)
  obtain ⟨dd, sl, k, items, hg, h0, _⟩ := hp
  obtain ⟨hp0, g, d, tk, os⟩ := s
  wp_walk using AutoSeq1.wpAny_loadPart' hg
  have e1 : items[(0 : Int).toNat]? = some (.ref l) := h0
  rw [e1]
  refine wpAny_bind (wpAny_mono hb (fun r s' z => ?_) fun _ _ z => z)
  obtain ⟨rfl, e, q⟩ := z
  have hrec := loop1 (prog := prog) (w := w) (A := A) e q
  obtain ⟨hp2, g2, d2, tk2, os2⟩ := s'
  wp_walk
  exact ⟨plainId_quiet MeetsSeq.plain_contains_loop _, codeAny_builtin MeetsSeq.entry_contains_loop (by
    rw [Around.under_plainId MeetsSeq.plain_contains_loop _]
    exact hrec)⟩
theorem in_lx {p : Addr} {Q : Value → Shared → Prop} (nlx : l ≠ x) (hp : Is2 s.heap p (.ref l) (.ref x))
    (h : wpAny (model prog w) A.in1 (richCompare .Eq (.ref l) (.ref x)) (fun v s' => v = .bool false ∧ Is2 s'.heap p (.ref l) (.ref x) ∧ Q (.bool true) s') E s) : wpAny (model prog w) A (compareOp .In (.ref x) (.ref p)) Q E s := by
  have hT : s.TypeIs (.ref p) "list" := by
    obtain ⟨dd, sl, k, items, hg, _⟩ := hp
    exact ⟨_, hg, rfl⟩
  show wpAny _ _ (do return .bool (← contains (.ref p) (.ref x))) Q E s
  refine wpAny_bind (PySem.wpAny_contains_slot hT F.slot_list_contains (GQ.call_here F.slot_list_contains hT F.entry_list_contains (F.args_list_contains_2 _ _) ?_))
  unfold Builtin.«list.__contains__»
  refine wpAny_bind (m := slotArgs "__contains__" 1 _) (wpAny_pure ?_)
  refine wpAny_pure ⟨plainId_quiet MeetsSeq.plain_contains_loop _, codeAny_builtin MeetsSeq.entry_contains_loop ?_⟩
  rw [Around.under_plainId MeetsSeq.plain_contains_loop _]
  exact loop0 nlx hp (wpAny_mono h (fun v s' z => ⟨z.1, z.2.1, wpAny_truthy_bool (wpAny_pure z.2.2)⟩) fun _ _ z => z)
end
/-- x in [l, x]: x of an own class whose own == of x and the list l tells False -/
def rIn2 (K : PySem.W.Frag) (C : Addr) (sp : Sp) (E : XK) : R2 := fun x y H Q => ∃ a dx fs p l xs, x = .ref a ∧ H a = some (.ins C dx fs) ∧ y = .ref p ∧ H p = some (.lst [.ref l, .ref a]) ∧ SqL K H l xs ∧ l ≠ a ∧ sp [.ref a, .ref l] H (fun v H' => v = .bl false ∧ H' p = some (.lst [.ref l, .ref a]) ∧ Q (.bl true) H') E
section
variable {X : Cx} {CX : CXT} {n : Nat} {f C : Addr} {fd : FuncData} {ps : List Str} {sp : Sp} {E : XK}
theorem is2_of {P : Program} {w : World} {H : Hp} {h : Heap} {p l a : Addr} (hok : HOk P w H h) (e : H p = some (.lst [.ref l, .ref a])) : Is2 h p (.ref l) (.ref a) := by
  obtain ⟨_, its, k, r, g⟩ := (show ObjOk P w H h p (.lst [.ref l, .ref a]) from hok p _ e)
  cases r with
  | cons r1 r =>
    cases r with
    | cons r2 r =>
      cases r
      cases r1
      cases r2
      exact ⟨none, #[], k, _, g, rfl, rfl⟩
theorem op_in2 {K : PySem.W.Frag} (m : Meth X.K C "__eq__" f) (F : FnOk X.prog X.w X.K X.mg X.base CX n f fd ps sp) (hr : Room (n + 2) X.A) (hb : Binds X.K fd ps []) (hx : Passes CX X E) (hs : PySem.W.subIn X.K (.ref C) (.type "list") = some false) (hK : X.K = K := by rfl) : OpR X (compareOp .In) (rIn2 K C sp E) := by
  subst hK
  intro pins s σ H x y v u Q I rx ry h
  obtain ⟨a, dx, fs, p, l, xs, rfl, ha, rfl, hp, hl, nla, h⟩ := h
  cases rx
  cases ry
  obtain ⟨mA, J, _⟩ := ins_get I.hok ha
  obtain ⟨od, J, _⟩ := J.look
  obtain ⟨mm, hF⟩ := I.fr
  obtain ⟨us, r1, p1, _⟩ := I.list hl
  have h1 : Room (n + 1) X.A.in1 := hr.in1
  refine in_lx nla (is2_of I.hok hp) (rc_lx h1.units0 hF I.ok.mod.kin J p1.isList hs m.at_ m.fn (wpAny_mono (run_own F hb hx ⟨h1.mono (Nat.le_succ _), rfl⟩ I (show Vals [V.ref a, .ref l] [Value.ref a, .ref l] from .cons rfl (.cons rfl .nil)) h) (fun v s' z => ?_) fun _ _ z => z))
  obtain ⟨x, H', I', rx, rfl, hp', z⟩ := z
  obtain rfl : v = Value.bool false := rx
  exact ⟨false, rfl, rfl, is2_of I'.hok hp', .bl true, H', I', rfl, z⟩
end
end My
/-! an own == asked within an except suite -/
namespace My
open PySem L2
open L2H (RoomH PinOk cxH)
theorem _root_.L2H.RoomH.units {k : Nat} {A : Around} (r : RoomH k A) : A.units + 64 < cLine := by
  have := r.un
  omega
/-- what a def does where an exception is handled; it raises nothing -/
structure FnP (P : Program) (w : World) (K : PySem.W.Frag) (mg : Str → Option Value) (base : Heap) (k : Nat) (f : Addr) (fd : FuncData) (ps : List Str) (sp : Sp) : Prop where
  len : ∀ vs H Q E, sp vs H Q E → vs.length = ps.length
  run : ∀ (A : Around) (outer : List Env) (s : Shared) (H : Hp) (args : Args) (us : List Value) (vs : List V) (Q : VK) (E : XK) (p : Addr × Obj), RoomH k A → PinOk outer H s p → Env0 P w K mg base A outer s H → BindsTo s fd args (ps.zip us) → Vals vs us → sp vs H Q E →
    codeAny (model P w) A (.call (.ref f) args) (CR CX0 outer P w H s Q E) s
theorem fund_okP {P : Program} {w : World} {K : PySem.W.Frag} {mg : Str → Option Value} {base : Heap} {x qual : Str} {params : Arguments} {body : List Stmt} {scope : Scope} {dvs : List V} {f : Addr} {fd : FuncData} {N ps : List Str} {k : Nat} {sp : Sp}
    (F : FunD K x qual params body scope dvs [] f fd) (S : FnScope N ps scope) (len : ∀ vs H Q E, sp vs H Q E → vs.length = ps.length)
    (hbody : ∀ (cdv : Value) (A : Around) (outer : List Env) (s : Shared) (H : Hp) (vs : List V) (Q : VK) (E : XK) (p : Addr × Obj), RoomH k (A.deeper (PyProof.Rows.envOfC qual scope s.heap.objs.size f cdv)) → sp vs H Q E →
      ∃ t, PSs (cxH CX0 P w K mg base N qual scope f cdv A outer s H E p) body t ∧ t { nx := fun _ H' => Q .non H', rt := Q } (start N vs) H) : FnP P w K mg base (k + 1) f fd ps sp := by
  obtain ⟨oc, od, dV, kV, doc, pm, an, cdv, ct, osl, rfl, look, code, _, _⟩ := F.ex
  refine ⟨len, fun A outer s H args us vs Q E p room pin e1 bound rv wish => ?_⟩
  have eq1 := len _ _ _ _ wish
  have kin := e1.mod.kin.keeps fun b o z => (e1.bs b o z).1
  have nolim := e1.mod.nolimit.keeps fun b o z => (e1.bs b o z).1
  have kinds : ∀ y ∈ ps.zip us, scope.names.lookup y.1 = some .local ∨ (scope.names.lookup y.1 = some .cell ∧ ((cellsFrom (s.heap.objs.size + 1) scope.names []).lookup y.1).isSome = true) := by
    rintro ⟨n, v⟩ hm
    have hn := S.par n (List.of_mem_zip hm).1
    exact hn.imp id fun z => ⟨z, PySem.W.cellsFrom_some _ _ _ (.inl z)⟩
  refine codeAny_call_function room.depth (kin _ _ look) rfl S.co S.gen rfl (PySem.W.codeRec_of kin code) (bound _ _ _ _ ?_)
  refine wpAny_newFunctionEnv_cells S.kind kinds fun env ee s2 called => ?_
  cases ee
  obtain ⟨t, walk, ends⟩ := hbody cdv A outer s H vs Q E p (room.deeper _) wish
  have J0 := L2H.inv_startH (CX := CX0) (E := E) (qual := qual) S pin e1 eq1 rv called
  refine ⟨nolim.keeps called.toInCall.keep, codeAny_func (wpAny_mono (walk.run [] s2 (start N vs) H _ J0 ends) (fun fl s3 z => ?_) fun _ _ z => z)⟩
  match fl, z with
  | .ret u, ⟨v, σ', H', J, rv', q⟩ => exact ⟨v, H', J.os, J.bare, J.base, J.hok, rv', q⟩
  | .next, ⟨σ', H', J, q⟩ => exact ⟨V.non, H', J.os, J.bare, J.base, J.hok, rfl, q⟩
  | .brk, ⟨_, _, _, q⟩ => exact q.elim
  | .cont, ⟨_, _, _, q⟩ => exact q.elim
section
variable {X : Cx} {n : Nat} {f C : Addr} {fd : FuncData} {ps : List Str} {sp : Sp}
theorem run_ownP {p : Addr × Obj} {pins : List (Addr × Obj)} {σ : St} {H : Hp} {s : Shared} {Q : VK} {us : List Value} {vs : List V} (F : FnP X.prog X.w X.K X.mg X.base n f fd ps sp) (hr : RoomH n X.A) (hp : p ∈ X.pn) (hb : Binds X.K fd ps [])
    (I : Inv X pins σ H s) (rv : Vals vs us) (h : sp vs H Q (fun _ _ _ => False)) : wpAny (model X.prog X.w) X.A (call (.ref f) us) (EP X pins σ Q) X.xe s := by
  have lens : us.length = ps.length := rv.length.symm.trans (F.len _ _ _ _ h)
  have bound := hb s us I.kIn (by rw [List.append_nil]; exact lens)
  rw [List.append_nil] at bound
  obtain ⟨g1, g2, g3, g4, g5⟩ := I.pin p (List.mem_append_left _ hp)
  have pin : PinOk X.stack H s p := ⟨g1, g2, fun z => (List.mem_cons.mp (I.stkSub p.1 z)).elim g3 g4, g5⟩
  refine wpAny_call (codeAny_mono (F.run X.A X.stack s H ⟨us, []⟩ us vs Q (fun _ _ _ => False) p hr pin I.env0 bound rv h) fun r s2 z => ?_)
  match r, z with
  | .error e, z => exact (show Passes CX0 X (fun _ _ _ => False) from pass0) pins σ H s e s2 I z
  | .ok (.ret u), z => exact I.after z
  | .ok .next, z => exact z.elim
  | .ok .brk, z => exact z.elim
  | .ok .cont, z => exact z.elim
/-- x == y within a suite: x of C, whose own == is sp -/
theorem op_eqP {p : Addr × Obj} {K : PySem.W.Frag} (m : Meth X.K C "__eq__" f) (F : FnP X.prog X.w X.K X.mg X.base n f fd ps sp) (hr : RoomH n X.A) (hp : p ∈ X.pn) (hb : Binds X.K fd ps []) (q : EqC X.K C) (hK : X.K = K := by rfl) : OpR X (compareOp .Eq) (rEqO K C sp (fun _ _ _ => False) false) := by
  subst hK
  intro pins s σ H x y v u Q I rx ry h
  obtain ⟨a, dx, fs, rfl, ha, hy, h⟩ := h
  cases rx
  obtain ⟨mA, J, _⟩ := ins_get I.hok ha
  obtain ⟨od, J, _⟩ := J.look
  obtain ⟨mm, hF⟩ := I.fr
  obtain ⟨t, hl, hn⟩ := ty_looks q I ry hy
  show wpAny (model X.prog X.w) X.A (richCompare .Eq (.ref a) u) (EP X pins σ Q) X.xe s
  refine PySem.W.cmp_K (op := .Eq) (by have := hr.un; omega) hF I.ok.mod.kin J hl hn m.at_ m.fn (wpAny_mono (run_ownP F hr hp hb I (show Vals [V.ref a, y] [Value.ref a, u] from .cons rfl (.cons ry .nil)) h) (fun v s' z => ?_) fun _ _ z => z)
  obtain ⟨x, H', I', rx, b, rfl, z⟩ := z
  obtain rfl : v = Value.bool b := rx
  exact ⟨.bl b, H', I', rfl, z⟩
theorem roomH_suite {k : Nat} {a : Addr} {pn : List (Addr × Obj)} {X : Cx} (r : Room k X.A) : RoomH k (X.suite a pn).A := ⟨r.dp, r.un⟩
end
end My
/-! texts of numbers: str(n), sep.join(row), f"..{x}.." -/
namespace My
open PySem L2
/-- a number's text -/
def numT (n : Int) : Str := Str.ofString (toString n)
def rStrI : List V → Hp → VK → Prop := fun xs H Q => ∃ i : Int, xs = [.int i] ∧ i.natAbs.log2 < 1920 ∧ Q (.str (numT i)) H
theorem call_strI {X : Cx} : CallR X (.type "str") rStrI := call_str_int
theorem i_strI {i : Int} {H : Hp} {Q : VK} (h1 : i.natAbs.log2 < 1920) (h : Q (.str (numT i)) H) : rStrI [.int i] H Q := ⟨i, rfl, h1, h⟩
def tJoinK (K : PySem.W.Frag) (to te : TE) : TE := fun σ H Q => to σ H fun x H1 => (∃ a, x = .str a) ∧ te σ H1 fun y H2 => ∃ (a : Str) (p : Addr) (ys : List Str), x = .str a ∧ [y] = [.ref p] ∧ (SqL K H2 p (ys.map V.str) ∨ SqT K H2 p (ys.map V.str)) ∧ (ys.map (·.length)).sum + ys.length * a.length ≤ 16777216 ∧ Q (.str (Txt.join a ys)) H2
theorem pe_joinK {X : Cx} {K : PySem.W.Frag} {o e : Expr} {to te : TE} {apos pos : Pos} (ho : PE X o to) (he : PE X e te) (hK : X.K = K := by rfl)
    (hbase : attributeBase o "join" X.env (eval o X.env) = eval o X.env := by rfl) (hline : (apos.endLine == pos.line) = true := by rfl) (hst : starEach [e] X.env = [(false, eval e X.env)] := by rfl) : PE X (.Call (.Attribute o "join" apos) [e] [] pos) (tJoinK K to te) := by
  subst hK
  exact pe_join ho he (hs := hst) (hbase := hbase) (hline := hline)
theorem i_joinK {K : PySem.W.Frag} {to te : TE} {σ : St} {H : Hp} {Q : VK} (h : to σ H fun x H1 => (∃ a, x = .str a) ∧ te σ H1 fun y H2 => ∃ (a : Str) (p : Addr) (ys : List Str), x = .str a ∧ [y] = [.ref p] ∧ (SqL K H2 p (ys.map V.str) ∨ SqT K H2 p (ys.map V.str)) ∧ (ys.map (·.length)).sum + ys.length * a.length ≤ 16777216 ∧ Q (.str (Txt.join a ys)) H2) : tJoinK K to te σ H Q := h
theorem i_joinA {a : Str} {R : Prop} (h : R) : (∃ b, V.str a = .str b) ∧ R := ⟨⟨a, rfl⟩, h⟩
theorem i_joinR {K : PySem.W.Frag} {H : Hp} {R : Str → List Str → Prop} {a : Str} {p : Addr} {ys : List Str} (h1 : SqL K H p (ys.map V.str) ∨ SqT K H p (ys.map V.str)) (h2 : (ys.map (·.length)).sum + ys.length * a.length ≤ 16777216) (h : R a ys) :
    ∃ (b : Str) (q : Addr) (zs : List Str), V.str a = .str b ∧ [V.ref p] = [.ref q] ∧ (SqL K H q (zs.map V.str) ∨ SqT K H q (zs.map V.str)) ∧ (zs.map (·.length)).sum + zs.length * b.length ≤ 16777216 ∧ R b zs := ⟨a, p, ys, rfl, rfl, h1, h2, h⟩
def tFs (ts : List TE) : TE := fun σ H Q => tJs ts Str.empty σ H fun out H1 => Q (.str out) H1
theorem pe_fs {X : Cx} {v1 v2 : Expr} {rest : List Expr} {ts : List TE} {pos : Pos} (h : PJ X (v1 :: v2 :: rest) ts) : PE X (.JoinedStr (v1 :: v2 :: rest) pos) (tFs ts) := pe_joined h
section
variable {σ : St} {H : Hp} {Q : VK} {t te : TE} {ts : List TE} {acc z : Str} {R : Str → Hp → Prop}
theorem i_fs (h : tJs ts Str.empty σ H fun out H1 => Q (.str out) H1) : tFs ts σ H Q := h
theorem i_js0 (h : R acc H) : tJs [] acc σ H R := h
theorem i_js1 (h : t σ H fun x H1 => ∃ y : Str, x = .str y ∧ (acc ++ y).length ≤ sizeLine ∧ tJs ts (acc ++ y) σ H1 R) : tJs (t :: ts) acc σ H R := h
theorem i_jsS (h1 : (acc ++ z).length ≤ sizeLine) (h : tJs ts (acc ++ z) σ H R) : ∃ y : Str, V.str z = .str y ∧ (acc ++ y).length ≤ sizeLine ∧ tJs ts (acc ++ y) σ H R := ⟨z, rfl, h1, h⟩
theorem i_fmt (h : te σ H fun x H1 => (∃ y : Str, x = .str y ∧ y.length ≤ sizeLine ∧ Q (.str y) H1) ∨ ∃ i : Int, x = .int i ∧ i.natAbs.log2 < 1920 ∧ Q (.str (numT i)) H1) : tFmt te σ H Q := h
theorem i_fmtS {S : Str → Prop} {L : Prop} (h1 : z.length ≤ sizeLine) (h : S z) : (∃ y : Str, V.str z = .str y ∧ y.length ≤ sizeLine ∧ S y) ∨ L := .inl ⟨z, rfl, h1, h⟩
end
theorem numT_len {n : Int} (h0 : 0 ≤ n) (h : n < 10 ^ 40) : (numT n).length ≤ 40 := PyProof.Rows.toString_length_le h0 (by decide) h
theorem num_log {n : Int} (h0 : 0 ≤ n) (h : n < 10 ^ 40) : n.natAbs.log2 < 1920 := by
  have h1 : n.natAbs < 2 ^ 140 := by
    have : (10 : Int) ^ 40 < 2 ^ 140 := by decide
    omega
  have : n.natAbs.log2 < 140 := by
    by_cases hz : n.natAbs = 0
    · rw [hz]; decide
    · exact (Nat.log2_lt hz).mpr h1
  omega
/-- the texts of a row of numbers -/
def numsT (ns : List Int) : List Str := ns.map numT
theorem numsT_sum : ∀ {ns : List Int}, (∀ n ∈ ns, 0 ≤ n ∧ n < 10 ^ 40) → ((numsT ns).map (·.length)).sum ≤ ns.length * 40
  | [], _ => Nat.le_refl _
  | n :: ns, h => by
    have h1 := numT_len (h n List.mem_cons_self).1 (h n List.mem_cons_self).2
    have h2 := numsT_sum (ns := ns) fun x hx => h x (List.mem_cons_of_mem _ hx)
    show (numT n).length + ((numsT ns).map (·.length)).sum ≤ (ns.length + 1) * 40
    omega
theorem joinT_len {ns : List Int} {sep : Str} (h : ∀ n ∈ ns, 0 ≤ n ∧ n < 10 ^ 40) (hl : ns.length ≤ 5) (hs : sep.length ≤ 2) : (Txt.join sep (numsT ns)).length ≤ 300 := by
  rw [show Txt.join sep (numsT ns) = Str.join sep (numsT ns) from StrLaws.glued_eq_join sep _]
  have h1 := StrLaws.join_length_le sep (numsT ns)
  have h2 := numsT_sum h
  have h3 : (numsT ns).length = ns.length := List.length_map ..
  rw [h3] at h1
  have h4 : ns.length * sep.length ≤ 5 * 2 := Nat.mul_le_mul hl hs
  omega
theorem joinT_ok {ns : List Int} {sep : Str} (h : ∀ n ∈ ns, 0 ≤ n ∧ n < 10 ^ 40) (hl : ns.length ≤ 5) (hs : sep.length ≤ 2) : ((numsT ns).map (·.length)).sum + (numsT ns).length * sep.length ≤ 16777216 := by
  have h2 := numsT_sum h
  have h3 : (numsT ns).length = ns.length := List.length_map ..
  rw [h3]
  have h4 : ns.length * sep.length ≤ 5 * 2 := Nat.mul_le_mul hl hs
  omega
/-- two readings of one operator -/
def r2or (r1 r2 : R2) : R2 := fun x y H Q => r1 x y H Q ∨ r2 x y H Q
theorem opr_or {X : Cx} {o : Value → Value → Sem Value} {r1 r2 : R2} (h1 : OpR X o r1) (h2 : OpR X o r2) : OpR X o (r2or r1 r2) := by
  intro pins s σ H x y v u Q I rx ry h
  rcases h with h | h
  · exact h1 pins s σ H x y v u Q I rx ry h
  · exact h2 pins s σ H x y v u Q I rx ry h
theorem i_or1 {r1 r2 : R2} {x y : V} {H : Hp} {Q : VK} (h : r1 x y H Q) : r2or r1 r2 x y H Q := .inl h
theorem i_or2 {r1 r2 : R2} {x y : V} {H : Hp} {Q : VK} (h : r2 x y H Q) : r2or r1 r2 x y H Q := .inr h
end My
/-! a dict of the module with text keys; a call of a def that a name or an item holds -/
namespace My
open PySem L2
def KDc (K : PySem.W.Frag) (w : World) (a : Addr) (x : Str) (v : V) : Prop := KDct K w a x v ∧ (a == sysModules) = false
def rInKd (K : PySem.W.Frag) (w : World) : R2 := fun x y H Q => ∃ p z v, x = .str z ∧ y = .ref p ∧ KDc K w p z v ∧ Q (.bl true) H
def rNotInKd (K : PySem.W.Frag) (w : World) : R2 := fun x y H Q => ∃ p z v, x = .str z ∧ y = .ref p ∧ KDc K w p z v ∧ Q (.bl false) H
def rIxKd (K : PySem.W.Frag) (w : World) : R2 := fun x y H Q => ∃ p z v, x = .ref p ∧ y = .str z ∧ KDc K w p z v ∧ Q v H
section
variable {X : Cx} {K : PySem.W.Frag}
theorem op_inKd {w : World} (hK : X.K = K := by rfl) (hW : X.w = w := by rfl) : OpR X (compareOp .In) (rInKd K w) := by
  subst hK hW
  intro pins s σ H x y v u Q I rx ry h
  obtain ⟨p, z, r, rfl, rfl, ⟨⟨es, n, u0, hl, hk, e, ru⟩, hd⟩, q⟩ := h
  exact op_in_kd ⟨hl, hk, hd⟩ pins s σ H _ _ v u Q I rx ry ⟨z, _, rfl, rfl, e, q⟩
theorem op_notInKd {w : World} (hK : X.K = K := by rfl) (hW : X.w = w := by rfl) : OpR X (compareOp .NotIn) (rNotInKd K w) := by
  subst hK hW
  intro pins s σ H x y v u Q I rx ry h
  obtain ⟨p, z, r, rfl, rfl, ⟨⟨es, n, u0, hl, hk, e, ru⟩, hd⟩, q⟩ := h
  exact op_notIn_kd ⟨hl, hk, hd⟩ pins s σ H _ _ v u Q I rx ry ⟨z, _, rfl, rfl, e, q⟩
theorem ix_Kd {w : World} (hK : X.K = K := by rfl) (hW : X.w = w := by rfl) : IxR X (rIxKd K w) := by
  subst hK hW
  intro value slice pins s σ H x y v u Q I rx ry h hs
  obtain ⟨p, z, r, rfl, rfl, D, q⟩ := h
  exact ix_kdict value slice pins s σ H _ _ v u Q I rx ry ⟨p, z, r, rfl, rfl, D.1, q⟩ hs
theorem i_inKd {w : World} {H : Hp} {Q : VK} {p : Addr} {z : Str} {v : V} (h1 : KDc K w p z v) (h : Q (.bl true) H) : rInKd K w (.str z) (.ref p) H Q := ⟨p, z, v, rfl, rfl, h1, h⟩
theorem i_notInKd {w : World} {H : Hp} {Q : VK} {p : Addr} {z : Str} {v : V} (h1 : KDc K w p z v) (h : Q (.bl false) H) : rNotInKd K w (.str z) (.ref p) H Q := ⟨p, z, v, rfl, rfl, h1, h⟩
theorem i_ixKd {w : World} {H : Hp} {Q : VK} {p : Addr} {z : Str} {v : V} (h1 : KDc K w p z v) (h : Q v H) : rIxKd K w (.ref p) (.str z) H Q := ⟨p, z, v, rfl, rfl, h1, h⟩
/-- the i-th slot holds one of some defs -/
def tCallR (i : Nat) (S : Addr → Sp → Prop) (t : TA) : TE := fun σ H Q => ∃ f sp, σ[i]? = some (some (.ref f)) ∧ S f sp ∧ t σ H fun vs H1 => sp vs H1 Q (fun _ _ _ => False)
theorem pe_callR {k i : Nat} {x : Str} {p pos : Pos} {e : Expr} {es : List Expr} {t : TA} {S : Addr → Sp → Prop} (A : ∀ f sp, S f sp → Held X.prog X.w X.K X.mg X.base k f sp) (hr : Room k X.A) (hN : X.N[i]? = some x) (hv : Vis X.env.scope x) (ha : PA X (e :: es) t)
    (hdb : (x == ("__debug__" : Str)) = false := by decide) (hcd : (x == ("__classdict__" : Str)) = false := by decide)
    (he : starEach (e :: es) X.env = (false, eval e X.env) :: starEach es X.env := by rfl) (hpl : (backTo pos (starEach es X.env)).any (·.1) = false := by rfl) : PE X (.Call (.Name x p) (e :: es) [] pos) (tCallR i S t) := by
  refine ⟨fun pins s σ H Q I h => ?_⟩
  obtain ⟨f, sp, hs, hS, ht⟩ := h
  obtain ⟨fd, ps, F, hk, hb⟩ := (A f sp hS).ex
  refine (pe_callL (i := i) (f := f) (sp := sp) (dvs := []) (E := fun _ _ _ => False) F hr hN hv hk hb .nil (fun _ _ _ _ _ _ _ z => z.elim) ha hdb hcd he hpl).run pins s σ H Q I ⟨hs, ?_⟩
  have e0 : (fun (vs : List V) (H1 : Hp) => sp (vs ++ []) H1 Q (fun _ _ _ => False)) = fun vs H1 => sp vs H1 Q (fun _ _ _ => False) := by
    funext vs H1
    rw [List.append_nil]
  show t σ H (fun vs H1 => sp (vs ++ []) H1 Q (fun _ _ _ => False))
  rw [e0]
  exact ht
theorem i_callR {i : Nat} {S : Addr → Sp → Prop} {t : TA} {σ : St} {H : Hp} {Q : VK} {f : Addr} (sp : Sp) (h1 : σ[i]? = some (some (.ref f))) (h2 : S f sp) (h : t σ H fun vs H1 => sp vs H1 Q (fun _ _ _ => False)) : tCallR i S t σ H Q := ⟨f, sp, h1, h2, h⟩
end
end My
/-! [.. for x in xs if ..]: of each place what f says, or nothing -/
namespace My
open PySem L2
theorem lc_fil {α : Type} {J : It} {G : Hp → Prop} {g : TG} {tt : TT} {te : TE} {vs : List Nat} {σ : L2.St} {H1 : Hp} {D : Addr} {Qd : Hp → Prop} {n : Nat} (at_ : Nat → V → Prop) (f : Nat → Option α) (R : Hp → V → α → Prop) (mono : ∀ H H' y c acc, H D = some (.lst acc) → SameBut D H H' → R H y c → R H' y c)
    (w : Walk J n G fun i H x H' => H' = H ∧ at_ i x) (hl : n < sizeLine) (hG : ∀ H, Same H1 H → G H) (hD : H1 D = none)
    (hs : ∀ i x, i < n → at_ i x → ∀ H (Q : VK) (Rr : Hp → Prop), Same H1 H → (∃ acc, H D = some (.lst acc)) → (∀ c, f i = some c → ∀ y H', Same H H' → R H' y c → Q y H') → (f i = none → ∀ H', Same H H' → Rr H') →
      g x (wipe σ vs) H fun σ2 H2 => wipe σ2 vs = wipe σ vs ∧ tt σ2 H2 fun b H3 => if b = true then te σ2 H3 Q else Rr H3)
    (hd : ∀ H (ys : List V), Same H1 H → H D = some (.lst ys) → All2 (R H) ys ((List.range n).filterMap f) → Qd H) :
    ∃ W : Nat → Nat → Hp → Prop, (∃ m, W 0 m (upd H1 D (.lst []))) ∧ ∀ i m H, W i m H →
      (J.stop i H ∧ Qd H) ∨ (J.go i H ∧ ∃ Nx : Hp → Prop, (∀ H', Nx H' → ∃ m', m' < m ∧ W (i + 1) m' H') ∧ ∀ x H', J.yld i H x H' → g x (wipe σ vs) H' fun σ2 H2 => wipe σ2 vs = wipe σ vs ∧ tt σ2 H2 fun b H3 =>
        if b = true then te σ2 H3 fun y H4 => ∃ acc, H4 D = some (.lst acc) ∧ acc.length < sizeLine ∧ Nx (upd H4 D (.lst (acc ++ [y]))) else Nx H3) := by
  have sb : ∀ {H o}, Same H1 H → Same H1 (upd H D o) := fun {H o} s b u e => by
    rw [upd_ne (ne_of_none e hD)]
    exact s b u e
  refine lc_it w (fun i H => Same H1 H ∧ ∃ ys, H D = some (.lst ys) ∧ ys.length ≤ i ∧ All2 (R H) ys ((List.range i).filterMap f)) ⟨sb (Same.refl H1), [], upd_same, Nat.le_refl _, All2.nil⟩ (fun i H _ h => hG H h.1) ?_ ?_
  · rintro i v H H' hi ⟨s1, ys, e2, e3, e4⟩ ⟨rfl, hx⟩
    refine hs i v hi hx H' _ _ s1 ⟨ys, e2⟩ (fun c hc z H4 s4 hz => ?_) (fun hn H4 s4 => ?_)
    · have e5 := s4 _ _ e2
      have sD : SameBut D H4 (upd H4 D (.lst (ys ++ [z]))) := SameBut.upd _ _ _
      refine ⟨ys, e5, Nat.lt_of_le_of_lt (Nat.le_trans e3 (Nat.le_of_lt hi)) hl, sb (s1.trans s4), _, upd_same, by rw [List.length_append]; show ys.length + 1 ≤ i + 1; omega, ?_⟩
      rw [List.range_succ, List.filterMap_append, List.filterMap_cons, hc]
      refine All2.append (e4.mono fun u w h => mono _ _ _ _ _ e5 sD (mono _ _ _ _ _ e2 (SameBut.of s4) h)) (All2.cons (mono _ _ _ _ _ e5 sD hz) All2.nil)
    · refine ⟨s1.trans s4, ys, s4 _ _ e2, by omega, ?_⟩
      rw [List.range_succ, List.filterMap_append, List.filterMap_cons, hn, List.filterMap_nil, List.append_nil]
      exact e4.mono fun u w h => mono _ _ _ _ _ e2 (SameBut.of s4) h
  · rintro H ⟨s1, ys, e2, e3, e4⟩
    exact hd H ys s1 e2 e4
theorem range_filter {α : Type} (P : α → Bool) (as : List α) : (List.range as.length).filterMap (fun i => (as[i]?).filter P) = as.filter P := by
  have key : ∀ (bs : List α), (List.range bs.length).filterMap (fun i => (bs[i]?).filter P) = bs.filter P := by
    intro bs
    induction bs with
    | nil => rfl
    | cons b bs ih =>
      rw [List.length_cons, List.range_succ_eq_map, List.filterMap_cons, List.filterMap_map]
      have e : (fun i => ((b :: bs)[i]?).filter P) ∘ Nat.succ = fun i => (bs[i]?).filter P := by
        funext i
        simp
      rw [e, ih]
      cases h : P b <;> simp [Option.filter, h]
  exact key as
/-- things that stay what they are -/
structure Stays {α : Type} (R : Hp → V → α → Prop) : Prop where
  but : ∀ {D H H' y c acc}, H D = some (.lst acc) → SameBut D H H' → R H y c → R H' y c
  same : ∀ {H H' y c}, Same H H' → R H y c → R H' y c
section
variable {α : Type} {K : PySem.W.Frag} {a : Addr} {xs : List V} {as : List α} {g : TG} {tt : TT} {te : TE} {vs : List Nat} {σ : L2.St} {H1 : Hp} {D : Addr} {Qd : Hp → Prop}
/-- [x for x in xs if ..] -/
theorem lc_filL (R : Hp → V → α → Prop) (P : α → Bool) (st : Stays R) (h0 : SqL K H1 a xs) (hx : All2 (R H1) xs as) (hD : H1 D = none) (hl : xs.length ≤ 1000)
    (hs : ∀ x c, c ∈ as → ∀ H (Q : VK) (Rr : Hp → Prop), Same H1 H → R H x c → (∃ acc, H D = some (.lst acc)) → (P c = true → ∀ H', Same H H' → Q x H') → (P c = false → ∀ H', Same H H' → Rr H') →
      g x (wipe σ vs) H fun σ2 H2 => wipe σ2 vs = wipe σ vs ∧ tt σ2 H2 fun b H3 => if b = true then te σ2 H3 Q else Rr H3)
    (hd : ∀ H (ys : List V), Same H1 H → H D = some (.lst ys) → All2 (R H) ys (as.filter P) → Qd H) :
    ∃ W : Nat → Nat → Hp → Prop, (∃ m, W 0 m (upd H1 D (.lst []))) ∧ ∀ i m H, W i m H →
      ((Itl K a).stop i H ∧ Qd H) ∨ ((Itl K a).go i H ∧ ∃ Nx : Hp → Prop, (∀ H', Nx H' → ∃ m', m' < m ∧ W (i + 1) m' H') ∧ ∀ x H', (Itl K a).yld i H x H' → g x (wipe σ vs) H' fun σ2 H2 => wipe σ2 vs = wipe σ vs ∧ tt σ2 H2 fun b H3 =>
        if b = true then te σ2 H3 fun y H4 => ∃ acc, H4 D = some (.lst acc) ∧ acc.length < sizeLine ∧ Nx (upd H4 D (.lst (acc ++ [y]))) else Nx H3) := by
  refine lc_fil (fun i x => xs[i]? = some x) (fun i => (as[i]?).filter P) R (fun H H' y c acc e s h => st.but e s h) walk_list (small1000 hl) (fun _ s => Same.seq s h0) hD (fun i x _ hi H Q Rr s1 hacc k1 k2 => ?_) (fun H ys s1 e1 e2 => hd H ys s1 e1 (by rw [hx.1, range_filter] at e2; exact e2))
  obtain ⟨c, hc, r⟩ := hx.get hi
  have r1 := st.same s1 r
  refine hs x c (List.mem_of_getElem? hc) H Q Rr s1 r1 hacc (fun p H' s' => k1 c (by show (as[i]?).filter P = some c; rw [hc]; simp [Option.filter, p]) x H' s' (st.same s' r1)) (fun p H' s' => k2 (by show (as[i]?).filter P = none; rw [hc]; simp [Option.filter, p]) H' s')
theorem lc_filT (R : Hp → V → α → Prop) (P : α → Bool) (st : Stays R) (h0 : SqT K H1 a xs) (hx : All2 (R H1) xs as) (hD : H1 D = none) (hl : xs.length ≤ 1000)
    (hs : ∀ x c, c ∈ as → ∀ H (Q : VK) (Rr : Hp → Prop), Same H1 H → R H x c → (∃ acc, H D = some (.lst acc)) → (P c = true → ∀ H', Same H H' → Q x H') → (P c = false → ∀ H', Same H H' → Rr H') →
      g x (wipe σ vs) H fun σ2 H2 => wipe σ2 vs = wipe σ vs ∧ tt σ2 H2 fun b H3 => if b = true then te σ2 H3 Q else Rr H3)
    (hd : ∀ H (ys : List V), Same H1 H → H D = some (.lst ys) → All2 (R H) ys (as.filter P) → Qd H) :
    ∃ W : Nat → Nat → Hp → Prop, (∃ m, W 0 m (upd H1 D (.lst []))) ∧ ∀ i m H, W i m H →
      ((Itt K a).stop i H ∧ Qd H) ∨ ((Itt K a).go i H ∧ ∃ Nx : Hp → Prop, (∀ H', Nx H' → ∃ m', m' < m ∧ W (i + 1) m' H') ∧ ∀ x H', (Itt K a).yld i H x H' → g x (wipe σ vs) H' fun σ2 H2 => wipe σ2 vs = wipe σ vs ∧ tt σ2 H2 fun b H3 =>
        if b = true then te σ2 H3 fun y H4 => ∃ acc, H4 D = some (.lst acc) ∧ acc.length < sizeLine ∧ Nx (upd H4 D (.lst (acc ++ [y]))) else Nx H3) := by
  refine lc_fil (fun i x => xs[i]? = some x) (fun i => (as[i]?).filter P) R (fun H H' y c acc e s h => st.but e s h) walk_tup (small1000 hl) (fun _ s => SqT.same s h0) hD (fun i x _ hi H Q Rr s1 hacc k1 k2 => ?_) (fun H ys s1 e1 e2 => hd H ys s1 e1 (by rw [hx.1, range_filter] at e2; exact e2))
  obtain ⟨c, hc, r⟩ := hx.get hi
  have r1 := st.same s1 r
  refine hs x c (List.mem_of_getElem? hc) H Q Rr s1 r1 hacc (fun p H' s' => k1 c (by show (as[i]?).filter P = some c; rw [hc]; simp [Option.filter, p]) x H' s' (st.same s' r1)) (fun p H' s' => k2 (by show (as[i]?).filter P = none; rw [hc]; simp [Option.filter, p]) H' s')
end
theorem all2_int : ∀ {ys : List V} {ks : List Nat}, All2 (fun y (k : Nat) => y = V.int k) ys ks → ys = ks.map fun k => V.int (k : Nat)
  | [], [], _ => rfl
  | y :: ys, k :: ks, h => by
    have e := h.2 0 y k rfl rfl
    have t := all2_int (ys := ys) (ks := ks) ⟨Nat.succ.inj h.1, fun i a b ha hb => h.2 (i + 1) a b ha hb⟩
    rw [List.map_cons, ← t, e]
  | [], _ :: _, h => nomatch h.1
  | _ :: _, [], h => nomatch h.1
theorem fm_if (P : Nat → Bool) : ∀ l : List Nat, l.filterMap (fun i => if P i = true then some i else none) = l.filter P
  | [] => rfl
  | x :: l => by
    rw [List.filterMap_cons, fm_if P l, List.filter_cons]
    cases h : P x <;> simp
/-- [k for k in range(n) if ..] -/
theorem lc_filR {g : TG} {tt : TT} {te : TE} {vs : List Nat} {σ : L2.St} {H1 : Hp} {D : Addr} {Qd : Hp → Prop} {n : Nat} (P : Nat → Bool) (hl : n ≤ 1000) (hD : H1 D = none)
    (hs : ∀ i, i < n → ∀ H (Q : VK) (Rr : Hp → Prop), Same H1 H → (∃ acc, H D = some (.lst acc)) → (P i = true → ∀ H', Same H H' → Q (.int (i : Nat)) H') → (P i = false → ∀ H', Same H H' → Rr H') →
      g (.int (0 + i)) (wipe σ vs) H fun σ2 H2 => wipe σ2 vs = wipe σ vs ∧ tt σ2 H2 fun b H3 => if b = true then te σ2 H3 Q else Rr H3)
    (hd : ∀ H, Same H1 H → H D = some (.lst (((List.range n).filter P).map fun k => V.int (k : Nat))) → Qd H) :
    ∃ W : Nat → Nat → Hp → Prop, (∃ m, W 0 m (upd H1 D (.lst []))) ∧ ∀ i m H, W i m H →
      ((Itr 0 n).stop i H ∧ Qd H) ∨ ((Itr 0 n).go i H ∧ ∃ Nx : Hp → Prop, (∀ H', Nx H' → ∃ m', m' < m ∧ W (i + 1) m' H') ∧ ∀ x H', (Itr 0 n).yld i H x H' → g x (wipe σ vs) H' fun σ2 H2 => wipe σ2 vs = wipe σ vs ∧ tt σ2 H2 fun b H3 =>
        if b = true then te σ2 H3 fun y H4 => ∃ acc, H4 D = some (.lst acc) ∧ acc.length < sizeLine ∧ Nx (upd H4 D (.lst (acc ++ [y]))) else Nx H3) := by
  refine lc_fil (fun i x => x = V.int (0 + i)) (fun i => if P i = true then some i else none) (fun _ y (k : Nat) => y = V.int k) (fun H H' y c acc e s h => h) walk_range (small1000 hl) (fun _ _ => trivial) hD (fun i x hi hx H Q Rr s1 hacc k1 k2 => ?_) (fun H ys s1 e1 e2 => hd H s1 (by rw [fm_if] at e2; rw [e1, all2_int e2]))
  subst hx
  refine hs i hi H Q Rr s1 hacc (fun p H' s' => k1 i (by rw [if_pos p]) _ H' s' rfl) (fun p H' s' => k2 (by rw [if_neg (by rw [p]; decide)]) H' s')
end My
/-! dicts with tuple keys, lists of ids, locks; the model of a history -/
namespace My
open PySem L2
section
variable {X : Cx} {K : PySem.W.Frag}
theorem unit65 {k : Nat} {A : Around} (r : Room k A) : A.units + 65 < cLine := by have := r.un; omega
theorem op_inDK (hu : X.A.units + 65 < cLine) (hK : X.K = K := by rfl) : OpR X (compareOp .In) (rInD K) := by
  subst hK
  exact op_inD hu
theorem op_notInDK (hu : X.A.units + 65 < cLine) (hK : X.K = K := by rfl) : OpR X (compareOp .NotIn) (rNotInD K) := by
  subst hK
  exact op_notInD hu
def tIdx (K : PySem.W.Frag) (to : TE) (A : TA) : TE := tBM K "list" (rIndexD K) to A
theorem pe_idxK {e : Expr} {to : TE} {t : TA} (h : PE X e (tBM X.K "list" (rIndexD X.K) to t)) (hK : X.K = K := by rfl) : PE X e (tIdx K to t) := by
  subst hK
  exact h
end
section
variable {K : PySem.W.Frag} {σ : St} {H : Hp} {Q : VK} {to td te : TE} {A : TA} {D : Ends}
theorem i_idx (h : to σ H fun x H1 => tyV K "list" x H1 ∧ A σ H1 fun vs H2 => rIndexD K x vs H2 Q) : tIdx K to A σ H Q := h
theorem i_lock {t : TS} {d : Addr} {u : HO} (h1 : H d = some u) (mu : Mut (some u)) (h : ∀ od HN, SameBut d H HN → HN d = some (.frz od u) → t ⟨fun σ' H' => H' d = some (.frz od u) ∧ D.nx σ' (upd H' d u), fun v H' => H' d = some (.frz od u) ∧ D.rt v (upd H' d u), fun σ' H' => H' d = some (.frz od u) ∧ D.bk σ' (upd H' d u), fun σ' H' => H' d = some (.frz od u) ∧ D.ct σ' (upd H' d u)⟩ σ HN) : tLock t D σ H :=
  ⟨d, u, h1, mu, fun od => h od _ (SameBut.upd _ _ _) upd_same⟩
theorem i_lockE {t : TE} {d : Addr} {u : HO} (h1 : H d = some u) (mu : Mut (some u)) (h : ∀ od HN, SameBut d H HN → HN d = some (.frz od u) → t σ HN fun v H' => H' d = some (.frz od u) ∧ Q v (upd H' d u)) : tLockE t σ H Q :=
  ⟨d, u, h1, mu, fun od => h od _ (SameBut.upd _ _ _) upd_same⟩
/-- what a lock leaves -/
theorem lock_same {HN H' : Hp} {d : Addr} {u : HO} (h1 : H d = some u) (s1 : SameBut d H HN) (s2 : Same HN H') : Same H (upd H' d u) := by
  intro b o e
  by_cases h : b = d
  · subst h
    rw [upd_same, ← h1, e]
  · rw [upd_ne h]
    exact s2 _ _ (s1 _ _ h e)
theorem i_keys {R : It → Hp → Prop} (h : td σ H fun x H1 => ∃ d o, x = .ref d ∧ ((∃ kvs, H1 d = some (.frz o (.dK kvs)) ∧ R (Itk d o kvs) H1) ∨ ∃ kvs, H1 d = some (.frz o (.dT kvs)) ∧ R (Itkt d o kvs) H1)) : iKeys td σ H R := h
theorem i_lenD {p : Addr} {kvs : List (List Key × V)} (h1 : H p = some (.dT kvs)) (h : Q (.int kvs.length) H) : rLenT [.ref p] H Q := ⟨p, kvs, rfl, h1, h⟩
theorem i_dget (h : td σ H fun x H1 => te σ H1 fun y H2 => ∃ a v, x = .ref a ∧ DGet H2 a y (some v) ∧ Q v H2) : tDGet td te σ H Q := h
theorem i_dgS {p : Addr} {kvs : List (Key × V)} {z : Str} {v : V} {R : V → Prop} (h1 : H p = some (.dK kvs)) (h2 : valV kvs (.inr z) = some v) (h : R v) : ∃ a v, V.ref p = .ref a ∧ DGet H a (.str z) (some v) ∧ R v := ⟨p, v, rfl, h2 ▸ .k (k := .inr z) h1, h⟩
section
variable {c w' g t : V}
theorem dg_causes : valV [((.inr "causes" : Key), c), (.inr "words", w'), (.inr "got", g), (.inr "told", t)] (.inr "causes") = some c := rfl
theorem dg_words : valV [((.inr "causes" : Key), c), (.inr "words", w'), (.inr "got", g), (.inr "told", t)] (.inr "words") = some w' := rfl
theorem dg_got : valV [((.inr "causes" : Key), c), (.inr "words", w'), (.inr "got", g), (.inr "told", t)] (.inr "got") = some g := rfl
theorem dg_told : valV [((.inr "causes" : Key), c), (.inr "words", w'), (.inr "got", g), (.inr "told", t)] (.inr "told") = some t := rfl
end
theorem i_dgT {p b : Addr} {kvs : List (List Key × V)} {k : List Key} {v : V} {R : V → Prop} (h1 : H p = some (.dT kvs)) (h2 : H b = some (.tup (k.map kV))) (h3 : valV kvs k = some v) (h : R v) : ∃ a v, V.ref p = .ref a ∧ DGet H a (.ref b) (some v) ∧ R v := ⟨p, v, rfl, h3 ▸ .t h1 h2, h⟩
theorem i_setDt {p b : Addr} {kvs : List (List Key × V)} {k : List Key} {v : V} {HQ : Hp → Prop} (h1 : H p = some (.dT kvs)) (h2 : H b = some (.tup (k.map kV))) (hl : kvs.length < sizeLine) (h : ∀ HN, SameBut p H HN → HN p = some (.dT (putK kvs k v)) → HQ HN) : rSetD (.ref p) (.ref b) v H HQ :=
  ⟨p, _, rfl, .t h1 h2 hl, h _ (SameBut.upd _ _ _) upd_same⟩
theorem i_lstRg {t : St → Hp → (Int → Int → Hp → Prop) → Prop} (h : t σ H fun a b H1 => RgOk a b ∧ ∀ q, H1 q = none → Q (.ref q) (upd H1 q (.lst (rgV a b)))) : tLstRg t σ H Q := h
theorem i_rg1 {Q : Int → Int → Hp → Prop} (h : te σ H fun x H1 => ∃ n, x = .int n ∧ Q 0 n H1) : tRg1 te σ H Q := h
theorem i_rg1n {R : Int → Prop} {n : Int} (h : R n) : ∃ m, V.int n = .int m ∧ R m := ⟨n, rfl, h⟩
end
theorem rgV_nats (n : Nat) : rgV 0 (n : Int) = (List.range n).map fun k => V.int (k : Nat) := by
  unfold rgV
  rw [Int.sub_zero, Int.toNat_natCast]
  refine List.map_congr_left fun k _ => ?_
  rw [Int.zero_add]
/-! ### ids -/
def idK (z : Int × Int) : List Key := [.inl z.1, .inl z.2]
def idD (z : Int × Int) : PyData := .tuple [.int z.1, .int z.2]
theorem idK_inj {y z : Int × Int} (h : idK y = idK z) : y = z := by
  obtain ⟨a, b⟩ := y
  obtain ⟨c, d⟩ := z
  simp only [idK, List.cons.injEq, Sum.inl.injEq, and_true] at h
  rw [h.1, h.2]
def IdAt (H : Hp) (x : V) (z : Int × Int) : Prop := ∃ q, x = .ref q ∧ H q = some (.tup [.int z.1, .int z.2])
theorem IdAt.keeps {H H' : Hp} {x : V} {z : Int × Int} (k : ∀ b xs, H b = some (.tup xs) → H' b = some (.tup xs)) (h : IdAt H x z) : IdAt H' x z := by
  obtain ⟨q, rfl, h⟩ := h
  exact ⟨q, rfl, k _ _ h⟩
theorem IdAt.same {H H' : Hp} {x : V} {z : Int × Int} (s : Same H H') (h : IdAt H x z) : IdAt H' x z := h.keeps fun _ _ => s _ _
theorem IdAt.dp {K : PySem.W.Frag} {H : Hp} {x : V} {z : Int × Int} (h : IdAt H x z) : Dp K H x (idD z) := by
  obtain ⟨q, rfl, h⟩ := h
  exact .tup (.of h) (.cons (.int _) (.cons (.int _) .nil))
theorem ids_dp {K : PySem.W.Frag} {H : Hp} : ∀ {xs : List V} {l : List (Int × Int)}, All2 (IdAt H) xs l → DpAll K H xs (l.map idD)
  | [], [], _ => .nil
  | x :: xs, z :: l, h => .cons (h.2 0 x z rfl rfl).dp (ids_dp ⟨Nat.succ.inj h.1, fun i a b ha hb => h.2 (i + 1) a b ha hb⟩)
  | [], _ :: _, h => nomatch h.1
  | _ :: _, [], h => nomatch h.1
theorem idD_eqv (y z : Int × Int) : PyData.eqv (idD y) (idD z) = decide (y = z) := by
  obtain ⟨a, b⟩ := y
  obtain ⟨c, d⟩ := z
  have e : PyData.eqv (idD (a, b)) (idD (c, d)) = ((a == c) && ((b == d) && true)) := by simp only [idD, PyData.eqv, PyData.eqvAll]
  rw [e, Bool.and_true, Bool.eq_iff_iff, Bool.and_eq_true, beq_iff_eq, beq_iff_eq, decide_eq_true_iff, Prod.mk.injEq]
theorem idD_shaped (z : Int × Int) : SeqAt.shaped (idD z) = true := by
  show ((idD z).canLay0 && decide ((idD z).depth ≤ 64)) = true
  rw [Bool.and_eq_true]
  exact ⟨by simp [idD, PyData.canLay0, PyData.canLayAll0], decide_eq_true (by simp [idD, PyData.depth, PyData.depthAll])⟩
theorem ids_lay : ∀ l : List (Int × Int), PyData.canLayAll0 (l.map idD) = true
  | [] => by simp [PyData.canLayAll0]
  | z :: l => by simp [PyData.canLayAll0, idD, PyData.canLay0, ids_lay l]
theorem ids_depth : ∀ l : List (Int × Int), PyData.depthAll (l.map idD) ≤ 1
  | [] => by simp [PyData.depthAll]
  | z :: l => by
    have h1 := ids_depth l
    have h2 : (idD z).depth = 1 := by simp [idD, PyData.depth, PyData.depthAll]
    simp only [List.map_cons, PyData.depthAll]
    omega
theorem ids_shaped (l : List (Int × Int)) : SeqAt.shaped (.list (l.map idD)) = true := by
  have h1 := ids_depth l
  show (PyData.canLay0 (.list (l.map idD)) && decide (PyData.depth (.list (l.map idD)) ≤ 64)) = true
  rw [Bool.and_eq_true]
  exact ⟨by simp only [PyData.canLay0]; exact ids_lay l, decide_eq_true (by simp only [PyData.depth]; omega)⟩
theorem ids_any (l : List (Int × Int)) (z : Int × Int) : ((l.map idD).any fun y => PyData.eqv y (idD z)) = decide (z ∈ l) := by
  rw [List.any_map, Bool.eq_iff_iff, List.any_eq_true, decide_eq_true_iff]
  constructor
  · rintro ⟨y, hy, e⟩
    rw [Function.comp_apply, idD_eqv, decide_eq_true_iff] at e
    exact e ▸ hy
  · exact fun h => ⟨z, h, by rw [Function.comp_apply, idD_eqv]; exact decide_eq_true rfl⟩
theorem first_at {α : Type} [DecidableEq α] {z : α} : ∀ {l : List α}, z ∈ l → ∃ j : Nat, l[j]? = some z ∧ ∀ (m : Nat) (y : α), m < j → l[m]? = some y → y ≠ z
  | x :: l, h => by
    by_cases c : x = z
    · exact ⟨0, by rw [c]; rfl, fun m y hm => absurd hm (Nat.not_lt_zero m)⟩
    · obtain ⟨j, h1, h2⟩ := first_at (z := z) (l := l) ((List.mem_cons.mp h).resolve_left fun e => c e.symm)
      refine ⟨j + 1, h1, fun m y hm hy => ?_⟩
      cases m with
      | zero => cases hy; exact c
      | succ m => exact h2 m y (by omega) hy
section
variable {K : PySem.W.Frag} {H : Hp} {Q : VK} {p : Addr} {x : V} {xs : List V} {l : List (Int × Int)} {z : Int × Int}
theorem i_inIds (h1 : SqL K H p xs) (h2 : All2 (IdAt H) xs l) (h3 : IdAt H x z) (h : Q (.bl (decide (z ∈ l))) H) : rInD K x (.ref p) H Q :=
  ⟨idD z, l.map idD, h3.dp, .lst h1 (ids_dp h2), idD_shaped z, ids_shaped l, by rw [ids_any]; exact h⟩
theorem i_ninIds (h1 : SqL K H p xs) (h2 : All2 (IdAt H) xs l) (h3 : IdAt H x z) (h : Q (.bl (!decide (z ∈ l))) H) : rNotInD K x (.ref p) H Q :=
  ⟨idD z, l.map idD, h3.dp, .lst h1 (ids_dp h2), idD_shaped z, ids_shaped l, by rw [ids_any]; exact h⟩
theorem i_idxIds (h1 : SqL K H p xs) (h2 : All2 (IdAt H) xs l) (h3 : IdAt H x z) (h4 : z ∈ l) (h : ∀ j : Nat, Q (.int j) H) : rIndexD K (.ref p) [x] H Q := by
  obtain ⟨j, e1, e2⟩ := first_at h4
  refine ⟨p, x, idD z, l.map idD, j, idD z, rfl, rfl, .lst h1 (ids_dp h2), h3.dp, ids_shaped l, idD_shaped z, by rw [List.getElem?_map, e1]; rfl, by rw [idD_eqv]; exact decide_eq_true rfl, fun m z' hm hz => ?_, h j⟩
  rw [List.getElem?_map, Option.map_eq_some_iff] at hz
  obtain ⟨y, hy, rfl⟩ := hz
  rw [idD_eqv]
  exact decide_eq_false (e2 m y hm hy)
end
/-! ### a dict whose keys are ids -/
theorem val_key {R : V → Prop} : ∀ {ck : List (List Key × V)} {ks : List (Int × Int)} {z : Int × Int}, All2 (fun p z => p.1 = idK z ∧ R p.2) ck ks → z ∈ ks → ∃ v, valV ck (idK z) = some v ∧ R v
  | p :: ck, y :: ks, z, h, hz => by
    obtain ⟨h1, h2⟩ := h.2 0 p y rfl rfl
    by_cases c : y = z
    · subst c
      exact ⟨p.2, by unfold valV; rw [List.find?_cons, decide_eq_true h1]; rfl, h2⟩
    · obtain ⟨v, e1, e2⟩ := val_key (R := R) (ck := ck) (ks := ks) (z := z) ⟨Nat.succ.inj h.1, fun i a b ha hb => h.2 (i + 1) a b ha hb⟩ ((List.mem_cons.mp hz).resolve_left fun e => c e.symm)
      refine ⟨v, ?_, e2⟩
      unfold valV
      rw [List.find?_cons, decide_eq_false (fun e => c (idK_inj (h1.symm.trans e)))]
      exact e1
  | [], _ :: _, _, h, _ => nomatch h.1
  | _ :: _, [], _, h, _ => nomatch h.1
theorem no_key {R : V → Prop} {ck : List (List Key × V)} {ks : List (Int × Int)} {z : Int × Int} (h : All2 (fun p z => p.1 = idK z ∧ R p.2) ck ks) (hz : z ∉ ks) : ∀ p ∈ ck, p.1 ≠ idK z := by
  intro p hp e
  obtain ⟨i, hi⟩ := List.mem_iff_getElem?.mp hp
  obtain ⟨y, hy, h1, _⟩ := h.get hi
  exact hz (idK_inj (h1.symm.trans e) ▸ List.mem_of_getElem? hy)
theorem val_none {R : V → Prop} {ck : List (List Key × V)} {ks : List (Int × Int)} {z : Int × Int} (h : All2 (fun p z => p.1 = idK z ∧ R p.2) ck ks) (hz : z ∉ ks) : valV ck (idK z) = none := by
  unfold valV
  rw [List.find?_eq_none.mpr fun p hp e => no_key h hz p hp (of_decide_eq_true e)]
  rfl
theorem val_some {R : V → Prop} {ck : List (List Key × V)} {ks : List (Int × Int)} {z : Int × Int} (h : All2 (fun p z => p.1 = idK z ∧ R p.2) ck ks) : (valV ck (idK z)).isSome = decide (z ∈ ks) := by
  by_cases c : z ∈ ks
  · obtain ⟨v, e, _⟩ := val_key h c
    rw [e, decide_eq_true c]
    rfl
  · rw [val_none h c, decide_eq_false c]
    rfl
theorem put_new {R : V → Prop} {ck : List (List Key × V)} {ks : List (Int × Int)} {z : Int × Int} {v : V} (h : All2 (fun p z => p.1 = idK z ∧ R p.2) ck ks) (hz : z ∉ ks) : putK ck (idK z) v = ck ++ [(idK z, v)] := by
  unfold putK
  rw [if_neg]
  intro e
  obtain ⟨p, hp, e⟩ := List.any_eq_true.mp e
  exact no_key h hz p hp (of_decide_eq_true e)
theorem put_len {κ : Type} [DecidableEq κ] (ck : List (κ × V)) (k : κ) (v : V) : (putK ck k v).length ≤ ck.length + 1 := by
  unfold putK
  split
  · rw [List.length_map]
    omega
  · rw [List.length_append]
    exact Nat.le_refl _
/-- how many ids have m -/
def cnt (ks : List (Int × Int)) (m : Int) : Nat := (ks.filter fun z => decide (z.1 = m)).length
theorem cnt_snoc {ks : List (Int × Int)} {z : Int × Int} {m : Int} : cnt (ks ++ [z]) m = cnt ks m + if z.1 = m then 1 else 0 := by
  unfold cnt
  rw [List.filter_append, List.length_append, List.filter_cons]
  by_cases c : z.1 = m
  · rw [if_pos (decide_eq_true c), if_pos c]
    rfl
  · rw [if_neg (by simp [c]), if_neg c]
    rfl
/-- the next id of a member -/
def nxt (ks : List (Int × Int)) (i : Int) : Int × Int := (i, 1 + ((cnt ks i : Nat) : Int))
/-! ### the model: causes, words, got, told -/
structure MdV where
  M : Nat
  F : Addr → Prop
  ks : List (Int × Int)
  n : Nat
  c : Addr
  wd : Addr
  g : Addr
  t : Addr
  ck : List (List Key × V)
  wk : List (List Key × V)
  gx : List V
  tx : List V
/-- a list of known ids -/
def LkI (H : Hp) (F : Addr → Prop) (ks : List (Int × Int)) (n : Nat) (x : V) : Prop := ∃ q xs l, x = .ref q ∧ F q ∧ H q = some (.lst xs) ∧ All2 (IdAt H) xs l ∧ (∀ z ∈ l, z ∈ ks) ∧ l.length ≤ n
structure Md (H : Hp) (o : Addr) (m : MdV) : Prop where
  ho : H o = some (.dK [(.inr "causes", .ref m.c), (.inr "words", .ref m.wd), (.inr "got", .ref m.g), (.inr "told", .ref m.t)])
  hc : H m.c = some (.dT m.ck)
  hw : H m.wd = some (.dT m.wk)
  hg : H m.g = some (.lst m.gx)
  ht : H m.t = some (.lst m.tx)
  cw : m.c ≠ m.wd
  fo : m.F o
  fc : m.F m.c
  fw : m.F m.wd
  fg : m.F m.g
  ft : m.F m.t
  fd : ∀ b, m.F b → H b ≠ none
  kc : All2 (fun p z => p.1 = idK z ∧ LkI H m.F m.ks m.n p.2) m.ck m.ks
  lg : m.gx.length = m.M
  kg : ∀ x ∈ m.gx, LkI H m.F m.ks m.n x
  lt : m.tx.length = m.M
  kt : ∀ x ∈ m.tx, LkI H m.F m.ks m.n x
  kw : m.wk.length ≤ m.ks.length
  kk : ∀ z ∈ m.ks, (0 ≤ z.1 ∧ z.1 ≤ (m.M : Int) - 1) ∧ 1 ≤ z.2 ∧ z.2 ≤ cnt m.ks z.1
  kn : m.ks.length ≤ 14
  nn : m.n ≤ 100
  M5 : 2 ≤ m.M ∧ m.M ≤ 5
/-- what stands in F, and all tuples, stay -/
def Kept (F : Addr → Prop) (H H' : Hp) : Prop := ∀ b u, (F b ∨ ∃ xs, u = .tup xs) → H b = some u → H' b = some u
theorem Kept.same {F : Addr → Prop} {H H' : Hp} (s : Same H H') : Kept F H H' := fun b u _ h => s b u h
theorem Kept.but {F : Addr → Prop} {H H' : Hp} {p : Addr} {ys : List V} (hp : H p = some (.lst ys)) (n : ¬ F p) (s : SameBut p H H') : Kept F H H' := by
  intro b u h e
  refine s b u (fun z => ?_) e
  subst z
  rcases h with h | ⟨xs, rfl⟩
  · exact n h
  · rw [hp] at e
    cases e
theorem LkI.kept {F : Addr → Prop} {H H' : Hp} {ks : List (Int × Int)} {n : Nat} {x : V} (k : Kept F H H') (h : LkI H F ks n x) : LkI H' F ks n x := by
  obtain ⟨q, xs, l, rfl, f, e, a, h1, h2⟩ := h
  exact ⟨q, xs, l, rfl, f, k _ _ (.inl f) e, a.mono fun _ _ => IdAt.keeps fun b xs => k _ _ (.inr ⟨xs, rfl⟩), h1, h2⟩
theorem LkI.mono {F F' : Addr → Prop} {H : Hp} {ks ks' : List (Int × Int)} {n n' : Nat} {x : V} (hF : ∀ b, F b → F' b) (hk : ∀ z ∈ ks, z ∈ ks') (hn : n ≤ n') (h : LkI H F ks n x) : LkI H F' ks' n' x := by
  obtain ⟨q, xs, l, rfl, f, e, a, h1, h2⟩ := h
  exact ⟨q, xs, l, rfl, hF _ f, e, a, fun z hz => hk z (h1 z hz), Nat.le_trans h2 hn⟩
section
variable {H H' : Hp} {o : Addr} {m : MdV}
theorem Md.kept (k : Kept m.F H H') (h : Md H o m) : Md H' o m where
  ho := k _ _ (.inl h.fo) h.ho
  hc := k _ _ (.inl h.fc) h.hc
  hw := k _ _ (.inl h.fw) h.hw
  hg := k _ _ (.inl h.fg) h.hg
  ht := k _ _ (.inl h.ft) h.ht
  cw := h.cw
  fo := h.fo
  fc := h.fc
  fw := h.fw
  fg := h.fg
  ft := h.ft
  fd := fun b f e => by
    cases c : H b with
    | none => exact h.fd b f c
    | some u => rw [k b u (.inl f) c] at e; cases e
  kc := h.kc.mono fun _ _ q => ⟨q.1, q.2.kept k⟩
  lg := h.lg
  kg := fun x hx => (h.kg x hx).kept k
  lt := h.lt
  kt := fun x hx => (h.kt x hx).kept k
  kw := h.kw
  kk := h.kk
  kn := h.kn
  nn := h.nn
  M5 := h.M5
theorem Md.same (s : Same H H') (h : Md H o m) : Md H' o m := h.kept (.same s)
theorem LkI.same {F : Addr → Prop} {ks : List (Int × Int)} {n : Nat} {x : V} (s : Same H H') (h : LkI H F ks n x) : LkI H' F ks n x := h.kept (.same s)
theorem Md.out {b : Addr} (h : Md H o m) (n : H b = none) : ¬ m.F b := fun f => h.fd b f n
theorem Md.got (h : Md H o m) {i : Int} (h0 : 0 ≤ i) (h1 : i ≤ (m.M : Int) - 1) : ∃ x, atI m.gx i = some x ∧ LkI H m.F m.ks m.n x := by
  obtain ⟨v, hv, _, e⟩ := atI_in (xs := m.gx) (r := i) h0 (by have := h.lg; omega)
  exact ⟨v, e, h.kg v hv⟩
theorem Md.told (h : Md H o m) {i : Int} (h0 : 0 ≤ i) (h1 : i ≤ (m.M : Int) - 1) : ∃ x, atI m.tx i = some x ∧ LkI H m.F m.ks m.n x := by
  obtain ⟨v, hv, _, e⟩ := atI_in (xs := m.tx) (r := i) h0 (by have := h.lt; omega)
  exact ⟨v, e, h.kt v hv⟩
/-- a list of lists is no list of ids -/
theorem no_row {F : Addr → Prop} {ks : List (Int × Int)} {n : Nat} {g q : Addr} {gx xs : List V} {l : List (Int × Int)} (hg : H g = some (.lst gx)) (hn : 0 < gx.length) (hx : ∀ x ∈ gx, LkI H F ks n x) (hq : H q = some (.lst xs)) (ha : All2 (IdAt H) xs l) : g ≠ q := by
  rintro rfl
  rw [hg] at hq
  cases hq
  obtain ⟨z, _, b, e1, e2⟩ := ha.get (List.getElem?_eq_getElem hn)
  obtain ⟨c, _, _, e3, _, e4, _⟩ := hx _ (List.getElem_mem hn)
  rw [e1] at e3
  cases e3
  rw [e2] at e4
  cases e4
/-- an id more in one of its rows -/
theorem Md.app {q : Addr} {xs : List V} {l : List (Int × Int)} {y : V} {z : Int × Int} (h : Md H o m) (hq : H q = some (.lst xs)) (ha : All2 (IdAt H) xs l) (hy : IdAt H y z) (hz : z ∈ m.ks) (hn : m.n < 100) (s : SameBut q H H') (hq' : H' q = some (.lst (xs ++ [y]))) : Md H' o { m with n := m.n + 1 } := by
  have tp : ∀ b xs, H b = some (.tup xs) → H' b = some (.tup xs) := fun b xs e => s b _ (fun c => by subst c; rw [hq] at e; cases e) e
  have lk : ∀ x, LkI H m.F m.ks m.n x → LkI H' m.F m.ks (m.n + 1) x := by
    rintro x ⟨r, ys, k, rfl, f, e, a, h1, h2⟩
    by_cases c : r = q
    · subst c
      rw [hq] at e
      cases e
      exact ⟨r, _, k ++ [z], rfl, f, hq', All2.append (a.mono fun _ _ => IdAt.keeps tp) (All2.cons (hy.keeps tp) All2.nil), fun w hw => (List.mem_append.mp hw).elim (h1 w) fun hw => by rw [List.mem_singleton.mp hw]; exact hz, by rw [List.length_append]; exact Nat.succ_le_succ h2⟩
    · exact ⟨r, ys, k, rfl, f, s _ _ c e, a.mono fun _ _ => IdAt.keeps tp, h1, Nat.le_succ_of_le h2⟩
  have ng := no_row h.hg (by rw [h.lg]; have := h.M5; omega) h.kg hq ha
  have nt := no_row h.ht (by rw [h.lt]; have := h.M5; omega) h.kt hq ha
  exact {
    ho := s _ _ (ne_of h.ho hq (by simp)) h.ho
    hc := s _ _ (ne_of h.hc hq (by simp)) h.hc
    hw := s _ _ (ne_of h.hw hq (by simp)) h.hw
    hg := s _ _ ng h.hg
    ht := s _ _ nt h.ht
    cw := h.cw
    fo := h.fo
    fc := h.fc
    fw := h.fw
    fg := h.fg
    ft := h.ft
    fd := fun b f e => by
      by_cases c : b = q
      · subst c
        rw [hq'] at e
        cases e
      · cases d : H b with
        | none => exact h.fd b f d
        | some u => rw [s b u c d] at e; cases e
    kc := h.kc.mono fun _ _ q => ⟨q.1, lk _ q.2⟩
    lg := h.lg
    kg := fun x hx => lk _ (h.kg x hx)
    lt := h.lt
    kt := fun x hx => lk _ (h.kt x hx)
    kw := h.kw
    kk := h.kk
    kn := h.kn
    nn := hn
    M5 := h.M5 }
/-- a key more: the next id of a member, its causes the new list at L -/
theorem Md.put {H1 H2 : Hp} {L : Addr} {xs : List V} {l : List (Int × Int)} {i : Int} {v : V} (h : Md H o m) (hL : H L = some (.lst xs)) (nL : ¬ m.F L) (ha : All2 (IdAt H) xs l) (hl : ∀ z ∈ l, z ∈ m.ks) (hn : l.length ≤ m.n) (h0 : 0 ≤ i) (h1 : i ≤ (m.M : Int) - 1) (hk : m.ks.length < 14)
    (s1 : SameBut m.c H H1) (e1 : H1 m.c = some (.dT (putK m.ck (idK (nxt m.ks i)) (.ref L)))) (s2 : SameBut m.wd H1 H2) (e2 : H2 m.wd = some (.dT (putK m.wk (idK (nxt m.ks i)) v))) :
    Md H2 o { m with F := fun b => m.F b ∨ b = L, ks := m.ks ++ [nxt m.ks i], ck := m.ck ++ [(idK (nxt m.ks i), .ref L)], wk := putK m.wk (idK (nxt m.ks i)) v } := by
  have fresh : (nxt m.ks i) ∉ m.ks := fun hz => by
    have := (h.kk _ hz).2.2
    simp only [nxt] at this
    omega
  have st : ∀ b u, b ≠ m.c → b ≠ m.wd → H b = some u → H2 b = some u := fun b u n1 n2 e => s2 b u n2 (s1 b u n1 e)
  have ls : ∀ b xs, H b = some (.lst xs) → H2 b = some (.lst xs) := fun b xs e => st b _ (ne_of e h.hc (by simp)) (ne_of e h.hw (by simp)) e
  have tp : ∀ b xs, H b = some (.tup xs) → H2 b = some (.tup xs) := fun b xs e => st b _ (ne_of e h.hc (by simp)) (ne_of e h.hw (by simp)) e
  have hc1 : H1 m.wd = some (.dT m.wk) := s1 _ _ (Ne.symm h.cw) h.hw
  have hc2 : H2 m.c = some (.dT (putK m.ck (idK (nxt m.ks i)) (.ref L))) := s2 _ _ h.cw e1
  have lk : ∀ x, LkI H m.F m.ks m.n x → LkI H2 (fun b => m.F b ∨ b = L) (m.ks ++ [nxt m.ks i]) m.n x := by
    rintro x ⟨r, ys, k, rfl, f, e, a, h1, h2⟩
    exact ⟨r, ys, k, rfl, .inl f, ls _ _ e, a.mono fun _ _ => IdAt.keeps tp, fun z hz => List.mem_append_left _ (h1 z hz), h2⟩
  exact {
    ho := st _ _ (ne_of h.ho h.hc (by simp)) (ne_of h.ho h.hw (by simp)) h.ho
    hc := by rw [← put_new h.kc fresh]; exact hc2
    hw := e2
    hg := ls _ _ h.hg
    ht := ls _ _ h.ht
    cw := h.cw
    fo := .inl h.fo
    fc := .inl h.fc
    fw := .inl h.fw
    fg := .inl h.fg
    ft := .inl h.ft
    fd := fun b f e => by
      by_cases c1 : b = m.wd
      · subst c1
        rw [e2] at e
        cases e
      by_cases c2 : b = m.c
      · subst c2
        rw [hc2] at e
        cases e
      rcases f with f | rfl
      · cases d : H b with
        | none => exact h.fd b f d
        | some u => rw [st b u c2 c1 d] at e; cases e
      · rw [ls _ _ hL] at e
        cases e
    kc := All2.append (h.kc.mono fun _ _ q => ⟨q.1, lk _ q.2⟩) (All2.cons ⟨rfl, L, xs, l, rfl, .inr rfl, ls _ _ hL, ha.mono fun _ _ => IdAt.keeps tp, fun z hz => List.mem_append_left _ (hl z hz), hn⟩ All2.nil)
    lg := h.lg
    kg := fun x hx => lk _ (h.kg x hx)
    lt := h.lt
    kt := fun x hx => lk _ (h.kt x hx)
    kw := by
      rw [List.length_append]
      exact Nat.le_trans (put_len _ _ _) (Nat.succ_le_succ h.kw)
    kk := fun z hz => by
      rcases List.mem_append.mp hz with hz | hz
      · obtain ⟨a1, a2, a3⟩ := h.kk z hz
        refine ⟨a1, a2, ?_⟩
        show z.2 ≤ ((cnt (m.ks ++ _) z.1 : Nat) : Int)
        rw [cnt_snoc]
        omega
      · rw [List.mem_singleton.mp hz]
        refine ⟨⟨h0, h1⟩, by show (1 : Int) ≤ 1 + _; omega, ?_⟩
        show 1 + ((cnt m.ks i : Nat) : Int) ≤ ((cnt (m.ks ++ _) i : Nat) : Int)
        rw [cnt_snoc, if_pos (show (nxt m.ks i).1 = i from rfl)]
        omega
    kn := by
      rw [List.length_append]
      exact hk
    nn := h.nn
    M5 := h.M5 }
end
/-! ### the keys of a locked dict walked -/
section
variable {R : V → Prop} {d D : Addr} {od : Obj} {kvs : List (List Key × V)} {ks : List (Int × Int)}
theorem key_at {H : Hp} {i : Nat} {x : V} (hk : All2 (fun p z => p.1 = idK z ∧ R p.2) kvs ks) (h : ∃ (k : List Key) (v : V) (q : Addr), kvs[i]? = some (k, v) ∧ x = .ref q ∧ H q = some (.tup (k.map kV))) : ∃ z, ks[i]? = some z ∧ IdAt H x z := by
  obtain ⟨k, v, q, e1, rfl, e2⟩ := h
  obtain ⟨z, hz, e3, _⟩ := hk.get e1
  simp only at e3
  subst e3
  exact ⟨z, hz, q, rfl, e2⟩
/-- [x for x in d if ..], by how many -/
theorem lc_keys {g : TG} {tt : TT} {te : TE} {vs : List Nat} {σ : L2.St} {H1 : Hp} {Qd : Hp → Prop} (P : Int × Int → Bool) (hk : All2 (fun p z => p.1 = idK z ∧ R p.2) kvs ks) (hc : H1 d = some (.frz od (.dT kvs))) (hD : H1 D = none) (hl : ks.length ≤ 1000)
    (hs : ∀ x z, z ∈ ks → ∀ H (Q : VK) (Rr : Hp → Prop), Same H1 H → IdAt H x z → (P z = true → ∀ H', Same H H' → Q x H') → (P z = false → ∀ H', Same H H' → Rr H') →
      g x (wipe σ vs) H fun σ2 H2 => wipe σ2 vs = wipe σ vs ∧ tt σ2 H2 fun b H3 => if b = true then te σ2 H3 Q else Rr H3)
    (hd : ∀ H (ys : List V), Same H1 H → H D = some (.lst ys) → ys.length = (ks.filter P).length → Qd H) :
    ∃ W : Nat → Nat → Hp → Prop, (∃ m, W 0 m (upd H1 D (.lst []))) ∧ ∀ i m H, W i m H →
      ((Itkt d od kvs).stop i H ∧ Qd H) ∨ ((Itkt d od kvs).go i H ∧ ∃ Nx : Hp → Prop, (∀ H', Nx H' → ∃ m', m' < m ∧ W (i + 1) m' H') ∧ ∀ x H', (Itkt d od kvs).yld i H x H' → g x (wipe σ vs) H' fun σ2 H2 => wipe σ2 vs = wipe σ vs ∧ tt σ2 H2 fun b H3 =>
        if b = true then te σ2 H3 fun y H4 => ∃ acc, H4 D = some (.lst acc) ∧ acc.length < sizeLine ∧ Nx (upd H4 D (.lst (acc ++ [y]))) else Nx H3) := by
  have lk : kvs.length = ks.length := hk.1
  have sb : ∀ {H o}, Same H1 H → Same H1 (upd H D o) := fun {H o} s b u e => by
    rw [upd_ne (ne_of_none e hD)]
    exact s b u e
  refine lc_it walk_keysT (fun i H => Same H1 H ∧ ∃ ys, H D = some (.lst ys) ∧ ys.length = ((ks.take i).filter P).length) ⟨sb (Same.refl H1), [], upd_same, rfl⟩ (fun i H _ h => h.1 _ _ hc) ?_ ?_
  · rintro i v H H' hi ⟨s1, ys, e2, e3⟩ ⟨rfl, hx⟩
    obtain ⟨z, hz, ha⟩ := key_at hk hx
    have e4 : (ks.take (i + 1)).filter P = (ks.take i).filter P ++ if P z = true then [z] else [] := by
      rw [List.take_add_one, hz, List.filter_append]
      congr 1
      cases c : P z <;> simp [List.filter_cons, c]
    have b4 : ((ks.take i).filter P).length ≤ i := Nat.le_trans (List.length_filter_le _ _) (List.length_take_le _ _)
    refine hs v z (List.mem_of_getElem? hz) H' _ _ s1 ha (fun hp H4 s4 => ?_) (fun hp H4 s4 => ?_)
    · refine ⟨ys, s4 _ _ e2, small1000 (by omega), sb (s1.trans s4), _, upd_same, ?_⟩
      rw [e4, if_pos hp, List.length_append, List.length_append, e3]
      rfl
    · refine ⟨s1.trans s4, ys, s4 _ _ e2, ?_⟩
      rw [e4, if_neg (by rw [hp]; decide), List.append_nil, e3]
  · rintro H ⟨s1, ys, e2, e3⟩
    exact hd H ys s1 e2 (by rw [e3, lk, List.take_length])
end
/-- [[] for k in range(n)]: new lists -/
theorem lc_new0 {g : TG} {tt : TT} {te : TE} {vs : List Nat} {σ : L2.St} {H1 : Hp} {D : Addr} {Qd : Hp → Prop} {n : Nat} (hl : n ≤ 1000) (hD : H1 D = none)
    (hs : ∀ i, i < n → ∀ H (Q : VK) (Rr : Hp → Prop), Same H1 H → (∀ q HN, H q = none → Same H HN → HN q = some (.lst []) → Q (.ref q) HN) →
      g (.int (0 + i)) (wipe σ vs) H fun σ2 H2 => wipe σ2 vs = wipe σ vs ∧ tt σ2 H2 fun b H3 => if b = true then te σ2 H3 Q else Rr H3)
    (hd : ∀ H (ys : List V), Same H1 H → H D = some (.lst ys) → ys.length = n → (∀ y ∈ ys, ∃ q, y = .ref q ∧ H1 q = none ∧ H q = some (.lst [])) → Qd H) :
    ∃ W : Nat → Nat → Hp → Prop, (∃ m, W 0 m (upd H1 D (.lst []))) ∧ ∀ i m H, W i m H →
      ((Itr 0 n).stop i H ∧ Qd H) ∨ ((Itr 0 n).go i H ∧ ∃ Nx : Hp → Prop, (∀ H', Nx H' → ∃ m', m' < m ∧ W (i + 1) m' H') ∧ ∀ x H', (Itr 0 n).yld i H x H' → g x (wipe σ vs) H' fun σ2 H2 => wipe σ2 vs = wipe σ vs ∧ tt σ2 H2 fun b H3 =>
        if b = true then te σ2 H3 fun y H4 => ∃ acc, H4 D = some (.lst acc) ∧ acc.length < sizeLine ∧ Nx (upd H4 D (.lst (acc ++ [y]))) else Nx H3) := by
  have sb : ∀ {H o}, Same H1 H → Same H1 (upd H D o) := fun {H o} s b u e => by
    rw [upd_ne (ne_of_none e hD)]
    exact s b u e
  refine lc_it walk_range (fun i H => Same H1 H ∧ ∃ ys, H D = some (.lst ys) ∧ ys.length = i ∧ ∀ y ∈ ys, ∃ q, y = .ref q ∧ q ≠ D ∧ H1 q = none ∧ H q = some (.lst [])) ⟨sb (Same.refl H1), [], upd_same, rfl, fun _ h => nomatch h⟩ (fun _ _ _ _ => trivial) ?_ ?_
  · rintro i v H H' hi ⟨s1, ys, e2, e3, e4⟩ ⟨rfl, rfl⟩
    refine hs i hi H' _ _ s1 (fun q HN hq sa hg => ?_)
    have nq : q ≠ D := fun c => by rw [c, e2] at hq; cases hq
    have nq1 : H1 q = none := by
      cases c : H1 q with
      | none => rfl
      | some u => rw [s1 _ _ c] at hq; cases hq
    refine ⟨ys, sa _ _ e2, small1000 (by omega), sb (s1.trans sa), _, upd_same, by rw [List.length_append, e3]; rfl, fun y hy => ?_⟩
    rcases List.mem_append.mp hy with hy | hy
    · obtain ⟨p, rfl, n1, n2, e⟩ := e4 y hy
      exact ⟨p, rfl, n1, n2, by rw [upd_ne n1]; exact sa _ _ e⟩
    · rw [List.mem_singleton.mp hy]
      exact ⟨q, rfl, nq, nq1, by rw [upd_ne nq]; exact hg⟩
  · rintro H ⟨s1, ys, e2, e3, e4⟩
    exact hd H ys s1 e2 e3 fun y hy => let ⟨q, a, _, b, c⟩ := e4 y hy; ⟨q, a, b, c⟩
/-- [x for x in xs if ..], whichever are kept -/
theorem lc_some {α : Type} {K : PySem.W.Frag} {a : Addr} {xs : List V} {as : List α} {g : TG} {tt : TT} {te : TE} {vs : List Nat} {σ : L2.St} {H1 : Hp} {D : Addr} {Qd : Hp → Prop} (R : Hp → V → α → Prop) (st : Stays R) (h0 : SqL K H1 a xs) (hx : All2 (R H1) xs as) (hD : H1 D = none) (hl : xs.length ≤ 1000)
    (hs : ∀ x c, c ∈ as → ∀ H (Q : VK) (Rr : Hp → Prop), Same H1 H → R H x c → (∀ H', Same H H' → Q x H') → (∀ H', Same H H' → Rr H') →
      g x (wipe σ vs) H fun σ2 H2 => wipe σ2 vs = wipe σ vs ∧ tt σ2 H2 fun b H3 => if b = true then te σ2 H3 Q else Rr H3)
    (hd : ∀ H (ys : List V) cs, Same H1 H → H D = some (.lst ys) → All2 (R H) ys cs → (∀ c ∈ cs, c ∈ as) → ys.length ≤ xs.length → Qd H) :
    ∃ W : Nat → Nat → Hp → Prop, (∃ m, W 0 m (upd H1 D (.lst []))) ∧ ∀ i m H, W i m H →
      ((Itl K a).stop i H ∧ Qd H) ∨ ((Itl K a).go i H ∧ ∃ Nx : Hp → Prop, (∀ H', Nx H' → ∃ m', m' < m ∧ W (i + 1) m' H') ∧ ∀ x H', (Itl K a).yld i H x H' → g x (wipe σ vs) H' fun σ2 H2 => wipe σ2 vs = wipe σ vs ∧ tt σ2 H2 fun b H3 =>
        if b = true then te σ2 H3 fun y H4 => ∃ acc, H4 D = some (.lst acc) ∧ acc.length < sizeLine ∧ Nx (upd H4 D (.lst (acc ++ [y]))) else Nx H3) := by
  have sb : ∀ {H o}, Same H1 H → Same H1 (upd H D o) := fun {H o} s b u e => by
    rw [upd_ne (ne_of_none e hD)]
    exact s b u e
  refine lc_it (walk_list (K := K) (a := a) (xs := xs)) (fun i H => Same H1 H ∧ ∃ ys cs, H D = some (.lst ys) ∧ All2 (R H) ys cs ∧ (∀ c ∈ cs, c ∈ as) ∧ ys.length ≤ i) ⟨sb (Same.refl H1), [], [], upd_same, All2.nil, (fun _ h => nomatch h), Nat.le_refl _⟩ (fun i H _ h => Same.seq h.1 h0) ?_ ?_
  · rintro i x H H' hi ⟨s1, ys, cs, e2, e3, e4, e5⟩ ⟨rfl, hxi⟩
    obtain ⟨c, hc, hr⟩ := hx.get hxi
    have hr1 := st.same s1 hr
    refine hs x c (List.mem_of_getElem? hc) H' _ _ s1 hr1 (fun H4 s4 => ?_) (fun H4 s4 => ?_)
    · have e6 := s4 _ _ e2
      have sD : SameBut D H4 (upd H4 D (.lst (ys ++ [x]))) := SameBut.upd _ _ _
      refine ⟨ys, e6, small1000 (by omega), sb (s1.trans s4), _, cs ++ [c], upd_same, All2.append (e3.mono fun _ _ h => st.but e6 sD (st.same s4 h)) (All2.cons (st.but e6 sD (st.same s4 hr1)) All2.nil), fun d hd => ?_, by rw [List.length_append]; exact Nat.succ_le_succ e5⟩
      rcases List.mem_append.mp hd with hd | hd
      · exact e4 d hd
      · rw [List.mem_singleton.mp hd]
        exact List.mem_of_getElem? hc
    · exact ⟨s1.trans s4, ys, cs, s4 _ _ e2, e3.mono fun _ _ h => st.same s4 h, e4, by omega⟩
  · rintro H ⟨s1, ys, cs, e2, e3, e4, e5⟩
    exact hd H ys cs s1 e2 e3 e4 e5
/-- xs[-1:] -/
theorem cut_last {α : Type} {R : V → α → Prop} {xs : List V} {as : List α} (h : All2 R xs as) (h0 : 0 < xs.length) : ∃ bs, All2 R (cutV xs (some (-1)) none) bs ∧ (∀ b ∈ bs, b ∈ as) ∧ (cutV xs (some (-1)) none).length = 1 := by
  have e : cutV xs (some (-1)) none = xs.drop (xs.length - 1) := by
    unfold cutV
    rw [HT.sIx_none, show HT.sIx xs.length 0 (some (-1)) = xs.length - 1 by
      show (if (-1 : Int) < 0 then (-1 + (xs.length : Int)).toNat else min (-1 : Int).toNat xs.length) = _
      rw [if_pos (by decide)]
      omega, List.take_of_length_le (by rw [List.length_drop]; exact Nat.le_refl _)]
  rw [e]
  exact ⟨as.drop (xs.length - 1), h.drop _, fun b hb => List.mem_of_mem_drop hb, by rw [List.length_drop]; omega⟩
theorem ne_F {F : Addr → Prop} {H : Hp} {b q : Addr} {u o : HO} (n : ¬ F b ∨ ∃ xs, u = .tup xs) (e : H b = some u) (f : F q) (hq : H q = some o) (ho : ∀ xs, o ≠ .tup xs) : b ≠ q := by
  rintro rfl
  rcases n with n | ⟨xs, rfl⟩
  · exact n f
  · rw [hq] at e
    exact ho xs (Option.some.inj e)
end My
/-! rows of a history -/
namespace My
open PySem L2
def isWord : V → Bool
  | .str z => decide (1 ≤ z.length) && (decide (z.length ≤ 8) && z.cps.toList.all fun c => decide (c ∈ ("abcdefghijklmnopqrstuvwxyz" : Str).cps.toList))
  | _ => false
/-- a row: a letter sent, one delivered, one told -/
inductive Rw where
  | sent (m : Int) (z : Str)
  | got (m s n : Int)
  | told (m p s n : Int)
deriving DecidableEq
def Rw.vs : Rw → List V
  | .sent m z => [.str "sent", .int m, .str z]
  | .got m s n => [.str "got", .int m, .int s, .int n]
  | .told m p s n => [.str "told", .int m, .int p, .int s, .int n]
def Rw.mem : Rw → Int
  | .sent m _ => m
  | .got m _ _ => m
  | .told m _ _ _ => m
def Rw.sentB : Rw → Bool
  | .sent _ _ => true
  | _ => false
def inR (M x : Int) : Bool := decide (0 ≤ x) && decide (x ≤ M - 1)
/-- can the row be one of so many members -/
def Rw.okB (M : Int) : Rw → Bool
  | .sent m z => inR M m && isWord (.str z)
  | .got m s n => inR M m && (inR M s && decide (1 ≤ n))
  | .told m p s n => inR M m && (decide (1 ≤ p) && (inR M s && decide (1 ≤ n)))
def Rw.sml : Rw → Prop
  | .sent _ z => z.length ≤ 1000
  | _ => True
def RwAt (H : Hp) (x : V) (r : Rw) : Prop := ∃ a, x = .ref a ∧ H a = some (.tup r.vs)
theorem RwAt.stays : Stays RwAt where
  but := by
    rintro D H H' y c acc e s ⟨a, rfl, h⟩
    exact ⟨a, rfl, s a _ (ne_of h e (by simp)) h⟩
  same := by
    rintro H H' y c s ⟨a, rfl, h⟩
    exact ⟨a, rfl, s _ _ h⟩
theorem RwAt.same {H H' : Hp} {x : V} {r : Rw} (s : Same H H') (h : RwAt H x r) : RwAt H' x r := RwAt.stays.same s h
def iS : V → Bool
  | .int _ => true
  | .str _ => true
  | _ => false
theorem EqV.iS {K : PySem.W.Frag} {H : Hp} {n : Nat} {x y : V} (hx : iS x = true) (hy : iS y = true) : EqV K H n x y (decide (x = y)) := by
  cases x <;> first | (cases hx; done) | skip
  all_goals cases y <;> first | (cases hy; done) | skip
  all_goals refine .flat (congrArg some ?_)
  all_goals first | exact (decide_eq_false (by simp)).symm | (simp only [V.int.injEq, V.str.injEq]; rw [Bool.eq_iff_iff, beq_iff_eq, decide_eq_true_iff])
theorem EqVs.iS {K : PySem.W.Frag} {H : Hp} {n : Nat} : ∀ {xs ys : List V}, xs.all My.iS = true → ys.all My.iS = true → EqVs K H n xs ys (decide (xs = ys))
  | [], [], _, _ => .nil
  | [], _ :: _, _, _ => .nilc
  | _ :: _, [], _, _ => .cnil
  | x :: xs, y :: ys, h1, h2 => by
    rw [List.all_cons, Bool.and_eq_true] at h1 h2
    have t := EqVs.cons (EqV.iS h1.1 h2.1) (EqVs.iS (K := K) (H := H) (n := n) h1.2 h2.2)
    have e : (decide (x = y) && decide (xs = ys)) = decide (x :: xs = y :: ys) := by
      rw [Bool.eq_iff_iff]
      simp
    rw [e] at t
    exact t
theorem Rw.iS (r : Rw) : r.vs.all My.iS = true := by cases r <;> rfl
theorem Rw.vs_inj {r q : Rw} (h : r.vs = q.vs) : r = q := by
  cases r <;> cases q <;> simp only [Rw.vs, List.cons.injEq, V.str.injEq, V.int.injEq, and_true] at h
  case sent.got => exact absurd h.1 (by decide)
  case sent.told => exact absurd h.1 (by decide)
  case got.sent => exact absurd h.1 (by decide)
  case got.told => exact absurd h.1 (by decide)
  case told.sent => exact absurd h.1 (by decide)
  case told.got => exact absurd h.1 (by decide)
  case sent.sent => rw [h.2.1, h.2.2]
  case got.got => rw [h.2.1, h.2.2.1, h.2.2.2]
  case told.told => rw [h.2.1, h.2.2.1, h.2.2.2.1, h.2.2.2.2]
theorem RwAt.eqv {K : PySem.W.Frag} {H : Hp} {x y : V} {r q : Rw} {n : Nat} (hx : RwAt H x r) (hy : RwAt H y q) : EqV K H (n + 1) x y (decide (r = q)) := by
  obtain ⟨p, rfl, hp⟩ := hx
  obtain ⟨p', rfl, hp'⟩ := hy
  by_cases d : p = p'
  · subst d
    have e : r = q := Rw.vs_inj (by
      rw [hp] at hp'
      exact HO.tup.inj (Option.some.inj hp'))
    rw [decide_eq_true e]
    exact .one
  · have t := EqVs.iS (K := K) (H := H) (n := n) r.iS q.iS
    have e : decide (r.vs = q.vs) = decide (r = q) := by
      rw [decide_eq_decide]
      exact ⟨Rw.vs_inj, fun h => by rw [h]⟩
    rw [e] at t
    exact .tups d (.of hp) (.of hp') t
theorem RwAt.eqvs {K : PySem.W.Frag} {H : Hp} {n : Nat} : ∀ {xs ys : List V} {rs qs : List Rw}, All2 (RwAt H) xs rs → All2 (RwAt H) ys qs → EqVs K H (n + 1) xs ys (decide (rs = qs))
  | [], [], [], [], _, _ => .nil
  | [], y :: ys, [], q :: qs, _, _ => .nilc
  | x :: xs, [], r :: rs, [], _, _ => .cnil
  | x :: xs, y :: ys, r :: rs, q :: qs, h1, h2 => by
    have t := EqVs.cons (RwAt.eqv (n := n) (h1.2 0 x r rfl rfl) (h2.2 0 y q rfl rfl)) (RwAt.eqvs (K := K) (n := n) (xs := xs) (ys := ys) (rs := rs) (qs := qs) ⟨Nat.succ.inj h1.1, fun i a b ha hb => h1.2 (i + 1) a b ha hb⟩ ⟨Nat.succ.inj h2.1, fun i a b ha hb => h2.2 (i + 1) a b ha hb⟩)
    have e : (decide (r = q) && decide (rs = qs)) = decide (r :: rs = q :: qs) := by
      rw [Bool.eq_iff_iff]
      simp
    rw [e] at t
    exact t
  | [], _, _ :: _, _, h, _ => nomatch h.1
  | _ :: _, _, [], _, h, _ => nomatch h.1
  | _, [], _, _ :: _, _, h => nomatch h.1
  | _, _ :: _, _, [], _, h => nomatch h.1
/-- is it a history of so many members -/
def histB (M : Int) (rs : List Rw) : Bool := rs.all (Rw.okB M) && decide ((rs.filter Rw.sentB).length ≤ 30)
theorem Rw.ok_mem {M : Int} {r : Rw} (h : r.okB M = true) : 0 ≤ r.mem ∧ r.mem ≤ M - 1 := by
  cases r <;> simp only [Rw.okB, inR, Rw.mem, Bool.and_eq_true, decide_eq_true_eq] at * <;> exact h.1
theorem i_slTn {K : PySem.W.Frag} {H : Hp} {Q : VK} {p : Addr} {xs : List V} {lo hi : Option Int} (h0 : SqT K H p xs) (h1 : ¬ (HT.sIx xs.length 0 lo = 0 ∧ HT.sIx xs.length xs.length hi = xs.length)) (h : ∀ b, H b = none → Q (.ref b) (upd H b (.tup (cutV xs lo hi)))) : rSlU K (.ref p) lo hi H Q := .inr ⟨p, xs, rfl, h0, h1, h⟩
end My
/-! histories: why a row can't be, and what it does (no program in sight) -/
namespace My
open PySem L2
abbrev Idn := Int × Int
/-- the ids of each sender are those from 1 on -/
def Num (l : List Idn) : Prop := ∀ s n : Int, (s, n) ∈ l ↔ 1 ≤ n ∧ n ≤ (cnt l s : Int)
theorem Num.nil : Num [] := fun s n => by
  simp only [List.not_mem_nil, false_iff, cnt, List.filter_nil, List.length_nil]
  omega
theorem Num.snoc {l : List Idn} {s n : Int} (h : Num l) (e : n = (cnt l s : Int) + 1) : Num (l ++ [(s, n)]) := by
  intro t k
  rw [List.mem_append, List.mem_singleton, h t k, cnt_snoc, Prod.mk.injEq]
  by_cases c : s = t
  · subst c
    rw [if_pos rfl]
    omega
  · rw [if_neg c]
    constructor
    · rintro (h | h)
      · omega
      · exact absurd h.1.symm c
    · intro h
      exact .inl (by omega)
theorem cnt_le {l : List Idn} {s : Int} : cnt l s ≤ l.length := List.length_filter_le _ _
theorem cnt_pos {l : List Idn} {s : Int} (h : 0 < cnt l s) : ∃ n, (s, n) ∈ l := by
  obtain ⟨z, hz⟩ := List.exists_mem_of_length_pos h
  rw [List.mem_filter, decide_eq_true_eq] at hz
  obtain ⟨a, b⟩ := z
  cases hz.2
  exact ⟨b, hz.1⟩
/-- has all of C -/
def hasB (C R : List Idn) : Bool := C.all fun z => decide (z ∈ R)
theorem has_num {C R : List Idn} (hC : Num C) (hR : Num R) : hasB C R = true ↔ ∀ s, cnt C s ≤ cnt R s := by
  rw [hasB, List.all_eq_true]
  constructor
  · intro h s
    by_cases c : cnt C s = 0
    · omega
    · have h1 := (hC s (cnt C s)).mpr ⟨by omega, Int.le_refl _⟩
      have h2 := of_decide_eq_true (h _ h1)
      have h3 := ((hR s (cnt C s)).mp h2).2
      omega
  · rintro h ⟨s, n⟩ hz
    have h1 := (hC s n).mp hz
    have h2 := h s
    exact decide_eq_true ((hR s n).mpr ⟨h1.1, by omega⟩)
/-- the counts of a row of ids, by members -/
def cnts (M : Nat) (l : List Idn) : List Int := (List.range M).map fun s => (cnt l (s : Nat) : Int)
theorem has_cnts {M : Nat} {C R : List Idn} (hC : Num C) (hR : Num R) (hr : ∀ z ∈ C, 0 ≤ z.1 ∧ z.1 ≤ (M : Int) - 1) : hasB C R = (List.range M).all fun s => decide (cnt C (s : Nat) ≤ cnt R (s : Nat)) := by
  rw [Bool.eq_iff_iff, has_num hC hR, List.all_eq_true]
  constructor
  · exact fun h s _ => decide_eq_true (h s)
  · intro h s
    by_cases c : cnt C s = 0
    · omega
    · obtain ⟨n, hn⟩ := cnt_pos (l := C) (s := s) (by omega)
      have b := hr _ hn
      simp only at b
      obtain ⟨k, rfl⟩ := Int.eq_ofNat_of_zero_le b.1
      exact of_decide_eq_true (h k (List.mem_range.mpr (by omega)))
structure Ms where
  cs : List (Idn × List Idn)
  got : List (List Idn)
  told : List (List Idn)
  lg : List Idn
def Ms.keys (S : Ms) : List Idn := S.cs.map (·.1)
def rowOf (ls : List (List Idn)) (i : Int) : List Idn := ls.getD i.toNat []
def causesOf (cs : List (Idn × List Idn)) (z : Idn) : List Idn := ((cs.find? fun p => decide (p.1 = z)).map (·.2)).getD []
def otherB (lg : List Idn) (p : Int) (z : Idn) : Bool := if p ≤ lg.length then decide (lg[(p - 1).toNat]? ≠ some z) else decide (z ∈ lg)
def whyGot (S : Ms) (m : Int) (z : Idn) : Option Str :=
  if z.1 = m then some "own" else if z ∉ S.keys then some "unsent" else if z ∈ rowOf S.got m then some "again" else if hasB (causesOf S.cs z) (rowOf S.got m) = true then none else some "early"
def whyTold (S : Ms) (m p : Int) (z : Idn) : Option Str :=
  if p ≠ ((rowOf S.told m).length : Int) + 1 then some "place" else if z ∉ rowOf S.got m then some "not got" else if z ∈ rowOf S.told m then some "again" else if otherB S.lg p z = true then some "other" else if hasB (causesOf S.cs z) (rowOf S.told m) = true then none else some "causes"
def Ms.sent (S : Ms) (m : Int) : Ms := { S with cs := S.cs ++ [(nxt S.keys m, rowOf S.got m)], got := S.got.set m.toNat (rowOf S.got m ++ [nxt S.keys m]) }
def Ms.goGot (S : Ms) (m : Int) (z : Idn) : Ms := { S with got := S.got.set m.toNat (rowOf S.got m ++ [z]) }
def Ms.goTold (S : Ms) (m : Int) (z : Idn) : Ms := { S with told := S.told.set m.toNat (rowOf S.told m ++ [z]), lg := if (rowOf S.told m).length + 1 > S.lg.length then S.lg ++ [z] else S.lg }
structure Inw (M : Nat) (S : Ms) : Prop where
  m5 : M ≤ 5
  lgot : S.got.length = M
  ltold : S.told.length = M
  kr : ∀ z ∈ S.keys, 0 ≤ z.1 ∧ z.1 ≤ (M : Int) - 1
  kn : Num S.keys
  cn : ∀ p ∈ S.cs, Num p.2 ∧ (∀ z ∈ p.2, z ∈ S.keys) ∧ (cnt p.2 p.1.1 : Int) = p.1.2 - 1
  gn : ∀ l ∈ S.got, Num l ∧ ∀ z ∈ l, z ∈ S.keys
  own : ∀ i : Nat, i < M → cnt (rowOf S.got (i : Nat)) (i : Nat) = cnt S.keys (i : Nat)
  tn : ∀ l ∈ S.told, Num l ∧ ∀ z ∈ l, z ∈ S.keys
  tp : ∀ l ∈ S.told, l <+: S.lg
  ln : S.lg.Nodup
  le : S.lg = [] ∨ S.lg ∈ S.told
def Ms.new (M : Nat) : Ms := ⟨[], List.replicate M [], List.replicate M [], []⟩
theorem Inw.new {M : Nat} (hM : M ≤ 5) : Inw M (Ms.new M) where
  m5 := hM
  lgot := List.length_replicate
  ltold := List.length_replicate
  kr := fun _ h => nomatch h
  kn := Num.nil
  cn := fun _ h => nomatch h
  gn := fun l h => by
    rw [List.eq_of_mem_replicate h]
    exact ⟨Num.nil, fun _ h => nomatch h⟩
  own := fun i h => by
    have e : rowOf (Ms.new M).got (i : Nat) = [] := by
      unfold rowOf Ms.new
      rw [List.getD_eq_getElem?_getD, List.getElem?_replicate]
      split <;> rfl
    rw [e]
    rfl
  tn := fun l h => by
    rw [List.eq_of_mem_replicate h]
    exact ⟨Num.nil, fun _ h => nomatch h⟩
  tp := fun l h => by
    rw [List.eq_of_mem_replicate h]
    exact List.nil_prefix
  ln := List.nodup_nil
  le := .inl rfl
theorem row_mem {ls : List (List Idn)} {M : Nat} {i : Int} (hl : ls.length = M) (h : 0 ≤ i ∧ i ≤ (M : Int) - 1) : ∃ l, ls[i.toNat]? = some l ∧ rowOf ls i = l ∧ l ∈ ls := by
  have hi : i.toNat < ls.length := by omega
  refine ⟨ls[i.toNat], List.getElem?_eq_getElem hi, ?_, List.getElem_mem hi⟩
  unfold rowOf
  rw [List.getD_eq_getElem?_getD, List.getElem?_eq_getElem hi]
  rfl
theorem causes_mem {cs : List (Idn × List Idn)} {z : Idn} (h : z ∈ cs.map (·.1)) : (z, causesOf cs z) ∈ cs := by
  unfold causesOf
  cases e : cs.find? fun p => decide (p.1 = z) with
  | none =>
    obtain ⟨p, hp, rfl⟩ := List.mem_map.mp h
    have := List.find?_eq_none.mp e p hp
    simp at this
  | some p =>
    have h1 := List.mem_of_find?_eq_some e
    have h2 : p.1 = z := by
      have := List.find?_some e
      simpa using this
    subst h2
    exact h1
theorem mem_set {ls : List (List Idn)} {i : Nat} {l x : List Idn} (h : x ∈ ls.set i l) : x ∈ ls ∨ x = l := List.mem_or_eq_of_mem_set h
section
variable {M : Nat} {S : Ms}
theorem Inw.causes (h : Inw M S) {z : Idn} (hz : z ∈ S.keys) : Num (causesOf S.cs z) ∧ (∀ y ∈ causesOf S.cs z, y ∈ S.keys) ∧ (cnt (causesOf S.cs z) z.1 : Int) = z.2 - 1 := h.cn _ (causes_mem hz)
theorem Inw.gotR (h : Inw M S) {m : Int} (hm : 0 ≤ m ∧ m ≤ (M : Int) - 1) : Num (rowOf S.got m) ∧ ∀ z ∈ rowOf S.got m, z ∈ S.keys := by
  obtain ⟨l, _, e, hl⟩ := row_mem h.lgot hm
  rw [e]
  exact h.gn l hl
theorem Inw.toldR (h : Inw M S) {m : Int} (hm : 0 ≤ m ∧ m ≤ (M : Int) - 1) : Num (rowOf S.told m) ∧ (∀ z ∈ rowOf S.told m, z ∈ S.keys) ∧ rowOf S.told m <+: S.lg := by
  obtain ⟨l, _, e, hl⟩ := row_mem h.ltold hm
  rw [e]
  exact ⟨(h.tn l hl).1, (h.tn l hl).2, h.tp l hl⟩
/-- the next of a sender, if its causes are there -/
theorem Inw.next (h : Inw M S) {z : Idn} {R : List Idn} (hz : z ∈ S.keys) (hR : Num R) (n : z ∉ R) (c : hasB (causesOf S.cs z) R = true) : z.2 = (cnt R z.1 : Int) + 1 := by
  obtain ⟨c1, _, c3⟩ := h.causes hz
  have h1 := (has_num c1 hR).mp c z.1
  have h2 := ((h.kn z.1 z.2).mp hz).1
  have h3 : ¬ (1 ≤ z.2 ∧ z.2 ≤ (cnt R z.1 : Int)) := fun q => n ((hR z.1 z.2).mpr q)
  omega
theorem Inw.goGot (h : Inw M S) {m : Int} {z : Idn} (hm : 0 ≤ m ∧ m ≤ (M : Int) - 1) (w : whyGot S m z = none) : Inw M (S.goGot m z) := by
  unfold whyGot at w
  split at w
  · cases w
  split at w
  · cases w
  split at w
  · cases w
  split at w
  · rename_i c1 c2 c3 c4
    have hz : z ∈ S.keys := Classical.not_not.mp c2
    obtain ⟨g1, g2⟩ := h.gotR hm
    have e := h.next hz g1 c3 c4
    exact { h with
      lgot := by show (S.got.set _ _).length = M; rw [List.length_set]; exact h.lgot
      gn := fun l hl => by
        rcases mem_set hl with hl | rfl
        · exact h.gn l hl
        · refine ⟨?_, fun y hy => ?_⟩
          · obtain ⟨a, b⟩ := z
            exact g1.snoc e
          · rcases List.mem_append.mp hy with hy | hy
            · exact g2 y hy
            · rw [List.mem_singleton.mp hy]
              exact hz
      own := fun i hi => by
        show cnt (rowOf (S.got.set m.toNat (rowOf S.got m ++ [z])) (i : Nat)) (i : Nat) = cnt S.keys (i : Nat)
        rw [← h.own i hi]
        unfold rowOf
        rw [Int.toNat_natCast, List.getD_eq_getElem?_getD, List.getD_eq_getElem?_getD, List.getElem?_set]
        by_cases c : m.toNat = i
        · subst c
          rw [if_pos rfl, if_pos (by rw [h.lgot]; exact hi)]
          show cnt (S.got.getD m.toNat [] ++ [z]) _ = _
          rw [cnt_snoc, if_neg (by omega), List.getD_eq_getElem?_getD]
          rfl
        · rw [if_neg c, List.getD_eq_getElem?_getD] }
  · cases w
theorem Inw.sent (h : Inw M S) {m : Int} (hm : 0 ≤ m ∧ m ≤ (M : Int) - 1) : Inw M (S.sent m) := by
  obtain ⟨g1, g2⟩ := h.gotR hm
  obtain ⟨i, rfl⟩ := Int.eq_ofNat_of_zero_le hm.1
  have hi : i < M := by omega
  have ho := h.own i hi
  have ek : (S.sent (i : Nat)).keys = S.keys ++ [nxt S.keys (i : Nat)] := by
    unfold Ms.keys Ms.sent
    rw [List.map_append]
    rfl
  have sub : ∀ z, z ∈ S.keys → z ∈ (S.sent (i : Nat)).keys := fun z hz => by rw [ek]; exact List.mem_append_left _ hz
  have nin : nxt S.keys (i : Nat) ∈ (S.sent (i : Nat)).keys := by rw [ek]; exact List.mem_append_right _ (List.mem_singleton.mpr rfl)
  exact {
    m5 := h.m5
    lgot := by show (S.got.set _ _).length = M; rw [List.length_set]; exact h.lgot
    ltold := h.ltold
    kr := fun z hz => by
      rw [ek] at hz
      rcases List.mem_append.mp hz with hz | hz
      · exact h.kr z hz
      · rw [List.mem_singleton.mp hz]
        exact hm
    kn := by
      rw [ek]
      exact h.kn.snoc (Int.add_comm _ _)
    cn := fun p hp => by
      rcases List.mem_append.mp hp with hp | hp
      · obtain ⟨a, b, c⟩ := h.cn p hp
        exact ⟨a, fun z hz => sub z (b z hz), c⟩
      · rw [List.mem_singleton.mp hp]
        refine ⟨g1, fun z hz => sub z (g2 z hz), ?_⟩
        show ((cnt (rowOf S.got (i : Nat)) (i : Nat) : Nat) : Int) = 1 + ((cnt S.keys (i : Nat) : Nat) : Int) - 1
        rw [ho]
        omega
    gn := fun l hl => by
      rcases mem_set hl with hl | rfl
      · exact ⟨(h.gn l hl).1, fun z hz => sub z ((h.gn l hl).2 z hz)⟩
      · refine ⟨g1.snoc (by rw [ho, Int.add_comm]), fun y hy => ?_⟩
        rcases List.mem_append.mp hy with hy | hy
        · exact sub y (g2 y hy)
        · rw [List.mem_singleton.mp hy]
          exact nin
    own := fun j hj => by
      show cnt (rowOf (S.got.set _ (rowOf S.got (i : Nat) ++ [nxt S.keys (i : Nat)])) (j : Nat)) (j : Nat) = cnt (S.sent (i : Nat)).keys (j : Nat)
      rw [ek, cnt_snoc, ← h.own j hj]
      unfold rowOf
      rw [Int.toNat_natCast, Int.toNat_natCast, List.getD_eq_getElem?_getD, List.getD_eq_getElem?_getD, List.getD_eq_getElem?_getD, List.getElem?_set]
      by_cases c : i = j
      · subst c
        rw [if_pos rfl, if_pos (by rw [h.lgot]; exact hi)]
        show cnt ((S.got[i]?.getD []) ++ [_]) _ = _
        rw [cnt_snoc]
      · rw [if_neg c, if_neg (show ¬ (nxt S.keys (i : Nat)).1 = (j : Nat) from fun e => c (by have : ((i : Nat) : Int) = (j : Nat) := e; omega))]
        rfl
    tn := fun l hl => ⟨(h.tn l hl).1, fun z hz => sub z ((h.tn l hl).2 z hz)⟩
    tp := h.tp
    ln := h.ln
    le := h.le }
/-- told: what follows of it -/
theorem told_other {m p : Int} {z : Idn} (h : Inw M S) (hm : 0 ≤ m ∧ m ≤ (M : Int) - 1) (hp : p = ((rowOf S.told m).length : Int) + 1) (hz : z ∉ rowOf S.told m) (o : otherB S.lg p z = false) :
    (∃ r, S.lg = rowOf S.told m ++ z :: r ∧ (S.goTold m z).lg = S.lg) ∨ (rowOf S.told m = S.lg ∧ (S.goTold m z).lg = S.lg ++ [z]) := by
  obtain ⟨_, _, r, e⟩ := h.toldR hm
  have el : S.lg.length = (rowOf S.told m).length + r.length := by rw [← e, List.length_append]
  have pn : (p - 1).toNat = (rowOf S.told m).length := by omega
  unfold otherB at o
  cases r with
  | nil =>
    rw [List.append_nil] at e
    refine .inr ⟨e, ?_⟩
    show (if _ then _ else _) = _
    rw [if_pos (by rw [el]; simp)]
  | cons y r =>
    rw [List.length_cons] at el
    rw [if_pos (by omega), pn, decide_eq_false_iff_not, Classical.not_not, ← e, List.getElem?_append_right (Nat.le_refl _), Nat.sub_self] at o
    cases o
    refine .inl ⟨r, e.symm, ?_⟩
    show (if _ then _ else _) = _
    rw [if_neg (by omega)]
theorem Inw.goTold (h : Inw M S) {m p : Int} {z : Idn} (hm : 0 ≤ m ∧ m ≤ (M : Int) - 1) (w : whyTold S m p z = none) : Inw M (S.goTold m z) := by
  unfold whyTold at w
  split at w
  · cases w
  split at w
  · cases w
  split at w
  · cases w
  split at w
  · cases w
  split at w
  · rename_i c1 c2 c3 c4 c5
    have hp : p = ((rowOf S.told m).length : Int) + 1 := Classical.not_not.mp c1
    have hg : z ∈ rowOf S.got m := Classical.not_not.mp c2
    have hz : z ∈ S.keys := (h.gotR hm).2 z hg
    obtain ⟨g1, g2, g3⟩ := h.toldR hm
    have e := h.next hz g1 c3 c5
    have o := told_other h hm hp c3 (Bool.eq_false_iff.mpr c4)
    have new : rowOf S.told m ++ [z] ∈ (S.goTold m z).told := by
      obtain ⟨l, e1, _, _⟩ := row_mem h.ltold hm
      exact List.mem_of_getElem? (i := m.toNat) (by show (S.told.set _ _)[_]? = _; rw [List.getElem?_set, if_pos rfl, if_pos (List.getElem?_eq_some_iff.mp e1).1])
    have pre : S.lg <+: (S.goTold m z).lg := by
      rcases o with ⟨r, _, e2⟩ | ⟨_, e2⟩
      · rw [e2]
        exact List.prefix_refl _
      · rw [e2]
        exact List.prefix_append _ _
    exact { h with
      ltold := by show (S.told.set _ _).length = M; rw [List.length_set]; exact h.ltold
      tn := fun l hl => by
        rcases mem_set hl with hl | rfl
        · exact h.tn l hl
        · refine ⟨?_, fun y hy => ?_⟩
          · obtain ⟨a, b⟩ := z
            exact g1.snoc e
          · rcases List.mem_append.mp hy with hy | hy
            · exact g2 y hy
            · rw [List.mem_singleton.mp hy]
              exact hz
      tp := fun l hl => by
        rcases mem_set hl with hl | rfl
        · exact (h.tp l hl).trans pre
        · rcases o with ⟨r, e1, e2⟩ | ⟨e1, e2⟩
          · rw [e2, e1]
            exact ⟨r, by simp⟩
          · rw [e2, e1]
            exact List.prefix_refl _
      ln := by
        rcases o with ⟨r, e1, e2⟩ | ⟨e1, e2⟩
        · rw [e2]
          exact h.ln
        · rw [e2, List.nodup_append]
          refine ⟨h.ln, List.pairwise_singleton _ _, fun a ha b hb c => ?_⟩
          rw [List.mem_singleton.mp hb] at c
          subst c
          exact c3 (e1 ▸ ha)
      le := by
        rcases o with ⟨r, e1, e2⟩ | ⟨e1, e2⟩
        · right
          rw [e2]
          rcases h.le with q | q
          · rw [q] at e1
            exact absurd e1 (by simp)
          · obtain ⟨j, hj⟩ := List.mem_iff_getElem?.mp q
            by_cases c : m.toNat = j
            · subst c
              obtain ⟨l, e3, e4, _⟩ := row_mem h.ltold hm
              rw [e3] at hj
              cases hj
              rw [e4] at e1
              have := congrArg List.length e1
              simp at this
            · exact List.mem_of_getElem? (i := j) (by show (S.told.set _ _)[_]? = _; rw [List.getElem?_set, if_neg c]; exact hj)
        · right
          rw [e2, ← e1]
          exact new }
  · cases w
end
section
variable {M : Nat} {S : Ms} {m p : Int} {z : Idn}
theorem pre_at {l r : List Idn} {j : Nat} {y : Idn} (h : l <+: r) (e : l[j]? = some y) : r[j]? = some y := by
  obtain ⟨t, rfl⟩ := h
  rw [List.getElem?_append_left (List.getElem?_eq_some_iff.mp e).1]
  exact e
theorem told_all (h : Inw M S) (hm : 0 ≤ m ∧ m ≤ (M : Int) - 1) (hp : p = ((rowOf S.told m).length : Int) + 1) (c : ¬ p ≤ S.lg.length) : rowOf S.told m = S.lg := by
  obtain ⟨_, _, r, e⟩ := h.toldR hm
  have el : S.lg.length = (rowOf S.told m).length + r.length := by rw [← e, List.length_append]
  have : r = [] := List.eq_nil_of_length_eq_zero (by omega)
  rw [this, List.append_nil] at e
  exact e
theorem other_true1 {l : List Idn} (h : Inw M S) (hl : l ∈ S.told) (h1 : 1 ≤ p) (h2 : p ≤ l.length) (h3 : l[(p - 1).toNat]? ≠ some z) : otherB S.lg p z = true := by
  have pr := h.tp l hl
  have le := pr.length_le
  unfold otherB
  rw [if_pos (by omega)]
  refine decide_eq_true fun e => h3 ?_
  have hlt : (p - 1).toNat < l.length := by omega
  rw [pre_at pr (List.getElem?_eq_getElem hlt)] at e
  rw [List.getElem?_eq_getElem hlt]
  exact e
theorem other_true2 {l : List Idn} {j : Nat} (h : Inw M S) (hm : 0 ≤ m ∧ m ≤ (M : Int) - 1) (hp : p = ((rowOf S.told m).length : Int) + 1) (hz : z ∉ rowOf S.told m) (hl : l ∈ S.told) (hj : l[j]? = some z) (n : (j : Int) ≠ p - 1) : otherB S.lg p z = true := by
  have e := pre_at (h.tp l hl) hj
  unfold otherB
  by_cases c : p ≤ S.lg.length
  · rw [if_pos c]
    refine decide_eq_true fun e2 => ?_
    have a1 := (List.getElem?_eq_some_iff.mp e).1
    have a2 := (List.getElem?_eq_some_iff.mp e2).1
    have := (List.getElem?_inj a1 h.ln).mp (e.trans e2.symm)
    omega
  · exact absurd (told_all h hm hp c ▸ List.mem_of_getElem? e) hz
theorem other_false (h : Inw M S) (hm : 0 ≤ m ∧ m ≤ (M : Int) - 1) (hp : p = ((rowOf S.told m).length : Int) + 1) (hz : z ∉ rowOf S.told m)
    (ha : ∀ (k : Nat) l, (k : Int) ≠ m → S.told[k]? = some l → p ≤ l.length → l[(p - 1).toNat]? = some z) : otherB S.lg p z = false := by
  unfold otherB
  by_cases c : p ≤ S.lg.length
  · rw [if_pos c]
    refine decide_eq_false (Classical.not_not.mpr ?_)
    rcases h.le with q | q
    · rw [q] at c
      simp only [List.length_nil] at c
      omega
    · obtain ⟨k, hk⟩ := List.mem_iff_getElem?.mp q
      refine ha k _ (fun e => ?_) hk c
      subst e
      obtain ⟨l, e1, e2, _⟩ := row_mem h.ltold hm
      rw [Int.toNat_natCast] at e1
      rw [hk] at e1
      cases e1
      rw [e2] at hp
      omega
  · rw [if_neg c]
    exact decide_eq_false (told_all h hm hp c ▸ hz)
/-- why a row can't be -/
def Ms.why (S : Ms) : Rw → Option Str
  | .sent _ _ => none
  | .got m s n => whyGot S m (s, n)
  | .told m p s n => whyTold S m p (s, n)
def Ms.go (S : Ms) : Rw → Ms
  | .sent m _ => S.sent m
  | .got m s n => S.goGot m (s, n)
  | .told m _ s n => S.goTold m (s, n)
theorem Inw.got_next {m s n : Int} (h : Inw M S) (hm : 0 ≤ m ∧ m ≤ (M : Int) - 1) (w : whyGot S m (s, n) = none) : n = (cnt (rowOf S.got m) s : Int) + 1 := by
  unfold whyGot at w
  split at w
  · cases w
  split at w
  · cases w
  split at w
  · cases w
  split at w
  · rename_i c1 c2 c3 c4
    exact h.next (Classical.not_not.mp c2) (h.gotR hm).1 c3 c4
  · cases w
theorem Inw.told_next {m p s n : Int} (h : Inw M S) (hm : 0 ≤ m ∧ m ≤ (M : Int) - 1) (w : whyTold S m p (s, n) = none) : n = (cnt (rowOf S.told m) s : Int) + 1 := by
  unfold whyTold at w
  split at w
  · cases w
  split at w
  · cases w
  split at w
  · cases w
  split at w
  · cases w
  split at w
  · rename_i c1 c2 c3 c4 c5
    exact h.next ((h.gotR hm).2 _ (Classical.not_not.mp c2)) (h.toldR hm).1 c3 c5
  · cases w
/-- a row that can be leaves all as it must be -/
theorem Inw.go {r : Rw} (h : Inw M S) (hok : r.okB M = true) (w : S.why r = none) : Inw M (S.go r) := by
  have hm := Rw.ok_mem hok
  cases r with
  | sent m z => exact h.sent hm
  | got m s n => exact h.goGot hm w
  | told m p s n => exact h.goTold hm w
theorem keys_go {r : Rw} : (S.go r).keys.length = S.keys.length + ([r].filter Rw.sentB).length := by
  cases r with
  | sent m z =>
    show (List.map _ (S.cs ++ _)).length = _
    rw [List.map_append, List.length_append]
    rfl
  | got m s n => rfl
  | told m p s n => rfl
/-- the first row that can't be, from the i-th on -/
def firstW (S : Ms) : List Rw → Nat → Option (Nat × Str)
  | [], _ => none
  | r :: rs, i => match S.why r with
    | some w => some (i, w)
    | none => firstW (S.go r) rs (i + 1)
end
end My
/-! histories: the law's model and the program's walk in the heap -/
namespace My
open PySem L2
/-- the list at q holds these ids -/
def IdL (H : Hp) (q : Addr) (l : List Idn) : Prop := ∃ xs, H q = some (.lst xs) ∧ All2 (IdAt H) xs l
theorem IdL.keeps {H H' : Hp} {q : Addr} {l : List Idn} (k : ∀ b xs, H b = some (.tup xs) → H' b = some (.tup xs)) (kq : ∀ u, H q = some u → H' q = some u) (h : IdL H q l) : IdL H' q l := by
  obtain ⟨xs, e, a⟩ := h
  exact ⟨xs, kq _ e, a.mono fun _ _ => IdAt.keeps k⟩
theorem IdL.same {H H' : Hp} {q : Addr} {l : List Idn} (s : Same H H') (h : IdL H q l) : IdL H' q l := h.keeps (fun _ _ => s _ _) (fun _ => s _ _)
theorem All2.setR {α β : Type} {R R' : α → β → Prop} {xs : List α} {ys : List β} {i : Nat} {x : α} {y : β} (h : All2 R xs ys) (hx : xs[i]? = some x) (nd : xs.Nodup) (k : ∀ u w, u ≠ x → R u w → R' u w) (r : R' x y) : All2 R' xs (ys.set i y) := by
  refine ⟨by rw [List.length_set]; exact h.1, fun j u w hu hw => ?_⟩
  by_cases c : i = j
  · subst c
    rw [hx] at hu
    cases hu
    rw [List.getElem?_set] at hw
    simp only [if_true] at hw
    split at hw
    · cases hw
      exact r
    · cases hw
  · rw [List.getElem?_set_ne c] at hw
    refine k u w (fun e => c ?_) (h.2 j u w hu hw)
    subst e
    exact (List.getElem?_inj (List.getElem?_eq_some_iff.mp hx).1 nd).mp (hx.trans hu.symm)
structure MdA where
  F : Addr → Prop
  n : Nat
  c : Addr
  wd : Addr
  g : Addr
  t : Addr
  ck : List (List Key × V)
  wk : List (List Key × V)
  gq : List Addr
  tq : List Addr
/-- the model: exactly -/
structure MdX (H : Hp) (o : Addr) (a : MdA) (S : Ms) : Prop where
  ho : H o = some (.dK [(.inr "causes", .ref a.c), (.inr "words", .ref a.wd), (.inr "got", .ref a.g), (.inr "told", .ref a.t)])
  hc : H a.c = some (.dT a.ck)
  hw : H a.wd = some (.dT a.wk)
  hg : H a.g = some (.lst (a.gq.map V.ref))
  ht : H a.t = some (.lst (a.tq.map V.ref))
  cw : a.c ≠ a.wd
  fo : a.F o
  fc : a.F a.c
  fw : a.F a.wd
  fg : a.F a.g
  ft : a.F a.t
  fd : ∀ b, a.F b → H b ≠ none
  kc : All2 (fun p z => p.1 = idK z.1 ∧ ∃ q, p.2 = .ref q ∧ IdL H q z.2 ∧ q ∉ a.gq ++ a.tq ∧ a.F q) a.ck S.cs
  kg : All2 (IdL H) a.gq S.got
  kt : All2 (IdL H) a.tq S.told
  nd : (a.gq ++ a.tq).Nodup
  fq : ∀ q ∈ a.gq ++ a.tq, a.F q
  gn : a.gq ≠ []
  tn : a.tq ≠ []
  kw : a.wk.length ≤ S.keys.length
  kl : S.keys.length ≤ a.n
  nl : ∀ l ∈ S.got ++ S.told, l.length ≤ a.n
  nn : a.n ≤ 450
section
variable {H H' : Hp} {o : Addr} {a : MdA} {S : Ms}
theorem MdX.kept (k : Kept a.F H H') (h : MdX H o a S) : MdX H' o a S :=
  have tp : ∀ b xs, H b = some (.tup xs) → H' b = some (.tup xs) := fun b xs => k _ _ (.inr ⟨xs, rfl⟩)
  { h with
    ho := k _ _ (.inl h.fo) h.ho
    hc := k _ _ (.inl h.fc) h.hc
    hw := k _ _ (.inl h.fw) h.hw
    hg := k _ _ (.inl h.fg) h.hg
    ht := k _ _ (.inl h.ft) h.ht
    fd := fun b f e => by
      cases c : H b with
      | none => exact h.fd b f c
      | some u => rw [k b u (.inl f) c] at e; cases e
    kc := h.kc.mono fun _ _ ⟨e, q, e1, e2, e3, e4⟩ => ⟨e, q, e1, e2.keeps tp (fun _ => k _ _ (.inl e4)), e3, e4⟩
    kg := ⟨h.kg.1, fun i q l hq hl => (h.kg.2 i q l hq hl).keeps tp (fun _ => k _ _ (.inl (h.fq q (List.mem_append_left _ (List.mem_of_getElem? hq)))))⟩
    kt := ⟨h.kt.1, fun i q l hq hl => (h.kt.2 i q l hq hl).keeps tp (fun _ => k _ _ (.inl (h.fq q (List.mem_append_right _ (List.mem_of_getElem? hq)))))⟩ }
theorem MdX.same (s : Same H H') (h : MdX H o a S) : MdX H' o a S := h.kept (.same s)
theorem MdX.out {b : Addr} (h : MdX H o a S) (n : H b = none) : ¬ a.F b := fun f => h.fd b f n
/-- the keys of the dict -/
theorem MdX.keys (h : MdX H o a S) : All2 (fun p z => p.1 = idK z ∧ True) a.ck S.keys := by
  refine ⟨by rw [h.kc.1]; exact (List.length_map ..).symm, fun i p z hp hz => ?_⟩
  unfold Ms.keys at hz
  rw [List.getElem?_map, Option.map_eq_some_iff] at hz
  obtain ⟨y, hy, rfl⟩ := hz
  exact ⟨(h.kc.2 i p y hp hy).1, trivial⟩
theorem find_all2 {β : Type} {R : V → β → Prop} : ∀ {ck : List (List Key × V)} {cs : List (Idn × β)} {z : Idn}, All2 (fun p y => p.1 = idK y.1 ∧ R p.2 y.2) ck cs → z ∈ cs.map (·.1) → ∃ v y, valV ck (idK z) = some v ∧ cs.find? (fun p => decide (p.1 = z)) = some (z, y) ∧ R v y
  | p :: ck, y :: cs, z, h, hz => by
    obtain ⟨h1, h2⟩ := h.2 0 p y rfl rfl
    by_cases c : y.1 = z
    · subst c
      exact ⟨p.2, y.2, by unfold valV; rw [List.find?_cons, decide_eq_true h1]; rfl, by rw [List.find?_cons, decide_eq_true rfl], h2⟩
    · obtain ⟨v, w, e1, e2, e3⟩ := find_all2 (R := R) (ck := ck) (cs := cs) (z := z) ⟨Nat.succ.inj h.1, fun i a b ha hb => h.2 (i + 1) a b ha hb⟩ ((List.mem_cons.mp hz).resolve_left fun e => c e.symm)
      refine ⟨v, w, ?_, by rw [List.find?_cons, decide_eq_false c]; exact e2, e3⟩
      unfold valV
      rw [List.find?_cons, decide_eq_false (fun e => c (idK_inj (h1.symm.trans e)))]
      exact e1
  | [], _ :: _, _, h, _ => nomatch h.1
  | _ :: _, [], _, h, _ => nomatch h.1
theorem MdX.causes (h : MdX H o a S) {z : Idn} (hz : z ∈ S.keys) : ∃ q, valV a.ck (idK z) = some (.ref q) ∧ IdL H q (causesOf S.cs z) := by
  obtain ⟨v, y, e1, e2, q, rfl, e3, _⟩ := find_all2 (R := fun v (l : List Idn) => ∃ q, v = .ref q ∧ IdL H q l ∧ q ∉ a.gq ++ a.tq ∧ a.F q) h.kc hz
  refine ⟨q, e1, ?_⟩
  unfold causesOf
  rw [e2]
  exact e3
theorem atI_of {xs : List V} {j : Nat} {x : V} (h : xs[j]? = some x) : atI xs (j : Int) = some x := by
  have hl := (List.getElem?_eq_some_iff.mp h).1
  obtain ⟨v, _, e, f⟩ := atI_in (xs := xs) (Int.natCast_nonneg j) (by omega)
  rw [Int.toNat_natCast, h] at e
  cases e
  exact f
theorem at_ref {qs : List Addr} {q : Addr} {i : Int} (h0 : 0 ≤ i) (h : qs[i.toNat]? = some q) : atI (qs.map V.ref) i = some (.ref q) := by
  have e : (qs.map V.ref)[i.toNat]? = some (.ref q) := by rw [List.getElem?_map, h]; rfl
  have := atI_of e
  rw [Int.toNat_of_nonneg h0] at this
  exact this
theorem row_at {R : Addr → List Idn → Prop} {qs : List Addr} {ls : List (List Idn)} {M : Nat} {i : Int} (h : All2 R qs ls) (hl : ls.length = M) (hi : 0 ≤ i ∧ i ≤ (M : Int) - 1) : ∃ q, qs[i.toNat]? = some q ∧ atI (qs.map V.ref) i = some (.ref q) ∧ R q (rowOf ls i) ∧ q ∈ qs := by
  obtain ⟨l, e1, e2, _⟩ := row_mem hl hi
  have hq : i.toNat < qs.length := by rw [h.1, hl]; omega
  refine ⟨qs[i.toNat], List.getElem?_eq_getElem hq, at_ref hi.1 (List.getElem?_eq_getElem hq), ?_, List.getElem_mem hq⟩
  rw [e2]
  exact h.2 _ _ _ (List.getElem?_eq_getElem hq) e1
/-- a list of rows is no row -/
theorem MdX.noR (h : MdX H o a S) {q : Addr} {xs : List V} {l : List Idn} {g : Addr} {gq : List Addr} (hg : H g = some (.lst (gq.map V.ref))) (n : gq ≠ []) (hk : ∀ p ∈ gq, ∃ l, IdL H p l) (hq : H q = some (.lst xs)) (ha : All2 (IdAt H) xs l) : g ≠ q := by
  rintro rfl
  rw [hg] at hq
  cases hq
  obtain ⟨p, r, rfl⟩ := List.exists_cons_of_ne_nil n
  obtain ⟨z, _, b, e1, e2⟩ := ha.get (i := 0) rfl
  cases e1
  obtain ⟨_, _, e3, _⟩ := hk p (List.mem_cons_self ..)
  rw [e3] at e2
  cases e2
theorem all2_ex {R : Addr → List Idn → Prop} {qs : List Addr} {ls : List (List Idn)} (h : All2 R qs ls) : ∀ p ∈ qs, ∃ l, R p l := fun p hp => by
  obtain ⟨i, hi⟩ := List.mem_iff_getElem?.mp hp
  obtain ⟨l, _, r⟩ := h.get hi
  exact ⟨l, r⟩
theorem len_set {ls ms : List (List Idn)} {n i : Nat} {l : List Idn} (h : ∀ l ∈ ls ++ ms, l.length ≤ n) (hl : l.length ≤ n + 1) : ∀ x ∈ ls.set i l ++ ms, x.length ≤ n + 1 := fun x hx => by
  rcases List.mem_append.mp hx with hx | hx
  · rcases mem_set hx with hx | rfl
    · exact Nat.le_succ_of_le (h x (List.mem_append_left _ hx))
    · exact hl
  · exact Nat.le_succ_of_le (h x (List.mem_append_right _ hx))
theorem len_set2 {ls ms : List (List Idn)} {n i : Nat} {l : List Idn} (h : ∀ l ∈ ls ++ ms, l.length ≤ n) (hl : l.length ≤ n + 1) : ∀ x ∈ ls ++ ms.set i l, x.length ≤ n + 1 := fun x hx => by
  rcases List.mem_append.mp hx with hx | hx
  · exact Nat.le_succ_of_le (h x (List.mem_append_left _ hx))
  · rcases mem_set hx with hx | rfl
    · exact Nat.le_succ_of_le (h x (List.mem_append_right _ hx))
    · exact hl
theorem MdX.tp {q : Addr} {xs : List V} (hq : H q = some (.lst xs)) (s : SameBut q H H') : ∀ b xs, H b = some (.tup xs) → H' b = some (.tup xs) := fun b xs e => s b _ (fun c => by subst c; rw [hq] at e; cases e) e
theorem MdX.goGot {i : Nat} {q : Addr} {xs : List V} {y : V} {z : Idn} (h : MdX H o a S) (hi : a.gq[i]? = some q) (hq : H q = some (.lst xs)) (ha : All2 (IdAt H) xs (rowOf S.got (i : Nat))) (hy : IdAt H y z) (hn : a.n < 450) (s : SameBut q H H') (hq' : H' q = some (.lst (xs ++ [y]))) : MdX H' o { a with n := a.n + 1 } (S.goGot (i : Nat) z) := by
  have tp := MdX.tp hq s
  have qm : q ∈ a.gq ++ a.tq := List.mem_append_left _ (List.mem_of_getElem? hi)
  have ng := h.noR h.hg h.gn (all2_ex h.kg) hq ha
  have nt := h.noR h.ht h.tn (all2_ex h.kt) hq ha
  obtain ⟨n1, n2, n3⟩ := List.nodup_append.mp h.nd
  exact {
    ho := s _ _ (ne_of h.ho hq (by simp)) h.ho
    hc := s _ _ (ne_of h.hc hq (by simp)) h.hc
    hw := s _ _ (ne_of h.hw hq (by simp)) h.hw
    hg := s _ _ ng h.hg
    ht := s _ _ nt h.ht
    cw := h.cw
    fo := h.fo
    fc := h.fc
    fw := h.fw
    fg := h.fg
    ft := h.ft
    fd := fun b f e => by
      by_cases c : b = q
      · subst c
        rw [hq'] at e
        cases e
      · cases d : H b with
        | none => exact h.fd b f d
        | some u => rw [s b u c d] at e; cases e
    kc := h.kc.mono fun _ _ ⟨e, p, e1, e2, e3, e4⟩ => ⟨e, p, e1, e2.keeps tp (fun _ => s _ _ (fun c => e3 (c ▸ qm))), e3, e4⟩
    kg := by
      show All2 (IdL H') a.gq (S.got.set (Int.toNat (i : Nat)) _)
      rw [Int.toNat_natCast]
      exact h.kg.setR hi n1 (fun u w n r => r.keeps tp (fun _ => s _ _ n)) ⟨_, hq', All2.append (ha.mono fun _ _ => IdAt.keeps tp) (All2.cons (hy.keeps tp) All2.nil)⟩
    kt := ⟨h.kt.1, fun j p l hp hl => (h.kt.2 j p l hp hl).keeps tp (fun _ => s _ _ (fun c => n3 q (List.mem_of_getElem? hi) p (List.mem_of_getElem? hp) c.symm))⟩
    nd := h.nd
    fq := h.fq
    gn := h.gn
    tn := h.tn
    kw := h.kw
    kl := Nat.le_succ_of_le h.kl
    nl := len_set h.nl (by
      rw [List.length_append]
      refine Nat.succ_le_succ (h.nl _ (List.mem_append_left _ ?_))
      have hlt := (List.getElem?_eq_some_iff.mp hi).1
      rw [h.kg.1] at hlt
      unfold rowOf
      rw [Int.toNat_natCast, List.getD_eq_getElem?_getD, List.getElem?_eq_getElem hlt]
      exact List.getElem_mem hlt)
    nn := hn }
theorem MdX.goTold {i : Nat} {q : Addr} {xs : List V} {y : V} {z : Idn} (h : MdX H o a S) (hi : a.tq[i]? = some q) (hq : H q = some (.lst xs)) (ha : All2 (IdAt H) xs (rowOf S.told (i : Nat))) (hy : IdAt H y z) (hn : a.n < 450) (s : SameBut q H H') (hq' : H' q = some (.lst (xs ++ [y]))) : MdX H' o { a with n := a.n + 1 } (S.goTold (i : Nat) z) := by
  have tp := MdX.tp hq s
  have qm : q ∈ a.gq ++ a.tq := List.mem_append_right _ (List.mem_of_getElem? hi)
  have ng := h.noR h.hg h.gn (all2_ex h.kg) hq ha
  have nt := h.noR h.ht h.tn (all2_ex h.kt) hq ha
  obtain ⟨n1, n2, n3⟩ := List.nodup_append.mp h.nd
  exact {
    ho := s _ _ (ne_of h.ho hq (by simp)) h.ho
    hc := s _ _ (ne_of h.hc hq (by simp)) h.hc
    hw := s _ _ (ne_of h.hw hq (by simp)) h.hw
    hg := s _ _ ng h.hg
    ht := s _ _ nt h.ht
    cw := h.cw
    fo := h.fo
    fc := h.fc
    fw := h.fw
    fg := h.fg
    ft := h.ft
    fd := fun b f e => by
      by_cases c : b = q
      · subst c
        rw [hq'] at e
        cases e
      · cases d : H b with
        | none => exact h.fd b f d
        | some u => rw [s b u c d] at e; cases e
    kc := h.kc.mono fun _ _ ⟨e, p, e1, e2, e3, e4⟩ => ⟨e, p, e1, e2.keeps tp (fun _ => s _ _ (fun c => e3 (c ▸ qm))), e3, e4⟩
    kt := by
      show All2 (IdL H') a.tq (S.told.set (Int.toNat (i : Nat)) _)
      rw [Int.toNat_natCast]
      exact h.kt.setR hi n2 (fun u w n r => r.keeps tp (fun _ => s _ _ n)) ⟨_, hq', All2.append (ha.mono fun _ _ => IdAt.keeps tp) (All2.cons (hy.keeps tp) All2.nil)⟩
    kg := ⟨h.kg.1, fun j p l hp hl => (h.kg.2 j p l hp hl).keeps tp (fun _ => s _ _ (fun c => n3 p (List.mem_of_getElem? hp) q (List.mem_of_getElem? hi) c))⟩
    nd := h.nd
    fq := h.fq
    gn := h.gn
    tn := h.tn
    kw := h.kw
    kl := Nat.le_succ_of_le h.kl
    nl := len_set2 h.nl (by
      rw [List.length_append]
      refine Nat.succ_le_succ (h.nl _ (List.mem_append_right _ ?_))
      have hlt := (List.getElem?_eq_some_iff.mp hi).1
      rw [h.kt.1] at hlt
      unfold rowOf
      rw [Int.toNat_natCast, List.getD_eq_getElem?_getD, List.getElem?_eq_getElem hlt]
      exact List.getElem_mem hlt)
    nn := hn }
/-- a key more, its causes the new list at L -/
theorem MdX.put {H1 H2 : Hp} {L : Addr} {l : List Idn} {z : Idn} {v : V} (h : MdX H o a S) (hL : IdL H L l) (nL : ¬ a.F L) (fresh : z ∉ S.keys)
    (s1 : SameBut a.c H H1) (e1 : H1 a.c = some (.dT (putK a.ck (idK z) (.ref L)))) (s2 : SameBut a.wd H1 H2) (e2 : H2 a.wd = some (.dT (putK a.wk (idK z) v))) (hn : a.n < 450) :
    MdX H2 o { a with F := fun b => a.F b ∨ b = L, ck := a.ck ++ [(idK z, .ref L)], wk := putK a.wk (idK z) v, n := a.n + 1 } { S with cs := S.cs ++ [(z, l)] } := by
  have st : ∀ b u, b ≠ a.c → b ≠ a.wd → H b = some u → H2 b = some u := fun b u n1 n2 e => s2 b u n2 (s1 b u n1 e)
  have ls : ∀ b xs, H b = some (.lst xs) → H2 b = some (.lst xs) := fun b xs e => st b _ (ne_of e h.hc (by simp)) (ne_of e h.hw (by simp)) e
  have tp : ∀ b xs, H b = some (.tup xs) → H2 b = some (.tup xs) := fun b xs e => st b _ (ne_of e h.hc (by simp)) (ne_of e h.hw (by simp)) e
  have hc2 : H2 a.c = some (.dT (putK a.ck (idK z) (.ref L))) := s2 _ _ h.cw e1
  have il : ∀ {q l}, IdL H q l → IdL H2 q l := fun ⟨xs, e, b⟩ => ⟨xs, ls _ _ e, b.mono fun _ _ => IdAt.keeps tp⟩
  have ek : ({ S with cs := S.cs ++ [(z, l)] } : Ms).keys = S.keys ++ [z] := by
    unfold Ms.keys
    rw [List.map_append]
    rfl
  exact {
    ho := st _ _ (ne_of h.ho h.hc (by simp)) (ne_of h.ho h.hw (by simp)) h.ho
    hc := by rw [← put_new (R := fun _ => True) h.keys fresh]; exact hc2
    hw := e2
    hg := ls _ _ h.hg
    ht := ls _ _ h.ht
    cw := h.cw
    fo := .inl h.fo
    fc := .inl h.fc
    fw := .inl h.fw
    fg := .inl h.fg
    ft := .inl h.ft
    fd := fun b f e => by
      by_cases c1 : b = a.wd
      · subst c1
        rw [e2] at e
        cases e
      by_cases c2 : b = a.c
      · subst c2
        rw [hc2] at e
        cases e
      rcases f with f | rfl
      · cases d : H b with
        | none => exact h.fd b f d
        | some u => rw [st b u c2 c1 d] at e; cases e
      · obtain ⟨_, e3, _⟩ := hL
        rw [ls _ _ e3] at e
        cases e
    kc := All2.append (h.kc.mono fun _ _ ⟨e, q, q1, q2, q3, q4⟩ => ⟨e, q, q1, il q2, q3, .inl q4⟩) (All2.cons ⟨rfl, L, rfl, il hL, fun c => nL (h.fq L c), .inr rfl⟩ All2.nil)
    kg := h.kg.mono fun _ _ => il
    kt := h.kt.mono fun _ _ => il
    nd := h.nd
    fq := fun q hq => .inl (h.fq q hq)
    gn := h.gn
    tn := h.tn
    kw := by
      rw [ek, List.length_append]
      exact Nat.le_trans (put_len _ _ _) (Nat.succ_le_succ h.kw)
    kl := by
      rw [ek, List.length_append]
      exact Nat.succ_le_succ h.kl
    nl := fun x hx => Nat.le_succ_of_le (h.nl x hx)
    nn := hn }
theorem nxt_fresh {M : Nat} {i : Int} (h : Inw M S) : nxt S.keys i ∉ S.keys := fun hz => by
  have := ((h.kn _ _).mp (show (i, 1 + ((cnt S.keys i : Nat) : Int)) ∈ S.keys from hz)).2
  omega
end
/-- [[] for k in range(n)]: new lists -/
theorem lc_newL {g : TG} {tt : TT} {te : TE} {vs : List Nat} {σ : L2.St} {H1 : Hp} {D : Addr} {Qd : Hp → Prop} {n : Nat} {xs : List V} (hl : n ≤ 1000) (hD : H1 D = none)
    (hs : ∀ i, i < n → ∀ H (Q : VK) (Rr : Hp → Prop), Same H1 H → (∀ q HN, H q = none → Same H HN → HN q = some (.lst xs) → Q (.ref q) HN) →
      g (.int (0 + i)) (wipe σ vs) H fun σ2 H2 => wipe σ2 vs = wipe σ vs ∧ tt σ2 H2 fun b H3 => if b = true then te σ2 H3 Q else Rr H3)
    (hd : ∀ H (qs : List Addr), Same H1 H → H D = some (.lst (qs.map V.ref)) → qs.length = n → (∀ q ∈ qs, H1 q = none ∧ q ≠ D ∧ H q = some (.lst xs)) → qs.Nodup → Qd H) :
    ∃ W : Nat → Nat → Hp → Prop, (∃ m, W 0 m (upd H1 D (.lst []))) ∧ ∀ i m H, W i m H →
      ((Itr 0 n).stop i H ∧ Qd H) ∨ ((Itr 0 n).go i H ∧ ∃ Nx : Hp → Prop, (∀ H', Nx H' → ∃ m', m' < m ∧ W (i + 1) m' H') ∧ ∀ x H', (Itr 0 n).yld i H x H' → g x (wipe σ vs) H' fun σ2 H2 => wipe σ2 vs = wipe σ vs ∧ tt σ2 H2 fun b H3 =>
        if b = true then te σ2 H3 fun y H4 => ∃ acc, H4 D = some (.lst acc) ∧ acc.length < sizeLine ∧ Nx (upd H4 D (.lst (acc ++ [y]))) else Nx H3) := by
  have sb : ∀ {H o}, Same H1 H → Same H1 (upd H D o) := fun {H o} s b u e => by
    rw [upd_ne (ne_of_none e hD)]
    exact s b u e
  refine lc_it walk_range (fun i H => Same H1 H ∧ ∃ qs : List Addr, H D = some (.lst (qs.map V.ref)) ∧ qs.length = i ∧ (∀ q ∈ qs, H1 q = none ∧ q ≠ D ∧ H q = some (.lst xs)) ∧ qs.Nodup) ⟨sb (Same.refl H1), [], upd_same, rfl, (fun _ h => nomatch h), List.nodup_nil⟩ (fun _ _ _ _ => trivial) ?_ ?_
  · rintro i v H H' hi ⟨s1, qs, e2, e3, e4, e5⟩ ⟨rfl, rfl⟩
    refine hs i hi H' _ _ s1 (fun q HN hq sa hg => ?_)
    have nq : q ≠ D := fun c => by rw [c, e2] at hq; cases hq
    refine ⟨_, sa _ _ e2, small1000 (by rw [List.length_map]; omega), sb (s1.trans sa), qs ++ [q], by rw [upd_same, List.map_append]; rfl, by rw [List.length_append, e3]; rfl, fun p hp => ?_, ?_⟩
    · rcases List.mem_append.mp hp with hp | hp
      · obtain ⟨n1, n2, e⟩ := e4 p hp
        exact ⟨n1, n2, by rw [upd_ne n2]; exact sa _ _ e⟩
      · rw [List.mem_singleton.mp hp]
        exact ⟨none_same s1 hq, nq, by rw [upd_ne nq]; exact hg⟩
    · rw [List.nodup_append]
      refine ⟨e5, List.pairwise_singleton _ _, fun p hp r hr c => ?_⟩
      rw [List.mem_singleton.mp hr] at c
      subst c
      have := (e4 p hp).2.2
      rw [hq] at this
      cases this
  · rintro H ⟨s1, qs, e2, e3, e4, e5⟩
    exact hd H qs s1 e2 e3 e4 e5
theorem all2_rep {R : Addr → List Idn → Prop} {qs : List Addr} {n : Nat} {l : List Idn} (h : qs.length = n) (r : ∀ p ∈ qs, R p l) : All2 R qs (List.replicate n l) := by
  refine ⟨by rw [h, List.length_replicate], fun i q k hq hk => ?_⟩
  rw [List.getElem?_replicate] at hk
  split at hk
  · cases hk
    exact r q (List.mem_of_getElem? hq)
  · cases hk
theorem cast_q {Q : VK} {H : Hp} {x y : V} (h : Q x H) (e : x = y) : Q y H := e ▸ h
theorem i_idxX {K : PySem.W.Frag} {H : Hp} {Q : VK} {p : Addr} {x : V} {xs : List V} {l : List Idn} {z : Idn} (h1 : SqL K H p xs) (h2 : All2 (IdAt H) xs l) (h3 : IdAt H x z) (h4 : z ∈ l) (h : ∀ j : Nat, l[j]? = some z → Q (.int j) H) : rIndexD K (.ref p) [x] H Q := by
  obtain ⟨j, e1, e2⟩ := first_at h4
  refine ⟨p, x, idD z, l.map idD, j, idD z, rfl, rfl, .lst h1 (ids_dp h2), h3.dp, ids_shaped l, idD_shaped z, by rw [List.getElem?_map, e1]; rfl, by rw [idD_eqv]; exact decide_eq_true rfl, fun m z' hm hz => ?_, h j e1⟩
  rw [List.getElem?_map, Option.map_eq_some_iff] at hz
  obtain ⟨y, hy, rfl⟩ := hz
  rw [idD_eqv]
  exact decide_eq_false (e2 m y hm hy)
def optV : Option Str → V
  | none => .non
  | some w => .str w
end My
/-! the program's walk through a history, in the heap -/
namespace My
open PySem L2
structure WkA where
  n : Nat
  dx : Addr
  kr : Addr
  kl : Addr
  gc : Addr
  gi : Addr
  ti : Addr
  tc : Addr
  lr : Addr
  kk : List (List Key × V)
  ls : List V
  gcq : List Addr
  giq : List Addr
  tiq : List Addr
  tcq : List Addr
def WkA.all (w : WkA) : List Addr := w.gcq ++ (w.giq ++ (w.tiq ++ (w.tcq ++ [w.lr, w.kl, w.gc, w.gi, w.ti, w.tc])))
/-- the list at q holds the counts of these ids -/
def CtL (M : Nat) (H : Hp) (q : Addr) (l : List Idn) : Prop := H q = some (.lst ((cnts M l).map V.int))
def WkF (w : WkA) : List (Str × V) := [("kept_rows", .ref w.kr), ("kept_letters", .ref w.kl), ("got_counts", .ref w.gc), ("got_ids", .ref w.gi), ("told_ids", .ref w.ti), ("told_counts", .ref w.tc), ("longest_row", .ref w.lr)]
/-- the walk at x; H0: the heap ahead of it -/
structure Wk (C : Addr) (M : Nat) (H0 H : Hp) (x : Addr) (w : WkA) (S : Ms) : Prop where
  hx : H x = some (.ins C w.dx (WkF w))
  hr : H w.kr = some (.dT w.kk)
  rk : All2 (fun p (z : Idn × List Idn) => p.1 = idK z.1 ∧ ∃ q, p.2 = .ref q ∧ H q = some (.tup ((cnts M z.2).map V.int))) w.kk S.cs
  hl : H w.kl = some (.lst w.ls)
  ll : w.ls.length ≤ S.keys.length
  hgc : H w.gc = some (.lst (w.gcq.map V.ref))
  hgi : H w.gi = some (.lst (w.giq.map V.ref))
  hti : H w.ti = some (.lst (w.tiq.map V.ref))
  htc : H w.tc = some (.lst (w.tcq.map V.ref))
  kgc : All2 (CtL M H) w.gcq S.got
  kgi : All2 (IdL H) w.giq S.got
  kti : All2 (IdL H) w.tiq S.told
  ktc : All2 (CtL M H) w.tcq S.told
  hlr : IdL H w.lr S.lg
  nd : w.all.Nodup
  s0 : Same H0 H
  fr : ∀ q ∈ w.all, H0 q = none
  fk : H0 w.kr = none
  kl : S.keys.length ≤ w.n
  nl : ∀ l ∈ S.got ++ S.told, l.length ≤ w.n
  ng : S.lg.length ≤ w.n
  nn : w.n ≤ 450
theorem cnts_len {M : Nat} {l : List Idn} : (cnts M l).length = M := by unfold cnts; rw [List.length_map, List.length_range]
theorem cnts_at {M : Nat} {l : List Idn} {s : Int} (h : 0 ≤ s ∧ s ≤ (M : Int) - 1) : atI ((cnts M l).map V.int) s = some (.int (cnt l s)) := by
  obtain ⟨k, rfl⟩ := Int.eq_ofNat_of_zero_le h.1
  refine atI_of ?_
  unfold cnts
  rw [List.map_map, List.getElem?_map, List.getElem?_range (by omega)]
  rfl
theorem cnts_set {M : Nat} {l : List Idn} {z : Idn} (h : 0 ≤ z.1 ∧ z.1 ≤ (M : Int) - 1) (e : z.2 = (cnt l z.1 : Int) + 1) : ((cnts M l).map V.int).set z.1.toNat (.int z.2) = (cnts M (l ++ [z])).map V.int := by
  obtain ⟨s, n⟩ := z
  simp only at h e ⊢
  obtain ⟨k, rfl⟩ := Int.eq_ofNat_of_zero_le h.1
  subst e
  rw [Int.toNat_natCast]
  refine List.ext_getElem? fun i => ?_
  unfold cnts
  rw [List.getElem?_set, List.map_map, List.map_map, List.getElem?_map, List.getElem?_map, List.length_map, List.length_range]
  by_cases c : k = i
  · subst c
    have hk : k < M := by omega
    rw [if_pos rfl, if_pos hk, List.getElem?_range hk, Option.map_some]
    show some (V.int _) = some (V.int ((cnt (l ++ [(((k : Nat) : Int), _)]) ((k : Nat) : Int) : Nat) : Int))
    rw [cnt_snoc, if_pos rfl]
    rfl
  · rw [if_neg c]
    by_cases hi : i < M
    · rw [List.getElem?_range hi, Option.map_some, Option.map_some]
      show some (V.int ((cnt l ((i : Nat) : Int) : Nat) : Int)) = some (V.int ((cnt (l ++ [(((k : Nat) : Int), _)]) ((i : Nat) : Int) : Nat) : Int))
      rw [cnt_snoc, if_neg (by intro z; simp only at z; omega)]
      rfl
    · rw [List.getElem?_eq_none (by rw [List.length_range]; omega)]
      rfl
section
variable {C : Addr} {M : Nat} {H0 H H' : Hp} {x : Addr} {w : WkA} {S : Ms}
theorem Wk.same (s : Same H H') (h : Wk C M H0 H x w S) : Wk C M H0 H' x w S :=
  { h with
    hx := s _ _ h.hx
    hr := s _ _ h.hr
    rk := h.rk.mono fun _ _ ⟨e, q, e1, e2⟩ => ⟨e, q, e1, s _ _ e2⟩
    hl := s _ _ h.hl
    hgc := s _ _ h.hgc
    hgi := s _ _ h.hgi
    hti := s _ _ h.hti
    htc := s _ _ h.htc
    kgc := h.kgc.mono fun _ _ => s _ _
    kgi := h.kgi.mono fun _ _ => IdL.same s
    kti := h.kti.mono fun _ _ => IdL.same s
    ktc := h.ktc.mono fun _ _ => s _ _
    hlr := h.hlr.same s
    s0 := h.s0.trans s }
theorem Wk.keys (h : Wk C M H0 H x w S) : All2 (fun p z => p.1 = idK z ∧ True) w.kk S.keys := by
  refine ⟨by rw [h.rk.1]; exact (List.length_map ..).symm, fun i p z hp hz => ?_⟩
  unfold Ms.keys at hz
  rw [List.getElem?_map, Option.map_eq_some_iff] at hz
  obtain ⟨y, hy, rfl⟩ := hz
  exact ⟨(h.rk.2 i p y hp hy).1, trivial⟩
theorem Wk.causes (h : Wk C M H0 H x w S) {z : Idn} (hz : z ∈ S.keys) : ∃ q, valV w.kk (idK z) = some (.ref q) ∧ H q = some (.tup ((cnts M (causesOf S.cs z)).map V.int)) := by
  obtain ⟨v, y, e1, e2, q, rfl, e3⟩ := find_all2 (R := fun v (l : List Idn) => ∃ q, v = .ref q ∧ H q = some (.tup ((cnts M l).map V.int))) h.rk hz
  refine ⟨q, e1, ?_⟩
  unfold causesOf
  rw [e2]
  exact e3
/-- one of its lists is written -/
theorem Wk.st {q : Addr} {ys zs : List V} (h : Wk C M H0 H x w S) (hq : q ∈ w.all) (hq1 : H q = some (.lst ys)) (s : SameBut q H H') :
    H' x = some (.ins C w.dx (WkF w)) ∧ H' w.kr = some (.dT w.kk) ∧ All2 (fun p (z : Idn × List Idn) => p.1 = idK z.1 ∧ ∃ q, p.2 = .ref q ∧ H' q = some (.tup ((cnts M z.2).map V.int))) w.kk S.cs ∧ Same H0 H' ∧ (∀ b xs, H b = some (.tup xs) → H' b = some (.tup xs)) := by
  have tp := MdX.tp hq1 s
  exact ⟨s _ _ (ne_of h.hx hq1 (by simp)) h.hx, s _ _ (ne_of h.hr hq1 (by simp)) h.hr, h.rk.mono fun _ _ ⟨e, q, e1, e2⟩ => ⟨e, q, e1, tp _ _ e2⟩, fun b u e => s _ _ (fun c => by subst c; rw [h.fr _ hq] at e; cases e) (h.s0 _ _ e), tp⟩
structure WkN (w : WkA) : Prop where
  a1 : w.gcq.Nodup
  a2 : w.giq.Nodup
  a3 : w.tiq.Nodup
  a4 : w.tcq.Nodup
  b12 : ∀ a ∈ w.gcq, ∀ b ∈ w.giq, a ≠ b
  b13 : ∀ a ∈ w.gcq, ∀ b ∈ w.tiq, a ≠ b
  b14 : ∀ a ∈ w.gcq, ∀ b ∈ w.tcq, a ≠ b
  b23 : ∀ a ∈ w.giq, ∀ b ∈ w.tiq, a ≠ b
  b24 : ∀ a ∈ w.giq, ∀ b ∈ w.tcq, a ≠ b
  b34 : ∀ a ∈ w.tiq, ∀ b ∈ w.tcq, a ≠ b
  c1 : ∀ a ∈ w.gcq, a ≠ w.lr ∧ a ≠ w.kl ∧ a ≠ w.gc ∧ a ≠ w.gi ∧ a ≠ w.ti ∧ a ≠ w.tc
  c2 : ∀ a ∈ w.giq, a ≠ w.lr ∧ a ≠ w.kl ∧ a ≠ w.gc ∧ a ≠ w.gi ∧ a ≠ w.ti ∧ a ≠ w.tc
  c3 : ∀ a ∈ w.tiq, a ≠ w.lr ∧ a ≠ w.kl ∧ a ≠ w.gc ∧ a ≠ w.gi ∧ a ≠ w.ti ∧ a ≠ w.tc
  c4 : ∀ a ∈ w.tcq, a ≠ w.lr ∧ a ≠ w.kl ∧ a ≠ w.gc ∧ a ≠ w.gi ∧ a ≠ w.ti ∧ a ≠ w.tc
  d1 : w.lr ≠ w.kl ∧ w.lr ≠ w.gc ∧ w.lr ≠ w.gi ∧ w.lr ≠ w.ti ∧ w.lr ≠ w.tc
  d2 : w.kl ≠ w.gc ∧ w.kl ≠ w.gi ∧ w.kl ≠ w.ti ∧ w.kl ≠ w.tc
theorem Wk.apart (h : Wk C M H0 H x w S) : WkN w := by
  have n := h.nd
  unfold WkA.all at n
  obtain ⟨a1, n, x1⟩ := List.nodup_append.mp n
  obtain ⟨a2, n, x2⟩ := List.nodup_append.mp n
  obtain ⟨a3, n, x3⟩ := List.nodup_append.mp n
  obtain ⟨a4, n, x4⟩ := List.nodup_append.mp n
  simp only [List.mem_append, List.mem_cons, List.not_mem_nil, or_false] at x1 x2 x3 x4
  simp only [List.nodup_cons, List.mem_cons, List.not_mem_nil, or_false, not_or, List.nodup_nil, and_true, not_false_eq_true] at n
  obtain ⟨⟨p1, p2, p3, p4, p5⟩, ⟨q1, q2, q3, q4⟩, _⟩ := n
  exact {
    a1 := a1
    a2 := a2
    a3 := a3
    a4 := a4
    b12 := fun a ha b hb => x1 a ha b (.inl hb)
    b13 := fun a ha b hb => x1 a ha b (.inr (.inl hb))
    b14 := fun a ha b hb => x1 a ha b (.inr (.inr (.inl hb)))
    b23 := fun a ha b hb => x2 a ha b (.inl hb)
    b24 := fun a ha b hb => x2 a ha b (.inr (.inl hb))
    b34 := fun a ha b hb => x3 a ha b (.inl hb)
    c1 := fun a ha => ⟨x1 a ha _ (by simp), x1 a ha _ (by simp), x1 a ha _ (by simp), x1 a ha _ (by simp), x1 a ha _ (by simp), x1 a ha _ (by simp)⟩
    c2 := fun a ha => ⟨x2 a ha _ (by simp), x2 a ha _ (by simp), x2 a ha _ (by simp), x2 a ha _ (by simp), x2 a ha _ (by simp), x2 a ha _ (by simp)⟩
    c3 := fun a ha => ⟨x3 a ha _ (by simp), x3 a ha _ (by simp), x3 a ha _ (by simp), x3 a ha _ (by simp), x3 a ha _ (by simp), x3 a ha _ (by simp)⟩
    c4 := fun a ha => ⟨x4 a ha _ (by simp), x4 a ha _ (by simp), x4 a ha _ (by simp), x4 a ha _ (by simp), x4 a ha _ (by simp), x4 a ha _ (by simp)⟩
    d1 := ⟨p1, p2, p3, p4, p5⟩
    d2 := ⟨q1, q2, q3, q4⟩ }
theorem WkN.nd {w : WkA} (N : WkN w) (e : w.gc ≠ w.gi ∧ w.gc ≠ w.ti ∧ w.gc ≠ w.tc ∧ w.gi ≠ w.ti ∧ w.gi ≠ w.tc ∧ w.ti ≠ w.tc) : w.all.Nodup := by
  obtain ⟨e1, e2, e3, e4, e5, e6⟩ := e
  obtain ⟨p1, p2, p3, p4, p5⟩ := N.d1
  obtain ⟨q1, q2, q3, q4⟩ := N.d2
  unfold WkA.all
  refine List.nodup_append.mpr ⟨N.a1, List.nodup_append.mpr ⟨N.a2, List.nodup_append.mpr ⟨N.a3, List.nodup_append.mpr ⟨N.a4, ?_, ?_⟩, ?_⟩, ?_⟩, ?_⟩
  · simp [*]
  · intro a ha b hb
    have c := N.c4 a ha
    simp only [List.mem_cons, List.not_mem_nil, or_false] at hb
    rcases hb with rfl | rfl | rfl | rfl | rfl | rfl <;> simp [c]
  · intro a ha b hb
    have c := N.c3 a ha
    simp only [List.mem_append, List.mem_cons, List.not_mem_nil, or_false] at hb
    rcases hb with hb | rfl | rfl | rfl | rfl | rfl | rfl
    · exact N.b34 a ha b hb
    all_goals simp [c]
  · intro a ha b hb
    have c := N.c2 a ha
    simp only [List.mem_append, List.mem_cons, List.not_mem_nil, or_false] at hb
    rcases hb with hb | hb | rfl | rfl | rfl | rfl | rfl | rfl
    · exact N.b23 a ha b hb
    · exact N.b24 a ha b hb
    all_goals simp [c]
  · intro a ha b hb
    have c := N.c1 a ha
    simp only [List.mem_append, List.mem_cons, List.not_mem_nil, or_false] at hb
    rcases hb with hb | hb | hb | rfl | rfl | rfl | rfl | rfl | rfl
    · exact N.b12 a ha b hb
    · exact N.b13 a ha b hb
    · exact N.b14 a ha b hb
    all_goals simp [c]
theorem cnts_nil {M : Nat} : cnts M [] = List.replicate M 0 := by
  unfold cnts
  refine List.ext_getElem? fun i => ?_
  rw [List.getElem?_map, List.getElem?_replicate]
  by_cases h : i < M
  · rw [List.getElem?_range h, if_pos h]
    rfl
  · rw [List.getElem?_eq_none (by rw [List.length_range]; omega), if_neg h]
    rfl
theorem Wk.inAll (q : Addr) : (q ∈ w.gcq ∨ q ∈ w.giq ∨ q ∈ w.tiq ∨ q ∈ w.tcq ∨ q = w.lr ∨ q = w.kl) → q ∈ w.all := by
  unfold WkA.all
  simp only [List.mem_append, List.mem_cons]
  rintro (h | h | h | h | h | h) <;> simp [h]
theorem all2_st {R R' : Addr → List Idn → Prop} {qs : List Addr} {ls : List (List Idn)} (h : All2 R qs ls) (k : ∀ q ∈ qs, ∀ l, R q l → R' q l) : All2 R' qs ls := ⟨h.1, fun i q l hq hl => k q (List.mem_of_getElem? hq) l (h.2 i q l hq hl)⟩
theorem rowLen {ls ms : List (List Idn)} {n i : Nat} (h : ∀ l ∈ ls ++ ms, l.length ≤ n) (hi : i < ls.length) : (rowOf ls (i : Nat)).length ≤ n := by
  refine h _ (List.mem_append_left _ ?_)
  unfold rowOf
  rw [Int.toNat_natCast, List.getD_eq_getElem?_getD, List.getElem?_eq_getElem hi]
  exact List.getElem_mem hi
theorem rowLen2 {ls ms : List (List Idn)} {n i : Nat} (h : ∀ l ∈ ls ++ ms, l.length ≤ n) (hi : i < ms.length) : (rowOf ms (i : Nat)).length ≤ n := by
  refine h _ (List.mem_append_right _ ?_)
  unfold rowOf
  rw [Int.toNat_natCast, List.getD_eq_getElem?_getD, List.getElem?_eq_getElem hi]
  exact List.getElem_mem hi
theorem Wk.goGot {i : Nat} {q1 q2 : Addr} {z : Idn} (h : Wk C M H0 H x w S) (h1 : w.gcq[i]? = some q1) (h2 : w.giq[i]? = some q2) (st : ∀ b u, b ≠ q1 → b ≠ q2 → H b = some u → H' b = some u)
    (e1 : H' q1 = some (.lst ((cnts M (rowOf S.got (i : Nat) ++ [z])).map V.int))) (e2 : IdL H' q2 (rowOf S.got (i : Nat) ++ [z])) (hn : w.n < 450) : Wk C M H0 H' x { w with n := w.n + 1 } (S.goGot (i : Nat) z) := by
  have N := h.apart
  have m1 := List.mem_of_getElem? h1
  have m2 := List.mem_of_getElem? h2
  have hi : i < S.got.length := by rw [← h.kgc.1]; exact (List.getElem?_eq_some_iff.mp h1).1
  obtain ⟨l1, _, c1⟩ := h.kgc.get h1
  obtain ⟨l2, _, xs2, c2, _⟩ := h.kgi.get h2
  have s2 : ∀ {b u}, (∀ ys, u ≠ .lst ys) → H b = some u → H' b = some u := fun n e => st _ _ (ne_of e c1 (n _)) (ne_of e c2 (n _)) e
  have tp : ∀ b xs, H b = some (.tup xs) → H' b = some (.tup xs) := fun b xs => s2 (fun _ => by simp)
  exact {
    hx := s2 (fun _ => by simp) h.hx
    hr := s2 (fun _ => by simp) h.hr
    rk := h.rk.mono fun _ _ ⟨e, q, e1, e2⟩ => ⟨e, q, e1, tp _ _ e2⟩
    hl := st _ _ (N.c1 _ m1).2.1.symm (N.c2 _ m2).2.1.symm h.hl
    ll := h.ll
    hgc := st _ _ (N.c1 _ m1).2.2.1.symm (N.c2 _ m2).2.2.1.symm h.hgc
    hgi := st _ _ (N.c1 _ m1).2.2.2.1.symm (N.c2 _ m2).2.2.2.1.symm h.hgi
    hti := st _ _ (N.c1 _ m1).2.2.2.2.1.symm (N.c2 _ m2).2.2.2.2.1.symm h.hti
    htc := st _ _ (N.c1 _ m1).2.2.2.2.2.symm (N.c2 _ m2).2.2.2.2.2.symm h.htc
    kgc := by
      show All2 (CtL M H') w.gcq (S.got.set (Int.toNat (i : Nat)) _)
      rw [Int.toNat_natCast]
      refine (all2_st (R' := fun q l => q ≠ q1 → CtL M H' q l) h.kgc fun q hq l r n => st _ _ n (N.b12 q hq q2 m2) r).setR h1 N.a1 (fun u w n r => r n) e1
    kgi := by
      show All2 (IdL H') w.giq (S.got.set (Int.toNat (i : Nat)) _)
      rw [Int.toNat_natCast]
      refine (all2_st (R' := fun q l => q ≠ q2 → IdL H' q l) h.kgi fun q hq l r n => r.keeps tp (fun u => st _ _ (N.b12 q1 m1 q hq).symm n)).setR h2 N.a2 (fun u w n r => r n) e2
    kti := all2_st h.kti fun q hq l r => r.keeps tp (fun u => st _ _ (N.b13 q1 m1 q hq).symm (N.b23 q2 m2 q hq).symm)
    ktc := all2_st h.ktc fun q hq l r => st _ _ (N.b14 q1 m1 q hq).symm (N.b24 q2 m2 q hq).symm r
    hlr := h.hlr.keeps tp (fun u => st _ _ (N.c1 _ m1).1.symm (N.c2 _ m2).1.symm)
    nd := h.nd
    s0 := fun b u e => st _ _ (fun c => by subst c; rw [h.fr _ (Wk.inAll _ (.inl m1))] at e; cases e) (fun c => by subst c; rw [h.fr _ (Wk.inAll _ (.inr (.inl m2)))] at e; cases e) (h.s0 _ _ e)
    fr := h.fr
    fk := h.fk
    kl := Nat.le_succ_of_le h.kl
    nl := len_set h.nl (by rw [List.length_append]; exact Nat.succ_le_succ (rowLen h.nl hi))
    ng := Nat.le_succ_of_le h.ng
    nn := hn }
theorem Wk.goTold {i : Nat} {q1 q2 : Addr} {z : Idn} (h : Wk C M H0 H x w S) (h1 : w.tcq[i]? = some q1) (h2 : w.tiq[i]? = some q2) (st : ∀ b u, b ≠ q1 → b ≠ q2 → b ≠ w.lr → H b = some u → H' b = some u)
    (e1 : H' q1 = some (.lst ((cnts M (rowOf S.told (i : Nat) ++ [z])).map V.int))) (e2 : IdL H' q2 (rowOf S.told (i : Nat) ++ [z])) (e3 : IdL H' w.lr (S.goTold (i : Nat) z).lg) (hn : w.n < 450) : Wk C M H0 H' x { w with n := w.n + 1 } (S.goTold (i : Nat) z) := by
  have N := h.apart
  have m1 := List.mem_of_getElem? h1
  have m2 := List.mem_of_getElem? h2
  have hi : i < S.told.length := by rw [← h.ktc.1]; exact (List.getElem?_eq_some_iff.mp h1).1
  obtain ⟨l1, _, c1⟩ := h.ktc.get h1
  obtain ⟨l2, _, xs2, c2, _⟩ := h.kti.get h2
  obtain ⟨xs3, c3, _⟩ := id h.hlr
  have s2 : ∀ {b u}, (∀ ys, u ≠ .lst ys) → H b = some u → H' b = some u := fun n e => st _ _ (ne_of e c1 (n _)) (ne_of e c2 (n _)) (ne_of e c3 (n _)) e
  have tp : ∀ b xs, H b = some (.tup xs) → H' b = some (.tup xs) := fun b xs => s2 (fun _ => by simp)
  exact {
    hx := s2 (fun _ => by simp) h.hx
    hr := s2 (fun _ => by simp) h.hr
    rk := h.rk.mono fun _ _ ⟨e, q, e1, e2⟩ => ⟨e, q, e1, tp _ _ e2⟩
    hl := st _ _ (N.c4 _ m1).2.1.symm (N.c3 _ m2).2.1.symm N.d1.1.symm h.hl
    ll := h.ll
    hgc := st _ _ (N.c4 _ m1).2.2.1.symm (N.c3 _ m2).2.2.1.symm N.d1.2.1.symm h.hgc
    hgi := st _ _ (N.c4 _ m1).2.2.2.1.symm (N.c3 _ m2).2.2.2.1.symm N.d1.2.2.1.symm h.hgi
    hti := st _ _ (N.c4 _ m1).2.2.2.2.1.symm (N.c3 _ m2).2.2.2.2.1.symm N.d1.2.2.2.1.symm h.hti
    htc := st _ _ (N.c4 _ m1).2.2.2.2.2.symm (N.c3 _ m2).2.2.2.2.2.symm N.d1.2.2.2.2.symm h.htc
    ktc := by
      show All2 (CtL M H') w.tcq (S.told.set (Int.toNat (i : Nat)) _)
      rw [Int.toNat_natCast]
      refine (all2_st (R' := fun q l => q ≠ q1 → CtL M H' q l) h.ktc fun q hq l r n => st _ _ n (N.b34 q2 m2 q hq).symm (N.c4 q hq).1 r).setR h1 N.a4 (fun u w n r => r n) e1
    kti := by
      show All2 (IdL H') w.tiq (S.told.set (Int.toNat (i : Nat)) _)
      rw [Int.toNat_natCast]
      refine (all2_st (R' := fun q l => q ≠ q2 → IdL H' q l) h.kti fun q hq l r n => r.keeps tp (fun u => st _ _ (N.b34 q hq q1 m1) n (N.c3 q hq).1)).setR h2 N.a3 (fun u w n r => r n) e2
    kgi := all2_st h.kgi fun q hq l r => r.keeps tp (fun u => st _ _ (N.b24 q hq q1 m1) (N.b23 q hq q2 m2) (N.c2 q hq).1)
    kgc := all2_st h.kgc fun q hq l r => st _ _ (N.b14 q hq q1 m1) (N.b13 q hq q2 m2) (N.c1 q hq).1 r
    hlr := e3
    nd := h.nd
    s0 := fun b u e => st _ _ (fun c => by subst c; rw [h.fr _ (Wk.inAll _ (.inr (.inr (.inr (.inl m1)))))] at e; cases e) (fun c => by subst c; rw [h.fr _ (Wk.inAll _ (.inr (.inr (.inl m2))))] at e; cases e) (fun c => by subst c; rw [h.fr _ (Wk.inAll _ (by simp))] at e; cases e) (h.s0 _ _ e)
    fr := h.fr
    fk := h.fk
    kl := Nat.le_succ_of_le h.kl
    nl := len_set2 h.nl (by rw [List.length_append]; exact Nat.succ_le_succ (rowLen2 h.nl hi))
    ng := by
      show (if _ then _ else _ : List Idn).length ≤ _
      split
      · rw [List.length_append]
        exact Nat.succ_le_succ h.ng
      · exact Nat.le_succ_of_le h.ng
    nn := hn }
/-- a letter more: its counts, the letter itself -/
theorem Wk.put {qt : Addr} {z : Idn} {l : List Idn} {v : V} (h : Wk C M H0 H x w S) (fresh : z ∉ S.keys) (ht : H' qt = some (.tup ((cnts M l).map V.int))) (st : ∀ b u, b ≠ w.kr → b ≠ w.kl → H b = some u → H' b = some u)
    (e1 : H' w.kr = some (.dT (putK w.kk (idK z) (.ref qt)))) (e2 : H' w.kl = some (.lst (w.ls ++ [v]))) (hn : w.n < 450) : Wk C M H0 H' x { w with kk := w.kk ++ [(idK z, .ref qt)], ls := w.ls ++ [v], n := w.n + 1 } { S with cs := S.cs ++ [(z, l)] } := by
  have N := h.apart
  have ek : ({ S with cs := S.cs ++ [(z, l)] } : Ms).keys = S.keys ++ [z] := by
    unfold Ms.keys
    rw [List.map_append]
    rfl
  have tp : ∀ b xs, H b = some (.tup xs) → H' b = some (.tup xs) := fun b xs e => st _ _ (ne_of e h.hr (by simp)) (ne_of e h.hl (by simp)) e
  have ls : ∀ b xs, b ≠ w.kl → H b = some (.lst xs) → H' b = some (.lst xs) := fun b xs n e => st _ _ (ne_of e h.hr (by simp)) n e
  exact {
    hx := st _ _ (ne_of h.hx h.hr (by simp)) (ne_of h.hx h.hl (by simp)) h.hx
    hr := by rw [← put_new (R := fun _ => True) h.keys fresh]; exact e1
    rk := All2.append (h.rk.mono fun _ _ ⟨e, q, e1, e2⟩ => ⟨e, q, e1, tp _ _ e2⟩) (All2.cons ⟨rfl, qt, rfl, ht⟩ All2.nil)
    hl := e2
    ll := by
      rw [ek, List.length_append, List.length_append]
      exact Nat.succ_le_succ h.ll
    hgc := ls _ _ N.d2.1.symm h.hgc
    hgi := ls _ _ N.d2.2.1.symm h.hgi
    hti := ls _ _ N.d2.2.2.1.symm h.hti
    htc := ls _ _ N.d2.2.2.2.symm h.htc
    kgc := all2_st h.kgc fun q hq l r => ls _ _ (N.c1 q hq).2.1 r
    kgi := all2_st h.kgi fun q hq l ⟨xs, e, b⟩ => ⟨xs, ls _ _ (N.c2 q hq).2.1 e, b.mono fun _ _ => IdAt.keeps tp⟩
    kti := all2_st h.kti fun q hq l ⟨xs, e, b⟩ => ⟨xs, ls _ _ (N.c3 q hq).2.1 e, b.mono fun _ _ => IdAt.keeps tp⟩
    ktc := all2_st h.ktc fun q hq l r => ls _ _ (N.c4 q hq).2.1 r
    hlr := by
      obtain ⟨xs, e, b⟩ := h.hlr
      exact ⟨xs, ls _ _ N.d1.1 e, b.mono fun _ _ => IdAt.keeps tp⟩
    nd := h.nd
    s0 := fun b u e => st _ _ (fun c => by subst c; rw [h.fk] at e; cases e) (fun c => by subst c; rw [h.fr _ (Wk.inAll _ (by simp))] at e; cases e) (h.s0 _ _ e)
    fr := h.fr
    fk := h.fk
    kl := by
      rw [ek, List.length_append]
      exact Nat.succ_le_succ h.kl
    nl := fun x hx => Nat.le_succ_of_le (h.nl x hx)
    ng := Nat.le_succ_of_le h.ng
    nn := hn }
end
end My
/-! zip of a tuple and a list -/
namespace My
open PySem L2
/-- the tuple at a and the list at b as they stand at each turn, the items in new pairs -/
def ItzM (K : PySem.W.Frag) (a b : Addr) : It :=
  ⟨fun i H => ∃ (xs ys : List V) (x y : V), SqT K H a xs ∧ SqL K H b ys ∧ xs[i]? = some x ∧ ys[i]? = some y,
    fun i H v H' => ∃ T x y, v = .ref T ∧ H T = none ∧ H' = upd H T (.tup [x, y]) ∧ (∀ xs, SqT K H a xs → xs[i]? = some x) ∧ ∀ ys, SqL K H b ys → ys[i]? = some y,
    fun i H => ∃ xs ys : List V, SqT K H a xs ∧ SqL K H b ys ∧ xs.length = i ∧ ys.length = i⟩
section
open PySem.Spec
open PyProof.Rows hiding St
structure ZmSep (z TI TO i1 i2 a b : Addr) : Prop where
  S : ZipSep2 z TI TO i1 i2 [i1, a] [i2, b]
  n1 : a ≠ i1
  n2 : b ≠ i2
theorem turn_zipM {P : Program} {w : World} {K : PySem.W.Frag} {elts : List Expr} {kk : Nat} {tpos : Pos} {a b z TI TO i1 i2 : Addr} (D : ZmSep z TI TO i1 i2 a b) :
    Turn P w K (.Tuple elts kk tpos) (ItzM K a b) [z, TI, TO, i1, i2] z (fun i h => IsZip h z TI TO .none ∧ IsTupOf2 h TI (.ref i1) (.ref i2) ∧ (∃ x y, IsTupOf2 h TO x y) ∧ h.IsTupleIter i1 a i ∧ h.IsListIter i2 b i) where
  mem := by simp
  obj := fun i h st c hc => by
    obtain ⟨hz, hTI, ⟨x, y, hTO⟩, ⟨o1, e1, _, d1⟩, ⟨o2, e2, _, d2⟩⟩ := st
    have e' : c = z ∨ c = TI ∨ c = TO ∨ c = i1 ∨ c = i2 := by simpa using hc
    rcases e' with q | q | q | q | q
    · rw [q]; exact ⟨_, hz, fun v q => nomatch q⟩
    · rw [q]; exact ⟨_, hTI, fun v q => nomatch q⟩
    · rw [q]; exact ⟨_, hTO, fun v q => nomatch q⟩
    · rw [q]; exact ⟨o1, e1, fun v q => by rw [d1] at q; cases q⟩
    · rw [q]; exact ⟨o2, e2, fun v q => by rw [d2] at q; cases q⟩
  keep := fun i h h' st k => by
    obtain ⟨hz, hTI, ⟨x, y, hTO⟩, h1, h2⟩ := st
    exact ⟨k z (by simp) _ hz, k TI (by simp) _ hTI, ⟨x, y, k TO (by simp) _ hTO⟩, h1.at fun o q => k i1 (by simp) o q, h2.at fun o q => k i2 (by simp) o q⟩
  item := by
    intro X hP hw hK hc i pins s σ H E I hf st hg
    subst hP hw hK
    obtain ⟨hz, hTI, ⟨x0, y0, hTO⟩, h1, h2⟩ := st
    obtain ⟨xs, ys, x, y, hqx, hqy, hx, hy⟩ := hg
    obtain ⟨its, rv, p, _⟩ := I.tuple hqx
    obtain ⟨its2, rv2, p2, _⟩ := I.list hqy
    obtain ⟨u, hu, ru⟩ := rv.get hx
    obtain ⟨u2, hu2, ru2⟩ := rv2.get hy
    have hzl : z < s.heap.objs.size := Heap.lt_size hz
    have lt1 : i < its.toArray.size := by
      have := (List.getElem?_eq_some_iff.mp hu).1
      simpa using this
    have lt2 : i < its2.toArray.size := by
      have := (List.getElem?_eq_some_iff.mp hu2).1
      simpa using this
    have pT : s.heap.IsTuple a its.toArray := p
    refine wpAny_pyNext_zipD2_item D.S (Draws.tuple (A := X.A.in1) (I.ok.hd hc) i1 a D.n1 its.toArray) (Draws.list (A := X.A.in1) (I.ok.hd hc) i2 b D.n2 its2.toArray) hz hTI hTO ⟨h1, pT⟩ ⟨h2, p2.isList⟩ lt1 lt2 fun x1 x2 h' tk hx1 hx2 z' TO' h1' h2' hT hsz hk => ?_
    obtain rfl : x1 = u := by
      have : its[i]? = some x1 := by simpa using hx1
      rw [hu] at this
      exact (Option.some.inj this).symm
    obtain rfl : x2 = u2 := by
      have : its2[i]? = some x2 := by simpa using hx2
      rw [hu2] at this
      exact (Option.some.inj this).symm
    refine ⟨_, rfl, wpAny_letOwnedTupleGo_zip (s := { s with heap := h', toks := tk }) z' fun h'' z'' sb => ?_⟩
    have hT2 : h''.get? s.heap.objs.size = some { cls := .type "tuple", data := .seq #[x1, x2] } := (sb.2 _ (Nat.ne_of_gt hzl)).trans hT
    have new : ObjOk X.prog X.w (upd H s.heap.objs.size (.tup [x, y])) h'' s.heap.objs.size (.tup [x, y]) :=
      ⟨by show 2 ≤ sizeLine; decide, [x1, x2], .cons ru (.cons ru2 .nil), ⟨_, hT2, rfl, _, rfl⟩⟩
    have I1 : Inv X pins σ (upd H s.heap.objs.size (.tup [x, y])) { s with heap := h'', toks := tk } :=
      I.turnedNew (t' := tk) (ch := [z, TI, TO, i1, i2]) (fun c o hb q => (sb.2 c (fun q' => hb (by simp [q']))).trans (hk c o (fun q' => hb (by simp [q'])) (fun q' => hb (by simp [q'])) (fun q' => hb (by simp [q'])) (fun q' => hb (by simp [q'])) q)) hf (Nat.le_refl _) new
    refine ⟨.ref s.heap.objs.size, _, I1, rfl, ⟨_, x, y, rfl, I.hok.fresh (Nat.le_refl _), rfl, fun l hl => by rw [I.tuple_inj hl hqx]; exact hx, fun l hl => by rw [I.list_inj hl hqy]; exact hy⟩, ⟨z'', ?_, ⟨x1, x2, ?_⟩, ?_, ?_⟩, fun c hcm => ?_⟩
    · exact (sb.2 _ D.S.TIz).trans (hk _ _ D.S.TIz D.S.TITO D.S.TIi1 D.S.TIi2 hTI)
    · exact (sb.2 _ D.S.TOz).trans TO'
    · exact h1'.1.at fun o q => (sb.2 _ (Ne.symm D.S.zi1)).trans q
    · exact h2'.1.at fun o q => (sb.2 _ (Ne.symm D.S.zi2)).trans q
    · have hlt : c < s.heap.objs.size := by
        have e' : c = z ∨ c = TI ∨ c = TO ∨ c = i1 ∨ c = i2 := by simpa using hcm
        rcases e' with q | q | q | q | q
        · rw [q]; exact hzl
        · rw [q]; exact Heap.lt_size hTI
        · rw [q]; exact Heap.lt_size hTO
        · rw [q]; obtain ⟨_, e1, _⟩ := h1; exact Heap.lt_size e1
        · rw [q]; obtain ⟨_, e2, _⟩ := h2; exact Heap.lt_size e2
      rw [upd_ne (Nat.ne_of_lt hlt)]
      exact (hf c hcm).1
  done := by
    intro X hP hw hK hc i pins s σ H E I hf st hg
    subst hP hw hK
    obtain ⟨hz, hTI, ⟨x0, y0, hTO⟩, h1, h2⟩ := st
    obtain ⟨xs, ys, hqx, hqy, l1, l2⟩ := hg
    obtain ⟨its, rv, p, _⟩ := I.tuple hqx
    obtain ⟨its2, rv2, p2, _⟩ := I.list hqy
    have m1 := rv.length
    have m2 := rv2.length
    have e1 : i = its.toArray.size := by rw [List.size_toArray]; omega
    have e2 : i = its2.toArray.size := by rw [List.size_toArray]; omega
    have pT : s.heap.IsTuple a its.toArray := p
    exact wpAny_pyNext_zipD2_end D.S (Draws.tuple (A := X.A.in1) (I.ok.hd hc) i1 a D.n1 its.toArray) (Draws.list (A := X.A.in1) (I.ok.hd hc) i2 b D.n2 its2.toArray) hz hTI hTO ⟨h1, pT⟩ ⟨h2, p2.isList⟩ (Nat.le_of_eq e1) (Nat.le_of_eq e2) (.inl e1) fun h' tk hk => ⟨rfl, I.turnedL (t' := tk) (ch := [z, TI, TO, i1, i2]) (fun c o hb q =>
      hk c o (fun q' => hb (by simp [q'])) (fun q' => hb (by simp [q'])) (fun q' => hb (by simp [q'])) (fun q' => hb (by simp [q'])) q) hf⟩
  self := fun A i s Q E st h => wpAny_pyIter_zip st.1 h
def iZipM (K : PySem.W.Frag) (ta : TA) : TI := fun σ H R => ta σ H fun vs H1 => ∃ a b xs ys, vs = [.ref a, .ref b] ∧ SqT K H1 a xs ∧ SqL K H1 b ys ∧ R (ItzM K a b) H1
theorem pi_zipM {X : Cx} {e e2 : Expr} {ta : TA} {p pos tpos : Pos} {elts : List Expr} {kk : Nat} {K : PySem.W.Frag} (hg : Gl X "zip") (hm : X.mg "zip" = none) (ha : PA X [e, e2] ta)
    (hs : starEach [e, e2] X.env = (false, eval e X.env) :: starEach [e2] X.env := by rfl) (hpl : (backTo pos (starEach [e2] X.env)).any (·.1) = false := by rfl) (hK : X.K = K := by rfl) :
    PI X (.Tuple elts kk tpos) (.Call (.Name "zip" p) [e, e2] [] pos) (iZipM K ta) := by
  subst hK
  refine ⟨fun pins s σ H R I h => ?_⟩
  refine Call_ (ld_blt I hg hm PyProof.Rows.boot_zip (PyProof.Rows.callWith_type1 (thn (ha.run pos pins s σ H _ I h) fun us s1 ⟨vs, H1, I1, r1, q1⟩ => ?_) hs hpl))
  obtain ⟨a, b, xs, ys, ex, hqx, hqy, q⟩ := q1
  subst ex
  cases r1 with
  | cons r rr =>
    cases rr with
    | cons r' rr =>
      cases rr
      cases r
      cases r'
      have fresh5 : ∀ c, c ∈ [s1.heap.objs.size + 4, s1.heap.objs.size + 2, s1.heap.objs.size + 3, s1.heap.objs.size, s1.heap.objs.size + 1] → FpOk X pins H1 c := fun c hcm => by
        have e' : c = s1.heap.objs.size + 4 ∨ c = s1.heap.objs.size + 2 ∨ c = s1.heap.objs.size + 3 ∨ c = s1.heap.objs.size ∨ c = s1.heap.objs.size + 1 := by simpa using hcm
        have hle : s1.heap.objs.size ≤ c := by
          rcases e' with z | z | z | z | z
          · rw [z]; exact Nat.le_add_right _ _
          · rw [z]; exact Nat.le_add_right _ _
          · rw [z]; exact Nat.le_add_right _ _
          · rw [z]; exact Nat.le_refl _
          · rw [z]; exact Nat.le_add_right _ _
        exact I1.fpOk hle (I1.hok.fresh hle)
      obtain ⟨its, rv, p1, _⟩ := I1.tuple hqx
      obtain ⟨its2, rv2, p2, _⟩ := I1.list hqy
      have pT : s1.heap.IsTuple a its.toArray := p1
      have la : a < s1.heap.objs.size := by obtain ⟨o1, ho1, _⟩ := id p1; exact Heap.lt_size ho1
      have lb : b < s1.heap.objs.size := p2.lt
      refine zip_begins2 (begins_tuple a its.toArray) (begins_list b its2.toArray) pT p2.isList fun h' hz hTI hTO h1 h2 hsz hk => wpAny_pyIter_zip hz ?_
      have I2 : Inv X pins σ H1 { s1 with heap := h' } := I1.kept (t' := s1.toks) hk
      have D : ZmSep (s1.heap.objs.size + 4) (s1.heap.objs.size + 2) (s1.heap.objs.size + 3) s1.heap.objs.size (s1.heap.objs.size + 1) a b :=
        ⟨zip_sep2 (fun c hc => by rw [List.mem_singleton.mp hc]; exact la) (fun c hc => by rw [List.mem_singleton.mp hc]; exact lb), Nat.ne_of_lt la, Nat.ne_of_lt (Nat.lt_succ_of_lt lb)⟩
      exact ⟨s1.heap.objs.size + 4, [s1.heap.objs.size + 4, s1.heap.objs.size + 2, s1.heap.objs.size + 3, s1.heap.objs.size, s1.heap.objs.size + 1], _, _, H1, rfl, I2, turn_zipM D, ⟨hz, hTI, ⟨_, _, hTO⟩, ⟨_, h1, rfl, rfl⟩, ⟨_, h2, rfl, rfl⟩⟩, fresh5, q⟩
end
theorem walk_zipM {K : PySem.W.Frag} {a b : Addr} {xs ys : List V} {n : Nat} (h1 : xs.length = n) (h2 : ys.length = n) : Walk (ItzM K a b) n (fun H => SqT K H a xs ∧ SqL K H b ys) (YPair (fun i => xs[i]?) (fun i => ys[i]?)) := by
  refine ⟨fun i _ hi q => ?_, fun _ q => ⟨xs, ys, q.1, q.2, h1, h2⟩, fun i H v H' _ q ⟨T, x, z, y1, y2, y3, y4, y5⟩ => ⟨T, x, z, y1, y2, y3, y4 xs q.1, y5 ys q.2⟩⟩
  exact ⟨xs, ys, xs[i], ys[i], q.1, q.2, List.getElem?_eq_getElem (by omega), List.getElem?_eq_getElem (by omega)⟩
theorem lc_zipM {K : PySem.W.Frag} {a b : Addr} {xs ys : List V} {g : TG} {tt : TT} {te : TE} {vs : List Nat} {σ : L2.St} {H1 : Hp} {D : Addr} {Qd : Hp → Prop} (f : V → V → V) (h1 : SqT K H1 a xs) (h2 : SqL K H1 b ys) (hD : H1 D = none) (he : xs.length = ys.length) (hl : xs.length ≤ 1000)
    (hs : ∀ (i : Nat) x y, xs[i]? = some x → ys[i]? = some y → ∀ H T (Q : VK) (R : Hp → Prop), Same H1 H → H T = some (.tup [x, y]) → (∀ H', Same H H' → Q (f x y) H') → g (.ref T) (wipe σ vs) H fun σ2 H2 => wipe σ2 vs = wipe σ vs ∧ tt σ2 H2 fun b H3 => if b = true then te σ2 H3 Q else R H3)
    (hd : ∀ H, Same H1 H → H D = some (.lst (List.zipWith f xs ys)) → Qd H) :
    ∃ W : Nat → Nat → Hp → Prop, (∃ m, W 0 m (upd H1 D (.lst []))) ∧ ∀ i m H, W i m H →
      ((ItzM K a b).stop i H ∧ Qd H) ∨ ((ItzM K a b).go i H ∧ ∃ Nx : Hp → Prop, (∀ H', Nx H' → ∃ m', m' < m ∧ W (i + 1) m' H') ∧ ∀ x H', (ItzM K a b).yld i H x H' → g x (wipe σ vs) H' fun σ2 H2 => wipe σ2 vs = wipe σ vs ∧ tt σ2 H2 fun b H3 =>
        if b = true then te σ2 H3 fun y H4 => ∃ acc, H4 D = some (.lst acc) ∧ acc.length < sizeLine ∧ Nx (upd H4 D (.lst (acc ++ [y]))) else Nx H3) :=
  lc_zip xs ys f (walk_zipM rfl he.symm) (by rw [he, Nat.min_self]) hl (fun _ s => ⟨SqT.same s h1, Same.seq s h2⟩) hD hs hd
theorem i_zipM {K : PySem.W.Frag} {σ : St} {H : Hp} {A : TA} {R : It → Hp → Prop} (h : A σ H fun vs H1 => ∃ a b xs ys, vs = [.ref a, .ref b] ∧ SqT K H1 a xs ∧ SqL K H1 b ys ∧ R (ItzM K a b) H1) : iZipM K A σ H R := h
theorem i_zipM2 {K : PySem.W.Frag} {H : Hp} {a b : Addr} {xs ys : List V} {R2 : Addr → Addr → Prop} (h1 : SqT K H a xs) (h2 : SqL K H b ys) (h : R2 a b) : ∃ a' b' xs ys, [V.ref a, V.ref b] = [.ref a', .ref b'] ∧ SqT K H a' xs ∧ SqL K H b' ys ∧ R2 a' b' := ⟨a, b, xs, ys, rfl, h1, h2, h⟩
/-- any([count > mine for ..]) of counts: something lacks -/
theorem any_cnts {M : Nat} {C R : List Idn} (hC : Num C) (hR : Num R) (hr : ∀ z ∈ C, 0 ≤ z.1 ∧ z.1 ≤ (M : Int) - 1) : (List.zipWith (fun x y : Int => decide (y < x)) (cnts M C) (cnts M R)).any id = !hasB C R := by
  rw [has_cnts hC hR hr]
  unfold cnts
  rw [List.zipWith_map, List.zipWith_self, List.any_map, List.not_all_eq_any_not]
  congr 1
  funext s
  simp only [Function.comp_apply, id_eq]
  rw [Bool.eq_iff_iff, decide_eq_true_iff, Bool.not_eq_true', decide_eq_false_iff_not]
  omega
section
open PySem.Spec
open PyProof.Rows hiding St
/-- enumerate of a list or a tuple -/
def iEnumS (K : PySem.W.Frag) (ta : TA) : TI := fun σ H R => ta σ H fun vs H1 => ∃ a xs, vs = [.ref a] ∧ ((SqL K H1 a xs ∧ R (Ite K a) H1) ∨ (SqT K H1 a xs ∧ R (Itet K a) H1))
theorem pi_enumS {X : Cx} {e : Expr} {ta : TA} {p pos tpos : Pos} {elts : List Expr} {kk : Nat} {K : PySem.W.Frag} (hg : Gl X "enumerate") (hm : X.mg "enumerate" = none) (ha : PA X [e] ta) (hs : starEach [e] X.env = [(false, eval e X.env)] := by rfl) (hK : X.K = K := by rfl) :
    PI X (.Tuple elts kk tpos) (.Call (.Name "enumerate" p) [e] [] pos) (iEnumS K ta) := by
  subst hK
  refine ⟨fun pins s σ H R I h => ?_⟩
  refine Call_ (ld_blt I hg hm boot_enumerate (PyProof.Rows.callWith_type1 (thn (ha.run pos pins s σ H _ I h) fun us s1 ⟨vs, H1, I1, r1, q1⟩ => ?_) hs rfl))
  obtain ⟨a, xs, ex, q1⟩ := q1
  subst ex
  cases r1 with
  | cons r rr =>
    cases rr
    cases r
    have fp : ∀ b, b ∈ [s1.heap.objs.size + 1, s1.heap.objs.size] → FpOk X pins H1 b := fun b hb => by
      have e' : b = s1.heap.objs.size + 1 ∨ b = s1.heap.objs.size := by simpa using hb
      have hle : s1.heap.objs.size ≤ b := by
        rcases e' with z | z
        · rw [z]; exact Nat.le_add_right _ _
        · rw [z]; exact Nat.le_refl _
      exact I1.fpOk hle (I1.hok.fresh hle)
    rcases q1 with ⟨hq, q⟩ | ⟨hq, q⟩
    · obtain ⟨its, rv, p', hz⟩ := I1.list hq
      refine call_enumerate_list p'.isList fun h' he hit hsz hk => wpAny_pyIter_enum he ?_
      have I2 : Inv X pins σ H1 { s1 with heap := h' } := I1.kept (t' := s1.toks) hk
      exact ⟨s1.heap.objs.size + 1, [s1.heap.objs.size + 1, s1.heap.objs.size], _, _, H1, rfl, I2, turn_enum a (s1.heap.objs.size + 1) s1.heap.objs.size, ⟨⟨.none, he⟩, hit, Nat.succ_ne_self _⟩, fp, q⟩
    · obtain ⟨its, rv, p', hz⟩ := I1.tuple hq
      refine call_enum1 (begins_tuple a its.toArray) p' fun h' he hit hsz hk => wpAny_pyIter_enum he ?_
      have I2 : Inv X pins σ H1 { s1 with heap := h' } := I1.kept (t' := s1.toks) hk
      exact ⟨s1.heap.objs.size + 1, [s1.heap.objs.size + 1, s1.heap.objs.size], _, _, H1, rfl, I2, turn_enumT a (s1.heap.objs.size + 1) s1.heap.objs.size, ⟨⟨.none, he⟩, ⟨_, hit, rfl, rfl⟩, Nat.succ_ne_self _⟩, fp, q⟩
end
theorem i_enumS {K : PySem.W.Frag} {σ : St} {H : Hp} {A : TA} {R : It → Hp → Prop} (h : A σ H fun vs H1 => ∃ a xs, vs = [.ref a] ∧ ((SqL K H1 a xs ∧ R (Ite K a) H1) ∨ (SqT K H1 a xs ∧ R (Itet K a) H1))) : iEnumS K A σ H R := h
/-- a tuple (place, word), or nothing -/
def FwAt (H HH : Hp) (v : V) : Option (Nat × Str) → Prop
  | none => v = .non
  | some (i, w) => ∃ t, v = .ref t ∧ H t = none ∧ HH t = some (.tup [.int (i : Nat), .str w])
theorem i_anyB {K : PySem.W.Frag} {H : Hp} {Q : VK} {p : Addr} {bs : List Bool} (h0 : SqL K H p (bs.map V.bl)) (h : Q (.bl (bs.any id)) H) : rAny K [.ref p] H Q := ⟨p, bs, rfl, h0, h⟩
end My
namespace My
open PySem L2
set_option maxRecDepth 5000
local macro_rules | `(tactic| wtm_at "cls") => `(tactic| fail)
set_option hygiene false in
local macro_rules | `(tactic| wtm_at "cls") => `(tactic| first | exact T.n_HistoryWalk_told_ids | exact T.n_HistoryWalk_told_counts | exact T.n_HistoryWalk_longest_row | fail)
set_option hygiene false in
local macro_rules | `(tactic| wtm_at "cls") => `(tactic| first | exact T.n_Letter_own_word | exact T.n_Letter_own_causes | exact T.c_HistoryWalk | exact T.i_HistoryWalk | exact T.n_HistoryWalk_kept_rows | exact T.n_HistoryWalk_kept_letters | exact T.n_HistoryWalk_got_counts | exact T.n_HistoryWalk_got_ids | fail)
set_option hygiene false in
local macro_rules | `(tactic| wtm_at "cls") => `(tactic| first | assumption | exact T.c_Counts | exact T.i_Counts | exact T.n_Counts_kept_numbers | exact T.c_Letter | exact T.i_Letter | exact T.n_Letter_own_sender | exact T.n_Letter_own_number | fail)
local macro_rules | `(tactic| wtm_at "xk") => `(tactic| fail)
set_option hygiene false in
local macro_rules | `(tactic| wtm_at "xk") => `(tactic| first | exact kit_self | exact T.x_Counts_Letter | exact T.x_Counts_HistoryWalk | exact T.x_Letter_Counts | exact T.x_Letter_HistoryWalk | exact T.x_HistoryWalk_Counts | exact T.x_HistoryWalk_Letter | fail)
def top (i : Nat) : Stmt := PySem.Challenge.pw_causehall_k15_whole_one_row_changed.main.body.getD i (.Pass ⟨0, 0, 0, 0⟩)
abbrev s_NoNumber_init : Stmt := inClass (top 3) 0
abbrev s_NoWord_init : Stmt := inClass (top 4) 0
abbrev s_NoMember_init : Stmt := inClass (top 5) 0
abbrev s_NoCounts_init : Stmt := inClass (top 6) 0
abbrev s_NoCauses_init : Stmt := inClass (top 7) 0
abbrev s_NoHistory_init : Stmt := inClass (top 8) 0
abbrev s_is_whole : Stmt := top 14
abbrev s_is_word : Stmt := top 15
abbrev s_are_members : Stmt := top 16
abbrev s_are_numbers : Stmt := top 18
abbrev s_Counts_init : Stmt := inClass (top 19) 0
abbrev s_Counts_len : Stmt := inClass (top 19) 2
abbrev s_Counts_told : Stmt := inClass (top 19) 5
abbrev s_Counts_need_member : Stmt := inClass (top 19) 6
abbrev s_Counts_of : Stmt := inClass (top 19) 8
abbrev s_Letter_init : Stmt := inClass (top 23) 0
abbrev s_fits_sent : Stmt := top 27
abbrev s_fits_got : Stmt := top 28
abbrev s_fits_told : Stmt := top 29
abbrev s_is_row : Stmt := top 31
abbrev s_is_history : Stmt := top 32
abbrev s_need_history : Stmt := top 33
abbrev s_HistoryWalk_init : Stmt := inClass (top 34) 0
abbrev s_HistoryWalk_why_not_got : Stmt := inClass (top 34) 1
abbrev s_HistoryWalk_told_otherwise : Stmt := inClass (top 34) 2
abbrev s_HistoryWalk_why_not_told : Stmt := inClass (top 34) 3
abbrev s_HistoryWalk_why_not : Stmt := inClass (top 34) 4
abbrev s_HistoryWalk_go_sent : Stmt := inClass (top 34) 5
abbrev s_HistoryWalk_go_got : Stmt := inClass (top 34) 6
abbrev s_HistoryWalk_go_told : Stmt := inClass (top 34) 7
abbrev s_HistoryWalk_go_on : Stmt := inClass (top 34) 8
abbrev s_first_wrong : Stmt := top 35
abbrev s__law_cell_at : Stmt := top 37
abbrev s__law_pool : Stmt := top 38
abbrev s__law_take : Stmt := top 39
abbrev s__law_model : Stmt := top 40
abbrev s__law_otherwise : Stmt := top 41
abbrev s__law_has : Stmt := top 42
abbrev s__law_why_got : Stmt := top 43
abbrev s__law_why : Stmt := top 44
abbrev s__law_go : Stmt := top 45
abbrev s__law_may : Stmt := top 46
abbrev s__law_word : Stmt := top 47
abbrev s__law_new_row : Stmt := top 48
abbrev s__law_rows : Stmt := top 49
abbrev s__law_due : Stmt := top 50
abbrev s__law_part : Stmt := top 51
abbrev s__law_changed : Stmt := top 52
abbrev s_law : Stmt := top 53
/-- where the defs and the classes of the text stand -/
structure Ad where
  HallError : Addr
  NoNumber : Addr
  NoWord : Addr
  NoMember : Addr
  NoCounts : Addr
  NoCauses : Addr
  NoHistory : Addr
  Counts : Addr
  Letter : Addr
  HistoryWalk : Addr
  FORMS : Addr
  NoNumber_init : Addr
  d_NoNumber_init : FuncData
  NoWord_init : Addr
  d_NoWord_init : FuncData
  NoMember_init : Addr
  d_NoMember_init : FuncData
  NoCounts_init : Addr
  d_NoCounts_init : FuncData
  NoCauses_init : Addr
  d_NoCauses_init : FuncData
  NoHistory_init : Addr
  d_NoHistory_init : FuncData
  is_whole : Addr
  d_is_whole : FuncData
  is_word : Addr
  d_is_word : FuncData
  are_members : Addr
  d_are_members : FuncData
  are_numbers : Addr
  d_are_numbers : FuncData
  Counts_init : Addr
  d_Counts_init : FuncData
  Counts_len : Addr
  d_Counts_len : FuncData
  Counts_told : Addr
  d_Counts_told : FuncData
  Counts_need_member : Addr
  d_Counts_need_member : FuncData
  Counts_of : Addr
  d_Counts_of : FuncData
  Letter_init : Addr
  d_Letter_init : FuncData
  fits_sent : Addr
  d_fits_sent : FuncData
  fits_got : Addr
  d_fits_got : FuncData
  fits_told : Addr
  d_fits_told : FuncData
  is_row : Addr
  d_is_row : FuncData
  is_history : Addr
  d_is_history : FuncData
  need_history : Addr
  d_need_history : FuncData
  HistoryWalk_init : Addr
  d_HistoryWalk_init : FuncData
  HistoryWalk_why_not_got : Addr
  d_HistoryWalk_why_not_got : FuncData
  HistoryWalk_told_otherwise : Addr
  d_HistoryWalk_told_otherwise : FuncData
  HistoryWalk_why_not_told : Addr
  d_HistoryWalk_why_not_told : FuncData
  HistoryWalk_why_not : Addr
  d_HistoryWalk_why_not : FuncData
  HistoryWalk_go_sent : Addr
  d_HistoryWalk_go_sent : FuncData
  HistoryWalk_go_got : Addr
  d_HistoryWalk_go_got : FuncData
  HistoryWalk_go_told : Addr
  d_HistoryWalk_go_told : FuncData
  HistoryWalk_go_on : Addr
  d_HistoryWalk_go_on : FuncData
  first_wrong : Addr
  d_first_wrong : FuncData
  _law_cell_at : Addr
  d__law_cell_at : FuncData
  _law_pool : Addr
  d__law_pool : FuncData
  _law_take : Addr
  d__law_take : FuncData
  _law_model : Addr
  d__law_model : FuncData
  _law_otherwise : Addr
  d__law_otherwise : FuncData
  _law_has : Addr
  d__law_has : FuncData
  _law_why_got : Addr
  d__law_why_got : FuncData
  _law_why : Addr
  d__law_why : FuncData
  _law_go : Addr
  d__law_go : FuncData
  _law_may : Addr
  d__law_may : FuncData
  _law_word : Addr
  d__law_word : FuncData
  _law_new_row : Addr
  d__law_new_row : FuncData
  _law_rows : Addr
  d__law_rows : FuncData
  _law_due : Addr
  d__law_due : FuncData
  _law_part : Addr
  d__law_part : FuncData
  _law_changed : Addr
  d__law_changed : FuncData
  law : Addr
  d_law : FuncData
/-- what the top has left of them -/
structure Txt (w : World) (K : PySem.W.Frag) (mg : Str → Option Value) (a : Ad) : Prop where
  m_HallError : mg "HallError" = some (.ref a.HallError)
  e_HallError : XcC K a.HallError
  hs_HallError : PySem.W.specialIn K (.ref a.HallError) "__getattribute__" = some (some (.builtin "type.__getattribute__"))
  hq_HallError : PySem.W.readsIn K a.HallError (.type "type") = true
  hf_HallError : PySem.W.findCls K (.ref a.HallError) (.type "type") "__init__" = some (.val (.builtin "ValueError.__init__"))
  m_NoNumber : mg "NoNumber" = some (.ref a.NoNumber)
  n_NoNumber_found : NoAttr K a.NoNumber "found"
  e_NoNumber : XcC K a.NoNumber
  o_NoNumber : OexC K a.NoNumber
  oi_NoNumber : PySem.W.findIn K (.ref a.NoNumber) "__init__" = some (some (.ref a.NoNumber_init))
  ot_NoNumber : PySem.W.typeIn K (.ref a.NoNumber_init) = some (.type "function")
  u_NoNumber_HallError : PySem.W.subIn K (.ref a.NoNumber) (.ref a.HallError) = some true
  u_NoNumber_NoNumber : PySem.W.subIn K (.ref a.NoNumber) (.ref a.NoNumber) = some true
  u_NoNumber_NoWord : PySem.W.subIn K (.ref a.NoNumber) (.ref a.NoWord) = some false
  u_NoNumber_NoMember : PySem.W.subIn K (.ref a.NoNumber) (.ref a.NoMember) = some false
  u_NoNumber_NoCounts : PySem.W.subIn K (.ref a.NoNumber) (.ref a.NoCounts) = some false
  u_NoNumber_NoCauses : PySem.W.subIn K (.ref a.NoNumber) (.ref a.NoCauses) = some false
  u_NoNumber_NoHistory : PySem.W.subIn K (.ref a.NoNumber) (.ref a.NoHistory) = some false
  x_NoNumber_HallError : PySem.W.kitOne K (.ref a.NoNumber) (.ref a.HallError) = some true
  x_NoNumber_NoWord : PySem.W.kitOne K (.ref a.NoNumber) (.ref a.NoWord) = some false
  x_NoNumber_NoMember : PySem.W.kitOne K (.ref a.NoNumber) (.ref a.NoMember) = some false
  x_NoNumber_NoCounts : PySem.W.kitOne K (.ref a.NoNumber) (.ref a.NoCounts) = some false
  x_NoNumber_NoCauses : PySem.W.kitOne K (.ref a.NoNumber) (.ref a.NoCauses) = some false
  x_NoNumber_NoHistory : PySem.W.kitOne K (.ref a.NoNumber) (.ref a.NoHistory) = some false
  m_NoWord : mg "NoWord" = some (.ref a.NoWord)
  n_NoWord_found : NoAttr K a.NoWord "found"
  e_NoWord : XcC K a.NoWord
  o_NoWord : OexC K a.NoWord
  oi_NoWord : PySem.W.findIn K (.ref a.NoWord) "__init__" = some (some (.ref a.NoWord_init))
  ot_NoWord : PySem.W.typeIn K (.ref a.NoWord_init) = some (.type "function")
  u_NoWord_HallError : PySem.W.subIn K (.ref a.NoWord) (.ref a.HallError) = some true
  u_NoWord_NoNumber : PySem.W.subIn K (.ref a.NoWord) (.ref a.NoNumber) = some false
  u_NoWord_NoWord : PySem.W.subIn K (.ref a.NoWord) (.ref a.NoWord) = some true
  u_NoWord_NoMember : PySem.W.subIn K (.ref a.NoWord) (.ref a.NoMember) = some false
  u_NoWord_NoCounts : PySem.W.subIn K (.ref a.NoWord) (.ref a.NoCounts) = some false
  u_NoWord_NoCauses : PySem.W.subIn K (.ref a.NoWord) (.ref a.NoCauses) = some false
  u_NoWord_NoHistory : PySem.W.subIn K (.ref a.NoWord) (.ref a.NoHistory) = some false
  x_NoWord_HallError : PySem.W.kitOne K (.ref a.NoWord) (.ref a.HallError) = some true
  x_NoWord_NoNumber : PySem.W.kitOne K (.ref a.NoWord) (.ref a.NoNumber) = some false
  x_NoWord_NoMember : PySem.W.kitOne K (.ref a.NoWord) (.ref a.NoMember) = some false
  x_NoWord_NoCounts : PySem.W.kitOne K (.ref a.NoWord) (.ref a.NoCounts) = some false
  x_NoWord_NoCauses : PySem.W.kitOne K (.ref a.NoWord) (.ref a.NoCauses) = some false
  x_NoWord_NoHistory : PySem.W.kitOne K (.ref a.NoWord) (.ref a.NoHistory) = some false
  m_NoMember : mg "NoMember" = some (.ref a.NoMember)
  n_NoMember_found : NoAttr K a.NoMember "found"
  e_NoMember : XcC K a.NoMember
  o_NoMember : OexC K a.NoMember
  oi_NoMember : PySem.W.findIn K (.ref a.NoMember) "__init__" = some (some (.ref a.NoMember_init))
  ot_NoMember : PySem.W.typeIn K (.ref a.NoMember_init) = some (.type "function")
  u_NoMember_HallError : PySem.W.subIn K (.ref a.NoMember) (.ref a.HallError) = some true
  u_NoMember_NoNumber : PySem.W.subIn K (.ref a.NoMember) (.ref a.NoNumber) = some false
  u_NoMember_NoWord : PySem.W.subIn K (.ref a.NoMember) (.ref a.NoWord) = some false
  u_NoMember_NoMember : PySem.W.subIn K (.ref a.NoMember) (.ref a.NoMember) = some true
  u_NoMember_NoCounts : PySem.W.subIn K (.ref a.NoMember) (.ref a.NoCounts) = some false
  u_NoMember_NoCauses : PySem.W.subIn K (.ref a.NoMember) (.ref a.NoCauses) = some false
  u_NoMember_NoHistory : PySem.W.subIn K (.ref a.NoMember) (.ref a.NoHistory) = some false
  x_NoMember_HallError : PySem.W.kitOne K (.ref a.NoMember) (.ref a.HallError) = some true
  x_NoMember_NoNumber : PySem.W.kitOne K (.ref a.NoMember) (.ref a.NoNumber) = some false
  x_NoMember_NoWord : PySem.W.kitOne K (.ref a.NoMember) (.ref a.NoWord) = some false
  x_NoMember_NoCounts : PySem.W.kitOne K (.ref a.NoMember) (.ref a.NoCounts) = some false
  x_NoMember_NoCauses : PySem.W.kitOne K (.ref a.NoMember) (.ref a.NoCauses) = some false
  x_NoMember_NoHistory : PySem.W.kitOne K (.ref a.NoMember) (.ref a.NoHistory) = some false
  m_NoCounts : mg "NoCounts" = some (.ref a.NoCounts)
  n_NoCounts_found : NoAttr K a.NoCounts "found"
  e_NoCounts : XcC K a.NoCounts
  o_NoCounts : OexC K a.NoCounts
  oi_NoCounts : PySem.W.findIn K (.ref a.NoCounts) "__init__" = some (some (.ref a.NoCounts_init))
  ot_NoCounts : PySem.W.typeIn K (.ref a.NoCounts_init) = some (.type "function")
  u_NoCounts_HallError : PySem.W.subIn K (.ref a.NoCounts) (.ref a.HallError) = some true
  u_NoCounts_NoNumber : PySem.W.subIn K (.ref a.NoCounts) (.ref a.NoNumber) = some false
  u_NoCounts_NoWord : PySem.W.subIn K (.ref a.NoCounts) (.ref a.NoWord) = some false
  u_NoCounts_NoMember : PySem.W.subIn K (.ref a.NoCounts) (.ref a.NoMember) = some false
  u_NoCounts_NoCounts : PySem.W.subIn K (.ref a.NoCounts) (.ref a.NoCounts) = some true
  u_NoCounts_NoCauses : PySem.W.subIn K (.ref a.NoCounts) (.ref a.NoCauses) = some false
  u_NoCounts_NoHistory : PySem.W.subIn K (.ref a.NoCounts) (.ref a.NoHistory) = some false
  x_NoCounts_HallError : PySem.W.kitOne K (.ref a.NoCounts) (.ref a.HallError) = some true
  x_NoCounts_NoNumber : PySem.W.kitOne K (.ref a.NoCounts) (.ref a.NoNumber) = some false
  x_NoCounts_NoWord : PySem.W.kitOne K (.ref a.NoCounts) (.ref a.NoWord) = some false
  x_NoCounts_NoMember : PySem.W.kitOne K (.ref a.NoCounts) (.ref a.NoMember) = some false
  x_NoCounts_NoCauses : PySem.W.kitOne K (.ref a.NoCounts) (.ref a.NoCauses) = some false
  x_NoCounts_NoHistory : PySem.W.kitOne K (.ref a.NoCounts) (.ref a.NoHistory) = some false
  m_NoCauses : mg "NoCauses" = some (.ref a.NoCauses)
  n_NoCauses_found : NoAttr K a.NoCauses "found"
  e_NoCauses : XcC K a.NoCauses
  o_NoCauses : OexC K a.NoCauses
  oi_NoCauses : PySem.W.findIn K (.ref a.NoCauses) "__init__" = some (some (.ref a.NoCauses_init))
  ot_NoCauses : PySem.W.typeIn K (.ref a.NoCauses_init) = some (.type "function")
  u_NoCauses_HallError : PySem.W.subIn K (.ref a.NoCauses) (.ref a.HallError) = some true
  u_NoCauses_NoNumber : PySem.W.subIn K (.ref a.NoCauses) (.ref a.NoNumber) = some false
  u_NoCauses_NoWord : PySem.W.subIn K (.ref a.NoCauses) (.ref a.NoWord) = some false
  u_NoCauses_NoMember : PySem.W.subIn K (.ref a.NoCauses) (.ref a.NoMember) = some false
  u_NoCauses_NoCounts : PySem.W.subIn K (.ref a.NoCauses) (.ref a.NoCounts) = some false
  u_NoCauses_NoCauses : PySem.W.subIn K (.ref a.NoCauses) (.ref a.NoCauses) = some true
  u_NoCauses_NoHistory : PySem.W.subIn K (.ref a.NoCauses) (.ref a.NoHistory) = some false
  x_NoCauses_HallError : PySem.W.kitOne K (.ref a.NoCauses) (.ref a.HallError) = some true
  x_NoCauses_NoNumber : PySem.W.kitOne K (.ref a.NoCauses) (.ref a.NoNumber) = some false
  x_NoCauses_NoWord : PySem.W.kitOne K (.ref a.NoCauses) (.ref a.NoWord) = some false
  x_NoCauses_NoMember : PySem.W.kitOne K (.ref a.NoCauses) (.ref a.NoMember) = some false
  x_NoCauses_NoCounts : PySem.W.kitOne K (.ref a.NoCauses) (.ref a.NoCounts) = some false
  x_NoCauses_NoHistory : PySem.W.kitOne K (.ref a.NoCauses) (.ref a.NoHistory) = some false
  m_NoHistory : mg "NoHistory" = some (.ref a.NoHistory)
  n_NoHistory_found : NoAttr K a.NoHistory "found"
  e_NoHistory : XcC K a.NoHistory
  o_NoHistory : OexC K a.NoHistory
  oi_NoHistory : PySem.W.findIn K (.ref a.NoHistory) "__init__" = some (some (.ref a.NoHistory_init))
  ot_NoHistory : PySem.W.typeIn K (.ref a.NoHistory_init) = some (.type "function")
  u_NoHistory_HallError : PySem.W.subIn K (.ref a.NoHistory) (.ref a.HallError) = some true
  u_NoHistory_NoNumber : PySem.W.subIn K (.ref a.NoHistory) (.ref a.NoNumber) = some false
  u_NoHistory_NoWord : PySem.W.subIn K (.ref a.NoHistory) (.ref a.NoWord) = some false
  u_NoHistory_NoMember : PySem.W.subIn K (.ref a.NoHistory) (.ref a.NoMember) = some false
  u_NoHistory_NoCounts : PySem.W.subIn K (.ref a.NoHistory) (.ref a.NoCounts) = some false
  u_NoHistory_NoCauses : PySem.W.subIn K (.ref a.NoHistory) (.ref a.NoCauses) = some false
  u_NoHistory_NoHistory : PySem.W.subIn K (.ref a.NoHistory) (.ref a.NoHistory) = some true
  x_NoHistory_HallError : PySem.W.kitOne K (.ref a.NoHistory) (.ref a.HallError) = some true
  x_NoHistory_NoNumber : PySem.W.kitOne K (.ref a.NoHistory) (.ref a.NoNumber) = some false
  x_NoHistory_NoWord : PySem.W.kitOne K (.ref a.NoHistory) (.ref a.NoWord) = some false
  x_NoHistory_NoMember : PySem.W.kitOne K (.ref a.NoHistory) (.ref a.NoMember) = some false
  x_NoHistory_NoCounts : PySem.W.kitOne K (.ref a.NoHistory) (.ref a.NoCounts) = some false
  x_NoHistory_NoCauses : PySem.W.kitOne K (.ref a.NoHistory) (.ref a.NoCauses) = some false
  m_Counts : mg "Counts" = some (.ref a.Counts)
  c_Counts : Cls K a.Counts
  i_Counts : IsC K a.Counts
  mk_Counts : Mk K a.Counts a.Counts_init
  n_Counts_kept_numbers : NoAttr K a.Counts "kept_numbers"
  x_Counts_Letter : PySem.W.kitOne K (.ref a.Counts) (.ref a.Letter) = some false
  x_Counts_HistoryWalk : PySem.W.kitOne K (.ref a.Counts) (.ref a.HistoryWalk) = some false
  m_Letter : mg "Letter" = some (.ref a.Letter)
  c_Letter : Cls K a.Letter
  i_Letter : IsC K a.Letter
  mk_Letter : Mk K a.Letter a.Letter_init
  n_Letter_own_sender : NoAttr K a.Letter "own_sender"
  n_Letter_own_number : NoAttr K a.Letter "own_number"
  n_Letter_own_word : NoAttr K a.Letter "own_word"
  n_Letter_own_causes : NoAttr K a.Letter "own_causes"
  x_Letter_Counts : PySem.W.kitOne K (.ref a.Letter) (.ref a.Counts) = some false
  x_Letter_HistoryWalk : PySem.W.kitOne K (.ref a.Letter) (.ref a.HistoryWalk) = some false
  m_HistoryWalk : mg "HistoryWalk" = some (.ref a.HistoryWalk)
  c_HistoryWalk : Cls K a.HistoryWalk
  i_HistoryWalk : IsC K a.HistoryWalk
  mk_HistoryWalk : Mk K a.HistoryWalk a.HistoryWalk_init
  n_HistoryWalk_kept_rows : NoAttr K a.HistoryWalk "kept_rows"
  n_HistoryWalk_kept_letters : NoAttr K a.HistoryWalk "kept_letters"
  n_HistoryWalk_got_counts : NoAttr K a.HistoryWalk "got_counts"
  n_HistoryWalk_got_ids : NoAttr K a.HistoryWalk "got_ids"
  n_HistoryWalk_told_ids : NoAttr K a.HistoryWalk "told_ids"
  n_HistoryWalk_told_counts : NoAttr K a.HistoryWalk "told_counts"
  n_HistoryWalk_longest_row : NoAttr K a.HistoryWalk "longest_row"
  x_HistoryWalk_Counts : PySem.W.kitOne K (.ref a.HistoryWalk) (.ref a.Counts) = some false
  x_HistoryWalk_Letter : PySem.W.kitOne K (.ref a.HistoryWalk) (.ref a.Letter) = some false
  F_NoNumber_init : FunD K "__init__" "NoNumber.__init__" (defArgs s_NoNumber_init) (defBody s_NoNumber_init) (defScope s_NoNumber_init) [] [] a.NoNumber_init a.d_NoNumber_init
  B_NoNumber_init : Binds K a.d_NoNumber_init ["self", "found"] []
  F_NoWord_init : FunD K "__init__" "NoWord.__init__" (defArgs s_NoWord_init) (defBody s_NoWord_init) (defScope s_NoWord_init) [] [] a.NoWord_init a.d_NoWord_init
  B_NoWord_init : Binds K a.d_NoWord_init ["self", "found"] []
  F_NoMember_init : FunD K "__init__" "NoMember.__init__" (defArgs s_NoMember_init) (defBody s_NoMember_init) (defScope s_NoMember_init) [] [] a.NoMember_init a.d_NoMember_init
  B_NoMember_init : Binds K a.d_NoMember_init ["self", "found"] []
  F_NoCounts_init : FunD K "__init__" "NoCounts.__init__" (defArgs s_NoCounts_init) (defBody s_NoCounts_init) (defScope s_NoCounts_init) [] [] a.NoCounts_init a.d_NoCounts_init
  B_NoCounts_init : Binds K a.d_NoCounts_init ["self", "found"] []
  F_NoCauses_init : FunD K "__init__" "NoCauses.__init__" (defArgs s_NoCauses_init) (defBody s_NoCauses_init) (defScope s_NoCauses_init) [] [] a.NoCauses_init a.d_NoCauses_init
  B_NoCauses_init : Binds K a.d_NoCauses_init ["self", "found"] []
  F_NoHistory_init : FunD K "__init__" "NoHistory.__init__" (defArgs s_NoHistory_init) (defBody s_NoHistory_init) (defScope s_NoHistory_init) [] [] a.NoHistory_init a.d_NoHistory_init
  B_NoHistory_init : Binds K a.d_NoHistory_init ["self", "found"] []
  F_is_whole : FunD K "is_whole" "is_whole" (defArgs s_is_whole) (defBody s_is_whole) (defScope s_is_whole) [V.non] [] a.is_whole a.d_is_whole
  B_is_whole : Binds K a.d_is_whole ["thing", "low", "high"] []
  m_is_whole : mg "is_whole" = some (.ref a.is_whole)
  B1_is_whole : ∃ ds, Vals [V.non] ds ∧ Binds K a.d_is_whole ["thing", "low", "high"] ds
  F_is_word : FunD K "is_word" "is_word" (defArgs s_is_word) (defBody s_is_word) (defScope s_is_word) [] [] a.is_word a.d_is_word
  B_is_word : Binds K a.d_is_word ["thing"] []
  m_is_word : mg "is_word" = some (.ref a.is_word)
  F_are_members : FunD K "are_members" "are_members" (defArgs s_are_members) (defBody s_are_members) (defScope s_are_members) [] [] a.are_members a.d_are_members
  B_are_members : Binds K a.d_are_members ["thing"] []
  m_are_members : mg "are_members" = some (.ref a.are_members)
  F_are_numbers : FunD K "are_numbers" "are_numbers" (defArgs s_are_numbers) (defBody s_are_numbers) (defScope s_are_numbers) [] [] a.are_numbers a.d_are_numbers
  B_are_numbers : Binds K a.d_are_numbers ["thing"] []
  m_are_numbers : mg "are_numbers" = some (.ref a.are_numbers)
  F_Counts_init : FunD K "__init__" "Counts.__init__" (defArgs s_Counts_init) (defBody s_Counts_init) (defScope s_Counts_init) [] [] a.Counts_init a.d_Counts_init
  B_Counts_init : Binds K a.d_Counts_init ["self", "numbers"] []
  F_Counts_len : FunD K "__len__" "Counts.__len__" (defArgs s_Counts_len) (defBody s_Counts_len) (defScope s_Counts_len) [] [] a.Counts_len a.d_Counts_len
  B_Counts_len : Binds K a.d_Counts_len ["self"] []
  M_Counts_len : Meth K a.Counts "__len__" a.Counts_len
  F_Counts_told : FunD K "told" "Counts.told" (defArgs s_Counts_told) (defBody s_Counts_told) (defScope s_Counts_told) [] [] a.Counts_told a.d_Counts_told
  B_Counts_told : Binds K a.d_Counts_told ["self"] []
  M_Counts_told : Meth K a.Counts "told" a.Counts_told
  F_Counts_need_member : FunD K "need_member" "Counts.need_member" (defArgs s_Counts_need_member) (defBody s_Counts_need_member) (defScope s_Counts_need_member) [] [] a.Counts_need_member a.d_Counts_need_member
  B_Counts_need_member : Binds K a.d_Counts_need_member ["self", "member"] []
  M_Counts_need_member : Meth K a.Counts "need_member" a.Counts_need_member
  F_Counts_of : FunD K "of" "Counts.of" (defArgs s_Counts_of) (defBody s_Counts_of) (defScope s_Counts_of) [] [] a.Counts_of a.d_Counts_of
  B_Counts_of : Binds K a.d_Counts_of ["self", "member"] []
  M_Counts_of : Meth K a.Counts "of" a.Counts_of
  F_Letter_init : FunD K "__init__" "Letter.__init__" (defArgs s_Letter_init) (defBody s_Letter_init) (defScope s_Letter_init) [] [] a.Letter_init a.d_Letter_init
  B_Letter_init : Binds K a.d_Letter_init ["self", "sender", "number", "word", "causes"] []
  F_fits_sent : FunD K "fits_sent" "fits_sent" (defArgs s_fits_sent) (defBody s_fits_sent) (defScope s_fits_sent) [] [] a.fits_sent a.d_fits_sent
  B_fits_sent : Binds K a.d_fits_sent ["members", "row"] []
  F_fits_got : FunD K "fits_got" "fits_got" (defArgs s_fits_got) (defBody s_fits_got) (defScope s_fits_got) [] [] a.fits_got a.d_fits_got
  B_fits_got : Binds K a.d_fits_got ["members", "row"] []
  F_fits_told : FunD K "fits_told" "fits_told" (defArgs s_fits_told) (defBody s_fits_told) (defScope s_fits_told) [] [] a.fits_told a.d_fits_told
  B_fits_told : Binds K a.d_fits_told ["members", "row"] []
  F_is_row : FunD K "is_row" "is_row" (defArgs s_is_row) (defBody s_is_row) (defScope s_is_row) [] [] a.is_row a.d_is_row
  B_is_row : Binds K a.d_is_row ["members", "row"] []
  m_is_row : mg "is_row" = some (.ref a.is_row)
  F_is_history : FunD K "is_history" "is_history" (defArgs s_is_history) (defBody s_is_history) (defScope s_is_history) [] [] a.is_history a.d_is_history
  B_is_history : Binds K a.d_is_history ["members", "rows"] []
  m_is_history : mg "is_history" = some (.ref a.is_history)
  F_need_history : FunD K "need_history" "need_history" (defArgs s_need_history) (defBody s_need_history) (defScope s_need_history) [] [] a.need_history a.d_need_history
  B_need_history : Binds K a.d_need_history ["members", "rows"] []
  m_need_history : mg "need_history" = some (.ref a.need_history)
  F_HistoryWalk_init : FunD K "__init__" "HistoryWalk.__init__" (defArgs s_HistoryWalk_init) (defBody s_HistoryWalk_init) (defScope s_HistoryWalk_init) [] [] a.HistoryWalk_init a.d_HistoryWalk_init
  B_HistoryWalk_init : Binds K a.d_HistoryWalk_init ["self", "members"] []
  F_HistoryWalk_why_not_got : FunD K "why_not_got" "HistoryWalk.why_not_got" (defArgs s_HistoryWalk_why_not_got) (defBody s_HistoryWalk_why_not_got) (defScope s_HistoryWalk_why_not_got) [] [] a.HistoryWalk_why_not_got a.d_HistoryWalk_why_not_got
  B_HistoryWalk_why_not_got : Binds K a.d_HistoryWalk_why_not_got ["self", "member", "sender", "number"] []
  M_HistoryWalk_why_not_got : Meth K a.HistoryWalk "why_not_got" a.HistoryWalk_why_not_got
  F_HistoryWalk_told_otherwise : FunD K "told_otherwise" "HistoryWalk.told_otherwise" (defArgs s_HistoryWalk_told_otherwise) (defBody s_HistoryWalk_told_otherwise) (defScope s_HistoryWalk_told_otherwise) [] [] a.HistoryWalk_told_otherwise a.d_HistoryWalk_told_otherwise
  B_HistoryWalk_told_otherwise : Binds K a.d_HistoryWalk_told_otherwise ["self", "member", "place", "ident"] []
  M_HistoryWalk_told_otherwise : Meth K a.HistoryWalk "told_otherwise" a.HistoryWalk_told_otherwise
  F_HistoryWalk_why_not_told : FunD K "why_not_told" "HistoryWalk.why_not_told" (defArgs s_HistoryWalk_why_not_told) (defBody s_HistoryWalk_why_not_told) (defScope s_HistoryWalk_why_not_told) [] [] a.HistoryWalk_why_not_told a.d_HistoryWalk_why_not_told
  B_HistoryWalk_why_not_told : Binds K a.d_HistoryWalk_why_not_told ["self", "member", "place", "sender", "number"] []
  M_HistoryWalk_why_not_told : Meth K a.HistoryWalk "why_not_told" a.HistoryWalk_why_not_told
  F_HistoryWalk_why_not : FunD K "why_not" "HistoryWalk.why_not" (defArgs s_HistoryWalk_why_not) (defBody s_HistoryWalk_why_not) (defScope s_HistoryWalk_why_not) [] [] a.HistoryWalk_why_not a.d_HistoryWalk_why_not
  B_HistoryWalk_why_not : Binds K a.d_HistoryWalk_why_not ["self", "row"] []
  M_HistoryWalk_why_not : Meth K a.HistoryWalk "why_not" a.HistoryWalk_why_not
  F_HistoryWalk_go_sent : FunD K "go_sent" "HistoryWalk.go_sent" (defArgs s_HistoryWalk_go_sent) (defBody s_HistoryWalk_go_sent) (defScope s_HistoryWalk_go_sent) [] [] a.HistoryWalk_go_sent a.d_HistoryWalk_go_sent
  B_HistoryWalk_go_sent : Binds K a.d_HistoryWalk_go_sent ["self", "member", "word"] []
  M_HistoryWalk_go_sent : Meth K a.HistoryWalk "go_sent" a.HistoryWalk_go_sent
  F_HistoryWalk_go_got : FunD K "go_got" "HistoryWalk.go_got" (defArgs s_HistoryWalk_go_got) (defBody s_HistoryWalk_go_got) (defScope s_HistoryWalk_go_got) [] [] a.HistoryWalk_go_got a.d_HistoryWalk_go_got
  B_HistoryWalk_go_got : Binds K a.d_HistoryWalk_go_got ["self", "member", "ident"] []
  M_HistoryWalk_go_got : Meth K a.HistoryWalk "go_got" a.HistoryWalk_go_got
  F_HistoryWalk_go_told : FunD K "go_told" "HistoryWalk.go_told" (defArgs s_HistoryWalk_go_told) (defBody s_HistoryWalk_go_told) (defScope s_HistoryWalk_go_told) [] [] a.HistoryWalk_go_told a.d_HistoryWalk_go_told
  B_HistoryWalk_go_told : Binds K a.d_HistoryWalk_go_told ["self", "member", "ident"] []
  M_HistoryWalk_go_told : Meth K a.HistoryWalk "go_told" a.HistoryWalk_go_told
  F_HistoryWalk_go_on : FunD K "go_on" "HistoryWalk.go_on" (defArgs s_HistoryWalk_go_on) (defBody s_HistoryWalk_go_on) (defScope s_HistoryWalk_go_on) [] [] a.HistoryWalk_go_on a.d_HistoryWalk_go_on
  B_HistoryWalk_go_on : Binds K a.d_HistoryWalk_go_on ["self", "row"] []
  M_HistoryWalk_go_on : Meth K a.HistoryWalk "go_on" a.HistoryWalk_go_on
  F_first_wrong : FunD K "first_wrong" "first_wrong" (defArgs s_first_wrong) (defBody s_first_wrong) (defScope s_first_wrong) [] [] a.first_wrong a.d_first_wrong
  B_first_wrong : Binds K a.d_first_wrong ["members", "rows"] []
  m_first_wrong : mg "first_wrong" = some (.ref a.first_wrong)
  F__law_cell_at : FunD K "_law_cell_at" "_law_cell_at" (defArgs s__law_cell_at) (defBody s__law_cell_at) (defScope s__law_cell_at) [] [] a._law_cell_at a.d__law_cell_at
  B__law_cell_at : Binds K a.d__law_cell_at ["script", "k"] []
  m__law_cell_at : mg "_law_cell_at" = some (.ref a._law_cell_at)
  F__law_pool : FunD K "_law_pool" "_law_pool" (defArgs s__law_pool) (defBody s__law_pool) (defScope s__law_pool) [] [] a._law_pool a.d__law_pool
  B__law_pool : Binds K a.d__law_pool ["cell"] []
  m__law_pool : mg "_law_pool" = some (.ref a._law_pool)
  F__law_take : FunD K "_law_take" "_law_take" (defArgs s__law_take) (defBody s__law_take) (defScope s__law_take) [] [] a._law_take a.d__law_take
  B__law_take : Binds K a.d__law_take ["pool", "size"] []
  m__law_take : mg "_law_take" = some (.ref a._law_take)
  F__law_model : FunD K "_law_model" "_law_model" (defArgs s__law_model) (defBody s__law_model) (defScope s__law_model) [] [] a._law_model a.d__law_model
  B__law_model : Binds K a.d__law_model ["members"] []
  m__law_model : mg "_law_model" = some (.ref a._law_model)
  F__law_otherwise : FunD K "_law_otherwise" "_law_otherwise" (defArgs s__law_otherwise) (defBody s__law_otherwise) (defScope s__law_otherwise) [] [] a._law_otherwise a.d__law_otherwise
  B__law_otherwise : Binds K a.d__law_otherwise ["model", "member", "place", "ident"] []
  m__law_otherwise : mg "_law_otherwise" = some (.ref a._law_otherwise)
  F__law_has : FunD K "_law_has" "_law_has" (defArgs s__law_has) (defBody s__law_has) (defScope s__law_has) [] [] a._law_has a.d__law_has
  B__law_has : Binds K a.d__law_has ["model", "rows", "ident"] []
  m__law_has : mg "_law_has" = some (.ref a._law_has)
  F__law_why_got : FunD K "_law_why_got" "_law_why_got" (defArgs s__law_why_got) (defBody s__law_why_got) (defScope s__law_why_got) [] [] a._law_why_got a.d__law_why_got
  B__law_why_got : Binds K a.d__law_why_got ["model", "member", "ident"] []
  m__law_why_got : mg "_law_why_got" = some (.ref a._law_why_got)
  F__law_why : FunD K "_law_why" "_law_why" (defArgs s__law_why) (defBody s__law_why) (defScope s__law_why) [] [] a._law_why a.d__law_why
  B__law_why : Binds K a.d__law_why ["model", "row"] []
  m__law_why : mg "_law_why" = some (.ref a._law_why)
  F__law_go : FunD K "_law_go" "_law_go" (defArgs s__law_go) (defBody s__law_go) (defScope s__law_go) [] [] a._law_go a.d__law_go
  B__law_go : Binds K a.d__law_go ["model", "row"] []
  m__law_go : mg "_law_go" = some (.ref a._law_go)
  F__law_may : FunD K "_law_may" "_law_may" (defArgs s__law_may) (defBody s__law_may) (defScope s__law_may) [] [] a._law_may a.d__law_may
  B__law_may : Binds K a.d__law_may ["model", "member"] []
  m__law_may : mg "_law_may" = some (.ref a._law_may)
  F__law_word : FunD K "_law_word" "_law_word" (defArgs s__law_word) (defBody s__law_word) (defScope s__law_word) [] [] a._law_word a.d__law_word
  B__law_word : Binds K a.d__law_word ["pool"] []
  m__law_word : mg "_law_word" = some (.ref a._law_word)
  F__law_new_row : FunD K "_law_new_row" "_law_new_row" (defArgs s__law_new_row) (defBody s__law_new_row) (defScope s__law_new_row) [] [] a._law_new_row a.d__law_new_row
  B__law_new_row : Binds K a.d__law_new_row ["model", "members", "wild", "pool"] []
  m__law_new_row : mg "_law_new_row" = some (.ref a._law_new_row)
  F__law_rows : FunD K "_law_rows" "_law_rows" (defArgs s__law_rows) (defBody s__law_rows) (defScope s__law_rows) [] [] a._law_rows a.d__law_rows
  B__law_rows : Binds K a.d__law_rows ["script", "start", "wild"] []
  m__law_rows : mg "_law_rows" = some (.ref a._law_rows)
  F__law_due : FunD K "_law_due" "_law_due" (defArgs s__law_due) (defBody s__law_due) (defScope s__law_due) [] [] a._law_due a.d__law_due
  B__law_due : Binds K a.d__law_due ["members", "rows"] []
  m__law_due : mg "_law_due" = some (.ref a._law_due)
  F__law_part : FunD K "_law_part" "_law_part" (defArgs s__law_part) (defBody s__law_part) (defScope s__law_part) [] [] a._law_part a.d__law_part
  B__law_part : Binds K a.d__law_part ["members", "row", "pool"] []
  m__law_part : mg "_law_part" = some (.ref a._law_part)
  F__law_changed : FunD K "_law_changed" "_law_changed" (defArgs s__law_changed) (defBody s__law_changed) (defScope s__law_changed) [] [] a._law_changed a.d__law_changed
  B__law_changed : Binds K a.d__law_changed ["members", "rows", "pool"] []
  m__law_changed : mg "_law_changed" = some (.ref a._law_changed)
  F_law : FunD K "law" "law" (defArgs s_law) (defBody s_law) (defScope s_law) [] [] a.law a.d_law
  g_LETTERS : ∃ u, mg "LETTERS" = some u ∧ RelV (V.str "abcdefghijklmnopqrstuvwxyz") u
  g_LONGEST_WORD : ∃ u, mg "LONGEST_WORD" = some u ∧ RelV (V.int 8) u
  g_LEAST_MEMBERS : ∃ u, mg "LEAST_MEMBERS" = some u ∧ RelV (V.int 2) u
  g_MOST_MEMBERS : ∃ u, mg "MOST_MEMBERS" = some u ∧ RelV (V.int 5) u
  g_MOST_LETTERS : ∃ u, mg "MOST_LETTERS" = some u ∧ RelV (V.int 30) u
  g_LAST_MEMBER : ∃ u, mg "LAST_MEMBER" = some u ∧ RelV (V.int 4) u
  g_MOST_ROWS : ∃ u, mg "MOST_ROWS" = some u ∧ RelV (V.int 400) u
  g_MOST_SENT : ∃ u, mg "MOST_SENT" = some u ∧ RelV (V.int 30) u
  m_FORMS : mg "FORMS" = some (.ref a.FORMS)
  d_FORMS_sent : KDc K w a.FORMS "sent" (.ref a.fits_sent)
  d_FORMS_got : KDc K w a.FORMS "got" (.ref a.fits_got)
  d_FORMS_told : KDc K w a.FORMS "told" (.ref a.fits_told)
  b_all : mg "all" = none
  b_any : mg "any" = none
  b_bool : mg "bool" = none
  b_enumerate : mg "enumerate" = none
  b_int : mg "int" = none
  b_isinstance : mg "isinstance" = none
  b_len : mg "len" = none
  b_list : mg "list" = none
  b_max : mg "max" = none
  b_range : mg "range" = none
  b_str : mg "str" = none
  b_tuple : mg "tuple" = none
  b_zip : mg "zip" = none
theorem sc_NoNumber_init : FnScope ["self", "found"] ["self", "found"] (defScope s_NoNumber_init) := ⟨rfl, rfl, rfl, by decide +kernel, rfl, by decide +kernel, by decide +kernel⟩
theorem sc_NoWord_init : FnScope ["self", "found"] ["self", "found"] (defScope s_NoWord_init) := ⟨rfl, rfl, rfl, by decide +kernel, rfl, by decide +kernel, by decide +kernel⟩
theorem sc_NoMember_init : FnScope ["self", "found"] ["self", "found"] (defScope s_NoMember_init) := ⟨rfl, rfl, rfl, by decide +kernel, rfl, by decide +kernel, by decide +kernel⟩
theorem sc_NoCounts_init : FnScope ["self", "found"] ["self", "found"] (defScope s_NoCounts_init) := ⟨rfl, rfl, rfl, by decide +kernel, rfl, by decide +kernel, by decide +kernel⟩
theorem sc_NoCauses_init : FnScope ["self", "found"] ["self", "found"] (defScope s_NoCauses_init) := ⟨rfl, rfl, rfl, by decide +kernel, rfl, by decide +kernel, by decide +kernel⟩
theorem sc_NoHistory_init : FnScope ["self", "found"] ["self", "found"] (defScope s_NoHistory_init) := ⟨rfl, rfl, rfl, by decide +kernel, rfl, by decide +kernel, by decide +kernel⟩
theorem sc_is_whole : FnScope ["thing", "low", "high"] ["thing", "low", "high"] (defScope s_is_whole) := ⟨rfl, rfl, rfl, by decide +kernel, rfl, by decide +kernel, by decide +kernel⟩
theorem sc_is_word : FnScope ["thing", "sign"] ["thing"] (defScope s_is_word) := ⟨rfl, rfl, rfl, by decide +kernel, rfl, by decide +kernel, by decide +kernel⟩
theorem sc_are_members : FnScope ["thing"] ["thing"] (defScope s_are_members) := ⟨rfl, rfl, rfl, by decide +kernel, rfl, by decide +kernel, by decide +kernel⟩
theorem sc_are_numbers : FnScope ["thing", "number"] ["thing"] (defScope s_are_numbers) := ⟨rfl, rfl, rfl, by decide +kernel, rfl, by decide +kernel, by decide +kernel⟩
theorem sc_Counts_init : FnScope ["self", "numbers"] ["self", "numbers"] (defScope s_Counts_init) := ⟨rfl, rfl, rfl, by decide +kernel, rfl, by decide +kernel, by decide +kernel⟩
theorem sc_Counts_len : FnScope ["self"] ["self"] (defScope s_Counts_len) := ⟨rfl, rfl, rfl, by decide +kernel, rfl, by decide +kernel, by decide +kernel⟩
theorem sc_Counts_told : FnScope ["self"] ["self"] (defScope s_Counts_told) := ⟨rfl, rfl, rfl, by decide +kernel, rfl, by decide +kernel, by decide +kernel⟩
theorem sc_Counts_need_member : FnScope ["self", "member"] ["self", "member"] (defScope s_Counts_need_member) := ⟨rfl, rfl, rfl, by decide +kernel, rfl, by decide +kernel, by decide +kernel⟩
theorem sc_Counts_of : FnScope ["self", "member"] ["self", "member"] (defScope s_Counts_of) := ⟨rfl, rfl, rfl, by decide +kernel, rfl, by decide +kernel, by decide +kernel⟩
theorem sc_Letter_init : FnScope ["self", "sender", "number", "word", "causes"] ["self", "sender", "number", "word", "causes"] (defScope s_Letter_init) := ⟨rfl, rfl, rfl, by decide +kernel, rfl, by decide +kernel, by decide +kernel⟩
theorem sc_fits_sent : FnScope ["members", "row"] ["members", "row"] (defScope s_fits_sent) := ⟨rfl, rfl, rfl, by decide +kernel, rfl, by decide +kernel, by decide +kernel⟩
theorem sc_fits_got : FnScope ["members", "row"] ["members", "row"] (defScope s_fits_got) := ⟨rfl, rfl, rfl, by decide +kernel, rfl, by decide +kernel, by decide +kernel⟩
theorem sc_fits_told : FnScope ["members", "row"] ["members", "row"] (defScope s_fits_told) := ⟨rfl, rfl, rfl, by decide +kernel, rfl, by decide +kernel, by decide +kernel⟩
theorem sc_is_row : FnScope ["members", "row", "word", "fits"] ["members", "row"] (defScope s_is_row) := ⟨rfl, rfl, rfl, by decide +kernel, rfl, by decide +kernel, by decide +kernel⟩
theorem sc_is_history : FnScope ["members", "rows", "row"] ["members", "rows"] (defScope s_is_history) := ⟨rfl, rfl, rfl, by decide +kernel, rfl, by decide +kernel, by decide +kernel⟩
theorem sc_need_history : FnScope ["members", "rows"] ["members", "rows"] (defScope s_need_history) := ⟨rfl, rfl, rfl, by decide +kernel, rfl, by decide +kernel, by decide +kernel⟩
theorem sc_HistoryWalk_init : FnScope ["self", "members", "member"] ["self", "members"] (defScope s_HistoryWalk_init) := ⟨rfl, rfl, rfl, by decide +kernel, rfl, by decide +kernel, by decide +kernel⟩
theorem sc_HistoryWalk_why_not_got : FnScope ["self", "member", "sender", "number", "causes", "count", "mine"] ["self", "member", "sender", "number"] (defScope s_HistoryWalk_why_not_got) := ⟨rfl, rfl, rfl, by decide +kernel, rfl, by decide +kernel, by decide +kernel⟩
theorem sc_HistoryWalk_told_otherwise : FnScope ["self", "member", "place", "ident"] ["self", "member", "place", "ident"] (defScope s_HistoryWalk_told_otherwise) := ⟨rfl, rfl, rfl, by decide +kernel, rfl, by decide +kernel, by decide +kernel⟩
theorem sc_HistoryWalk_why_not_told : FnScope ["self", "member", "place", "sender", "number", "causes", "count", "mine"] ["self", "member", "place", "sender", "number"] (defScope s_HistoryWalk_why_not_told) := ⟨rfl, rfl, rfl, by decide +kernel, rfl, by decide +kernel, by decide +kernel⟩
theorem sc_HistoryWalk_why_not : FnScope ["self", "row"] ["self", "row"] (defScope s_HistoryWalk_why_not) := ⟨rfl, rfl, rfl, by decide +kernel, rfl, by decide +kernel, by decide +kernel⟩
theorem sc_HistoryWalk_go_sent : FnScope ["self", "member", "word", "causes", "ident"] ["self", "member", "word"] (defScope s_HistoryWalk_go_sent) := ⟨rfl, rfl, rfl, by decide +kernel, rfl, by decide +kernel, by decide +kernel⟩
theorem sc_HistoryWalk_go_got : FnScope ["self", "member", "ident"] ["self", "member", "ident"] (defScope s_HistoryWalk_go_got) := ⟨rfl, rfl, rfl, by decide +kernel, rfl, by decide +kernel, by decide +kernel⟩
theorem sc_HistoryWalk_go_told : FnScope ["self", "member", "ident"] ["self", "member", "ident"] (defScope s_HistoryWalk_go_told) := ⟨rfl, rfl, rfl, by decide +kernel, rfl, by decide +kernel, by decide +kernel⟩
theorem sc_HistoryWalk_go_on : FnScope ["self", "row"] ["self", "row"] (defScope s_HistoryWalk_go_on) := ⟨rfl, rfl, rfl, by decide +kernel, rfl, by decide +kernel, by decide +kernel⟩
theorem sc_first_wrong : FnScope ["members", "rows", "walk", "at", "row", "why"] ["members", "rows"] (defScope s_first_wrong) := ⟨rfl, rfl, rfl, by decide +kernel, rfl, by decide +kernel, by decide +kernel⟩
theorem sc__law_cell_at : FnScope ["script", "k"] ["script", "k"] (defScope s__law_cell_at) := ⟨rfl, rfl, rfl, by decide +kernel, rfl, by decide +kernel, by decide +kernel⟩
theorem sc__law_pool : FnScope ["cell", "number", "k", "mix"] ["cell"] (defScope s__law_pool) := ⟨rfl, rfl, rfl, by decide +kernel, rfl, by decide +kernel, by decide +kernel⟩
theorem sc__law_take : FnScope ["pool", "size", "found"] ["pool", "size"] (defScope s__law_take) := ⟨rfl, rfl, rfl, by decide +kernel, rfl, by decide +kernel, by decide +kernel⟩
theorem sc__law_model : FnScope ["members", "got", "k", "later"] ["members"] (defScope s__law_model) := ⟨rfl, rfl, rfl, by decide +kernel, rfl, by decide +kernel, by decide +kernel⟩
theorem sc__law_otherwise : FnScope ["model", "member", "place", "ident", "k", "row"] ["model", "member", "place", "ident"] (defScope s__law_otherwise) := ⟨rfl, rfl, rfl, by decide +kernel, rfl, by decide +kernel, by decide +kernel⟩
theorem sc__law_has : FnScope ["model", "rows", "ident", "cause"] ["model", "rows", "ident"] (defScope s__law_has) := ⟨rfl, rfl, rfl, by decide +kernel, rfl, by decide +kernel, by decide +kernel⟩
theorem sc__law_why_got : FnScope ["model", "member", "ident", "rows"] ["model", "member", "ident"] (defScope s__law_why_got) := ⟨rfl, rfl, rfl, by decide +kernel, rfl, by decide +kernel, by decide +kernel⟩
theorem sc__law_why : FnScope ["model", "row", "member", "ident", "rows"] ["model", "row"] (defScope s__law_why) := ⟨rfl, rfl, rfl, by decide +kernel, rfl, by decide +kernel, by decide +kernel⟩
theorem sc__law_go : FnScope ["model", "row", "member", "ident", "sent", "word"] ["model", "row"] (defScope s__law_go) := ⟨rfl, rfl, rfl, by decide +kernel, rfl, by decide +kernel, by decide +kernel⟩
theorem sc__law_may : FnScope ["model", "member", "place", "rows", "sender", "number", "row"] ["model", "member"] (defScope s__law_may) := ⟨rfl, rfl, rfl, by decide +kernel, rfl, by decide +kernel, by decide +kernel⟩
theorem sc__law_word : FnScope ["pool", "word", "k"] ["pool"] (defScope s__law_word) := ⟨rfl, rfl, rfl, by decide +kernel, rfl, by decide +kernel, by decide +kernel⟩
theorem sc__law_new_row : FnScope ["model", "members", "wild", "pool", "way", "odd", "member", "pick", "ident", "rows", "row"] ["model", "members", "wild", "pool"] (defScope s__law_new_row) := ⟨rfl, rfl, rfl, by decide +kernel, rfl, by decide +kernel, by decide +kernel⟩
theorem sc__law_rows : FnScope ["script", "start", "wild", "members", "model", "rows", "cell", "row", "good"] ["script", "start", "wild"] (defScope s__law_rows) := ⟨rfl, rfl, rfl, by decide +kernel, rfl, by decide +kernel, by decide +kernel⟩
theorem sc__law_due : FnScope ["members", "rows", "model", "at", "why"] ["members", "rows"] (defScope s__law_due) := ⟨rfl, rfl, rfl, by decide +kernel, rfl, by decide +kernel, by decide +kernel⟩
theorem sc__law_part : FnScope ["members", "row", "pool", "at", "step"] ["members", "row", "pool"] (defScope s__law_part) := ⟨rfl, rfl, rfl, by decide +kernel, rfl, by decide +kernel, by decide +kernel⟩
theorem sc__law_changed : FnScope ["members", "rows", "pool", "way", "at", "other", "row", "rest", "member"] ["members", "rows", "pool"] (defScope s__law_changed) := ⟨rfl, rfl, rfl, by decide +kernel, rfl, by decide +kernel, by decide +kernel⟩
theorem sc_law : FnScope ["script", "members", "rows", "pool", "k", "changed_rows", "row"] ["script"] (defScope s_law) := ⟨rfl, rfl, rfl, by decide +kernel, rfl, by decide +kernel, by decide +kernel⟩
/-- is x a whole number from lo on, up to hi -/
def isWh (lo : Int) (hi : V) : V → Bool
  | .int n => decide (lo ≤ n) && (match hi with | .int h => decide (n ≤ h) | _ => true)
  | _ => false
def spWhole (K : PySem.W.Frag) : Sp := fun vs H Q _ => ∃ x lo hi, vs = [x, .int lo, hi] ∧ Kn K H x ∧ (hi = .non ∨ ∃ h, hi = .int h) ∧ Q (.bl (isWh lo hi x)) H
def spTake : Sp := fun vs H Q _ => ∃ p m n, vs = [.ref p, .int n] ∧ H p = some (.lst [.int m]) ∧ 0 < n ∧ n.natAbs.log2 < 9000 ∧ ∀ r m' : Int, 0 ≤ r → r < n → Q (.int r) (upd H p (.lst [.int m']))
def spPool : Sp := fun vs H Q _ => ∃ n, vs = [.int n] ∧ ∀ p m, H p = none → Q (.ref p) (upd H p (.lst [.int m]))
section
variable {K : PySem.W.Frag} {H : Hp} {Q : VK} {E : XK} {x : V} {z : Str}
theorem take_use {vs : List V} {p : Addr} {m n : Int} (h1 : H p = some (.lst [.int m])) (h2 : 0 < n) (h3 : n.natAbs.log2 < 9000) (h : ∀ r m' : Int, 0 ≤ r → r < n → Q (.int r) (upd H p (.lst [.int m']))) (he : vs = [.ref p, .int n] := by rfl) : spTake vs H Q E := ⟨p, m, n, he, h1, h2, h3, h⟩
theorem whole_use {vs : List V} {lo : Int} {hi : V} (h1 : Kn K H x) (h2 : hi = .non ∨ ∃ h, hi = .int h) (h : Q (.bl (isWh lo hi x)) H) (he : vs = [x, .int lo, hi] := by rfl) : spWhole K vs H Q E := ⟨x, lo, hi, he, h1, h2, h⟩
theorem wholeN_use {vs : List V} {lo n : Int} (h : Q (.bl (decide (lo ≤ n))) H) (he : vs = [.int n, .int lo, .non] := by rfl) : spWhole K vs H Q E := ⟨_, lo, _, he, trivial, .inl rfl, cast_bl h (by simp [isWh])⟩
theorem wholeH_use {vs : List V} {lo n hi : Int} (h : Q (.bl (decide (lo ≤ n) && decide (n ≤ hi))) H) (he : vs = [.int n, .int lo, .int hi] := by rfl) : spWhole K vs H Q E := ⟨_, lo, _, he, trivial, .inr ⟨hi, rfl⟩, h⟩
theorem pool_use {vs : List V} {n : Int} (h : ∀ p m, H p = none → Q (.ref p) (upd H p (.lst [.int m]))) (he : vs = [.int n] := by rfl) : spPool vs H Q E := ⟨n, he, h⟩
end
/-! steps by the reading's head alone -/
local macro_rules | `(tactic| wtm_at "h") => `(tactic| fail)
set_option hygiene false in
local macro_rules | `(tactic| wtm_at "h") => `(tactic| with_reducible first | refine i_ifAnd ?_ | fail)
set_option hygiene false in
local macro_rules | `(tactic| wtm_at "h") => `(tactic| with_reducible first | refine i_cB ?_ | refine i_call ?_ | refine i_callN ?_ | refine i_isoN ?_ | refine i_isoB ?_ | refine i_isoI ?_ | refine i_isoS ?_ | refine i_ifN ?_ | fail)
set_option hygiene false in
local macro_rules | `(tactic| wtm_at "h") => `(tactic| with_reducible first | refine i_maxU ?_ | refine i_minU ?_ | refine i_sl ?_ | refine i_po0 ?_ | refine i_po1 ?_ | refine i_poI ?_ | refine i_lst ?_ | refine i_tup ?_ | fail)
set_option hygiene false in
local macro_rules | `(tactic| wtm_at "h") => `(tactic| with_reducible first | refine i_tp1 ?_ | refine i_dnew (fun q hq => ?_) | refine i_dnewT (fun q hq => ?_) | refine i_iSeq ?_ | refine i_fld ?_ | refine i_sfld ?_ | refine i_make ?_ | refine i_meth ?_ | fail)
set_option hygiene false in
local macro_rules | `(tactic| wtm_at "h") => `(tactic| with_reducible first | refine i_itS ?_ | refine i_iList ?_ | refine i_iTup ?_ | refine i_iR1 ?_ | refine i_yes ?_ | refine i_mk (fun x dx ndx nx1 nx nex => ?_) | refine i_disp (fun q hq => ?_) | refine i_tp0 ?_ | fail)
set_option hygiene false in
local macro_rules | `(tactic| wtm_at "h") => `(tactic| with_reducible first | refine i_isB ?_ | refine i_isN ?_ | refine i_isnB ?_ | refine i_isnN ?_ | refine i_inS ?_ | refine i_for ?_ | refine i_lc ?_ | refine i_iStr ?_ | fail)
set_option hygiene false in
local macro_rules | `(tactic| wtm_at "h") => `(tactic| with_reducible first | refine i_sub ?_ | refine i_gnil ?_ | refine i_gcons ?_ | refine i_un ?_ | refine i_rU ?_ | refine i_rI0 ?_ | refine i_chain ?_ | refine i_addI ?_ | fail)
set_option hygiene false in
local macro_rules | `(tactic| wtm_at "h") => `(tactic| with_reducible first | refine i_orV ?_ | refine i_notV ?_ | refine i_if ?_ | refine i_next ?_ | refine i_drop ?_ | refine i_retN ?_ | refine i_brk ?_ | refine i_cont ?_ | fail)
set_option hygiene false in
local macro_rules | `(tactic| wtm_at "h") => `(tactic| with_reducible first | refine i_nil ?_ | refine i_test ?_ | refine i_tB ?_ | refine i_bl ?_ | refine i_not ?_ | refine i_and ?_ | refine i_or ?_ | refine i_andV ?_ | fail)
set_option hygiene false in
local macro_rules | `(tactic| wtm_at "h") => `(tactic| with_reducible first | refine i_seq ?_ | refine i_asg ?_ | refine i_op ?_ | refine i_name ?_ | refine i_c ?_ | refine i_ifS ?_ | refine i_ret ?_ | refine i_cons ?_ | fail)
/-! what stands at an address -/
local macro_rules | `(tactic| wtm_at "as") => `(tactic| with_reducible assumption)
local macro_rules | `(tactic| wtm_at "getg") => `(tactic| fail)
local macro_rules | `(tactic| wtm_at "getg") => `(tactic| first | wtm_at "as" | ((with_reducible refine' upd_same' ?g0); (case g0 => exact rfl)) | ((with_reducible refine' get_upd ?g1 ?g2); (case g1 => wtm_at "as"); (case g2 => wtm_at "getg")) | ((fail_if_success ((with_reducible refine' get_upd ?g1 ?g2); (case g1 => wtm_at "as"))); (with_reducible refine' get_ne ?g1 ?g2); (case g2 => wtm_at "getg"); (case g1 => wtm_at "ne")) | ((with_reducible refine' get_same ?g1 ?g2); (case g1 => wtm_at "as"); (case g2 => wtm_at "getg")) | ((with_reducible refine' get_but ?g1 ?g3 ?g2); (case g1 => wtm_at "as"); (case g2 => wtm_at "getg"); (case g3 => wtm_at "ne")) | fail)
local macro_rules | `(tactic| wtm_at "get") => `(tactic| ((with_reducible refine' get_o ?gg ?ge); (case gg => wtm_at "getg"); (case ge => exact rfl)))
local macro_rules | `(tactic| wtm_at "ne") => `(tactic| fail)
local macro_rules | `(tactic| wtm_at "ne") => `(tactic| first | wtm_at "as" | ((with_reducible refine' Ne.symm ?n0); (case n0 => wtm_at "as")) | ((with_reducible refine' ne_of_none ?n1 ?n2); (case n2 => wtm_at "as"); (case n1 => wtm_at "getg")) | ((with_reducible refine' Ne.symm (ne_of_none ?n1 ?n2)); (case n2 => wtm_at "as"); (case n1 => wtm_at "getg")) | ((with_reducible refine' ne_of ?n1 ?n2 ?n3); (case n1 => wtm_at "as"); (case n2 => wtm_at "as"); (case n3 => (intro z; cases z))) | ((with_reducible refine' ne_of ?n1 ?n2 ?n3); (case n1 => wtm_at "as"); (case n2 => wtm_at "getg"); (case n3 => (intro z; cases z))) | ((with_reducible refine' Ne.symm (ne_of ?n1 ?n2 ?n3)); (case n1 => wtm_at "as"); (case n2 => wtm_at "getg"); (case n3 => (intro z; cases z))) | fail)
local macro_rules | `(tactic| wtm_at "sqf") => `(tactic| fail)
local macro_rules | `(tactic| wtm_at "sqf") => `(tactic| first | ((fail_if_success ((with_reducible refine' SqT.up ?s1 ?s2); (case s1 => wtm_at "as"))); (with_reducible refine' SqT.uk ?s1 ?s3 ?s4 ?s2); (case s2 => wtm_at "sqf"); (case s1 => wtm_at "getg"); (case s3 => (intro ys z; cases z)); (case s4 => (intro b u z; cases z))) | ((with_reducible refine' SqL.but ?s1 ?s3 ?s2); (case s1 => wtm_at "as"); (case s2 => wtm_at "sqf"); (case s3 => wtm_at "ne")) | ((with_reducible refine' SqT.but ?s1 ?s3 ?s2); (case s1 => wtm_at "as"); (case s2 => wtm_at "sqf"); (case s3 => wtm_at "ne")) | fail)
local macro_rules | `(tactic| wtm_at "sqf") => `(tactic| first | wtm_at "as" | ((with_reducible refine' SqL.up ?s1 ?s2); (case s1 => wtm_at "as"); (case s2 => wtm_at "sqf")) | ((with_reducible refine' SqT.up ?s1 ?s2); (case s1 => wtm_at "as"); (case s2 => wtm_at "sqf")) | ((with_reducible refine' SqL.sm ?s1 ?s2); (case s1 => wtm_at "as"); (case s2 => wtm_at "sqf")) | ((with_reducible refine' SqT.same ?s1 ?s2); (case s1 => wtm_at "as"); (case s2 => wtm_at "sqf")) | ((fail_if_success ((with_reducible refine' SqL.up ?s1 ?s2); (case s1 => wtm_at "as"))); (with_reducible refine' SqL.un ?s1 ?s2); (case s2 => wtm_at "sqf"); (case s1 => wtm_at "ne")) | ((fail_if_success ((with_reducible refine' SqT.up ?s1 ?s2); (case s1 => wtm_at "as"))); (with_reducible refine' SqT.un ?s1 ?s2); (case s2 => wtm_at "sqf"); (case s1 => wtm_at "ne")) | ((fail_if_success ((with_reducible refine' SqL.up ?s1 ?s2); (case s1 => wtm_at "as"))); (with_reducible refine' SqL.uk ?s1 ?s3 ?s4 ?s2); (case s2 => wtm_at "sqf"); (case s1 => wtm_at "getg"); (case s3 => (intro ys z; cases z)); (case s4 => (intro b u z; cases z))) | fail)
local macro_rules | `(tactic| wtm_at "sq") => `(tactic| fail)
local macro_rules | `(tactic| wtm_at "sq") => `(tactic| first | wtm_at "as" | ((with_reducible refine' SqL.of' ?s0 ?s1); (case s0 => wtm_at "getg"); (case s1 => exact rfl)) | ((with_reducible refine' SqT.of' ?s0 ?s1); (case s0 => wtm_at "getg"); (case s1 => exact rfl)) | wtm_at "sqf" | fail)
local macro_rules | `(tactic| wtm_at "same") => `(tactic| (intro b o e; wtm_at "get"))
local macro_rules | `(tactic| wtm_at "but") => `(tactic| (intro b o n e; wtm_at "get"))
/-! data -/
local macro_rules | `(tactic| wtm_at "dp") => `(tactic| fail)
local macro_rules | `(tactic| wtm_at "dp") => `(tactic| first | exact Dp.bl _ | exact Dp.int _ | exact Dp.str _ | exact Dp.non | (refine Dp.lst (by wtm_at "sq") ?_; wtm_at "dps") | (refine Dp.tup (by wtm_at "sq") ?_; wtm_at "dps") | fail)
local macro_rules | `(tactic| wtm_at "dps") => `(tactic| fail)
local macro_rules | `(tactic| wtm_at "dps") => `(tactic| first | exact DpAll.nil | (refine DpAll.cons ?hd ?tl; (case hd => wtm_at "dp"); (case tl => wtm_at "dps")) | fail)
/-! steps that ask something besides -/
local macro_rules | `(tactic| wtm_at "a") => `(tactic| fail)
set_option hygiene false in
local macro_rules | `(tactic| wtm_at "a") => `(tactic| first | (with_reducible refine' i_isoT ?h1 ?_); (case h1 => wtm_at "sqf") | wtm_at "if" | fail)
set_option hygiene false in
local macro_rules | `(tactic| wtm_at "a") => `(tactic| first | (with_reducible refine' i_slS ?h1 ?_); (case h1 => first | assumption | exact line_le (by omega)) | (with_reducible refine' i_eqLF ?h1 ?h2 ?f1 ?f2 ?_); (case h1 => wtm_at "sq"); (case h2 => wtm_at "sq"); (case f1 => rfl); (case f2 => rfl) | (with_reducible refine' i_isiBs ?h1 ?_); (case h1 => wtm_at "get") | (with_reducible refine' i_rI ?h1 ?_); (case h1 => exact wide_div (b := 400) (by omega) (by first | decide +kernel | omega) (by decide) (by decide)) | (with_reducible refine' i_isiB ?h1 ?_); (case h1 => rfl) | (with_reducible refine' i_isoG ?h1 ?h0 ?_); (case h1 => wtm_at "getg"); (case h0 => rfl) | (with_reducible refine' i_isoC ?h1 ?h2 ?h3 ?_); (case h1 => wtm_at "get"); (case h2 => wtm_at "cls"); (case h3 => wtm_at "cls") | (with_reducible refine' i_isoL ?h1 ?_); (case h1 => wtm_at "sqf") | fail)
set_option hygiene false in
local macro_rules | `(tactic| wtm_at "a") => `(tactic| first | (with_reducible refine' i_wipe ?h1 ?_); (case h1 => rfl) | (with_reducible refine' i_all ?h1 ?_); (case h1 => wtm_at "sq") | (with_reducible refine' i_addS ?h1 ?_); (case h1 => first | assumption | exact line_le (by omega)) | (with_reducible refine' i_addL ?h1 ?h2 ?h3 (fun q hq => ?_)); (case h1 => wtm_at "get"); (case h2 => wtm_at "get"); (case h3 => first | assumption | exact line_le (by omega) | exact Nat.le_of_lt (line_lt (by simp only [List.length_append, List.length_cons, List.length_nil]; omega)) | decide) | (with_reducible refine' i_lenG ?h1 ?h0 ?_); (case h1 => wtm_at "getg"); (case h0 => rfl) | (with_reducible refine' i_lenL ?h1 ?_); (case h1 => wtm_at "sqf") | (with_reducible refine' i_lenT ?h1 ?_); (case h1 => wtm_at "sqf") | (with_reducible refine' i_lenS ?h1 ?_); (case h1 => first | assumption | exact line_le (by omega)) | fail)
set_option hygiene false in
local macro_rules | `(tactic| wtm_at "a") => `(tactic| first | (with_reducible refine' i_lstOfL ?h1 (fun q hq => ?_)); (case h1 => wtm_at "sq") | (with_reducible refine' i_lstOfT ?h1 (fun q hq => ?_)); (case h1 => wtm_at "sq") | (with_reducible refine' i_slL ?h1 (fun q hq => ?_)); (case h1 => wtm_at "sq") | (with_reducible refine' i_lens ?h1 ?h2 ?_); (case h1 => rfl); (case h2 => rfl) | (with_reducible refine' i_itL ?h1 ?_); (case h1 => wtm_at "sq") | (with_reducible refine' i_itT ?h1 ?_); (case h1 => wtm_at "sq") | (with_reducible refine' i_r1 ?h1 ?_); (case h1 => omega) | (with_reducible refine' i_mulI ?h1 ?_); (case h1 => first | assumption | exact mulW64 (by omega) (by omega)) | fail)
set_option hygiene false in
local macro_rules | `(tactic| wtm_at "a") => `(tactic| first | (with_reducible refine' i_new ?h1 (fun q hq => ?_)); (case h1 => first | decide | exact Nat.le_of_ble_eq_true rfl | omega) | (with_reducible refine' i_sqL ?h1 ?_); (case h1 => wtm_at "sq") | (with_reducible refine' i_sqT ?h1 ?_); (case h1 => wtm_at "sq") | (with_reducible refine' i_fldR ?h1 ?h2 ?h3 ?h4 ?_); (case h1 => wtm_at "get"); (case h2 => wtm_at "cls"); (case h3 => wtm_at "cls"); (case h4 => first | assumption | rfl) | (with_reducible refine' i_sfldR ?h1 ?h2 ?h3 ?h4 ?_); (case h1 => wtm_at "get"); (case h2 => wtm_at "cls"); (case h3 => wtm_at "cls"); (case h4 => first | exact Nat.le_of_ble_eq_true rfl | assumption) | (with_reducible refine' i_methR ?h1 ?h2 ?_); (case h1 => wtm_at "get"); (case h2 => first | assumption | rfl) | (with_reducible refine' i_tupOfL ?h1 (fun q hq => ?_)); (case h1 => wtm_at "sq") | (with_reducible refine' i_tupOfT ?h1 ?_); (case h1 => wtm_at "sq") | fail)
set_option hygiene false in
local macro_rules | `(tactic| wtm_at "a") => `(tactic| first | (with_reducible refine' i_var ?h1 ?_); (case h1 => rfl) | (with_reducible refine' i_ixG ?h1 ?h0 ?h2 ?_); (case h1 => wtm_at "getg"); (case h0 => rfl); (case h2 => rfl) | (with_reducible refine' i_ixL ?h1 ?h2 ?_); (case h1 => wtm_at "sqf"); (case h2 => rfl) | (with_reducible refine' i_ixT ?h1 ?h2 ?_); (case h1 => wtm_at "sqf"); (case h2 => rfl) | (with_reducible refine' i_rI ?h1 ?_); (case h1 => first | assumption | decide | omega | exact ⟨by omega, by assumption⟩ | exact ⟨by decide, by decide⟩ | exact cpow (by omega) (by omega) (by omega)) | (with_reducible refine' i_setL ?h1 ?h2 ?_); (case h1 => wtm_at "get"); (case h2 => rfl) | (with_reducible refine' i_eqS ?h1 ?_); (case h1 => rfl) | (with_reducible refine' i_neS ?h1 ?_); (case h1 => rfl) | fail)
local macro_rules | `(tactic| wtm_at "if") => `(tactic| ((with_reducible refine i_isIf ?_); first
  | (with_reducible refine iteT ?_) | (with_reducible refine iteF ?_) | refine i_tT (by wtm_at "as") ?_ | refine i_tF (by wtm_at "as") ?_ | refine iteT ?_ | refine iteF ?_
  | refine i_decT (by first | assumption | with_reducible rfl | omega) ?_ | refine i_decF (by first | assumption | omega) ?_ | fail))
local macro_rules | `(tactic| wtm_at "go1") => `(tactic| fail)
local macro_rules | `(tactic| wtm_at "go1") => `(tactic| first | wtm_at "u" | fail)
local macro_rules | `(tactic| wtm_at "go1") => `(tactic| first | wtm_at "a" | fail)
local macro_rules | `(tactic| wtm_at "go1") => `(tactic| first | wtm_at "h" | fail)
local macro_rules | `(tactic| wtm_at "go") => `(tactic| repeat' (wtm_at "go1"))
local macro_rules | `(tactic| wtm_at "gs2") => `(tactic| fail)
local macro_rules | `(tactic| wtm_at "gs2") => `(tactic| first | with_reducible refine i_dec (fun _ => ?_) (fun _ => ?_) | fail)
local macro_rules | `(tactic| wtm_at "gs2") => `(tactic| first | wtm_at "u" | fail)
local macro_rules | `(tactic| wtm_at "gs2") => `(tactic| first | wtm_at "a" | fail)
local macro_rules | `(tactic| wtm_at "gs2") => `(tactic| first | wtm_at "h" | fail)
local macro_rules | `(tactic| wtm_at "gs") => `(tactic| repeat' (wtm_at "gs2"))
local macro_rules | `(tactic| wtm_at "kn") => `(tactic| fail)
local macro_rules | `(tactic| wtm_at "kn") => `(tactic| first | wtm_at "as" | exact trivial | ((with_reducible refine' Kn.same ?k1 ?k2); (case k1 => wtm_at "as"); (case k2 => wtm_at "kn")) | ((with_reducible refine' Kn.up ?k1 ?k2); (case k1 => wtm_at "as"); (case k2 => wtm_at "kn")) | fail)
local macro_rules | `(tactic| wtm_at "u") => `(tactic| fail)
set_option hygiene false in
local macro_rules | `(tactic| wtm_at "u") => `(tactic| first | ((with_reducible refine' pool_use (fun q m hq => ?_) ?he); (case he => rfl)) | ((with_reducible refine' wholeN_use ?_ ?he); (case he => rfl)) | ((with_reducible refine' wholeH_use ?_ ?he); (case he => rfl)) | ((with_reducible refine' whole_use ?h1 ?h2 ?_ ?he); (case he => rfl); (case h1 => wtm_at "kn"); (case h2 => first | exact .inl rfl | exact .inr ⟨_, rfl⟩ | assumption)) | fail)
set_option hygiene false in
local macro_rules | `(tactic| wtm_at "u") => `(tactic| ((with_reducible refine' take_use ?h1 ?h2 ?h3 (fun r m' hr0 hr1 => ?_) ?he); (case he => rfl); (case h1 => wtm_at "get"); (case h2 => first | decide | assumption); (case h3 => first | decide +kernel | assumption | fail)))
section
variable {P : Program} {w : World} {K : PySem.W.Frag} {mg : Str → Option Value} {base : Heap} {a : Ad}
theorem ok__law_take (T : Txt w K mg a) : FnOk P w K mg base CX0 1 a._law_take a.d__law_take ["pool", "size"] (spTake) := by
  refine fund_ok0 T.F__law_take sc__law_take (fun vs H Q E h => ?_) (fun cdv A outer s H vs Q E hr h => ?_)
  · obtain ⟨p, m, n, rfl, hp, h0, h9, k⟩ := h
    rfl
  · obtain ⟨p, m, n, rfl, hp, h0, h9, k⟩ := h
    refine ⟨_, (pss_cons (ps_set (i := 2) sc__law_take.nd rfl (by first | exact Or.inl rfl | exact Or.inr rfl) (pe_op op_modU (pe_ix (ix_U (K := K)) (pv 0) pe_int (fun _ _ => rfl)) (pv 1)))
    (pss_cons (ps_asg (pe_op op_fdivU (pe_ix (ix_U (K := K)) (pv 0) pe_int (fun _ _ => rfl)) (pv 1)) (pg_sub (pv 0) pe_int set_list))
    (pss_one (ps_ret (pv 2))))), ?_⟩
    dsimp only [L2.start, List.map_cons, List.map_nil, List.map, List.length_cons, List.length_nil, Nat.reduceAdd, Nat.reduceSub, List.replicate, List.cons_append, List.nil_append]
    wtm_at "go"
    exact k _ _ (Int.emod_nonneg _ (by omega)) (Int.emod_lt_of_pos _ h0)
theorem ok_is_whole (T : Txt w K mg a) : FnOk P w K mg base CX0 1 a.is_whole a.d_is_whole ["thing", "low", "high"] (spWhole K) := by
  refine fund_ok0 T.F_is_whole sc_is_whole (fun vs H Q E h => ?_) (fun cdv A outer s H vs Q E hr h => ?_)
  · obtain ⟨x, lo, hi, rfl, kn, kh, k⟩ := h
    rfl
  · obtain ⟨x, lo, hi, rfl, kn, kh, k⟩ := h
    refine ⟨_, (pss_cons (ps_if (PW.pt (pw_or (pt_not (pt_val (pe_callB (call_isiB .int (K := K)) (by rfl) T.b_isinstance (by decide +kernel) (pa_cons (pv 0) (pa_cons (pe_bltn (v := .ty "int") (u := .type "int") (by rfl) T.b_int (by decide +kernel) rfl) pa_nil))))) (pw_or (pt_val (pe_callB (call_isiB .bl (K := K)) (by rfl) T.b_isinstance (by decide +kernel) (pa_cons (pv 0) (pa_cons (pe_bltn (v := .ty "bool") (u := .type "bool") (by rfl) T.b_bool (by decide +kernel) rfl) pa_nil)))) (pw_or1 (pt_cmpR op_ltU (pv 0) (pv 1) (nomark _)))))) (pss_one (ps_ret pe_bl)) pss_nil)
    (pss_one (ps_ret (pe_or (pe_cmpR op_isU (pv 2) pe_non (nomark _)) (pe_one (pe_cmpR op_leU (pv 0) (pv 2) (nomark _))))))), ?_⟩
    dsimp only [L2.start, List.map_cons, List.map_nil, List.map, List.length_cons, List.length_nil, Nat.reduceAdd, Nat.reduceSub, List.replicate, List.cons_append, List.nil_append]
    cases x <;> first | exact kn.elim | skip
    case ref =>
      wtm_at "go"
      refine i_isoR kn fun f c e1 e2 e3 => ?_
      wtm_at "go"
      exact k
    case int =>
      rcases kh with rfl | ⟨h, rfl⟩
      all_goals wtm_at "gs"
      all_goals refine cast_bl k ?_
      all_goals simp only [isWh]
      all_goals simp_all
      all_goals omega
    all_goals wtm_at "gs"
    all_goals exact k
theorem ok__law_pool (T : Txt w K mg a) : FnOk P w K mg base CX0 1 a._law_pool a.d__law_pool ["cell"] (spPool) := by
  refine fund_ok0 T.F__law_pool sc__law_pool (fun vs H Q E h => ?_) (fun cdv A outer s H vs Q E hr h => ?_)
  · obtain ⟨n, rfl, k⟩ := h
    rfl
  · obtain ⟨n, rfl, k⟩ := h
    refine ⟨_, (pss_cons (ps_if (pt_cmpR op_geU (pv 0) (pe_op op_powU pe_int pe_int) (nomark _)) (pss_one (ps_ret (pe_lst (pa_cons (pv 0) pa_nil)))) pss_nil)
    (pss_cons (ps_set (i := 1) sc__law_pool.nd rfl (by first | exact Or.inl rfl | exact Or.inr rfl) pe_int)
    (pss_cons (ps_for PassesOwn.never rfl (pi_range1 (by rfl) T.b_range (pa_cons pe_int pa_nil)) (pg_name (i := 2) sc__law_pool.nd rfl (by first | exact Or.inl rfl | exact Or.inr rfl))
    (pss_cons (ps_set (i := 3) sc__law_pool.nd rfl (by first | exact Or.inl rfl | exact Or.inr rfl) (pe_op op_modU (pe_op op_powU (pe_op (op_addU (K := K)) (pe_op (op_addU (K := K)) (pe_op op_mulU (pe_op op_modU (pv 0) pe_int) pe_int) (pe_op op_mulU pe_int (pv 2))) pe_int) pe_int) pe_int))
    (pss_one (ps_set (i := 1) sc__law_pool.nd rfl (by first | exact Or.inl rfl | exact Or.inr rfl) (pe_op (op_addU (K := K)) (pe_op op_mulU (pv 1) pe_int) (pe_op op_modU (pe_op op_powU (pe_op (op_addU (K := K)) (pe_op op_mulU (pv 3) pe_int) (pv 2)) pe_int) pe_int))))))
    (pss_one (ps_ret (pe_lst (pa_cons (pv 1) pa_nil))))))), ?_⟩
    dsimp only [L2.start, List.map_cons, List.map_nil, List.map, List.length_cons, List.length_nil, Nat.reduceAdd, Nat.reduceSub, List.replicate, List.cons_append, List.nil_append]
    wtm_at "gs"
    · exact k _ _ (by assumption)
    refine for_range (lo := 0) (n := 9) (fun i σ H' => H' = H ∧ ∃ (z : Int) (v1 v2 : Option V), σ = [some (.int n), some (.int z), v1, v2] ∧ 0 ≤ z ∧ z.natAbs < 2 ^ (31 * i)) ⟨rfl, 0, none, none, rfl, by decide, by decide⟩ ?_ ?_
    · rintro i σ _ hi ⟨rfl, z, v1, v2, rfl, h0, h1⟩
      have hq : 2 ^ (31 * (i + 1)) = 2 ^ (31 * i) * 2147483648 := by rw [Nat.mul_add, Nat.pow_add]
      have hp : 2 ^ (31 * i) ≤ 2 ^ 400 := Nat.pow_le_pow_right (by decide) (by omega)
      generalize 2 ^ (31 * i) = q at *
      wtm_at "gs"
      refine i_mulI (mulW (Nat.lt_of_lt_of_le h1 hp) (by decide)) ?_
      wtm_at "gs"
      rw [hq]
      exact ⟨rfl, _, _, _, rfl, pool_next _ _ _ h0 h1⟩
    · rintro σ _ ⟨rfl, z, v1, v2, rfl, h0, h1⟩
      wtm_at "gs"
      exact k _ _ (by assumption)
end

/-! errors: steps -/
theorem exm_eq {K : PySem.W.Frag} {c : Value} {l : List Value} {b d : Bool} (h : PySem.W.exmAny K c l = some b) (e : b = d) : PySem.W.exmAny K c l = some d := e ▸ h
theorem xdAt_of {H : Hp} {dd : Addr} {fs : List (Str × V)} (h : H dd = some (.xd fs)) : XdAt H (some dd) := .inr ⟨dd, fs, rfl, h⟩
theorem kit_eq {K : PySem.W.Frag} {c : Value} {l : List Value} {b d : Bool} (h : PySem.W.kitAny K c l = some b) (e : b = d) : PySem.W.kitAny K c l = some d := e ▸ h
local macro_rules | `(tactic| wtm_at "exm") => `(tactic| fail)
local macro_rules | `(tactic| wtm_at "exm") => `(tactic| first | exact any_nil | ((with_reducible refine' any_cons ?x1 ?x2); (case x1 => wtm_at "exm1"); (case x2 => wtm_at "exm")) | fail)
local macro_rules | `(tactic| wtm_at "kit") => `(tactic| fail)
local macro_rules | `(tactic| wtm_at "kit") => `(tactic| first | exact kany_nil | ((with_reducible refine' kany_cons ?x1 ?x2); (case x1 => wtm_at "xk"); (case x2 => wtm_at "kit")) | fail)
local macro_rules | `(tactic| wtm_at "xd") => `(tactic| ((with_reducible refine' xdAt_of ?xd); (case xd => wtm_at "getg")))
local macro_rules | `(tactic| wtm_at "clv") => `(tactic| fail)
local macro_rules | `(tactic| wtm_at "clv") => `(tactic| first | exact .nil | exact .ty _ | exact .own _ | (refine' .cons ?v1 ?v2; (case v1 => wtm_at "clv"); (case v2 => wtm_at "clv")) | fail)
set_option hygiene false in
local macro_rules | `(tactic| wtm_at "u") => `(tactic| with_reducible first | refine i_app ?_ | refine i_intB ?_ | refine i_intI ?_ | fail)
set_option hygiene false in
local macro_rules | `(tactic| wtm_at "u") => `(tactic| with_reducible first | refine i_goN ?_ | refine i_go0 ?_ | refine i_xfA ?_ | refine i_zipT ?_ | refine i_excV (fun ed hed => ?_) | refine i_maxU ?_ | refine i_minU ?_ | refine i_isiC ?_ | fail)
set_option hygiene false in
local macro_rules | `(tactic| wtm_at "u") => `(tactic| with_reducible first | refine i_nn ?_ | refine i_rev ?_ | refine i_raise ?_ | refine i_exc ?_ | refine i_try ?_ | refine i_methS ?_ | refine i_callS ?_ | refine i_makeS ?_ | fail)
set_option hygiene false in
local macro_rules | `(tactic| wtm_at "u") => `(tactic| first | ((with_reducible refine' i_revL ?e ?h1 ?_); (case e => rfl); (case h1 => wtm_at "sq"); intro q hq) | ((with_reducible refine' i_rep1 ?h1 ?h2 (fun q hq => ?_)); (case h1 => wtm_at "get"); (case h2 => first | wtm_at "as" | omega | (simp only [List.length_map]; omega))) | ((with_reducible refine' i_tyL ?h1 ?_); (case h1 => wtm_at "sq")) | ((with_reducible refine' i_rapp ?h1 ?h2 ?_); (case h1 => wtm_at "get"); (case h2 => first | assumption | exact line_lt (by first | omega | (simp only [List.length_append, List.length_map, List.length_cons, List.length_nil]; omega)))) | ((with_reducible refine' i_kit ?e ?_); (case e => wtm_at "xk")) | ((with_reducible refine' i_zipTT ?h1 ?h2 ?_); (case h1 => wtm_at "sq"); (case h2 => wtm_at "sq")) | ((with_reducible refine' i_zipLL ?h1 ?h2 ?_); (case h1 => wtm_at "sq"); (case h2 => wtm_at "sq")) | fail)
set_option hygiene false in
local macro_rules | `(tactic| wtm_at "u") => `(tactic| first | ((with_reducible refine' i_clT (exm_eq ?hb ?hc) (fun ea hea => ?_)); (case hb => wtm_at "exm"); (case hc => exact rfl)) | ((with_reducible refine' i_clF (exm_eq ?hb ?hc) ?_); (case hb => wtm_at "exm"); (case hc => exact rfl)) | ((with_reducible refine' i_xf ?T ?no ?h1 ?h2 ?_); (case T => wtm_at "xc"); (case no => wtm_at "xn"); (case h1 => wtm_at "getg"); (case h2 => exact rfl)) | ((with_reducible refine' i_isX rfl ?T ?xd ?k ?e ?_); (case T => wtm_at "xc"); (case xd => wtm_at "xd"); (case k => wtm_at "clv"); (case e => wtm_at "xk")) | ((with_reducible refine' i_isXs ?ht rfl ?T ?xd ?k (kit_eq ?e ?eb) ?_); (case ht => wtm_at "getg"); (case T => wtm_at "xc"); (case xd => wtm_at "xd"); (case k => wtm_at "clv"); (case e => wtm_at "kit"); (case eb => exact rfl)) | ((with_reducible refine' i_tupT ?h1 ?h2 ?_); (case h1 => wtm_at "sq"); (case h2 => exact rfl)) | ((with_reducible refine' i_ixL ?h1 ?h2 ?_); (case h1 => wtm_at "sq"); (case h2 => wtm_at "as")) | ((with_reducible refine' i_ixT ?h1 ?h2 ?_); (case h1 => wtm_at "sq"); (case h2 => wtm_at "as")) | fail)
local macro_rules | `(tactic| wtm_at "rz") => `(tactic| fail)
local macro_rules | `(tactic| wtm_at "rz") => `(tactic| first | assumption | wtm_at "same" | wtm_at "get" | fail)
local macro_rules | `(tactic| wtm_at "nn") => `(tactic| fail)
local macro_rules | `(tactic| wtm_at "nn") => `(tactic| first | wtm_at "as" | exact nn_rep (by first | decide | omega) | fail)
local macro_rules | `(tactic| wtm_at "lenle") => `(tactic| fail)
local macro_rules | `(tactic| wtm_at "lenle") => `(tactic| first | wtm_at "as" | omega | (simp only [List.length_replicate, List.length_map, List.length_cons, List.length_nil]; omega) | fail)
local macro_rules | `(tactic| wtm_at "noc") => `(tactic| fail)
local macro_rules | `(tactic| wtm_at "noc") => `(tactic| first | wtm_at "as" | ((with_reducible refine' NoC.same ?s ?h); (case h => wtm_at "as"); (case s => wtm_at "same")) | exact NoC.flat rfl | exact NoC.ofG (by wtm_at "getg") rfl | exact NoC.sqL (by wtm_at "sq") | exact NoC.sqT (by wtm_at "sq") | fail)
local macro_rules | `(tactic| wtm_at "nos") => `(tactic| fail)
local macro_rules | `(tactic| wtm_at "nos") => `(tactic| first | wtm_at "as" | ((with_reducible refine' NoSeq.same ?s ?h); (case h => wtm_at "as"); (case s => wtm_at "same")) | exact NoSeq.flat rfl | exact NoSeq.dict (by wtm_at "get") | fail)
set_option hygiene false in
local macro_rules | `(tactic| wtm_at "a") => `(tactic| first | ((with_reducible refine' i_isiBsN ?h0 ?hn ?_); (case hn => wtm_at "nos"); (case h0 => wtm_at "get")) | ((with_reducible refine' i_isiLN ?hn ?_); (case hn => wtm_at "nos")) | ((with_reducible refine' i_isiTN ?hn ?_); (case hn => wtm_at "nos")) | ((with_reducible refine' i_isiTN2 ?hn ?_); (case hn => wtm_at "as")) | ((with_reducible refine' i_isiCN ?hn ?_); (case hn => wtm_at "noc")) | fail)
local macro_rules | `(tactic| wtm_at "eqv") => `(tactic| fail)
local macro_rules | `(tactic| wtm_at "eqv") => `(tactic| first | exact EqV.one | exact EqV.selfB rfl | ((with_reducible refine' EqV.noc ?n); (case n => wtm_at "noc")) | ((with_reducible refine' EqV.selfA ?n); (case n => wtm_at "kn")) | ((with_reducible refine' EqV.nos ?n); (case n => wtm_at "nos")) | exact EqV.flat rfl | fail)
local macro_rules | `(tactic| wtm_at "eqvs") => `(tactic| fail)
local macro_rules | `(tactic| wtm_at "eqvs") => `(tactic| first | exact EqVs.nil | ((with_reducible refine' EqVs.cons ?e1 ?e2); (case e1 => wtm_at "eqv"); (case e2 => wtm_at "eqvs")) | exact EqVs.nilc | exact EqVs.cnil | fail)
set_option hygiene false in
local macro_rules | `(tactic| wtm_at "u") => `(tactic| first | ((with_reducible refine' i_neG (n := 3) ?h1 ?hn ?t ?_); (case h1 => first | exact .inl ⟨by wtm_at "sq", by wtm_at "sq"⟩ | exact .inr ⟨by wtm_at "sq", by wtm_at "sq"⟩); (case t => wtm_at "eqvs"); (case hn => decide)) | ((with_reducible refine' i_eqG (n := 3) ?h1 ?hn ?t ?_); (case h1 => first | exact .inl ⟨by wtm_at "sq", by wtm_at "sq"⟩ | exact .inr ⟨by wtm_at "sq", by wtm_at "sq"⟩); (case t => wtm_at "eqvs"); (case hn => decide)) | fail)
local macro_rules | `(tactic| wtm_at "exm1") => `(tactic| fail)
set_option hygiene false in
local macro_rules | `(tactic| wtm_at "exm1") => `(tactic| first | exact exm_own T.e_NoCauses T.u_NoCauses_NoCauses | exact exm_own T.e_NoHistory T.u_NoCauses_NoHistory | fail)
set_option hygiene false in
local macro_rules | `(tactic| wtm_at "exm1") => `(tactic| first | exact exm_own T.e_NoCounts T.u_NoWord_NoCounts | exact exm_own T.e_NoCauses T.u_NoWord_NoCauses | exact exm_own T.e_NoHistory T.u_NoWord_NoHistory | exact exm_own T.e_HallError T.u_NoCauses_HallError | exact exm_own T.e_NoNumber T.u_NoCauses_NoNumber | exact exm_own T.e_NoWord T.u_NoCauses_NoWord | exact exm_own T.e_NoMember T.u_NoCauses_NoMember | exact exm_own T.e_NoCounts T.u_NoCauses_NoCounts | fail)
set_option hygiene false in
local macro_rules | `(tactic| wtm_at "exm1") => `(tactic| first | exact exm_own T.e_NoMember T.u_NoNumber_NoMember | exact exm_own T.e_NoCounts T.u_NoNumber_NoCounts | exact exm_own T.e_NoCauses T.u_NoNumber_NoCauses | exact exm_own T.e_NoHistory T.u_NoNumber_NoHistory | exact exm_own T.e_HallError T.u_NoWord_HallError | exact exm_own T.e_NoNumber T.u_NoWord_NoNumber | exact exm_own T.e_NoWord T.u_NoWord_NoWord | exact exm_own T.e_NoMember T.u_NoWord_NoMember | fail)
set_option hygiene false in
local macro_rules | `(tactic| wtm_at "exm1") => `(tactic| first | exact exm_own T.e_NoWord T.u_NoMember_NoWord | exact exm_own T.e_NoMember T.u_NoMember_NoMember | exact exm_own T.e_NoCounts T.u_NoMember_NoCounts | exact exm_own T.e_NoCauses T.u_NoMember_NoCauses | exact exm_own T.e_NoHistory T.u_NoMember_NoHistory | exact exm_own T.e_HallError T.u_NoNumber_HallError | exact exm_own T.e_NoNumber T.u_NoNumber_NoNumber | exact exm_own T.e_NoWord T.u_NoNumber_NoWord | fail)
set_option hygiene false in
local macro_rules | `(tactic| wtm_at "exm1") => `(tactic| first | exact exm_own T.e_NoNumber T.u_NoCounts_NoNumber | exact exm_own T.e_NoWord T.u_NoCounts_NoWord | exact exm_own T.e_NoMember T.u_NoCounts_NoMember | exact exm_own T.e_NoCounts T.u_NoCounts_NoCounts | exact exm_own T.e_NoCauses T.u_NoCounts_NoCauses | exact exm_own T.e_NoHistory T.u_NoCounts_NoHistory | exact exm_own T.e_HallError T.u_NoMember_HallError | exact exm_own T.e_NoNumber T.u_NoMember_NoNumber | fail)
set_option hygiene false in
local macro_rules | `(tactic| wtm_at "exm1") => `(tactic| first | exact exm_own T.e_HallError T.u_NoHistory_HallError | exact exm_own T.e_NoNumber T.u_NoHistory_NoNumber | exact exm_own T.e_NoWord T.u_NoHistory_NoWord | exact exm_own T.e_NoMember T.u_NoHistory_NoMember | exact exm_own T.e_NoCounts T.u_NoHistory_NoCounts | exact exm_own T.e_NoCauses T.u_NoHistory_NoCauses | exact exm_own T.e_NoHistory T.u_NoHistory_NoHistory | exact exm_own T.e_HallError T.u_NoCounts_HallError | fail)
set_option hygiene false in
local macro_rules | `(tactic| wtm_at "xk") => `(tactic| first | exact T.x_NoCauses_NoNumber | exact T.x_NoCauses_NoWord | exact T.x_NoCauses_NoMember | exact T.x_NoCauses_NoCounts | exact T.x_NoCauses_NoHistory | fail)
set_option hygiene false in
local macro_rules | `(tactic| wtm_at "xk") => `(tactic| first | exact T.x_NoNumber_NoHistory | exact T.x_NoWord_HallError | exact T.x_NoWord_NoNumber | exact T.x_NoWord_NoMember | exact T.x_NoWord_NoCounts | exact T.x_NoWord_NoCauses | exact T.x_NoWord_NoHistory | exact T.x_NoCauses_HallError | fail)
set_option hygiene false in
local macro_rules | `(tactic| wtm_at "xk") => `(tactic| first | exact T.x_NoMember_NoCounts | exact T.x_NoMember_NoCauses | exact T.x_NoMember_NoHistory | exact T.x_NoNumber_HallError | exact T.x_NoNumber_NoWord | exact T.x_NoNumber_NoMember | exact T.x_NoNumber_NoCounts | exact T.x_NoNumber_NoCauses | fail)
set_option hygiene false in
local macro_rules | `(tactic| wtm_at "xk") => `(tactic| first | exact T.x_NoCounts_NoNumber | exact T.x_NoCounts_NoWord | exact T.x_NoCounts_NoMember | exact T.x_NoCounts_NoCauses | exact T.x_NoCounts_NoHistory | exact T.x_NoMember_HallError | exact T.x_NoMember_NoNumber | exact T.x_NoMember_NoWord | fail)
set_option hygiene false in
local macro_rules | `(tactic| wtm_at "xk") => `(tactic| first | exact kit_self | exact T.x_NoHistory_HallError | exact T.x_NoHistory_NoNumber | exact T.x_NoHistory_NoWord | exact T.x_NoHistory_NoMember | exact T.x_NoHistory_NoCounts | exact T.x_NoHistory_NoCauses | exact T.x_NoCounts_HallError | fail)
local macro_rules | `(tactic| wtm_at "xc") => `(tactic| fail)
set_option hygiene false in
local macro_rules | `(tactic| wtm_at "xc") => `(tactic| first | exact T.e_NoHistory | exact T.e_NoCounts | exact T.e_NoMember | exact T.e_NoNumber | exact T.e_NoWord | exact T.e_NoCauses | fail)
local macro_rules | `(tactic| wtm_at "xn") => `(tactic| fail)
set_option hygiene false in
local macro_rules | `(tactic| wtm_at "xn") => `(tactic| first | exact T.n_NoHistory_found | exact T.n_NoCounts_found | exact T.n_NoMember_found | exact T.n_NoNumber_found | exact T.n_NoWord_found | exact T.n_NoCauses_found | fail)
/-- raised: an error of the class C with found = v -/
def Rz (C : Addr) (v : V) (H : Hp) (E : XK) : Prop := ∀ H' d, Same H H' → H' d = some (.xd [("found", v)]) → E (.ref C) (some d) H'
/-- what Counts can be made of -/
def areL (xs : List V) : Bool := decide (2 ≤ xs.length) && (decide (xs.length ≤ 5) && xs.all (isWh 0 .non))
def spAre (K : PySem.W.Frag) : Sp := fun vs H Q _ => ∃ x, vs = [x] ∧ ((∃ p xs, x = .ref p ∧ (SqL K H p xs ∨ SqT K H p xs) ∧ (∀ y ∈ xs, Kn K H y) ∧ xs.length ≤ 1000 ∧ ∀ H', Same H H' → Q (.bl (areL xs)) H') ∨ (NoSeq K H x ∧ ∀ H', Same H H' → Q (.bl false) H'))
/-- at c: Counts of ns -/
def CtAt (K : PySem.W.Frag) (a : Ad) (H : Hp) (c : Addr) (ns : List Int) : Prop := ∃ dx t, H c = some (.ins a.Counts dx [("kept_numbers", .ref t)]) ∧ SqT K H t (ns.map V.int) ∧ (∀ n ∈ ns, 0 ≤ n) ∧ 2 ≤ ns.length ∧ ns.length ≤ 5
theorem CtAt.same {K : PySem.W.Frag} {a : Ad} {H H' : Hp} {c : Addr} {ns : List Int} (s : Same H H') (h : CtAt K a H c ns) : CtAt K a H' c ns := by
  obtain ⟨dx, t, h1, h2, h3⟩ := h
  exact ⟨dx, t, s _ _ h1, SqT.same s h2, h3⟩
theorem CtAt.butL {K : PySem.W.Frag} {a : Ad} {H H' : Hp} {c D : Addr} {ns : List Int} {acc : List V} (hD : H D = some (.lst acc)) (s : SameBut D H H') (h : CtAt K a H c ns) : CtAt K a H' c ns := by
  obtain ⟨dx, t, h1, h2, h3⟩ := h
  exact ⟨dx, t, s _ _ (ne_of h1 hD (by intro z; cases z)) h1, SqT.butL hD s h2, h3⟩
theorem areL_ns {xs : List V} (h : areL xs = true) : ∃ ns : List Int, xs = ns.map V.int ∧ (∀ n ∈ ns, 0 ≤ n) ∧ 2 ≤ ns.length ∧ ns.length ≤ 5 := by
  simp only [areL, Bool.and_eq_true, decide_eq_true_eq] at h
  obtain ⟨h1, h2, h3⟩ := h
  have key : ∀ l : List V, l.all (isWh 0 .non) = true → ∃ ns : List Int, l = ns.map V.int ∧ ∀ n ∈ ns, 0 ≤ n := by
    intro l
    induction l with
    | nil => exact fun _ => ⟨[], rfl, fun _ h => nomatch h⟩
    | cons x l ih =>
      intro h
      rw [List.all_cons, Bool.and_eq_true] at h
      obtain ⟨ns, e, k⟩ := ih h.2
      cases x <;> first | (exact absurd h.1 Bool.false_ne_true) | skip
      rename_i n
      refine ⟨n :: ns, by rw [e]; rfl, fun m hm => ?_⟩
      rcases List.mem_cons.mp hm with rfl | hm
      · have := h.1
        simp only [isWh, Bool.and_true, decide_eq_true_eq] at this
        exact this
      · exact k _ hm
  obtain ⟨ns, e, k⟩ := key xs h3
  subst e
  rw [List.length_map] at h1 h2
  exact ⟨ns, rfl, k, h1, h2⟩
theorem areL_of {ns : List Int} (h0 : ∀ n ∈ ns, 0 ≤ n) (h1 : 2 ≤ ns.length) (h2 : ns.length ≤ 5) : areL (ns.map V.int) = true := by
  simp only [areL, Bool.and_eq_true, decide_eq_true_eq, List.length_map]
  refine ⟨h1, h2, List.all_eq_true.mpr fun x hx => ?_⟩
  obtain ⟨n, hn, rfl⟩ := List.mem_map.mp hx
  simp only [isWh, Bool.and_true, decide_eq_true_eq]
  exact h0 n hn
theorem zw_ge {f : Int → Int → Int} (h : ∀ i j, 0 ≤ i → 0 ≤ j → 0 ≤ f i j) : ∀ {ns ms : List Int}, (∀ n ∈ ns, 0 ≤ n) → (∀ m ∈ ms, 0 ≤ m) → ∀ n ∈ List.zipWith f ns ms, 0 ≤ n
  | [], _, _, _, _, hn => by cases hn
  | _ :: _, [], _, _, _, hn => by cases hn
  | n :: ns, m :: ms, h1, h2, k, hk => by
    rcases List.mem_cons.mp hk with rfl | hk
    · exact h _ _ (h1 _ List.mem_cons_self) (h2 _ List.mem_cons_self)
    · exact zw_ge h (fun x hx => h1 x (List.mem_cons_of_mem _ hx)) (fun x hx => h2 x (List.mem_cons_of_mem _ hx)) k hk
def spCI (K : PySem.W.Frag) (a : Ad) : Sp := fun vs H Q E => ∃ x dx v, vs = [.ref x, v] ∧ H x = some (.ins a.Counts dx []) ∧
  ((∃ p xs, v = .ref p ∧ ((p ≠ x ∧ SqL K H p xs) ∨ SqT K H p xs) ∧ (∀ y ∈ xs, Kn K H y) ∧ xs.length ≤ 1000 ∧ (areL xs = true → ∀ H', SameBut x H H' → ∀ ns, xs = ns.map V.int → CtAt K a H' x ns → Q .non H') ∧ (areL xs = false → Rz a.NoCounts v H E)) ∨ (NoSeq K H v ∧ Rz a.NoCounts v H E))
def spTold (K : PySem.W.Frag) (a : Ad) : Sp := fun vs H Q _ => ∃ c ns, vs = [.ref c] ∧ CtAt K a H c ns ∧ ∀ t, SqT K H t (ns.map V.int) → Q (.ref t) H
section
variable {K : PySem.W.Frag} {H : Hp} {Q : VK} {E : XK} {x : V} {a : Ad}
theorem are_use {vs : List V} {p : Addr} {xs : List V} (h1 : SqL K H p xs ∨ SqT K H p xs) (h2 : ∀ y ∈ xs, Kn K H y) (h3 : xs.length ≤ 1000) (h : ∀ H', Same H H' → Q (.bl (areL xs)) H') (he : vs = [.ref p] := by rfl) : spAre K vs H Q E := ⟨_, he, .inl ⟨p, xs, rfl, h1, h2, h3, h⟩⟩
theorem areN_use {vs : List V} (h1 : NoSeq K H x) (h : ∀ H', Same H H' → Q (.bl false) H') (he : vs = [x] := by rfl) : spAre K vs H Q E := ⟨x, he, .inr ⟨h1, h⟩⟩
theorem told_use {vs : List V} {c : Addr} {ns : List Int} (h1 : CtAt K a H c ns) (h : ∀ t, SqT K H t (ns.map V.int) → Q (.ref t) H) (he : vs = [.ref c] := by rfl) : spTold K a vs H Q E := ⟨c, ns, he, h1, h⟩
theorem eqLF_ns : ∀ ns ms : List Int, eqLF (ns.map V.int) (ms.map V.int) = decide (ns = ms)
  | [], [] => rfl
  | [], _ :: _ => rfl
  | _ :: _, [] => rfl
  | n :: ns, m :: ms => by
    show ((n == m) && eqLF _ _) = _
    rw [eqLF_ns ns ms]
    by_cases h : n = m
    · subst h
      by_cases h2 : ns = ms <;> simp [h2]
    · simp [h]
theorem nb_ns (ns : List Int) : (ns.map V.int).all isNB = true := by
  rw [List.all_map]
  exact List.all_eq_true.mpr fun _ _ => rfl
theorem i_eqTN {p q : Addr} {ns ms : List Int} (h1 : SqT K H p (ns.map V.int)) (h2 : SqT K H q (ms.map V.int)) (h : Q (.bl (decide (ns = ms))) H) : rEqU K (.ref p) (.ref q) H Q := i_eqTF h1 h2 (nb_ns ns) (nb_ns ms) (by rw [eqLF_ns]; exact h)
theorem i_neTN {p q : Addr} {ns ms : List Int} (h1 : SqT K H p (ns.map V.int)) (h2 : SqT K H q (ms.map V.int)) (h : Q (.bl (!decide (ns = ms))) H) : rNeU K (.ref p) (.ref q) H Q := i_neTF h1 h2 (nb_ns ns) (nb_ns ms) (by rw [eqLF_ns]; exact h)
theorem i_isoCt {c : Addr} {ns : List Int} {R : (Kd → Bool) → Option Addr → Prop} (h : CtAt K a H c ns) (k : Cls K a.Counts) (i : IsC K a.Counts) (q : R (fun _ => false) (some a.Counts)) : isO K (.ref c) H R := by
  obtain ⟨dx, t, h1, _⟩ := h
  exact i_isoC h1 k i q
theorem i_methCt {c : Addr} {ns : List Int} {m : Str} {R : Prop} (h1 : CtAt K a H c ns) (h2 : (("kept_numbers" : Str) == m) = false) (h : R) : ∃ b dx fs, V.ref c = .ref b ∧ H b = some (.ins a.Counts dx fs) ∧ fs.lookup m = none ∧ R := by
  obtain ⟨dx, t, g, _⟩ := h1
  refine ⟨c, dx, _, rfl, g, ?_, h⟩
  have : (m == ("kept_numbers" : Str)) = false := by rw [BEq.comm]; exact h2
  simp [List.lookup, this]
theorem ci_use {vs : List V} {x dx p : Addr} {xs : List V} {ns : List Int} (h0 : H x = some (.ins a.Counts dx [])) (h1 : p ≠ x) (h2 : SqL K H p xs ∨ SqT K H p xs) (h3 : xs = ns.map V.int) (h4 : ∀ n ∈ ns, 0 ≤ n) (h5 : 2 ≤ ns.length) (h6 : ns.length ≤ 5) (h : ∀ H', SameBut x H H' → CtAt K a H' x ns → Q .non H') (he : vs = [.ref x, .ref p] := by rfl) : spCI K a vs H Q E := by
  subst h3
  refine ⟨x, dx, _, he, h0, .inl ⟨p, _, rfl, h2.imp (fun z => ⟨h1, z⟩) id, fun y hy => ?_, by rw [List.length_map]; omega, fun _ H' s ms e => ?_, fun e => absurd e (by rw [areL_of h4 h5 h6]; decide)⟩⟩
  · obtain ⟨n, _, rfl⟩ := List.mem_map.mp hy
    exact trivial
  · have : ns = ms := List.map_inj_right (fun _ _ h => by cases h; rfl) |>.mp e
    subst this
    exact h H' s
theorem ciT_use {vs : List V} {x dx p : Addr} {xs : List V} {ns : List Int} (h0 : H x = some (.ins a.Counts dx [])) (h2 : SqT K H p xs) (h3 : xs = ns.map V.int) (h4 : ∀ n ∈ ns, 0 ≤ n) (h5 : 2 ≤ ns.length) (h6 : ns.length ≤ 5) (h : ∀ H', SameBut x H H' → CtAt K a H' x ns → Q .non H') (he : vs = [.ref x, .ref p] := by rfl) : spCI K a vs H Q E := by
  subst h3
  refine ⟨x, dx, _, he, h0, .inl ⟨p, _, rfl, .inr h2, fun y hy => ?_, by rw [List.length_map]; omega, fun _ H' s ms e => ?_, fun e => absurd e (by rw [areL_of h4 h5 h6]; decide)⟩⟩
  · obtain ⟨n, _, rfl⟩ := List.mem_map.mp hy
    exact trivial
  · have : ns = ms := List.map_inj_right (fun _ _ h => by cases h; rfl) |>.mp e
    subst this
    exact h H' s
end
local macro_rules | `(tactic| wtm_at "ct") => `(tactic| fail)
local macro_rules | `(tactic| wtm_at "ct") => `(tactic| first | wtm_at "as" | ((with_reducible refine' CtAt.same ?c1 ?c2); (case c2 => wtm_at "as"); (case c1 => wtm_at "same")) | fail)
set_option hygiene false in
local macro_rules | `(tactic| wtm_at "u") => `(tactic| first | ((with_reducible refine' are_use ?h1 ?h2 ?h3 (fun HH sm => ?_) ?he); (case he => rfl); (case h1 => first | wtm_at "as" | exact .inl (by wtm_at "sq") | exact .inr (by wtm_at "sq")); (case h2 => wtm_at "as"); (case h3 => first | wtm_at "as" | exact Nat.le_of_ble_eq_true rfl)) | ((with_reducible refine' areN_use ?h1 (fun HH sm => ?_) ?he); (case he => rfl); (case h1 => wtm_at "as")) | ((with_reducible refine' i_isoCt ?h1 ?h2 ?h3 ?_); (case h1 => wtm_at "ct"); (case h2 => wtm_at "cls"); (case h3 => wtm_at "cls")) | ((with_reducible refine' i_methCt ?h1 ?h2 ?_); (case h1 => wtm_at "ct"); (case h2 => exact rfl)) | ((with_reducible refine' i_eqTN ?h1 ?h2 ?_); (case h1 => wtm_at "sq"); (case h2 => wtm_at "sq")) | ((with_reducible refine' i_neTN ?h1 ?h2 ?_); (case h1 => wtm_at "sq"); (case h2 => wtm_at "sq")) | ((with_reducible refine' ci_use ?h0 ?h1 ?h2 rfl ?h4 ?h5 ?h6 (fun HH sm hct => ?_) ?he); (case he => rfl); (case h0 => wtm_at "getg"); (case h1 => wtm_at "ne"); (case h2 => first | exact .inl (by wtm_at "sq") | exact .inr (by wtm_at "sq")); (case h4 => wtm_at "nn"); (case h5 => wtm_at "lenle"); (case h6 => wtm_at "lenle")) | ((with_reducible refine' told_use ?h1 (fun kt hkt => ?_) ?he); (case he => rfl); (case h1 => wtm_at "ct")) | fail)
section
variable {P : Program} {w : World} {K : PySem.W.Frag} {mg : Str → Option Value} {base : Heap} {a : Ad}
theorem ok_NoCounts_init (T : Txt w K mg a) : FnOk P w K mg base CX0 1 a.NoCounts_init a.d_NoCounts_init ["self", "found"] (spExI a.NoCounts "found") := by
  refine fund_ok0 T.F_NoCounts_init sc_NoCounts_init (fun vs H Q E h => ?_) (fun cdv A outer s H vs Q E hr h => ?_)
  · obtain ⟨b, v, rfl, h⟩ := h
    rfl
  · exact ⟨_, pss_cons (ps_expr (pe_hinit (by rfl) T.m_HallError T.hs_HallError T.hq_HallError T.hf_HallError (pa_cons (pv 0) (pa_cons pe_str pa_nil)))) (pss_one (ps_ost (pv 0) (pv 1))), exc_read rfl T.o_NoCounts T.n_NoCounts_found h⟩
theorem ok_are_numbers (T : Txt w K mg a) : FnOk P w K mg base CX0 2 a.are_numbers a.d_are_numbers ["thing"] (spAre K) := by
  refine fund_ok0 T.F_are_numbers sc_are_numbers (fun vs H Q E h => ?_) (fun cdv A outer s H vs Q E hr h => ?_)
  · obtain ⟨x, rfl, h⟩ := h
    rfl
  · obtain ⟨x, rfl, h⟩ := h
    refine ⟨_, (pss_cons (ps_if (PW.pt (pw_or (pt_not (pt_val (pe_callB (call_isiBs [.lst, .tup] (K := K)) (by rfl) T.b_isinstance (by decide +kernel) (pa_cons (pv 0) (pa_cons (pe_tup (pa_cons (pe_bltn (v := .ty "list") (u := .type "list") (by rfl) T.b_list (by decide +kernel) rfl) (pa_cons (pe_bltn (v := .ty "tuple") (u := .type "tuple") (by rfl) T.b_tuple (by decide +kernel) rfl) pa_nil))) pa_nil))))) (pw_or1 (pt_not (pt_chain op_leU op_leU (pe_globE rfl T.g_LEAST_MEMBERS) (pe_callB (call_lenU (K := K)) (by rfl) T.b_len (by decide +kernel) (pa_cons (pv 0) pa_nil)) (pe_globE rfl T.g_MOST_MEMBERS)))))) (pss_one (ps_ret pe_bl)) pss_nil)
    (pss_one (ps_ret (pe_callB (cr_allK (K := K) rfl) (by rfl) T.b_all (by decide +kernel) (pa_cons (pe_lc (own := [("number", 1)]) rfl sc_are_numbers.nd (pi_seqK (K := K) (pv 0)) (blkOk_by (own := [("number", 1)]) (N := ["thing", "number"]) (sc := defScope s_are_numbers) (by decide +kernel)) (fun _ _ _ _ _ => (pg_name (i := 1) sc_are_numbers.nd rfl (by first | exact Or.inl rfl | exact Or.inr rfl))) (fun _ _ _ _ _ => pts_nil) (fun _ _ _ _ _ => (pe_callD (ok_is_whole (K := K) T) (hr.mono (by decide)) (by rfl) T.m_is_whole T.F_is_whole.kp T.B1_is_whole pass0 (pa_cons (pv 1) (pa_cons pe_int pa_nil))))) pa_nil))))), ?_⟩
    dsimp only [L2.start, List.map_cons, List.map_nil, List.map, List.length_cons, List.length_nil, Nat.reduceAdd, Nat.reduceSub, List.replicate, List.cons_append, List.nil_append]
    rcases h with ⟨p, xs, rfl, hs, kn, hl, k⟩ | ⟨hn, k⟩
    case inr =>
      wtm_at "gs"
      exact k _ (by wtm_at "same")
    have hl' : xs.length ≤ sizeLine := line_le hl
    have fin : ∀ b : Bool, 2 ≤ xs.length → xs.length ≤ 5 → b = xs.all (isWh 0 .non) → b = areL xs := fun b h1 h2 e => by
      show _ = (decide (2 ≤ xs.length) && (decide (xs.length ≤ 5) && _))
      rw [decide_eq_true h1, decide_eq_true h2, e]
      rfl
    have out : ¬ (2 ≤ xs.length ∧ xs.length ≤ 5) → areL xs = false := fun h => by
      unfold areL
      by_cases h1 : 2 ≤ xs.length
      · rw [decide_eq_false (show ¬ xs.length ≤ 5 by omega)]
        simp
      · rw [decide_eq_false h1]
        rfl
    rcases hs with hs | hs
    all_goals
      wtm_at "gs"
      · intro D hD
        first
          | refine' lc_mapL (fun y => .bl (isWh 0 .non y)) ?h0 hD hl (fun x hx H1 Q1 R1 s1 h1 => ?hs) (fun H1 s1 e1 => ?hd)
          | refine' lc_mapT (fun y => .bl (isWh 0 .non y)) ?h0 hD hl (fun x hx H1 Q1 R1 s1 h1 => ?hs) (fun H1 s1 e1 => ?hd)
        case h0 => wtm_at "sq"
        case hs =>
          have kx : Kn K H1 x := ((kn x hx).same (same_upd (Same.refl _) hq)).same s1
          wtm_at "gs"
          exact h1 _ (Same.refl _)
        case hd =>
          have e1 : H1 D = some (.lst ((xs.map (isWh 0 .non)).map V.bl)) := by rw [e1, List.map_map]; rfl
          wtm_at "gs"
          refine cast_bl (k _ (by wtm_at "same")) (fin _ (by omega) (by omega) ?_).symm
          rw [List.all_map]
          rfl
      · exact cast_bl (k _ (by wtm_at "same")) (out (by omega))
      · exact cast_bl (k _ (by wtm_at "same")) (out (by omega))
theorem ok_Counts_init (T : Txt w K mg a) : FnOk P w K mg base (L2.CX P w) 3 a.Counts_init a.d_Counts_init ["self", "numbers"] (spCI K a) := by
  refine fund_okX T.F_Counts_init sc_Counts_init (fun vs H Q E h => ?_) (fun cdv A outer s H vs Q E hr tk hp h => ?_)
  · obtain ⟨x, dx, v, rfl, hx, h⟩ := h
    rfl
  · obtain ⟨x, dx, v, rfl, hx, h⟩ := h
    refine ⟨_, (pss_cons (ps_if (pt_not (pt_val (pe_call (ok_are_numbers (K := K) T) (hr.mono (by decide)) (by rfl) T.m_are_numbers T.F_are_numbers.kp T.B_are_numbers .nil pass0 (pa_cons (pv 1) pa_nil)))) (pss_one (ps_raiseM rfl tk (pmk_exc T.o_NoCounts T.oi_NoCounts T.ot_NoCounts (ok_NoCounts_init (K := K) T) (hr.mono (by decide)) T.B_NoCounts_init (by rfl) T.m_NoCounts (pa_cons (pv 1) pa_nil)))) pss_nil)
    (pss_one (ps_fldK (K := K) (pv 0) (pe_callTy (call_tupOf (K := K)) (by rfl) T.b_tuple (by decide +kernel) (pa_cons (pv 1) pa_nil))))), ?_⟩
    clear tk hp
    dsimp only [L2.start, List.map_cons, List.map_nil, List.map, List.length_cons, List.length_nil, Nat.reduceAdd, Nat.reduceSub, List.replicate, List.cons_append, List.nil_append]
    rcases h with ⟨p, xs, rfl, hs, kn, hl, ky, kz⟩ | ⟨hn, kz⟩
    case inr =>
      wtm_at "gs"
      exact kz _ _ (by wtm_at "rz") (by wtm_at "rz")
    cases ha : areL xs with
    | false =>
      have hs2 : SqL K H p xs ∨ SqT K H p xs := hs.imp And.right id
      wtm_at "gs"
      exact kz ha _ _ (by wtm_at "rz") (by wtm_at "rz")
    | true =>
      obtain ⟨ns, rfl, p0, p1, p2⟩ := areL_ns ha
      rcases hs with ⟨np, hs⟩ | hs
      all_goals
        wtm_at "gs"
        exact ky ha _ (by wtm_at "but") _ rfl ⟨_, _, upd_same' rfl, by wtm_at "sq", p0, p1, p2⟩
theorem ok_Counts_told (T : Txt w K mg a) : FnOk P w K mg base CX0 1 a.Counts_told a.d_Counts_told ["self"] (spTold K a) := by
  refine fund_ok0 T.F_Counts_told sc_Counts_told (fun vs H Q E h => ?_) (fun cdv A outer s H vs Q E hr h => ?_)
  · obtain ⟨c, ns, rfl, hc, k⟩ := h
    rfl
  · obtain ⟨c, ns, rfl, hc, k⟩ := h
    refine ⟨_, (pss_one (ps_ret (pe_fldK (K := K) (pv 0)))), ?_⟩
    dsimp only [L2.start, List.map_cons, List.map_nil, List.map, List.length_cons, List.length_nil, Nat.reduceAdd, Nat.reduceSub, List.replicate, List.cons_append, List.nil_append]
    obtain ⟨dx, t, h1, h2, h3⟩ := hc
    wtm_at "gs"
    exact k _ h2
end

/-! new things: the heap behind is a name of its own -/
theorem abs_new {H HN : Hp} {q : Addr} {o : HO} (hq : H q = none) (hE : upd H q o = HN) : Same H HN ∧ HN q = some o := by subst hE; exact ⟨same_upd (Same.refl _) hq, upd_same⟩
theorem abs_set {H HN : Hp} {q : Addr} {o : HO} (hE : upd H q o = HN) : SameBut q H HN ∧ HN q = some o := by subst hE; exact ⟨SameBut.upd _ _ _, upd_same⟩
set_option hygiene false in
local macro_rules | `(tactic| wtm_at "absn") => `(tactic| ((generalize hE : upd _ q _ = HN); (obtain ⟨sa, hg⟩ := abs_new hq hE); (clear hE)))
set_option hygiene false in
local macro_rules | `(tactic| wtm_at "abss") => `(tactic| ((generalize hE : upd _ _ _ = HN); (obtain ⟨sb, hg⟩ := abs_set hE); (clear hE)))
local macro_rules | `(tactic| wtm_at "n") => `(tactic| fail)
set_option hygiene false in
local macro_rules | `(tactic| wtm_at "n") => `(tactic| first | ((with_reducible refine' i_rep1 ?h1 ?h2 (fun q hq => ?_)); (case h1 => wtm_at "get"); (case h2 => first | wtm_at "as" | omega | (simp only [List.length_map]; omega)); wtm_at "absn") | ((with_reducible refine' i_setL ?h1 ?h2 ?_); (case h1 => wtm_at "get"); (case h2 => rfl); wtm_at "abss") | ((with_reducible refine' i_rapp ?h1 ?h2 ?_); (case h1 => wtm_at "get"); (case h2 => first | assumption | exact line_lt (by first | omega | (simp only [List.length_append, List.length_map, List.length_cons, List.length_nil]; omega))); wtm_at "abss") | fail)
set_option hygiene false in
local macro_rules | `(tactic| wtm_at "n") => `(tactic| first | ((with_reducible refine' i_new ?h1 (fun q hq => ?_)); (case h1 => first | decide | exact Nat.le_of_ble_eq_true rfl | omega); wtm_at "absn") | ((with_reducible refine i_dnew (fun q hq => ?_)); wtm_at "absn") | ((with_reducible refine i_dnewT (fun q hq => ?_)); wtm_at "absn") | ((with_reducible refine' i_tupOfL ?h1 (fun q hq => ?_)); (case h1 => wtm_at "sq"); wtm_at "absn") | ((with_reducible refine' i_lstOfL ?h1 (fun q hq => ?_)); (case h1 => wtm_at "sq"); wtm_at "absn") | ((with_reducible refine' i_lstOfT ?h1 (fun q hq => ?_)); (case h1 => wtm_at "sq"); wtm_at "absn") | ((with_reducible refine' i_slL ?h1 (fun q hq => ?_)); (case h1 => wtm_at "sq"); wtm_at "absn") | ((with_reducible refine' i_addL ?h1 ?h2 ?h3 (fun q hq => ?_)); (case h1 => wtm_at "get"); (case h2 => wtm_at "get"); (case h3 => first | assumption | exact line_le (by omega) | exact Nat.le_of_lt (line_lt (by simp only [List.length_append, List.length_cons, List.length_nil]; omega)) | decide); wtm_at "absn") | fail)
local macro_rules | `(tactic| wtm_at "go3") => `(tactic| fail)
local macro_rules | `(tactic| wtm_at "go3") => `(tactic| first | wtm_at "u" | fail)
local macro_rules | `(tactic| wtm_at "go3") => `(tactic| first | wtm_at "a" | fail)
local macro_rules | `(tactic| wtm_at "go3") => `(tactic| first | wtm_at "h" | fail)
local macro_rules | `(tactic| wtm_at "go3") => `(tactic| first | wtm_at "n" | fail)
local macro_rules | `(tactic| wtm_at "go") => `(tactic| repeat' (wtm_at "go3"))
local macro_rules | `(tactic| wtm_at "gs4") => `(tactic| fail)
local macro_rules | `(tactic| wtm_at "gs4") => `(tactic| first | with_reducible refine i_dec (fun _ => ?_) (fun _ => ?_) | fail)
local macro_rules | `(tactic| wtm_at "gs4") => `(tactic| first | wtm_at "u" | fail)
local macro_rules | `(tactic| wtm_at "gs4") => `(tactic| first | wtm_at "a" | fail)
local macro_rules | `(tactic| wtm_at "gs4") => `(tactic| first | wtm_at "h" | fail)
local macro_rules | `(tactic| wtm_at "gs4") => `(tactic| first | wtm_at "n" | fail)
local macro_rules | `(tactic| wtm_at "gs") => `(tactic| repeat' (wtm_at "gs4"))
/-! a join: what follows is shown once -/
theorem seq_rest {t u : TS} {D : Ends} {σ : St} {H : Hp} (J : St → Hp → Prop) (h1 : ∀ σ' H', J σ' H' → u D σ' H') (h2 : ∀ R : St → Hp → Prop, (∀ σ' H', J σ' H' → R σ' H') → t { D with nx := R } σ H) : tSeq t u D σ H := h2 _ h1
theorem i_seqIf {tc : TT} {t u v : TS} {D : Ends} {σ : St} {H : Hp} (h : tSeq (tIfS tc t u) v D σ H) : tSeq (tIfS tc t u) v D σ H := h
local macro_rules | `(tactic| wtm_at "gi5") => `(tactic| fail)
local macro_rules | `(tactic| wtm_at "gi5") => `(tactic| first | with_reducible refine i_dec (fun _ => ?_) (fun _ => ?_) | fail)
local macro_rules | `(tactic| wtm_at "gi5") => `(tactic| first | wtm_at "u" | fail)
local macro_rules | `(tactic| wtm_at "gi5") => `(tactic| first | wtm_at "a" | fail)
local macro_rules | `(tactic| wtm_at "gi5") => `(tactic| first | wtm_at "h" | fail)
local macro_rules | `(tactic| wtm_at "gi5") => `(tactic| first | wtm_at "n" | fail)
local macro_rules | `(tactic| wtm_at "gi") => `(tactic| repeat' ((fail_if_success (with_reducible refine i_seqIf ?_)); wtm_at "gi5"))
/-! ### histories: words, rows, is_history, own_rows, alike_to -/
def spWord (K : PySem.W.Frag) : Sp := fun vs H Q E => ∃ (z : Str), vs = [.str z] ∧ (z.length ≤ 1000) ∧ (∀ HH, (Same H HH) → Q (.bl (isWord (.str z))) HH)
theorem spWord_u1 {K : PySem.W.Frag} {H : Hp} {Q : VK} {E : XK} {vs : List V} {z : Str} (g0 : z.length ≤ 1000) (k : ∀ HH, (Same H HH) → Q (.bl (isWord (.str z))) HH) (he : vs = [.str z] := by rfl) : spWord K vs H Q E := ⟨z, he, g0, k⟩
set_option hygiene false in
local macro_rules | `(tactic| wtm_at "u") => `(tactic| first | ((with_reducible refine' spWord_u1 ?g0 (fun HH sm => ?_) ?he); (case he => rfl); (case g0 => wtm_at "as")) | fail)
def spFS (K : PySem.W.Frag) : Sp := fun vs H Q E => ∃ (M m : Int) (z : Str) (p : Addr), vs = [.int M, .ref p] ∧ (H p = some (.tup (Rw.sent m z).vs)) ∧ (z.length ≤ 1000) ∧ (∀ HH, (Same H HH) → Q (.bl ((Rw.sent m z).okB M)) HH)
theorem spFS_u1 {K : PySem.W.Frag} {H : Hp} {Q : VK} {E : XK} {vs : List V} {M m : Int} {z : Str} {p : Addr} (g0 : H p = some (.tup (Rw.sent m z).vs)) (g1 : z.length ≤ 1000) (k : ∀ HH, (Same H HH) → Q (.bl ((Rw.sent m z).okB M)) HH) (he : vs = [.int M, .ref p] := by rfl) : spFS K vs H Q E := ⟨M, m, z, p, he, g0, g1, k⟩
set_option hygiene false in
local macro_rules | `(tactic| wtm_at "u") => `(tactic| first | ((with_reducible refine' spFS_u1 ?g0 ?g1 (fun HH sm => ?_) ?he); (case he => rfl); (case g0 => wtm_at "as"); (case g1 => wtm_at "as")) | fail)
def spFG (K : PySem.W.Frag) : Sp := fun vs H Q E => ∃ (M m s n : Int) (p : Addr), vs = [.int M, .ref p] ∧ (H p = some (.tup (Rw.got m s n).vs)) ∧ (Q (.bl ((Rw.got m s n).okB M)) H)
theorem spFG_u1 {K : PySem.W.Frag} {H : Hp} {Q : VK} {E : XK} {vs : List V} {M m s n : Int} {p : Addr} (g0 : H p = some (.tup (Rw.got m s n).vs)) (k : Q (.bl ((Rw.got m s n).okB M)) H) (he : vs = [.int M, .ref p] := by rfl) : spFG K vs H Q E := ⟨M, m, s, n, p, he, g0, k⟩
set_option hygiene false in
local macro_rules | `(tactic| wtm_at "u") => `(tactic| first | ((with_reducible refine' spFG_u1 ?g0 ?_ ?he); (case he => rfl); (case g0 => wtm_at "as")) | fail)
def spFT (K : PySem.W.Frag) : Sp := fun vs H Q E => ∃ (M m q s n : Int) (p : Addr), vs = [.int M, .ref p] ∧ (H p = some (.tup (Rw.told m q s n).vs)) ∧ (Q (.bl ((Rw.told m q s n).okB M)) H)
theorem spFT_u1 {K : PySem.W.Frag} {H : Hp} {Q : VK} {E : XK} {vs : List V} {M m q s n : Int} {p : Addr} (g0 : H p = some (.tup (Rw.told m q s n).vs)) (k : Q (.bl ((Rw.told m q s n).okB M)) H) (he : vs = [.int M, .ref p] := by rfl) : spFT K vs H Q E := ⟨M, m, q, s, n, p, he, g0, k⟩
set_option hygiene false in
local macro_rules | `(tactic| wtm_at "u") => `(tactic| first | ((with_reducible refine' spFT_u1 ?g0 ?_ ?he); (case he => rfl); (case g0 => wtm_at "as")) | fail)
/-- the forms of rows -/
def FormF (K : PySem.W.Frag) (a : Ad) : Addr → Sp → Prop := fun f sp => (f = a.fits_sent ∧ sp = spFS K) ∨ (f = a.fits_got ∧ sp = spFG K) ∨ (f = a.fits_told ∧ sp = spFT K)
set_option hygiene false in
local macro_rules | `(tactic| wtm_at "u") => `(tactic| first | ((with_reducible refine' i_notInKd ?h1 ?_); (case h1 => first | exact T.d_FORMS_sent | exact T.d_FORMS_got | exact T.d_FORMS_told)) | ((with_reducible refine' i_ixKd ?h1 ?_); (case h1 => first | exact T.d_FORMS_sent | exact T.d_FORMS_got | exact T.d_FORMS_told)) | ((with_reducible refine' i_callR (spFS K) ?h1 ?h2 ?_); (case h1 => exact rfl); (case h2 => exact .inl ⟨rfl, rfl⟩)) | ((with_reducible refine' i_callR (spFG K) ?h1 ?h2 ?_); (case h1 => exact rfl); (case h2 => exact .inr (.inl ⟨rfl, rfl⟩))) | ((with_reducible refine' i_callR (spFT K) ?h1 ?h2 ?_); (case h1 => exact rfl); (case h2 => exact .inr (.inr ⟨rfl, rfl⟩))) | fail)
def spRow (K : PySem.W.Frag) : Sp := fun vs H Q E => ∃ (M : Int) (r : Rw) (p : Addr), vs = [.int M, .ref p] ∧ (H p = some (.tup r.vs)) ∧ (r.sml) ∧ (∀ HH, (Same H HH) → Q (.bl (r.okB M)) HH)
theorem spRow_u1 {K : PySem.W.Frag} {H : Hp} {Q : VK} {E : XK} {vs : List V} {M : Int} {r : Rw} {p : Addr} (g0 : H p = some (.tup r.vs)) (g1 : r.sml) (k : ∀ HH, (Same H HH) → Q (.bl (r.okB M)) HH) (he : vs = [.int M, .ref p] := by rfl) : spRow K vs H Q E := ⟨M, r, p, he, g0, g1, k⟩
set_option hygiene false in
local macro_rules | `(tactic| wtm_at "u") => `(tactic| first | ((with_reducible refine' spRow_u1 ?g0 ?g1 (fun HH sm => ?_) ?he); (case he => rfl); (case g0 => wtm_at "as"); (case g1 => wtm_at "as")) | fail)
section
variable {P : Program} {w : World} {K : PySem.W.Frag} {mg : Str → Option Value} {base : Heap} {a : Ad}
theorem sgIn_all (z : Str) : ((signs z).map fun x => sgIn "abcdefghijklmnopqrstuvwxyz" x).all id = z.cps.toList.all fun c => decide (c ∈ ("abcdefghijklmnopqrstuvwxyz" : Str).cps.toList) := signs_all ..
theorem ok_is_word (T : Txt w K mg a) : FnOk P w K mg base CX0 1 a.is_word a.d_is_word ["thing"] (spWord K) := by
  refine fund_ok0 T.F_is_word sc_is_word (fun vs H Q E h => ?_) (fun cdv A outer s H vs Q E hr h => ?_)
  · obtain ⟨z, rfl, hz, k⟩ := h
    rfl
  · obtain ⟨z, rfl, hz, k⟩ := h
    refine ⟨_, (pss_cons (ps_if (PW.pt (pw_or (pt_not (pt_val (pe_callB (call_isiB .str (K := K)) (by rfl) T.b_isinstance (by decide +kernel) (pa_cons (pv 0) (pa_cons (pe_bltn (v := .ty "str") (u := .type "str") (by rfl) T.b_str (by decide +kernel) rfl) pa_nil))))) (pw_or1 (pt_not (pt_chain op_leU op_leU pe_int (pe_callB (call_lenU (K := K)) (by rfl) T.b_len (by decide +kernel) (pa_cons (pv 0) pa_nil)) (pe_globE rfl T.g_LONGEST_WORD)))))) (pss_one (ps_ret pe_bl)) pss_nil)
    (pss_one (ps_ret (pe_callB (cr_allK (K := K) rfl) (by rfl) T.b_all (by decide +kernel) (pa_cons (pe_lc (own := [("sign", 1)]) rfl sc_is_word.nd (pi_strK (pv 0)) (blkOk_by (own := [("sign", 1)]) (N := ["thing", "sign"]) (sc := defScope s_is_word) (by decide +kernel)) (fun _ _ _ _ _ => (pg_name (i := 1) sc_is_word.nd rfl (by first | exact Or.inl rfl | exact Or.inr rfl))) (fun _ _ _ _ _ => pts_nil) (fun _ _ _ _ _ => (pe_cmpR (op_inU (K := K)) (pv 1) (pe_globE rfl T.g_LETTERS) (by rfl)))) pa_nil))))), ?_⟩
    dsimp only [L2.start, List.map_cons, List.map_nil, List.map, List.length_cons, List.length_nil, Nat.reduceAdd, Nat.reduceSub, List.replicate, List.cons_append, List.nil_append]
    have hz' : z.length ≤ sizeLine := Nat.le_of_lt (small1000 hz)
    wtm_at "gs"
    · intro D hD
      refine lc_map (signs z) (fun x => .bl (sgIn "abcdefghijklmnopqrstuvwxyz" x)) walk_signs (by simp only [signs, List.length_map]; exact small1000 hz) (fun _ _ => trivial) hD (fun x hx H1 Q1 R1 s1 h1 => ?_) (fun H1 s1 e1 => ?_)
      · obtain ⟨c, _, rfl⟩ := List.mem_map.mp hx
        wtm_at "gs"
        exact h1 _ (Same.refl _)
      · have e1 : H1 D = some (.lst (((signs z).map fun x => sgIn "abcdefghijklmnopqrstuvwxyz" x).map V.bl)) := by rw [e1, List.map_map]; rfl
        wtm_at "gs"
        refine cast_bl (k _ s1) ?_
        rw [signs_all]
        show (decide (1 ≤ z.length) && (decide (z.length ≤ 8) && _)) = _
        rw [decide_eq_true (show 1 ≤ z.length by omega), decide_eq_true (show z.length ≤ 8 by omega)]
        rfl
    all_goals
      refine cast_bl (k _ (Same.refl _)) ?_
      simp only [isWord]
      simp_all
    all_goals omega
theorem ok_fits_sent (T : Txt w K mg a) : FnOk P w K mg base CX0 2 a.fits_sent a.d_fits_sent ["members", "row"] (spFS K) := by
  refine fund_ok0 T.F_fits_sent sc_fits_sent (fun vs H Q E h => ?_) (fun cdv A outer s H vs Q E hr h => ?_)
  · obtain ⟨M, m, z, p, rfl, hp, hz, k⟩ := h
    rfl
  · obtain ⟨M, m, z, p, rfl, hp, hz, k⟩ := h
    refine ⟨_, (pss_one (ps_ret (pe_and (pe_cmpR (op_eqU hr.units (K := K)) (pe_callB (call_lenU (K := K)) (by rfl) T.b_len (by decide +kernel) (pa_cons (pv 1) pa_nil)) pe_int (nomark _)) (pe_and (pe_call (ok_is_whole (K := K) T) (hr.mono (by decide)) (by rfl) T.m_is_whole T.F_is_whole.kp T.B_is_whole .nil pass0 (pa_cons (pe_ix (ix_U (K := K)) (pv 1) pe_int (fun _ _ => rfl)) (pa_cons pe_int (pa_cons (pe_op op_subU (pv 0) pe_int) pa_nil)))) (pe_one (pe_call (ok_is_word (K := K) T) (hr.mono (by decide)) (by rfl) T.m_is_word T.F_is_word.kp T.B_is_word .nil pass0 (pa_cons (pe_ix (ix_U (K := K)) (pv 1) pe_int (fun _ _ => rfl)) pa_nil))))))), ?_⟩
    dsimp only [L2.start, List.map_cons, List.map_nil, List.map, List.length_cons, List.length_nil, Nat.reduceAdd, Nat.reduceSub, List.replicate, List.cons_append, List.nil_append]
    have a1 : atI (Rw.sent m z).vs 1 = some (.int m) := rfl
    have a2 : atI (Rw.sent m z).vs 2 = some (.str z) := rfl
    have ln : (Rw.sent m z).vs.length = 3 := rfl
    wtm_at "gs"
    · exact cast_bl (k _ (by wtm_at "same")) (by simp_all [Rw.okB, inR])
    all_goals exact cast_bl (k _ (Same.refl _)) (by simp_all [Rw.okB, inR] <;> omega)
theorem ok_fits_got (T : Txt w K mg a) : FnOk P w K mg base CX0 2 a.fits_got a.d_fits_got ["members", "row"] (spFG K) := by
  refine fund_ok0 T.F_fits_got sc_fits_got (fun vs H Q E h => ?_) (fun cdv A outer s H vs Q E hr h => ?_)
  · obtain ⟨M, m, s, n, p, rfl, hp, k⟩ := h
    rfl
  · obtain ⟨M, m, s, n, p, rfl, hp, k⟩ := h
    refine ⟨_, (pss_cons (ps_if (PW.pt (pw_or (pt_cmpR (op_neU hr.units (K := K)) (pe_callB (call_lenU (K := K)) (by rfl) T.b_len (by decide +kernel) (pa_cons (pv 1) pa_nil)) pe_int (nomark _)) (pw_or1 (pt_not (pt_val (pe_call (ok_is_whole (K := K) T) (hr.mono (by decide)) (by rfl) T.m_is_whole T.F_is_whole.kp T.B_is_whole .nil pass0 (pa_cons (pe_ix (ix_U (K := K)) (pv 1) pe_int (fun _ _ => rfl)) (pa_cons pe_int (pa_cons (pe_op op_subU (pv 0) pe_int) pa_nil))))))))) (pss_one (ps_ret pe_bl)) pss_nil)
    (pss_one (ps_ret (pe_and (pe_call (ok_is_whole (K := K) T) (hr.mono (by decide)) (by rfl) T.m_is_whole T.F_is_whole.kp T.B_is_whole .nil pass0 (pa_cons (pe_ix (ix_U (K := K)) (pv 1) pe_int (fun _ _ => rfl)) (pa_cons pe_int (pa_cons (pe_op op_subU (pv 0) pe_int) pa_nil)))) (pe_one (pe_callD (ok_is_whole (K := K) T) (hr.mono (by decide)) (by rfl) T.m_is_whole T.F_is_whole.kp T.B1_is_whole pass0 (pa_cons (pe_ix (ix_U (K := K)) (pv 1) pe_int (fun _ _ => rfl)) (pa_cons pe_int pa_nil)))))))), ?_⟩
    dsimp only [L2.start, List.map_cons, List.map_nil, List.map, List.length_cons, List.length_nil, Nat.reduceAdd, Nat.reduceSub, List.replicate, List.cons_append, List.nil_append]
    have a1 : atI (Rw.got m s n).vs 1 = some (.int m) := rfl
    have a2 : atI (Rw.got m s n).vs 2 = some (.int s) := rfl
    have a3 : atI (Rw.got m s n).vs 3 = some (.int n) := rfl
    have ln : (Rw.got m s n).vs.length = 4 := rfl
    wtm_at "gs"
    all_goals exact cast_bl k (by simp_all [Rw.okB, inR] <;> omega)
theorem ok_fits_told (T : Txt w K mg a) : FnOk P w K mg base CX0 2 a.fits_told a.d_fits_told ["members", "row"] (spFT K) := by
  refine fund_ok0 T.F_fits_told sc_fits_told (fun vs H Q E h => ?_) (fun cdv A outer s H vs Q E hr h => ?_)
  · obtain ⟨M, m, q, s, n, p, rfl, hp, k⟩ := h
    rfl
  · obtain ⟨M, m, q, s, n, p, rfl, hp, k⟩ := h
    refine ⟨_, (pss_cons (ps_if (PW.pt (pw_or (pt_cmpR (op_neU hr.units (K := K)) (pe_callB (call_lenU (K := K)) (by rfl) T.b_len (by decide +kernel) (pa_cons (pv 1) pa_nil)) pe_int (nomark _)) (pw_or (pt_not (pt_val (pe_call (ok_is_whole (K := K) T) (hr.mono (by decide)) (by rfl) T.m_is_whole T.F_is_whole.kp T.B_is_whole .nil pass0 (pa_cons (pe_ix (ix_U (K := K)) (pv 1) pe_int (fun _ _ => rfl)) (pa_cons pe_int (pa_cons (pe_op op_subU (pv 0) pe_int) pa_nil)))))) (pw_or1 (pt_not (pt_val (pe_callD (ok_is_whole (K := K) T) (hr.mono (by decide)) (by rfl) T.m_is_whole T.F_is_whole.kp T.B1_is_whole pass0 (pa_cons (pe_ix (ix_U (K := K)) (pv 1) pe_int (fun _ _ => rfl)) (pa_cons pe_int pa_nil))))))))) (pss_one (ps_ret pe_bl)) pss_nil)
    (pss_one (ps_ret (pe_and (pe_call (ok_is_whole (K := K) T) (hr.mono (by decide)) (by rfl) T.m_is_whole T.F_is_whole.kp T.B_is_whole .nil pass0 (pa_cons (pe_ix (ix_U (K := K)) (pv 1) pe_int (fun _ _ => rfl)) (pa_cons pe_int (pa_cons (pe_op op_subU (pv 0) pe_int) pa_nil)))) (pe_one (pe_callD (ok_is_whole (K := K) T) (hr.mono (by decide)) (by rfl) T.m_is_whole T.F_is_whole.kp T.B1_is_whole pass0 (pa_cons (pe_ix (ix_U (K := K)) (pv 1) pe_int (fun _ _ => rfl)) (pa_cons pe_int pa_nil)))))))), ?_⟩
    dsimp only [L2.start, List.map_cons, List.map_nil, List.map, List.length_cons, List.length_nil, Nat.reduceAdd, Nat.reduceSub, List.replicate, List.cons_append, List.nil_append]
    have a1 : atI (Rw.told m q s n).vs 1 = some (.int m) := rfl
    have a2 : atI (Rw.told m q s n).vs 2 = some (.int q) := rfl
    have a3 : atI (Rw.told m q s n).vs 3 = some (.int s) := rfl
    have a4 : atI (Rw.told m q s n).vs 4 = some (.int n) := rfl
    have ln : (Rw.told m q s n).vs.length = 5 := rfl
    wtm_at "gs"
    all_goals exact cast_bl k (by simp_all [Rw.okB, inR] <;> omega)
theorem formF_held (T : Txt w K mg a) : ∀ f sp, FormF K a f sp → Held P w K mg base 2 f sp := by
  rintro f sp (⟨rfl, rfl⟩ | ⟨rfl, rfl⟩ | ⟨rfl, rfl⟩)
  · exact ⟨_, _, ok_fits_sent T, T.F_fits_sent.kp, T.B_fits_sent⟩
  · exact ⟨_, _, ok_fits_got T, T.F_fits_got.kp, T.B_fits_got⟩
  · exact ⟨_, _, ok_fits_told T, T.F_fits_told.kp, T.B_fits_told⟩
theorem ok_is_row (T : Txt w K mg a) : FnOk P w K mg base CX0 3 a.is_row a.d_is_row ["members", "row"] (spRow K) := by
  refine fund_ok0 T.F_is_row sc_is_row (fun vs H Q E h => ?_) (fun cdv A outer s H vs Q E hr h => ?_)
  · obtain ⟨M, r, p, rfl, hp, hz, k⟩ := h
    rfl
  · obtain ⟨M, r, p, rfl, hp, hz, k⟩ := h
    refine ⟨_, (pss_cons (ps_if (PW.pt (pw_or (pt_not (pt_val (pe_callB (call_isiB .tup (K := K)) (by rfl) T.b_isinstance (by decide +kernel) (pa_cons (pv 1) (pa_cons (pe_bltn (v := .ty "tuple") (u := .type "tuple") (by rfl) T.b_tuple (by decide +kernel) rfl) pa_nil))))) (pw_or1 (pt_cmpR op_ltU (pe_callB (call_lenU (K := K)) (by rfl) T.b_len (by decide +kernel) (pa_cons (pv 1) pa_nil)) pe_int (nomark _))))) (pss_one (ps_ret pe_bl)) pss_nil)
    (pss_cons (ps_set (i := 2) sc_is_row.nd rfl (by first | exact Or.inl rfl | exact Or.inr rfl) (pe_ix (ix_U (K := K)) (pv 1) pe_int (fun _ _ => rfl)))
    (pss_cons (ps_if (PW.pt (pw_or (pt_not (pt_val (pe_callB (call_isiB .str (K := K)) (by rfl) T.b_isinstance (by decide +kernel) (pa_cons (pv 2) (pa_cons (pe_bltn (v := .ty "str") (u := .type "str") (by rfl) T.b_str (by decide +kernel) rfl) pa_nil))))) (pw_or1 (pt_cmpR (op_notInKd (K := K) (w := w)) (pv 2) (pe_glob rfl T.m_FORMS (show RelV (V.ref a.FORMS) _ from rfl)) (by rfl))))) (pss_one (ps_ret pe_bl)) pss_nil)
    (pss_cons (ps_set (i := 3) sc_is_row.nd rfl (by first | exact Or.inl rfl | exact Or.inr rfl) (pe_ix (ix_Kd (K := K) (w := w)) (pe_glob rfl T.m_FORMS (show RelV (V.ref a.FORMS) _ from rfl)) (pv 2) (fun _ _ => rfl)))
    (pss_one (ps_ret (pe_callR (k := 2) (i := 3) (S := FormF K a) (formF_held T) (hr.mono (by decide)) rfl (by first | exact Or.inl rfl | exact Or.inr rfl) (pa_cons (pv 0) (pa_cons (pv 1) pa_nil))))))))), ?_⟩
    dsimp only [L2.start, List.map_cons, List.map_nil, List.map, List.length_cons, List.length_nil, Nat.reduceAdd, Nat.reduceSub, List.replicate, List.cons_append, List.nil_append]
    cases r
    case sent m z =>
      have hz : z.length ≤ 1000 := hz
      have e0 : atI (Rw.sent m z).vs 0 = some (.str "sent") := rfl
      have ln : (Rw.sent m z).vs.length = 3 := rfl
      wtm_at "gs"
      exact k _ (by wtm_at "same")
    case got m s n =>
      have e0 : atI (Rw.got m s n).vs 0 = some (.str "got") := rfl
      have ln : (Rw.got m s n).vs.length = 4 := rfl
      wtm_at "gs"
      exact k _ (by wtm_at "same")
    case told m q s n =>
      have e0 : atI (Rw.told m q s n).vs 0 = some (.str "told") := rfl
      have ln : (Rw.told m q s n).vs.length = 5 := rfl
      wtm_at "gs"
      exact k _ (by wtm_at "same")
end
/-- rows that are a list or a tuple -/
def HsAt (K : PySem.W.Frag) (H : Hp) (v : V) (rs : List Rw) : Prop := ∃ p xs, v = .ref p ∧ (SqL K H p xs ∨ SqT K H p xs) ∧ All2 (RwAt H) xs rs ∧ (∀ r ∈ rs, r.sml) ∧ rs.length ≤ 400
theorem HsAt.same {K : PySem.W.Frag} {H H' : Hp} {v : V} {rs : List Rw} (s : Same H H') (h : HsAt K H v rs) : HsAt K H' v rs := by
  obtain ⟨p, xs, e, h1, h2, h3⟩ := h
  exact ⟨p, xs, e, h1.imp (Same.seq s) (SqT.same s), h2.mono fun _ _ => RwAt.same s, h3⟩
/-- what is no history -/
def HsNo (K : PySem.W.Frag) (H : Hp) (M : Int) (v : V) : Prop := NoSeq K H v ∨ ∃ rs, HsAt K H v rs ∧ histB M rs = false
theorem HsNo.same {K : PySem.W.Frag} {H H' : Hp} {M : Int} {v : V} (s : Same H H') (h : HsNo K H M v) : HsNo K H' M v := by
  rcases h with h | ⟨rs, h1, h2⟩
  · exact .inl (NoSeq.same s h)
  · exact .inr ⟨rs, h1.same s, h2⟩
local macro_rules | `(tactic| wtm_at "hs") => `(tactic| fail)
local macro_rules | `(tactic| wtm_at "hs") => `(tactic| first | wtm_at "as" | ((with_reducible refine' HsAt.same ?s ?h); (case h => wtm_at "as"); (case s => wtm_at "same")) | ((with_reducible refine' HsNo.same ?s ?h); (case h => wtm_at "as"); (case s => wtm_at "same")) | fail)
/-- the rows of one member -/
def ownR (rs : List Rw) (m : Int) : List Rw := rs.filter fun r => decide (r.mem = m)
def spMem (K : PySem.W.Frag) : Sp := fun vs H Q _ => ∃ x, vs = [x] ∧ Kn K H x ∧ Q (.bl (isWh 2 (.int 5) x)) H
theorem memI_use {K : PySem.W.Frag} {H : Hp} {Q : VK} {E : XK} {vs : List V} {m : Int} (h0 : 2 ≤ m ∧ m ≤ 5) (h : Q (.bl true) H) (he : vs = [.int m] := by rfl) : spMem K vs H Q E := ⟨_, he, trivial, cast_bl h (by simp [isWh, h0.1, h0.2])⟩
set_option hygiene false in
local macro_rules | `(tactic| wtm_at "u") => `(tactic| ((with_reducible refine' memI_use ?h0 ?_ ?he); (case he => rfl); (case h0 => first | wtm_at "as" | omega)))
def spHist (K : PySem.W.Frag) : Sp := fun vs H Q E => ∃ (M : Int) (v : V), vs = [.int M, v] ∧ (2 ≤ M ∧ M ≤ 5) ∧ (((NoSeq K H v) ∧ (∀ HH, (Same H HH) → Q (.bl false) HH)) ∨ (∃ (rs : List Rw), (HsAt K H v rs) ∧ (∀ HH, (Same H HH) → Q (.bl (histB M rs)) HH)))
theorem spHist_u1 {K : PySem.W.Frag} {H : Hp} {Q : VK} {E : XK} {vs : List V} {M : Int} {v : V} (g0 : 2 ≤ M ∧ M ≤ 5) (g1 : NoSeq K H v) (k : ∀ HH, (Same H HH) → Q (.bl false) HH) (he : vs = [.int M, v] := by rfl) : spHist K vs H Q E := ⟨M, v, he, g0, .inl ⟨g1, k⟩⟩
theorem spHist_u2 {K : PySem.W.Frag} {H : Hp} {Q : VK} {E : XK} {vs : List V} {M : Int} {v : V} {rs : List Rw} (g0 : 2 ≤ M ∧ M ≤ 5) (g1 : HsAt K H v rs) (k : ∀ HH, (Same H HH) → Q (.bl (histB M rs)) HH) (he : vs = [.int M, v] := by rfl) : spHist K vs H Q E := ⟨M, v, he, g0, .inr (⟨rs, g1, k⟩)⟩
set_option hygiene false in
local macro_rules | `(tactic| wtm_at "u") => `(tactic| first | ((with_reducible refine' spHist_u1 ?g0 ?g1 (fun HH sm => ?_) ?he); (case he => rfl); (case g0 => wtm_at "as"); (case g1 => wtm_at "nos")) | ((with_reducible refine' spHist_u2 ?g0 ?g1 (fun HH sm => ?_) ?he); (case he => rfl); (case g0 => wtm_at "as"); (case g1 => wtm_at "hs")) | fail)
def spNeed (K : PySem.W.Frag) (a : Ad) : Sp := fun vs H Q E => ∃ (M : Int) (v : V), vs = [.int M, v] ∧ (2 ≤ M ∧ M ≤ 5) ∧ (((HsNo K H M v) ∧ (∀ HH ed, Same H HH → HH ed = some (.xd [("found", v)]) → E (.ref a.NoHistory) (some ed) HH)) ∨ (∃ (rs : List Rw), (HsAt K H v rs) ∧ (histB M rs = true) ∧ (∀ HH, (Same H HH) → Q (.non) HH)))
theorem spNeed_u1 {K : PySem.W.Frag} {a : Ad} {H : Hp} {Q : VK} {E : XK} {vs : List V} {M : Int} {v : V} (g0 : 2 ≤ M ∧ M ≤ 5) (g1 : HsNo K H M v) (k : ∀ HH ed, Same H HH → HH ed = some (.xd [("found", v)]) → E (.ref a.NoHistory) (some ed) HH) (he : vs = [.int M, v] := by rfl) : spNeed K a vs H Q E := ⟨M, v, he, g0, .inl ⟨g1, k⟩⟩
theorem spNeed_u2 {K : PySem.W.Frag} {a : Ad} {H : Hp} {Q : VK} {E : XK} {vs : List V} {M : Int} {v : V} {rs : List Rw} (g0 : 2 ≤ M ∧ M ≤ 5) (g1 : HsAt K H v rs) (g2 : histB M rs = true) (k : ∀ HH, (Same H HH) → Q (.non) HH) (he : vs = [.int M, v] := by rfl) : spNeed K a vs H Q E := ⟨M, v, he, g0, .inr (⟨rs, g1, g2, k⟩)⟩
set_option hygiene false in
local macro_rules | `(tactic| wtm_at "u") => `(tactic| first | ((with_reducible refine' spNeed_u1 ?g0 ?g1 (fun HH ed sm hed => ?_) ?he); (case he => rfl); (case g0 => wtm_at "as"); (case g1 => wtm_at "hs")) | ((with_reducible refine' spNeed_u2 ?g0 ?g1 ?g2 (fun HH sm => ?_) ?he); (case he => rfl); (case g0 => wtm_at "as"); (case g1 => wtm_at "hs"); (case g2 => wtm_at "as")) | fail)
def spOwn (K : PySem.W.Frag) : Sp := fun vs H Q E => ∃ (v : V) (m : Int) (rs : List Rw), vs = [v, .int m] ∧ (HsAt K H v rs) ∧ (∀ HH o ys, (Same H HH) → (H o = none) → (HH o = some (.lst ys)) → (All2 (RwAt HH) ys (ownR rs m)) → Q (.ref o) HH)
theorem spOwn_u1 {K : PySem.W.Frag} {H : Hp} {Q : VK} {E : XK} {vs : List V} {v : V} {m : Int} {rs : List Rw} (g0 : HsAt K H v rs) (k : ∀ HH o ys, (Same H HH) → (H o = none) → (HH o = some (.lst ys)) → (All2 (RwAt HH) ys (ownR rs m)) → Q (.ref o) HH) (he : vs = [v, .int m] := by rfl) : spOwn K vs H Q E := ⟨v, m, rs, he, g0, k⟩
set_option hygiene false in
local macro_rules | `(tactic| wtm_at "u") => `(tactic| first | ((with_reducible refine' spOwn_u1 ?g0 (fun HH o ys sm hno ho hy => ?_) ?he); (case he => rfl); (case g0 => wtm_at "hs")) | fail)
/-- the members to which both look alike -/
def alikeL (M : Nat) (rs qs : List Rw) : List Nat := (List.range M).filter fun k => decide (ownR rs k = ownR qs k)
def spAlike (K : PySem.W.Frag) (a : Ad) : Sp := fun vs H Q E => ∃ (M : Nat) (v u : V), vs = [.int M, v, u] ∧ (2 ≤ M ∧ M ≤ 5) ∧ (((HsNo K H M v) ∧ (∀ HH ed, Same H HH → HH ed = some (.xd [("found", v)]) → E (.ref a.NoHistory) (some ed) HH)) ∨ (∃ (rs : List Rw), (HsAt K H v rs) ∧ (histB M rs = true) ∧ (HsNo K H M u) ∧ (∀ HH ed, Same H HH → HH ed = some (.xd [("found", u)]) → E (.ref a.NoHistory) (some ed) HH)) ∨ (∃ (rs qs : List Rw), (HsAt K H v rs) ∧ (histB M rs = true) ∧ (HsAt K H u qs) ∧ (histB M qs = true) ∧ (∀ HH o, (Same H HH) → (H o = none) → (HH o = some (.lst ((alikeL M rs qs).map fun k => V.int (k : Nat)))) → Q (.ref o) HH)))
theorem spAlike_u1 {K : PySem.W.Frag} {a : Ad} {H : Hp} {Q : VK} {E : XK} {vs : List V} {M : Nat} {v u : V} (g0 : 2 ≤ M ∧ M ≤ 5) (g1 : HsNo K H M v) (k : ∀ HH ed, Same H HH → HH ed = some (.xd [("found", v)]) → E (.ref a.NoHistory) (some ed) HH) (he : vs = [.int M, v, u] := by rfl) : spAlike K a vs H Q E := ⟨M, v, u, he, g0, .inl ⟨g1, k⟩⟩
theorem spAlike_u2 {K : PySem.W.Frag} {a : Ad} {H : Hp} {Q : VK} {E : XK} {vs : List V} {M : Nat} {v u : V} {rs : List Rw} (g0 : 2 ≤ M ∧ M ≤ 5) (g1 : HsAt K H v rs) (g2 : histB M rs = true) (g3 : HsNo K H M u) (k : ∀ HH ed, Same H HH → HH ed = some (.xd [("found", u)]) → E (.ref a.NoHistory) (some ed) HH) (he : vs = [.int M, v, u] := by rfl) : spAlike K a vs H Q E := ⟨M, v, u, he, g0, .inr (.inl ⟨rs, g1, g2, g3, k⟩)⟩
theorem spAlike_u3 {K : PySem.W.Frag} {a : Ad} {H : Hp} {Q : VK} {E : XK} {vs : List V} {M : Nat} {v u : V} {rs qs : List Rw} (g0 : 2 ≤ M ∧ M ≤ 5) (g1 : HsAt K H v rs) (g2 : histB M rs = true) (g3 : HsAt K H u qs) (g4 : histB M qs = true) (k : ∀ HH o, (Same H HH) → (H o = none) → (HH o = some (.lst ((alikeL M rs qs).map fun k => V.int (k : Nat)))) → Q (.ref o) HH) (he : vs = [.int M, v, u] := by rfl) : spAlike K a vs H Q E := ⟨M, v, u, he, g0, .inr (.inr (⟨rs, qs, g1, g2, g3, g4, k⟩))⟩
set_option hygiene false in
local macro_rules | `(tactic| wtm_at "u") => `(tactic| first | ((with_reducible refine' spAlike_u1 ?g0 ?g1 (fun HH ed sm hed => ?_) ?he); (case he => rfl); (case g0 => wtm_at "as"); (case g1 => wtm_at "hs")) | ((with_reducible refine' spAlike_u2 ?g0 ?g1 ?g2 ?g3 (fun HH ed sm hed => ?_) ?he); (case he => rfl); (case g0 => wtm_at "as"); (case g1 => wtm_at "hs"); (case g2 => wtm_at "as"); (case g3 => wtm_at "hs")) | ((with_reducible refine' spAlike_u3 ?g0 ?g1 ?g2 ?g3 ?g4 (fun HH o sm hno ho => ?_) ?he); (case he => rfl); (case g0 => wtm_at "as"); (case g1 => wtm_at "hs"); (case g2 => wtm_at "as"); (case g3 => wtm_at "hs"); (case g4 => wtm_at "as")) | fail)
section
variable {P : Program} {w : World} {K : PySem.W.Frag} {mg : Str → Option Value} {base : Heap} {a : Ad}
theorem ok_NoHistory_init (T : Txt w K mg a) : FnOk P w K mg base CX0 1 a.NoHistory_init a.d_NoHistory_init ["self", "found"] (spExI a.NoHistory "found") := by
  refine fund_ok0 T.F_NoHistory_init sc_NoHistory_init (fun vs H Q E h => ?_) (fun cdv A outer s H vs Q E hr h => ?_)
  · obtain ⟨b, v, rfl, h⟩ := h
    rfl
  · exact ⟨_, pss_cons (ps_expr (pe_hinit (by rfl) T.m_HallError T.hs_HallError T.hq_HallError T.hf_HallError (pa_cons (pv 0) (pa_cons pe_str pa_nil)))) (pss_one (ps_ost (pv 0) (pv 1))), exc_read rfl T.o_NoHistory T.n_NoHistory_found h⟩
theorem ok_are_members (T : Txt w K mg a) : FnOk P w K mg base CX0 2 a.are_members a.d_are_members ["thing"] (spMem K) := by
  refine fund_ok0 T.F_are_members sc_are_members (fun vs H Q E h => ?_) (fun cdv A outer s H vs Q E hr h => ?_)
  · obtain ⟨x, rfl, kn, k⟩ := h
    rfl
  · obtain ⟨x, rfl, kn, k⟩ := h
    refine ⟨_, (pss_one (ps_ret (pe_call (ok_is_whole (K := K) T) (hr.mono (by decide)) (by rfl) T.m_is_whole T.F_is_whole.kp T.B_is_whole .nil pass0 (pa_cons (pv 0) (pa_cons (pe_globE rfl T.g_LEAST_MEMBERS) (pa_cons (pe_globE rfl T.g_MOST_MEMBERS) pa_nil)))))), ?_⟩
    dsimp only [L2.start, List.map_cons, List.map_nil, List.map, List.length_cons, List.length_nil, Nat.reduceAdd, Nat.reduceSub, List.replicate, List.cons_append, List.nil_append]
    wtm_at "gs"
    exact k
theorem map_of {f : Rw → V} {ys : List V} {rs : List Rw} (hl : ys.length = rs.length) (h : ∀ (i : Nat) y, ys[i]? = some y → ∃ r, rs[i]? = some r ∧ y = f r) : ys = rs.map f := by
  refine List.ext_getElem? fun i => ?_
  cases e : ys[i]? with
  | none =>
    have : rs.length ≤ i := by
      rw [← hl]
      exact List.getElem?_eq_none_iff.mp e
    rw [List.getElem?_map, List.getElem?_eq_none this]
    rfl
  | some y =>
    obtain ⟨r, hr, rfl⟩ := h i y e
    rw [List.getElem?_map, hr]
    rfl
theorem sent_at (r : Rw) : ∃ z, atI r.vs 0 = some (.str z) ∧ decide (z = "sent") = r.sentB := by
  cases r
  · exact ⟨_, rfl, rfl⟩
  · exact ⟨_, rfl, rfl⟩
  · exact ⟨_, rfl, rfl⟩
theorem mem_at (r : Rw) : atI r.vs 1 = some (.int r.mem) := by cases r <;> rfl
theorem ok_is_history (T : Txt w K mg a) : FnOk P w K mg base CX0 4 a.is_history a.d_is_history ["members", "rows"] (spHist K) := by
  refine fund_ok0 T.F_is_history sc_is_history (fun vs H Q E h => ?_) (fun cdv A outer s H vs Q E hr h => ?_)
  · obtain ⟨M, v, rfl, hM, h⟩ := h
    rfl
  · obtain ⟨M, v, rfl, hM, h⟩ := h
    refine ⟨_, (pss_cons (ps_if (pt_not (pt_val (pe_call (ok_are_members (K := K) T) (hr.mono (by decide)) (by rfl) T.m_are_members T.F_are_members.kp T.B_are_members .nil pass0 (pa_cons (pv 0) pa_nil)))) (pss_one ps_never) pss_nil)
    (pss_cons (ps_if (PW.pt (pw_or (pt_not (pt_val (pe_callB (call_isiBs [.lst, .tup] (K := K)) (by rfl) T.b_isinstance (by decide +kernel) (pa_cons (pv 1) (pa_cons (pe_tup (pa_cons (pe_bltn (v := .ty "list") (u := .type "list") (by rfl) T.b_list (by decide +kernel) rfl) (pa_cons (pe_bltn (v := .ty "tuple") (u := .type "tuple") (by rfl) T.b_tuple (by decide +kernel) rfl) pa_nil))) pa_nil))))) (pw_or1 (pt_cmpR op_gtU (pe_callB (call_lenU (K := K)) (by rfl) T.b_len (by decide +kernel) (pa_cons (pv 1) pa_nil)) (pe_globE rfl T.g_MOST_ROWS) (nomark _))))) (pss_one (ps_ret pe_bl)) pss_nil)
    (pss_cons (ps_if (pt_not (pt_val (pe_callB (cr_allK (K := K) rfl) (by rfl) T.b_all (by decide +kernel) (pa_cons (pe_lc (own := [("row", 2)]) rfl sc_is_history.nd (pi_seqK (K := K) (pv 1)) (blkOk_by (own := [("row", 2)]) (N := ["members", "rows", "row"]) (sc := defScope s_is_history) (by decide +kernel)) (fun _ _ _ _ _ => (pg_name (i := 2) sc_is_history.nd rfl (by first | exact Or.inl rfl | exact Or.inr rfl))) (fun _ _ _ _ _ => pts_nil) (fun _ _ _ _ _ => (pe_call (ok_is_row (K := K) T) (hr.mono (by decide)) (by rfl) T.m_is_row T.F_is_row.kp T.B_is_row .nil pass0 (pa_cons (pv 0) (pa_cons (pv 2) pa_nil))))) pa_nil)))) (pss_one (ps_ret pe_bl)) pss_nil)
    (pss_one (ps_ret (pe_cmpR op_leU (pe_callB (call_lenU (K := K)) (by rfl) T.b_len (by decide +kernel) (pa_cons (pe_lc (own := [("row", 2)]) rfl sc_is_history.nd (pi_seqK (K := K) (pv 1)) (blkOk_by (own := [("row", 2)]) (N := ["members", "rows", "row"]) (sc := defScope s_is_history) (by decide +kernel)) (fun _ _ _ _ _ => (pg_name (i := 2) sc_is_history.nd rfl (by first | exact Or.inl rfl | exact Or.inr rfl))) (fun _ _ _ _ _ => pts_one (pt_cmpR (op_eqU hr.units (K := K)) (pe_ix (ix_U (K := K)) (pv 2) pe_int (fun _ _ => rfl)) pe_str (nomark _))) (fun _ _ _ _ _ => (pv 2))) pa_nil)) (pe_globE rfl T.g_MOST_SENT) (nomark _))))))), ?_⟩
    dsimp only [L2.start, List.map_cons, List.map_nil, List.map, List.length_cons, List.length_nil, Nat.reduceAdd, Nat.reduceSub, List.replicate, List.cons_append, List.nil_append]
    rcases h with ⟨hn, k⟩ | ⟨rs, hh, k⟩
    · wtm_at "gs"
      exact k _ (by wtm_at "same")
    · obtain ⟨p, xs, rfl, hsq, hx, hz, hl⟩ := hh
      have lx : xs.length ≤ 400 := by
        rw [hx.1]
        exact hl
      rcases hsq with hsq | hsq
      · wtm_at "gs"
        intro D hD
        refine' lc_rel2L (fun i H y => ∃ r, rs[i]? = some r ∧ y = .bl (r.okB M)) ?l1a hD ?l2a (fun i H H' y acc e s h => h) (fun i x hi H1 Q1 R1 s1 ha k1 => ?l3a) (fun H1 ys s1 e1 l1 e2 => ?l4a)
        case l1a => wtm_at "sq"
        case l2a => omega
        case l3a =>
          obtain ⟨r, hr, p1, rfl, hp1⟩ := hx.get hi
          have hz1 := hz r (List.mem_of_getElem? hr)
          have sH : Same H H1 := by wtm_at "same"
          have hp2 := sH _ _ hp1
          wtm_at "gs"
          exact k1 _ _ (by wtm_at "same") ⟨r, hr, rfl⟩
        case l4a =>
          have e3 : ys = rs.map fun r => V.bl (r.okB M) := map_of (l1.trans hx.1) e2
          have e4 : H1 D = some (.lst ((rs.map (Rw.okB M)).map V.bl)) := by
            rw [e1, e3, List.map_map]
            rfl
          clear e1 e2 e3
          have al : (rs.map (Rw.okB M)).all id = rs.all (Rw.okB M) := by
            rw [List.all_map]
            rfl
          wtm_at "gs"
          cases q : (rs.map (Rw.okB M)).all id
          · wtm_at "gs"
            exact cast_bl (k _ (by wtm_at "same")) (by simp only [histB, ← al, q, Bool.false_and])
          · wtm_at "gs"
            have sH : Same H H1 := by wtm_at "same"
            intro D2 hD2
            refine' lc_filL RwAt Rw.sentB RwAt.stays ?m1a (hx.mono fun _ _ => RwAt.same sH) hD2 ?m2a (fun x r hr H2 Q2 R2 s2 hr2 ha2 k2 k3 => ?m3a) (fun H2 zs s2 f1 f2 => ?m4a)
            case m1a => wtm_at "sq"
            case m2a => omega
            case m3a =>
              obtain ⟨p1, rfl, hp1⟩ := hr2
              obtain ⟨z, hz0, hzb⟩ := sent_at r
              wtm_at "gs"
              · rename_i e
                exact k2 (hzb ▸ decide_eq_true e) _ (Same.refl _)
              · rename_i e
                exact k3 (hzb ▸ decide_eq_false e) _ (Same.refl _)
            case m4a =>
              have lz : zs.length = (rs.filter Rw.sentB).length := f2.1
              wtm_at "gs"
              exact cast_bl (k _ (by wtm_at "same")) (by simp only [histB, ← al, q, Bool.true_and, Bool.false_and, ← lz]; first | rfl | (simp only [decide_eq_decide]; omega))
      · wtm_at "gs"
        intro D hD
        refine' lc_rel2T (fun i H y => ∃ r, rs[i]? = some r ∧ y = .bl (r.okB M)) ?l1b hD ?l2b (fun i H H' y acc e s h => h) (fun i x hi H1 Q1 R1 s1 ha k1 => ?l3b) (fun H1 ys s1 e1 l1 e2 => ?l4b)
        case l1b => wtm_at "sq"
        case l2b => omega
        case l3b =>
          obtain ⟨r, hr, p1, rfl, hp1⟩ := hx.get hi
          have hz1 := hz r (List.mem_of_getElem? hr)
          have sH : Same H H1 := by wtm_at "same"
          have hp2 := sH _ _ hp1
          wtm_at "gs"
          exact k1 _ _ (by wtm_at "same") ⟨r, hr, rfl⟩
        case l4b =>
          have e3 : ys = rs.map fun r => V.bl (r.okB M) := map_of (l1.trans hx.1) e2
          have e4 : H1 D = some (.lst ((rs.map (Rw.okB M)).map V.bl)) := by
            rw [e1, e3, List.map_map]
            rfl
          clear e1 e2 e3
          have al : (rs.map (Rw.okB M)).all id = rs.all (Rw.okB M) := by
            rw [List.all_map]
            rfl
          wtm_at "gs"
          cases q : (rs.map (Rw.okB M)).all id
          · wtm_at "gs"
            exact cast_bl (k _ (by wtm_at "same")) (by simp only [histB, ← al, q, Bool.false_and])
          · wtm_at "gs"
            have sH : Same H H1 := by wtm_at "same"
            intro D2 hD2
            refine' lc_filT RwAt Rw.sentB RwAt.stays ?m1b (hx.mono fun _ _ => RwAt.same sH) hD2 ?m2b (fun x r hr H2 Q2 R2 s2 hr2 ha2 k2 k3 => ?m3b) (fun H2 zs s2 f1 f2 => ?m4b)
            case m1b => wtm_at "sq"
            case m2b => omega
            case m3b =>
              obtain ⟨p1, rfl, hp1⟩ := hr2
              obtain ⟨z, hz0, hzb⟩ := sent_at r
              wtm_at "gs"
              · rename_i e
                exact k2 (hzb ▸ decide_eq_true e) _ (Same.refl _)
              · rename_i e
                exact k3 (hzb ▸ decide_eq_false e) _ (Same.refl _)
            case m4b =>
              have lz : zs.length = (rs.filter Rw.sentB).length := f2.1
              wtm_at "gs"
              exact cast_bl (k _ (by wtm_at "same")) (by simp only [histB, ← al, q, Bool.true_and, Bool.false_and, ← lz]; first | rfl | (simp only [decide_eq_decide]; omega))
set_option maxRecDepth 1000 in
theorem ok_need_history (T : Txt w K mg a) : FnOk P w K mg base (L2.CX P w) 5 a.need_history a.d_need_history ["members", "rows"] (spNeed K a) := by
  refine fund_okX T.F_need_history sc_need_history (fun vs H Q E h => ?_) (fun cdv A outer s H vs Q E hr tk hp h => ?_)
  · obtain ⟨M, v, rfl, hM, h⟩ := h
    rfl
  · obtain ⟨M, v, rfl, hM, h⟩ := h
    refine ⟨_, (pss_one (ps_if (pt_not (pt_val (pe_call (ok_is_history (K := K) T) (hr.mono (by decide)) (by rfl) T.m_is_history T.F_is_history.kp T.B_is_history .nil pass0 (pa_cons (pv 0) (pa_cons (pv 1) pa_nil))))) (pss_one (ps_raiseM rfl tk (pmk_exc T.o_NoHistory T.oi_NoHistory T.ot_NoHistory (ok_NoHistory_init (K := K) T) (hr.mono (by decide)) T.B_NoHistory_init (by rfl) T.m_NoHistory (pa_cons (pv 1) pa_nil)))) pss_nil)), ?_⟩
    clear tk hp
    dsimp only [L2.start, List.map_cons, List.map_nil, List.map, List.length_cons, List.length_nil, Nat.reduceAdd, Nat.reduceSub, List.replicate, List.cons_append, List.nil_append]
    rcases h with ⟨hn, k⟩ | ⟨rs, hh, hb, k⟩
    · rcases hn with hn | ⟨rs, hh, hb⟩
      all_goals wtm_at "gs"
      all_goals exact k _ _ (by wtm_at "rz") (by wtm_at "rz")
    · wtm_at "gs"
      exact k _ (by wtm_at "same")
end

/-! ### letters made: Counts' len, need_member, of; Letter.__init__ -/
def spNeedM (K : PySem.W.Frag) (a : Ad) : Sp := fun vs H Q E => ∃ c ns x, vs = [.ref c, x] ∧ CtAt K a H c ns ∧ Kn K H x ∧ ((isWh 0 (.int (ns.length - 1)) x = true ∧ Q .non H) ∨ (isWh 0 (.int (ns.length - 1)) x = false ∧ Rz a.NoMember x H E))
theorem atI_N {ns : List Int} {i : Nat} (h : i < ns.length) : atI (ns.map V.int) (i : Int) = some (.int (ns.getD i 0)) := by
  have := atI_D h
  rwa [Int.zero_add] at this
theorem needM_ok {K : PySem.W.Frag} {a : Ad} {H : Hp} {Q : VK} {E : XK} {vs : List V} {c : Addr} {ns : List Int} {x : V} (h1 : CtAt K a H c ns) (h2 : Kn K H x) (h3 : isWh 0 (.int (ns.length - 1)) x = true) (h : Q .non H) (he : vs = [.ref c, x] := by rfl) : spNeedM K a vs H Q E := ⟨c, ns, x, he, h1, h2, .inl ⟨h3, h⟩⟩
theorem needM_no {K : PySem.W.Frag} {a : Ad} {H : Hp} {Q : VK} {E : XK} {vs : List V} {c : Addr} {ns : List Int} {x : V} (h1 : CtAt K a H c ns) (h2 : Kn K H x) (h3 : isWh 0 (.int (ns.length - 1)) x = false) (h : ∀ H' d, Same H H' → H' d = some (.xd [("found", x)]) → E (.ref a.NoMember) (some d) H') (he : vs = [.ref c, x] := by rfl) : spNeedM K a vs H Q E := ⟨c, ns, x, he, h1, h2, .inr ⟨h3, h⟩⟩
local macro_rules | `(tactic| wtm_at "kn") => `(tactic| first | wtm_at "as" | exact trivial | ((with_reducible refine' Kn.same ?k1 ?k2); (case k1 => wtm_at "same"); (case k2 => wtm_at "as")) | fail)
set_option hygiene false in
local macro_rules | `(tactic| wtm_at "u") => `(tactic| first | ((with_reducible refine' needM_ok ?h1 ?h2 ?h3 ?_ ?he); (case he => rfl); (case h1 => wtm_at "ct"); (case h3 => wtm_at "as"); (case h2 => wtm_at "kn")) | ((with_reducible refine' needM_no ?h1 ?h2 ?h3 (fun HH ed sm hed => ?_) ?he); (case he => rfl); (case h1 => wtm_at "ct"); (case h3 => wtm_at "as"); (case h2 => wtm_at "kn")) | fail)
theorem i_lenOC {K : PySem.W.Frag} {a : Ad} {sp : Sp} {H : Hp} {Q : VK} {c : Addr} {ns : List Int} (hc : CtAt K a H c ns) (h : sp [.ref c] H (fun v H' => ∃ k : Int, v = .int k ∧ (0 ≤ k ∧ k < 2 ^ 63) ∧ Q (.int k) H') E0) : rLenO a.Counts sp E0 [.ref c] H Q := by
  obtain ⟨dx, t, h1, _⟩ := hc
  exact ⟨c, dx, _, rfl, h1, h⟩
theorem i_exI {H : Hp} {Q : VK} {k : Int} (h1 : 0 ≤ k ∧ k < 2 ^ 63) (h : Q (.int k) H) : ∃ j : Int, V.int k = .int j ∧ (0 ≤ j ∧ j < 2 ^ 63) ∧ Q (.int j) H := ⟨k, rfl, h1, h⟩
theorem i_bnd {k : Int} {R : Prop} (h1 : 0 ≤ k ∧ k < 2 ^ 63) (h : R) : (0 ≤ k ∧ k < 2 ^ 63) ∧ R := ⟨h1, h⟩
set_option hygiene false in
local macro_rules | `(tactic| wtm_at "u") => `(tactic| first | ((with_reducible refine' i_bnd ?h1 ?_); (case h1 => omega)) | ((with_reducible refine' i_exI ?h1 ?_); (case h1 => omega)) | ((with_reducible refine' i_lenOC ?h1 ?_); (case h1 => wtm_at "ct")) | fail)
def spLenC (K : PySem.W.Frag) (a : Ad) : Sp := fun vs H Q E => ∃ (c : Addr) (ns : List Int), vs = [.ref c] ∧ (CtAt K a H c ns) ∧ (Q (.int (ns.length : Nat)) H)
theorem spLenC_u1 {K : PySem.W.Frag} {a : Ad} {H : Hp} {Q : VK} {E : XK} {vs : List V} {c : Addr} {ns : List Int} (g0 : CtAt K a H c ns) (k : Q (.int (ns.length : Nat)) H) (he : vs = [.ref c] := by rfl) : spLenC K a vs H Q E := ⟨c, ns, he, g0, k⟩
set_option hygiene false in
local macro_rules | `(tactic| wtm_at "u") => `(tactic| first | ((with_reducible refine' spLenC_u1 ?g0 ?_ ?he); (case he => rfl); (case g0 => wtm_at "ct")) | fail)
def spOf (K : PySem.W.Frag) (a : Ad) : Sp := fun vs H Q E => ∃ (c : Addr) (ns : List Int) (x : V), vs = [.ref c, x] ∧ (CtAt K a H c ns) ∧ ((∃ (i : Nat), (x = .int i) ∧ (i < ns.length) ∧ (Q (.int (ns.getD i 0)) H)) ∨ ((Kn K H x) ∧ (isWh 0 (.int (ns.length - 1)) x = false) ∧ (∀ HH ed, Same H HH → HH ed = some (.xd [("found", x)]) → E (.ref a.NoMember) (some ed) HH)))
theorem spOf_u1 {K : PySem.W.Frag} {a : Ad} {H : Hp} {Q : VK} {E : XK} {vs : List V} {c : Addr} {ns : List Int} {x : V} {i : Nat} (g0 : CtAt K a H c ns) (g1 : x = .int i) (g2 : i < ns.length) (k : Q (.int (ns.getD i 0)) H) (he : vs = [.ref c, x] := by rfl) : spOf K a vs H Q E := ⟨c, ns, x, he, g0, .inl ⟨i, g1, g2, k⟩⟩
theorem spOf_u2 {K : PySem.W.Frag} {a : Ad} {H : Hp} {Q : VK} {E : XK} {vs : List V} {c : Addr} {ns : List Int} {x : V} (g0 : CtAt K a H c ns) (g1 : Kn K H x) (g2 : isWh 0 (.int (ns.length - 1)) x = false) (k : ∀ HH ed, Same H HH → HH ed = some (.xd [("found", x)]) → E (.ref a.NoMember) (some ed) HH) (he : vs = [.ref c, x] := by rfl) : spOf K a vs H Q E := ⟨c, ns, x, he, g0, .inr (⟨g1, g2, k⟩)⟩
set_option hygiene false in
local macro_rules | `(tactic| wtm_at "u") => `(tactic| first | ((with_reducible refine' spOf_u1 ?g0 ?g1 ?g2 ?_ ?he); (case he => rfl); (case g0 => wtm_at "ct"); (case g1 => exact rfl); (case g2 => wtm_at "as")) | ((with_reducible refine' spOf_u2 ?g0 ?g1 ?g2 (fun HH ed sm hed => ?_) ?he); (case he => rfl); (case g0 => wtm_at "ct"); (case g1 => wtm_at "kn"); (case g2 => wtm_at "as")) | fail)
def spLI (K : PySem.W.Frag) (a : Ad) : Sp := fun vs H Q E => ∃ (x dx c : Addr) (m : Nat) (n : Int) (z : Str) (ns : List Int), vs = [.ref x, .int m, .int n, .str z, .ref c] ∧ (H x = some (.ins a.Letter dx [])) ∧ (CtAt K a H c ns) ∧ (m < ns.length) ∧ (1 ≤ n ∧ n ≤ 30) ∧ (isWord (.str z) = true) ∧ (z.length ≤ 1000) ∧ (ns.getD m 0 = n - 1) ∧ (∀ k ∈ ns, k ≤ 30) ∧ (∀ HH, (SameBut x H HH) → (HH x = some (.ins a.Letter dx [("own_sender", .int m), ("own_number", .int n), ("own_word", .str z), ("own_causes", .ref c)])) → Q (.non) HH)
theorem spLI_u1 {K : PySem.W.Frag} {a : Ad} {H : Hp} {Q : VK} {E : XK} {vs : List V} {x dx c : Addr} {m : Nat} {n : Int} {z : Str} {ns : List Int} (g0 : H x = some (.ins a.Letter dx [])) (g1 : CtAt K a H c ns) (g2 : m < ns.length) (g3 : 1 ≤ n ∧ n ≤ 30) (g4 : isWord (.str z) = true) (g5 : z.length ≤ 1000) (g6 : ns.getD m 0 = n - 1) (g7 : ∀ k ∈ ns, k ≤ 30) (k : ∀ HH, (SameBut x H HH) → (HH x = some (.ins a.Letter dx [("own_sender", .int m), ("own_number", .int n), ("own_word", .str z), ("own_causes", .ref c)])) → Q (.non) HH) (he : vs = [.ref x, .int m, .int n, .str z, .ref c] := by rfl) : spLI K a vs H Q E := ⟨x, dx, c, m, n, z, ns, he, g0, g1, g2, g3, g4, g5, g6, g7, k⟩
set_option hygiene false in
local macro_rules | `(tactic| wtm_at "u") => `(tactic| first | ((with_reducible refine' spLI_u1 ?g0 ?g1 ?g2 ?g3 ?g4 ?g5 ?g6 ?g7 (fun HH sb hl => ?_) ?he); (case he => rfl); (case g0 => wtm_at "get"); (case g1 => wtm_at "ct"); (case g2 => wtm_at "as"); (case g3 => wtm_at "as"); (case g4 => wtm_at "as"); (case g5 => wtm_at "as"); (case g6 => wtm_at "as"); (case g7 => wtm_at "as")) | fail)
section
variable {P : Program} {w : World} {K : PySem.W.Frag} {mg : Str → Option Value} {base : Heap} {a : Ad}
theorem ok_NoMember_init (T : Txt w K mg a) : FnOk P w K mg base CX0 1 a.NoMember_init a.d_NoMember_init ["self", "found"] (spExI a.NoMember "found") := by
  refine fund_ok0 T.F_NoMember_init sc_NoMember_init (fun vs H Q E h => ?_) (fun cdv A outer s H vs Q E hr h => ?_)
  · obtain ⟨b, v, rfl, h⟩ := h
    rfl
  · exact ⟨_, pss_cons (ps_expr (pe_hinit (by rfl) T.m_HallError T.hs_HallError T.hq_HallError T.hf_HallError (pa_cons (pv 0) (pa_cons pe_str pa_nil)))) (pss_one (ps_ost (pv 0) (pv 1))), exc_read rfl T.o_NoMember T.n_NoMember_found h⟩
theorem ok_NoNumber_init (T : Txt w K mg a) : FnOk P w K mg base CX0 1 a.NoNumber_init a.d_NoNumber_init ["self", "found"] (spExI a.NoNumber "found") := by
  refine fund_ok0 T.F_NoNumber_init sc_NoNumber_init (fun vs H Q E h => ?_) (fun cdv A outer s H vs Q E hr h => ?_)
  · obtain ⟨b, v, rfl, h⟩ := h
    rfl
  · exact ⟨_, pss_cons (ps_expr (pe_hinit (by rfl) T.m_HallError T.hs_HallError T.hq_HallError T.hf_HallError (pa_cons (pv 0) (pa_cons pe_str pa_nil)))) (pss_one (ps_ost (pv 0) (pv 1))), exc_read rfl T.o_NoNumber T.n_NoNumber_found h⟩
theorem ok_NoWord_init (T : Txt w K mg a) : FnOk P w K mg base CX0 1 a.NoWord_init a.d_NoWord_init ["self", "found"] (spExI a.NoWord "found") := by
  refine fund_ok0 T.F_NoWord_init sc_NoWord_init (fun vs H Q E h => ?_) (fun cdv A outer s H vs Q E hr h => ?_)
  · obtain ⟨b, v, rfl, h⟩ := h
    rfl
  · exact ⟨_, pss_cons (ps_expr (pe_hinit (by rfl) T.m_HallError T.hs_HallError T.hq_HallError T.hf_HallError (pa_cons (pv 0) (pa_cons pe_str pa_nil)))) (pss_one (ps_ost (pv 0) (pv 1))), exc_read rfl T.o_NoWord T.n_NoWord_found h⟩
theorem ok_NoCauses_init (T : Txt w K mg a) : FnOk P w K mg base CX0 1 a.NoCauses_init a.d_NoCauses_init ["self", "found"] (spExI a.NoCauses "found") := by
  refine fund_ok0 T.F_NoCauses_init sc_NoCauses_init (fun vs H Q E h => ?_) (fun cdv A outer s H vs Q E hr h => ?_)
  · obtain ⟨b, v, rfl, h⟩ := h
    rfl
  · exact ⟨_, pss_cons (ps_expr (pe_hinit (by rfl) T.m_HallError T.hs_HallError T.hq_HallError T.hf_HallError (pa_cons (pv 0) (pa_cons pe_str pa_nil)))) (pss_one (ps_ost (pv 0) (pv 1))), exc_read rfl T.o_NoCauses T.n_NoCauses_found h⟩
theorem ok_Counts_need_member (T : Txt w K mg a) : FnOk P w K mg base (L2.CX P w) 3 a.Counts_need_member a.d_Counts_need_member ["self", "member"] (spNeedM K a) := by
  refine fund_okX T.F_Counts_need_member sc_Counts_need_member (fun vs H Q E h => ?_) (fun cdv A outer s H vs Q E hr tk hp h => ?_)
  · obtain ⟨c, ns, x, rfl, hc, kn, h⟩ := h
    rfl
  · obtain ⟨c, ns, x, rfl, hc, kn, h⟩ := h
    refine ⟨_, (pss_one (ps_if (pt_not (pt_val (pe_call (ok_is_whole (K := K) T) (hr.mono (by decide)) (by rfl) T.m_is_whole T.F_is_whole.kp T.B_is_whole .nil pass0 (pa_cons (pv 1) (pa_cons pe_int (pa_cons (pe_op op_subU (pe_callB (call_lenU (K := K)) (by rfl) T.b_len (by decide +kernel) (pa_cons (pe_fldK (K := K) (pv 0)) pa_nil)) pe_int) pa_nil)))))) (pss_one (ps_raiseM rfl tk (pmk_exc T.o_NoMember T.oi_NoMember T.ot_NoMember (ok_NoMember_init (K := K) T) (hr.mono (by decide)) T.B_NoMember_init (by rfl) T.m_NoMember (pa_cons (pv 1) pa_nil)))) pss_nil)), ?_⟩
    clear tk hp
    dsimp only [L2.start, List.map_cons, List.map_nil, List.map, List.length_cons, List.length_nil, Nat.reduceAdd, Nat.reduceSub, List.replicate, List.cons_append, List.nil_append]
    obtain ⟨dx, t, h1, h2, h3⟩ := id hc
    have ln : (ns.map V.int).length = ns.length := List.length_map ..
    rcases h with ⟨e, k⟩ | ⟨e, k⟩
    all_goals rw [← ln] at e
    all_goals wtm_at "gs"
    · exact k
    · exact k _ _ (by wtm_at "rz") (by wtm_at "rz")
theorem ok_Counts_len (T : Txt w K mg a) : FnOk P w K mg base CX0 1 a.Counts_len a.d_Counts_len ["self"] (spLenC K a) := by
  refine fund_ok0 T.F_Counts_len sc_Counts_len (fun vs H Q E h => ?_) (fun cdv A outer s H vs Q E hr h => ?_)
  · obtain ⟨c, ns, rfl, hc, k⟩ := h
    rfl
  · obtain ⟨c, ns, rfl, hc, k⟩ := h
    refine ⟨_, (pss_one (ps_ret (pe_callB (call_lenU (K := K)) (by rfl) T.b_len (by decide +kernel) (pa_cons (pe_fldK (K := K) (pv 0)) pa_nil)))), ?_⟩
    dsimp only [L2.start, List.map_cons, List.map_nil, List.map, List.length_cons, List.length_nil, Nat.reduceAdd, Nat.reduceSub, List.replicate, List.cons_append, List.nil_append]
    obtain ⟨dx, t, h1, h2, h3⟩ := id hc
    have ln : (ns.map V.int).length = ns.length := List.length_map ..
    wtm_at "gs"
    exact cast_v k (by rw [ln])
theorem ok_Counts_of (T : Txt w K mg a) : FnOk P w K mg base (L2.CX P w) 4 a.Counts_of a.d_Counts_of ["self", "member"] (spOf K a) := by
  refine fund_okX T.F_Counts_of sc_Counts_of (fun vs H Q E h => ?_) (fun cdv A outer s H vs Q E hr tk hp h => ?_)
  · obtain ⟨c, ns, x, rfl, hc, h⟩ := h
    rfl
  · obtain ⟨c, ns, x, rfl, hc, h⟩ := h
    refine ⟨_, (pss_cons (ps_expr (pe_methS (pv 0) T.c_Counts T.M_Counts_need_member (ok_Counts_need_member (K := K) T) (hr.mono (by decide)) T.B_Counts_need_member .nil (passAt tk) (pa_cons (pv 1) pa_nil)))
    (pss_one (ps_ret (pe_ix (ix_U (K := K)) (pe_fldK (K := K) (pv 0)) (pv 1) (fun _ _ => rfl))))), ?_⟩
    clear tk hp
    dsimp only [L2.start, List.map_cons, List.map_nil, List.map, List.length_cons, List.length_nil, Nat.reduceAdd, Nat.reduceSub, List.replicate, List.cons_append, List.nil_append]
    rcases h with ⟨i, rfl, hi, k⟩ | ⟨kx, hw, k⟩
    · obtain ⟨dx, t, h1, h2, h3⟩ := id hc
      have a1 := atI_N hi
      have e : isWh 0 (.int (ns.length - 1)) (.int i) = true := by
        simp [isWh]
        omega
      wtm_at "gs"
      exact k
    · obtain ⟨dx, t, h1, h2, h3⟩ := id hc
      wtm_at "gs"
      exact k _ _ (by wtm_at "rz") (by wtm_at "rz")
theorem ok_Letter_init (T : Txt w K mg a) : FnOk P w K mg base (L2.CX P w) 5 a.Letter_init a.d_Letter_init ["self", "sender", "number", "word", "causes"] (spLI K a) := by
  refine fund_okX T.F_Letter_init sc_Letter_init (fun vs H Q E h => ?_) (fun cdv A outer s H vs Q E hr tk hp h => ?_)
  · obtain ⟨x, dx, c, m, n, z, ns, rfl, hx, hc, hm, hn, hz, hz2, he, hmax, k⟩ := h
    rfl
  · obtain ⟨x, dx, c, m, n, z, ns, rfl, hx, hc, hm, hn, hz, hz2, he, hmax, k⟩ := h
    refine ⟨_, (pss_cons (ps_if (pt_not (pt_val (pe_call (ok_is_whole (K := K) T) (hr.mono (by decide)) (by rfl) T.m_is_whole T.F_is_whole.kp T.B_is_whole .nil pass0 (pa_cons (pv 1) (pa_cons pe_int (pa_cons (pe_globE rfl T.g_LAST_MEMBER) pa_nil)))))) (pss_one (ps_raiseM rfl tk (pmk_exc T.o_NoMember T.oi_NoMember T.ot_NoMember (ok_NoMember_init (K := K) T) (hr.mono (by decide)) T.B_NoMember_init (by rfl) T.m_NoMember (pa_cons (pv 1) pa_nil)))) pss_nil)
    (pss_cons (ps_if (pt_not (pt_val (pe_call (ok_is_whole (K := K) T) (hr.mono (by decide)) (by rfl) T.m_is_whole T.F_is_whole.kp T.B_is_whole .nil pass0 (pa_cons (pv 2) (pa_cons pe_int (pa_cons (pe_globE rfl T.g_MOST_LETTERS) pa_nil)))))) (pss_one (ps_raiseM rfl tk (pmk_exc T.o_NoNumber T.oi_NoNumber T.ot_NoNumber (ok_NoNumber_init (K := K) T) (hr.mono (by decide)) T.B_NoNumber_init (by rfl) T.m_NoNumber (pa_cons (pv 2) pa_nil)))) pss_nil)
    (pss_cons (ps_if (pt_not (pt_val (pe_call (ok_is_word (K := K) T) (hr.mono (by decide)) (by rfl) T.m_is_word T.F_is_word.kp T.B_is_word .nil pass0 (pa_cons (pv 3) pa_nil)))) (pss_one (ps_raiseM rfl tk (pmk_exc T.o_NoWord T.oi_NoWord T.ot_NoWord (ok_NoWord_init (K := K) T) (hr.mono (by decide)) T.B_NoWord_init (by rfl) T.m_NoWord (pa_cons (pv 3) pa_nil)))) pss_nil)
    (pss_cons (ps_if (pt_not (pt_val (pe_callB (call_isiC (K := K) T.i_Counts) (by rfl) T.b_isinstance (by decide +kernel) (pa_cons (pv 4) (pa_cons (pe_glob rfl T.m_Counts (show RelV (V.ref a.Counts) _ from rfl)) pa_nil))))) (pss_one (ps_raiseM rfl tk (pmk_exc T.o_NoCounts T.oi_NoCounts T.ot_NoCounts (ok_NoCounts_init (K := K) T) (hr.mono (by decide)) T.B_NoCounts_init (by rfl) T.m_NoCounts (pa_cons (pv 4) pa_nil)))) pss_nil)
    (pss_cons (ps_if (pt_cmpR op_geU (pv 1) (pe_callB (call_lenO T.M_Counts_len (ok_Counts_len (K := K) T) (hr.mono (by decide)) T.B_Counts_len pass0) (by rfl) T.b_len (by decide +kernel) (pa_cons (pv 4) pa_nil)) (nomark _)) (pss_one (ps_raiseM rfl tk (pmk_exc T.o_NoMember T.oi_NoMember T.ot_NoMember (ok_NoMember_init (K := K) T) (hr.mono (by decide)) T.B_NoMember_init (by rfl) T.m_NoMember (pa_cons (pv 1) pa_nil)))) pss_nil)
    (pss_cons (ps_if (PW.pt (pw_or (pt_cmpR (op_neU hr.units (K := K)) (pe_methS (pv 4) T.c_Counts T.M_Counts_of (ok_Counts_of (K := K) T) (hr.mono (by decide)) T.B_Counts_of .nil (passAt tk) (pa_cons (pv 1) pa_nil)) (pe_op op_subU (pv 2) pe_int) (nomark _)) (pw_or1 (pt_cmpR op_gtU (pe_callB (cr_maxT (K := K) rfl) (by rfl) T.b_max (by decide +kernel) (pa_cons (pe_meth0 (pv 4) T.c_Counts T.M_Counts_told (ok_Counts_told (K := K) T) (hr.mono (by decide)) T.B_Counts_told .nil pass0) pa_nil)) (pe_globE rfl T.g_MOST_LETTERS) (nomark _))))) (pss_one (ps_raiseM rfl tk (pmk_exc T.o_NoCauses T.oi_NoCauses T.ot_NoCauses (ok_NoCauses_init (K := K) T) (hr.mono (by decide)) T.B_NoCauses_init (by rfl) T.m_NoCauses (pa_cons (pv 4) pa_nil)))) pss_nil)
    (pss_cons (ps_fldK (K := K) (pv 0) (pv 1))
    (pss_cons (ps_fldK (K := K) (pv 0) (pv 2))
    (pss_cons (ps_fldK (K := K) (pv 0) (pv 3))
    (pss_one (ps_fldK (K := K) (pv 0) (pv 4)))))))))))), ?_⟩
    clear tk hp
    dsimp only [L2.start, List.map_cons, List.map_nil, List.map, List.length_cons, List.length_nil, Nat.reduceAdd, Nat.reduceSub, List.replicate, List.cons_append, List.nil_append]
    obtain ⟨cdx, ct, h1, h2, h3, h4, h5⟩ := id hc
    have ln : (ns.map V.int).length = ns.length := List.length_map ..
    have w1 : isWh 0 (.int 4) (.int m) = true := by simp [isWh]; omega
    wtm_at "gs"
    refine i_maxT hkt (by omega) (fun mx hmx _ => ?_)
    have hmx30 := hmax mx hmx
    wtm_at "gs"
    exact k _ (by wtm_at "but") (by wtm_at "get")
end

/-! ### the model, exactly: causes, words, got, told -/
set_option hygiene false in
local macro_rules | `(tactic| wtm_at "u") => `(tactic| first | ((with_reducible refine' i_dgS ?h1 ?h2 ?_); (case h1 => wtm_at "get"); (case h2 => with_reducible first | exact dg_causes | exact dg_words | exact dg_got | exact dg_told)) | ((with_reducible refine' i_lenD ?h1 ?_); (case h1 => wtm_at "get")) | fail)
set_option hygiene false in
local macro_rules | `(tactic| wtm_at "u") => `(tactic| first | with_reducible refine i_din ?_ | with_reducible refine i_dnotin ?_ | with_reducible refine i_dget ?_ | with_reducible refine i_idx ?_ | with_reducible refine i_keys ?_ | with_reducible refine i_lstRg ?_ | with_reducible refine i_rg1 ?_ | with_reducible refine i_rg1n ?_ | fail)
local macro_rules | `(tactic| wtm_at "md") => `(tactic| fail)
local macro_rules | `(tactic| wtm_at "md") => `(tactic| first | wtm_at "as" | ((with_reducible refine' MdX.same ?d1 ?d2); (case d1 => wtm_at "as"); (case d2 => wtm_at "md")) | fail)
local macro_rules | `(tactic| wtm_at "idl") => `(tactic| fail)
local macro_rules | `(tactic| wtm_at "idl") => `(tactic| first | wtm_at "as" | ((with_reducible refine' IdL.same ?d1 ?d2); (case d1 => wtm_at "as"); (case d2 => wtm_at "idl")) | fail)
local macro_rules | `(tactic| wtm_at "ida") => `(tactic| fail)
local macro_rules | `(tactic| wtm_at "ida") => `(tactic| first | wtm_at "as" | ((with_reducible refine' IdAt.same ?d1 ?d2); (case d1 => wtm_at "as"); (case d2 => wtm_at "ida")) | exact ⟨_, rfl, by wtm_at "get"⟩ | fail)
theorem slM2 (r : Rw) : ¬ (HT.sIx r.vs.length 0 (some (-2)) = 0 ∧ HT.sIx r.vs.length r.vs.length none = r.vs.length) := by
  cases r
  · show ¬ (HT.sIx 3 0 (some (-2)) = 0 ∧ HT.sIx 3 3 none = 3)
    decide
  · show ¬ (HT.sIx 4 0 (some (-2)) = 0 ∧ HT.sIx 4 4 none = 4)
    decide
  · show ¬ (HT.sIx 5 0 (some (-2)) = 0 ∧ HT.sIx 5 5 none = 5)
    decide
def spMdX : Sp := fun vs H Q _ => ∃ M : Nat, vs = [.int M] ∧ (2 ≤ M ∧ M ≤ 5) ∧ ∀ HH o a, Same H HH → MdX HH o a (Ms.new M) → a.n = 0 → (∀ b, a.F b → H b = none) → Q (.ref o) HH
def spOth (K : PySem.W.Frag) : Sp := fun vs H Q E => ∃ (o : Addr) (b : MdA) (S : Ms) (M : Nat) (i p : Int) (x : V) (z : Int × Int), vs = [.ref o, .int i, .int p, x] ∧ (MdX H o b S) ∧ (Inw M S) ∧ (0 ≤ i ∧ i ≤ (M : Int) - 1) ∧ (p = ((rowOf S.told i).length : Int) + 1) ∧ (IdAt H x z) ∧ (z ∉ rowOf S.told i) ∧ (∀ HH, (Same H HH) → Q (.bl (otherB S.lg p z)) HH)
theorem spOth_u1 {K : PySem.W.Frag} {H : Hp} {Q : VK} {E : XK} {vs : List V} {o : Addr} {b : MdA} {S : Ms} {M : Nat} {i p : Int} {x : V} {z : Int × Int} (g0 : MdX H o b S) (g1 : Inw M S) (g2 : 0 ≤ i ∧ i ≤ (M : Int) - 1) (g3 : p = ((rowOf S.told i).length : Int) + 1) (g4 : IdAt H x z) (g5 : z ∉ rowOf S.told i) (k : ∀ HH, (Same H HH) → Q (.bl (otherB S.lg p z)) HH) (he : vs = [.ref o, .int i, .int p, x] := by rfl) : spOth K vs H Q E := ⟨o, b, S, M, i, p, x, z, he, g0, g1, g2, g3, g4, g5, k⟩
set_option hygiene false in
local macro_rules | `(tactic| wtm_at "u") => `(tactic| first | ((with_reducible refine' spOth_u1 ?g0 ?g1 ?g2 ?g3 ?g4 ?g5 (fun HH sm => ?_) ?he); (case he => rfl); (case g0 => wtm_at "md"); (case g1 => wtm_at "as"); (case g2 => wtm_at "as"); (case g3 => wtm_at "as"); (case g4 => wtm_at "ida"); (case g5 => wtm_at "as")) | fail)
def spHas (K : PySem.W.Frag) : Sp := fun vs H Q E => ∃ (o q : Addr) (b : MdA) (S : Ms) (l : List Idn) (x : V) (z : Int × Int), vs = [.ref o, .ref q, x] ∧ (MdX H o b S) ∧ (IdL H q l) ∧ (IdAt H x z) ∧ (z ∈ S.keys) ∧ (S.keys.length ≤ 450) ∧ (∀ HH, (Same H HH) → Q (.bl (hasB (causesOf S.cs z) l)) HH)
theorem spHas_u1 {K : PySem.W.Frag} {H : Hp} {Q : VK} {E : XK} {vs : List V} {o q : Addr} {b : MdA} {S : Ms} {l : List Idn} {x : V} {z : Int × Int} (g0 : MdX H o b S) (g1 : IdL H q l) (g2 : IdAt H x z) (g3 : z ∈ S.keys) (g4 : S.keys.length ≤ 450) (k : ∀ HH, (Same H HH) → Q (.bl (hasB (causesOf S.cs z) l)) HH) (he : vs = [.ref o, .ref q, x] := by rfl) : spHas K vs H Q E := ⟨o, q, b, S, l, x, z, he, g0, g1, g2, g3, g4, k⟩
set_option hygiene false in
local macro_rules | `(tactic| wtm_at "u") => `(tactic| first | ((with_reducible refine' spHas_u1 ?g0 ?g1 ?g2 ?g3 ?g4 (fun HH sm => ?_) ?he); (case he => rfl); (case g0 => wtm_at "md"); (case g1 => wtm_at "idl"); (case g2 => wtm_at "ida"); (case g3 => wtm_at "as"); (case g4 => wtm_at "as")) | fail)
def spWg (K : PySem.W.Frag) : Sp := fun vs H Q E => ∃ (o : Addr) (b : MdA) (S : Ms) (M : Nat) (i : Int) (x : V) (z : Int × Int), vs = [.ref o, .int i, x] ∧ (MdX H o b S) ∧ (Inw M S) ∧ (0 ≤ i ∧ i ≤ (M : Int) - 1) ∧ (IdAt H x z) ∧ (∀ HH, (Same H HH) → Q (optV (whyGot S i z)) HH)
theorem spWg_u1 {K : PySem.W.Frag} {H : Hp} {Q : VK} {E : XK} {vs : List V} {o : Addr} {b : MdA} {S : Ms} {M : Nat} {i : Int} {x : V} {z : Int × Int} (g0 : MdX H o b S) (g1 : Inw M S) (g2 : 0 ≤ i ∧ i ≤ (M : Int) - 1) (g3 : IdAt H x z) (k : ∀ HH, (Same H HH) → Q (optV (whyGot S i z)) HH) (he : vs = [.ref o, .int i, x] := by rfl) : spWg K vs H Q E := ⟨o, b, S, M, i, x, z, he, g0, g1, g2, g3, k⟩
set_option hygiene false in
local macro_rules | `(tactic| wtm_at "u") => `(tactic| first | ((with_reducible refine' spWg_u1 ?g0 ?g1 ?g2 ?g3 (fun HH sm => ?_) ?he); (case he => rfl); (case g0 => wtm_at "md"); (case g1 => wtm_at "as"); (case g2 => wtm_at "as"); (case g3 => wtm_at "ida")) | fail)
def spWhy (K : PySem.W.Frag) : Sp := fun vs H Q E => ∃ (o p : Addr) (b : MdA) (S : Ms) (M : Nat) (r : Rw), vs = [.ref o, .ref p] ∧ (MdX H o b S) ∧ (Inw M S) ∧ (H p = some (.tup r.vs)) ∧ (r.okB M = true) ∧ (∀ HH, (Same H HH) → Q (optV (S.why r)) HH)
theorem spWhy_u1 {K : PySem.W.Frag} {H : Hp} {Q : VK} {E : XK} {vs : List V} {o p : Addr} {b : MdA} {S : Ms} {M : Nat} {r : Rw} (g0 : MdX H o b S) (g1 : Inw M S) (g2 : H p = some (.tup r.vs)) (g3 : r.okB M = true) (k : ∀ HH, (Same H HH) → Q (optV (S.why r)) HH) (he : vs = [.ref o, .ref p] := by rfl) : spWhy K vs H Q E := ⟨o, p, b, S, M, r, he, g0, g1, g2, g3, k⟩
set_option hygiene false in
local macro_rules | `(tactic| wtm_at "u") => `(tactic| first | ((with_reducible refine' spWhy_u1 ?g0 ?g1 ?g2 ?g3 (fun HH sm => ?_) ?he); (case he => rfl); (case g0 => wtm_at "md"); (case g1 => wtm_at "as"); (case g2 => wtm_at "get"); (case g3 => wtm_at "as")) | fail)
def spGo (K : PySem.W.Frag) : Sp := fun vs H Q E => ∃ (o p : Addr) (b : MdA) (S : Ms) (M : Nat) (r : Rw), vs = [.ref o, .ref p] ∧ (MdX H o b S) ∧ (Inw M S) ∧ (H p = some (.tup r.vs)) ∧ (r.okB M = true) ∧ (b.n + 2 ≤ 450) ∧ (∀ HH b', (MdX HH o b' (S.go r)) → (b'.n ≤ b.n + 2) → (∀ c, b'.F c → b.F c ∨ H c = none) → (∀ c u, (¬ b.F c ∨ ∃ xs, u = HO.tup xs) → H c = some u → HH c = some u) → Q (.non) HH)
theorem spGo_u1 {K : PySem.W.Frag} {H : Hp} {Q : VK} {E : XK} {vs : List V} {o p : Addr} {b : MdA} {S : Ms} {M : Nat} {r : Rw} (g0 : MdX H o b S) (g1 : Inw M S) (g2 : H p = some (.tup r.vs)) (g3 : r.okB M = true) (g4 : b.n + 2 ≤ 450) (k : ∀ HH b', (MdX HH o b' (S.go r)) → (b'.n ≤ b.n + 2) → (∀ c, b'.F c → b.F c ∨ H c = none) → (∀ c u, (¬ b.F c ∨ ∃ xs, u = HO.tup xs) → H c = some u → HH c = some u) → Q (.non) HH) (he : vs = [.ref o, .ref p] := by rfl) : spGo K vs H Q E := ⟨o, p, b, S, M, r, he, g0, g1, g2, g3, g4, k⟩
set_option hygiene false in
local macro_rules | `(tactic| wtm_at "u") => `(tactic| first | ((with_reducible refine' spGo_u1 ?g0 ?g1 ?g2 ?g3 ?g4 (fun HH b' hmd hn' hF hst => ?_) ?he); (case he => rfl); (case g0 => wtm_at "md"); (case g1 => wtm_at "as"); (case g2 => wtm_at "get"); (case g3 => wtm_at "as"); (case g4 => (first|assumption|omega))) | fail)
section
variable {P : Program} {w : World} {K : PySem.W.Frag} {mg : Str → Option Value} {base : Heap} {a : Ad}
theorem ok__law_model (T : Txt w K mg a) : FnOk P w K mg base CX0 1 a._law_model a.d__law_model ["members"] (spMdX) := by
  refine fund_ok0 T.F__law_model sc__law_model (fun vs H Q E h => ?_) (fun cdv A outer s H vs Q E hr h => ?_)
  · obtain ⟨M, rfl, hM, k⟩ := h
    rfl
  · obtain ⟨M, rfl, hM, k⟩ := h
    refine ⟨_, (pss_cons (ps_setLc (i := 1) (own := [("k", 2)]) rfl sc__law_model.nd rfl rfl (sw_true rfl rfl rfl (by decide +kernel)) (pi_range1 (by rfl) T.b_range (pa_cons (pv 0) pa_nil)) (blkOk_by (own := [("k", 2)]) (N := ["members", "got", "k", "later"]) (sc := defScope s__law_model) (by decide +kernel)) (fun _ _ _ _ _ => (pg_name (i := 2) sc__law_model.nd rfl (by first | exact Or.inl rfl | exact Or.inr rfl))) (fun _ _ _ _ _ => pts_nil) (fun _ _ _ _ _ => (pe_lst pa_nil)))
    (pss_cons (ps_setLc (i := 3) (own := [("k", 2)]) rfl sc__law_model.nd rfl rfl (sw_true rfl rfl rfl (by decide +kernel)) (pi_range1 (by rfl) T.b_range (pa_cons (pv 0) pa_nil)) (blkOk_by (own := [("k", 2)]) (N := ["members", "got", "k", "later"]) (sc := defScope s__law_model) (by decide +kernel)) (fun _ _ _ _ _ => (pg_name (i := 2) sc__law_model.nd rfl (by first | exact Or.inl rfl | exact Or.inr rfl))) (fun _ _ _ _ _ => pts_nil) (fun _ _ _ _ _ => (pe_lst pa_nil)))
    (pss_one (ps_ret (pe_disp (pps_cons pe_str pe_dnewT (pps_cons pe_str pe_dnewT (pps_cons pe_str (pv 1) (pps_cons pe_str (pv 3) pps_nil)))) (by rfl) (by rfl) (fun z => by cases z) (by decide)))))), ?_⟩
    dsimp only [L2.start, List.map_cons, List.map_nil, List.map, List.length_cons, List.length_nil, Nat.reduceAdd, Nat.reduceSub, List.replicate, List.cons_append, List.nil_append]
    have eM : ((M : Int)).toNat = M := Int.toNat_natCast M
    wtm_at "gs"
    rw [eM]
    intro D hD
    refine' lc_newL (xs := []) (n := M) ?l1a hD (fun i hi H1 Q1 R1 s1 k1 => ?l2a) (fun H1 gq s1 e1 lg hgq n1 => ?l3a)
    case l1a => omega
    case l2a =>
      wtm_at "gs"
      exact k1 _ _ hq sa hg
    case l3a =>
      wtm_at "gs"
      rw [eM]
      intro D2 hD2
      refine' lc_newL (xs := []) (n := M) ?l1b hD2 (fun i hi H3 Q3 R3 s3 k3 => ?l2b) (fun H3 tq s3 e3 lt htq n3 => ?l3b)
      case l1b => omega
      case l2b =>
        wtm_at "gs"
        exact k3 _ _ hq sa hg
      case l3b =>
        wtm_at "gs"
        rename_i p0 hp0 pc hpc Hc sac hgc
        have em : mergeK [] [((.inr "causes" : Key), V.ref pc), (.inr "words", V.ref q), (.inr "got", V.ref D), (.inr "told", V.ref D2)] = [(.inr "causes", V.ref pc), (.inr "words", V.ref q), (.inr "got", V.ref D), (.inr "told", V.ref D2)] := rfl
        refine ⟨by wtm_at "get", [(.inr "causes", .ref pc), (.inr "words", .ref q), (.inr "got", .ref D), (.inr "told", .ref D2)], rfl, Nat.le_of_ble_eq_true rfl, ?_⟩
        rw [em]
        have ne0 : pc ≠ p0 := fun c => by subst c; rw [upd_same] at hpc; cases hpc
        have n0 : H p0 = none := none_same (s1.trans s3) hp0
        have h3c : H3 pc = none := by rw [upd_ne ne0] at hpc; exact hpc
        have nc : H pc = none := none_same (s1.trans s3) h3c
        have h3q : H3 q = none := by
          have e := none_same sac hq
          rw [upd_ne (fun c => by subst c; rw [upd_same] at e; cases e)] at e
          exact e
        have nq : H q = none := none_same (s1.trans s3) h3q
        have nD2 : H D2 = none := none_same s1 hD2
        have neq : pc ≠ q := fun c => by subst c; rw [hgc] at hq; cases hq
        generalize hE : upd HN p0 _ = HE
        have eo : HE p0 = some (.dK [(.inr "causes", V.ref pc), (.inr "words", V.ref q), (.inr "got", V.ref D), (.inr "told", V.ref D2)]) := by rw [← hE]; exact upd_same
        have nq0 : q ≠ p0 := fun c => by
          rw [c, sac _ _ (upd_same (H := H3))] at hq
          cases hq
        have sE : Same H3 HE := fun b o e => by
          have nb := ne_of_none e hp0
          rw [← hE, upd_ne nb]
          exact sa _ _ (sac _ _ (by rw [upd_ne nb]; exact e))
        have ec : HE pc = some (.dT []) := by rw [← hE, upd_ne ne0]; exact sa _ _ hgc
        have eq : HE q = some (.dT []) := by rw [← hE, upd_ne nq0]; exact hg
        clear hE
        have eD : HE D = some (.lst (gq.map V.ref)) := sE _ _ (s3 _ _ e1)
        have eD2 : HE D2 = some (.lst (tq.map V.ref)) := sE _ _ e3
        have iz : ∀ {q}, HE q = some (.lst []) → IdL HE q [] := fun e => ⟨[], e, All2.nil⟩
        refine k HE p0 { F := fun b => HE b ≠ none ∧ H b = none, n := 0, c := pc, wd := q, g := D, t := D2, ck := [], wk := [], gq := gq, tq := tq } ((s1.trans s3).trans sE) ?_ rfl (fun b f => f.2)
        have eg : ∀ p ∈ gq, HE p = some (.lst []) := fun p hp => sE _ _ (s3 _ _ (hgq p hp).2.2)
        have et : ∀ p ∈ tq, HE p = some (.lst []) := fun p hp => sE _ _ (htq p hp).2.2
        exact {
          ho := eo
          hc := ec
          hw := eq
          hg := eD
          ht := eD2
          cw := neq
          fo := ⟨by rw [eo]; simp, n0⟩
          fc := ⟨by rw [ec]; simp, nc⟩
          fw := ⟨by rw [eq]; simp, nq⟩
          fg := ⟨by rw [eD]; simp, hD⟩
          ft := ⟨by rw [eD2]; simp, nD2⟩
          fd := fun b f => f.1
          kc := All2.nil
          kg := all2_rep lg fun p hp => iz (eg p hp)
          kt := all2_rep lt fun p hp => iz (et p hp)
          nd := List.nodup_append.mpr ⟨n1, n3, fun p hp r hr c => by
            subst c
            have := (htq p hr).1
            rw [(hgq p hp).2.2] at this
            cases this⟩
          fq := fun p hp => by
            rcases List.mem_append.mp hp with hp | hp
            · exact ⟨by rw [eg p hp]; simp, (hgq p hp).1⟩
            · exact ⟨by rw [et p hp]; simp, none_same s1 (htq p hp).1⟩
          gn := fun (c : gq = []) => by rw [c] at lg; simp only [List.length_nil] at lg; omega
          tn := fun (c : tq = []) => by rw [c] at lt; simp only [List.length_nil] at lt; omega
          kw := Nat.le_refl _
          kl := Nat.le_refl _
          nl := fun l hl => by
            rcases List.mem_append.mp hl with hl | hl
            · rw [List.eq_of_mem_replicate hl]
              exact Nat.le_refl _
            · rw [List.eq_of_mem_replicate hl]
              exact Nat.le_refl _
          nn := Nat.zero_le _ }
theorem ok__law_otherwise (T : Txt w K mg a) : FnOk P w K mg base CX0 1 a._law_otherwise a.d__law_otherwise ["model", "member", "place", "ident"] (spOth K) := by
  refine fund_ok0 T.F__law_otherwise sc__law_otherwise (fun vs H Q E h => ?_) (fun cdv A outer s H vs Q E hr h => ?_)
  · obtain ⟨o, b, S, M, i, p, x, z, rfl, hm, hI, hi, h1, hx, hz, k⟩ := h
    rfl
  · obtain ⟨o, b, S, M, i, p, x, z, rfl, hm, hI, hi, h1, hx, hz, k⟩ := h
    refine ⟨_, (pss_cons (ps_for PassesOwn.never rfl (pi_range1 (by rfl) T.b_range (pa_cons (pe_callB (call_lenU (K := K)) (by rfl) T.b_len (by decide +kernel) (pa_cons (pe_dget (unit1 hr) (pv 0) pe_str (fun _ _ => rfl)) pa_nil)) pa_nil)) (pg_name (i := 4) sc__law_otherwise.nd rfl (by first | exact Or.inl rfl | exact Or.inr rfl))
    (pss_cons (ps_set (i := 5) sc__law_otherwise.nd rfl (by first | exact Or.inl rfl | exact Or.inr rfl) (pe_ix (ix_U (K := K)) (pe_dget (unit1 hr) (pv 0) pe_str (fun _ _ => rfl)) (pv 4) (fun _ _ => rfl)))
    (pss_cons (ps_if (PW.pt (pw_and (pt_cmpR (op_neU hr.units (K := K)) (pv 4) (pv 1) (nomark _)) (pw_and (pt_cmpR op_leU (pv 2) (pe_callB (call_lenU (K := K)) (by rfl) T.b_len (by decide +kernel) (pa_cons (pv 5) pa_nil)) (nomark _)) (pw_and1 (pt_cmpR (op_neU hr.units (K := K)) (pe_ix (ix_U (K := K)) (pv 5) (pe_op op_subU (pv 2) pe_int) (fun _ _ => rfl)) (pv 3) (nomark _)))))) (pss_one (ps_ret pe_bl)) pss_nil)
    (pss_one (ps_if (PW.pt (pw_and (pt_cmpR (op_neU hr.units (K := K)) (pv 4) (pv 1) (nomark _)) (pw_and (pt_cmpR (op_inDK (K := K) (unit65 hr)) (pv 3) (pv 5) (by rfl)) (pw_and1 (pt_cmpR (op_neU hr.units (K := K)) (pe_idxK (K := K) (pe_bm PySem.F.plainAttrs_list PySem.F.slot_list_index PySem.F.type_list_index (mt_indexD (unit65 hr)) (pv 5) (pa_cons (pv 3) pa_nil))) (pe_op op_subU (pv 2) pe_int) (nomark _)))))) (pss_one (ps_ret pe_bl)) pss_nil)))))
    (pss_one (ps_ret pe_bl))), ?_⟩
    dsimp only [L2.start, List.map_cons, List.map_nil, List.map, List.length_cons, List.length_nil, Nat.reduceAdd, Nat.reduceSub, List.replicate, List.cons_append, List.nil_append]
    obtain ⟨ho, hc, hw, hg, ht, cw, fo, fc, fw, fg, ft, fd, kc, kg, kt, nd, fq, gn, tn, kw, kl, nl, nn⟩ := id hm
    have eM : (((b.tq.map V.ref).length : Int)).toNat = S.told.length := by rw [Int.toNat_natCast, List.length_map, kt.1]
    have lM : (b.tq.map V.ref).length ≤ 5 := by rw [List.length_map, kt.1, hI.ltold]; exact hI.m5
    wtm_at "gs"
    rw [eM]
    have p1 : 1 ≤ p := by omega
    refine' for_range (lo := 0) (n := S.told.length) (fun j σ H' => (∃ v4 v5, σ = [some (.ref o), some (.int i), some (.int p), some x, v4, v5]) ∧ Same H H' ∧ ∀ (k : Nat) l, k < j → (k : Int) ≠ i → S.told[k]? = some l → p ≤ l.length → l[(p - 1).toNat]? = some z) ⟨⟨_, _, rfl⟩, Same.refl _, fun k l h => absurd h (Nat.not_lt_zero k)⟩ (fun j σ H' hj hJ => ?c1s) (fun σ H' hJ => ?c1d)
    case c1d =>
      obtain ⟨⟨v4, v5, rfl⟩, s1, hA⟩ := hJ
      wtm_at "gs"
      refine cast_bl (k _ s1) (other_false hI hi h1 hz fun k l n e => hA k l ?_ n e)
      exact (List.getElem?_eq_some_iff.mp e).1
    case c1s =>
      obtain ⟨⟨v4, v5, rfl⟩, s1, hA⟩ := hJ
      simp only [Int.zero_add]
      have hjq : j < b.tq.length := by rw [kt.1]; exact hj
      obtain ⟨l, hl, xs, hq, ha⟩ := kt.get (List.getElem?_eq_getElem hjq)
      have hlm := List.mem_of_getElem? hl
      have hy : atI (b.tq.map V.ref) (j : Nat) = some (.ref b.tq[j]) := at_ref (Int.natCast_nonneg _) (List.getElem?_eq_getElem hjq)
      generalize b.tq[j] = q at *
      have hq1 := s1 _ _ hq
      have ht1 := s1 _ _ ht
      have ha1 : All2 (IdAt H') xs l := ha.mono fun _ _ => IdAt.same s1
      obtain ⟨qx, rfl, hx1⟩ := hx.same s1
      have lx : xs.length = l.length := ha.1
      have hN : ∀ (k : Nat) l', k < j + 1 → (j = k → (k : Int) ≠ i → p ≤ l.length → l[(p - 1).toNat]? = some z) → (k : Int) ≠ i → S.told[k]? = some l' → p ≤ l'.length → l'[(p - 1).toNat]? = some z := fun k l' hk hh n e => by
        by_cases c : j = k
        · subst c
          rw [hl] at e
          cases e
          exact hh rfl n
        · exact hA k l' (by omega) n e
      wtm_at "gs"
      · exact ⟨⟨_, _, rfl⟩, s1, fun k l' hk n e => hN k l' hk (fun c n2 => by exfalso; omega) n e⟩
      · obtain ⟨y2, hy2, e2, ey⟩ := atI_in (xs := xs) (r := p - 1) (by omega) (by omega)
        obtain ⟨z2, hz2, q2, rfl, hq2⟩ := ha1.get e2
        refine i_ixL (by wtm_at "sq") ey ?_
        wtm_at "gs"
        have tr : p ≤ l.length := by omega
        have no : (z2.fst == z.fst && z2.snd == z.snd) = false → otherB S.lg p z = true := fun e => other_true1 hI hlm p1 tr (fun e3 => by
          rw [hz2] at e3
          cases e3
          simp at e)
        have fin : Q (.bl (otherB S.lg p z)) H' := k _ s1
        have go : z2 = z → ∀ (k : Nat) (l' : List Idn), k < j + 1 → (k : Int) ≠ i → S.told[k]? = some l' → p ≤ l'.length → l'[(p - 1).toNat]? = some z := fun e3 k l' hk n e => hN k l' hk (fun _ _ _ => e3 ▸ hz2) n e
        refine i_boo (fun e5 => ?_) (fun e5 => cast_bl fin (no (by rw [e5]; rfl)))
        refine i_boo (fun e6 => ?_) (fun e6 => cast_bl fin (no (by rw [Bool.and_true] at e6; rw [e6, Bool.and_false])))
        have ez : z2 = z := Prod.ext (beq_iff_eq.mp e5) (by rw [Bool.and_true] at e6; exact beq_iff_eq.mp e6)
        wtm_at "gs"
        refine i_inIds (by wtm_at "sq") ha1 ⟨qx, rfl, hx1⟩ ?_
        wtm_at "gs"
        · refine i_idxX (by wtm_at "sq") ha1 ⟨qx, rfl, hx1⟩ (by assumption) (fun n hn => ?_)
          wtm_at "gs"
          · exact ⟨⟨_, _, rfl⟩, s1, go ez⟩
          · exact cast_bl fin (other_true2 hI hi h1 hz hlm hn (by assumption))
        all_goals exact ⟨⟨_, _, rfl⟩, s1, go ez⟩
      · have fin : Q (.bl (otherB S.lg p z)) H' := k _ s1
        have go : ∀ (k : Nat) (l' : List Idn), k < j + 1 → (k : Int) ≠ i → S.told[k]? = some l' → p ≤ l'.length → l'[(p - 1).toNat]? = some z := fun k l' hk n e => hN k l' hk (fun _ _ c => by exfalso; omega) n e
        refine i_inIds (by wtm_at "sq") ha1 ⟨qx, rfl, hx1⟩ ?_
        wtm_at "gs"
        · refine i_idxX (by wtm_at "sq") ha1 ⟨qx, rfl, hx1⟩ (by assumption) (fun n hn => ?_)
          wtm_at "gs"
          · exact ⟨⟨_, _, rfl⟩, s1, go⟩
          · exact cast_bl fin (other_true2 hI hi h1 hz hlm hn (by assumption))
        all_goals exact ⟨⟨_, _, rfl⟩, s1, go⟩
theorem ok__law_has (T : Txt w K mg a) : FnOk P w K mg base CX0 1 a._law_has a.d__law_has ["model", "rows", "ident"] (spHas K) := by
  refine fund_ok0 T.F__law_has sc__law_has (fun vs H Q E h => ?_) (fun cdv A outer s H vs Q E hr h => ?_)
  · obtain ⟨o, q, b, S, l, x, z, rfl, hm, hv, hx, hz, hk, k⟩ := h
    rfl
  · obtain ⟨o, q, b, S, l, x, z, rfl, hm, hv, hx, hz, hk, k⟩ := h
    refine ⟨_, (pss_cons (ps_for PassesOwn.never rfl (pi_listK (K := K) (pe_dget (unit1 hr) (pe_dget (unit1 hr) (pv 0) pe_str (fun _ _ => rfl)) (pv 2) (fun _ _ => rfl))) (pg_name (i := 3) sc__law_has.nd rfl (by first | exact Or.inl rfl | exact Or.inr rfl))
    (pss_one (ps_if (pt_cmpR (op_notInDK (K := K) (unit65 hr)) (pv 3) (pv 1) (by rfl)) (pss_one (ps_ret pe_bl)) pss_nil)))
    (pss_one (ps_ret pe_bl))), ?_⟩
    dsimp only [L2.start, List.map_cons, List.map_nil, List.map, List.length_cons, List.length_nil, Nat.reduceAdd, Nat.reduceSub, List.replicate, List.cons_append, List.nil_append]
    obtain ⟨ho, hc, hw, hg, ht, cw, fo, fc, fw, fg, ft, fd, kc, kg, kt, nd, fq, gn, tn, kw, kl, nl, nn⟩ := id hm
    obtain ⟨qc, hvy, xc, hqc, hac⟩ := hm.causes hz
    obtain ⟨xs, hq, ha⟩ := hv
    obtain ⟨x, rfl, hxp⟩ := hx
    wtm_at "gs"
    refine i_dgT hc (k := idK z) hxp hvy ?_
    wtm_at "gs"
    refine' for_list (K := K) (a := qc) (xs := xc) (fun j σ H' => (∃ v3, σ = [some (.ref o), some (.ref q), some (.ref x), v3]) ∧ Same H H' ∧ ∀ y ∈ (causesOf S.cs z).take j, y ∈ l) ⟨⟨_, rfl⟩, Same.refl _, fun _ h => nomatch h⟩ (fun j σ H' hj hJ => ?c1l) (fun j y σ H' hj hJ => ?c1s) (fun σ H' hJ => ?c1d)
    case c1l => exact .of (hJ.2.1 _ _ hqc)
    case c1s =>
      obtain ⟨⟨v3, rfl⟩, s1, hA⟩ := hJ
      obtain ⟨z2, e2, hz2⟩ := hac.get hj
      wtm_at "gs"
      refine i_ninIds (by wtm_at "sq") (ha.mono fun _ _ => IdAt.same s1) (hz2.same s1) ?_
      wtm_at "gs"
      · rename_i n
        refine ⟨⟨_, rfl⟩, s1, fun y hy => ?_⟩
        rw [List.take_add_one, e2] at hy
        rcases List.mem_append.mp hy with hy | hy
        · exact hA y hy
        · simp only [Option.toList_some, List.mem_singleton] at hy
          rw [hy]
          exact n
      · rename_i n
        refine cast_bl (k _ s1) ?_
        exact Bool.eq_false_iff.mpr fun q => n (of_decide_eq_true (List.all_eq_true.mp q z2 (List.mem_of_getElem? e2)))
    case c1d =>
      obtain ⟨⟨v3, rfl⟩, s1, hA⟩ := hJ
      wtm_at "gs"
      rw [hac.1, List.take_length] at hA
      refine cast_bl (k _ s1) ?_
      exact List.all_eq_true.mpr fun y hy => decide_eq_true (hA y hy)
theorem ok__law_why_got (T : Txt w K mg a) : FnOk P w K mg base CX0 2 a._law_why_got a.d__law_why_got ["model", "member", "ident"] (spWg K) := by
  refine fund_ok0 T.F__law_why_got sc__law_why_got (fun vs H Q E h => ?_) (fun cdv A outer s H vs Q E hr h => ?_)
  · obtain ⟨o, b, S, M, i, x, z, rfl, hm, hI, hi, hx, k⟩ := h
    rfl
  · obtain ⟨o, b, S, M, i, x, z, rfl, hm, hI, hi, hx, k⟩ := h
    refine ⟨_, (pss_cons (ps_if (pt_cmpR (op_eqU hr.units (K := K)) (pe_ix (ix_U (K := K)) (pv 2) pe_int (fun _ _ => rfl)) (pv 1) (nomark _)) (pss_one (ps_ret pe_str)) pss_nil)
    (pss_cons (ps_if (pt_cmp (pc_dnotin (unit1 hr) (pv 2) (pe_dget (unit1 hr) (pv 0) pe_str (fun _ _ => rfl)))) (pss_one (ps_ret pe_str)) pss_nil)
    (pss_cons (ps_set (i := 3) sc__law_why_got.nd rfl (by first | exact Or.inl rfl | exact Or.inr rfl) (pe_ix (ix_U (K := K)) (pe_dget (unit1 hr) (pv 0) pe_str (fun _ _ => rfl)) (pv 1) (fun _ _ => rfl)))
    (pss_cons (ps_if (pt_cmpR (op_inDK (K := K) (unit65 hr)) (pv 2) (pv 3) (by rfl)) (pss_one (ps_ret pe_str)) pss_nil)
    (pss_one (ps_ret (pe_ifExp (pt_val (pe_call (ok__law_has (K := K) T) (hr.mono (by decide)) (by rfl) T.m__law_has T.F__law_has.kp T.B__law_has .nil pass0 (pa_cons (pv 0) (pa_cons (pv 3) (pa_cons (pv 2) pa_nil))))) pe_non pe_str))))))), ?_⟩
    dsimp only [L2.start, List.map_cons, List.map_nil, List.map, List.length_cons, List.length_nil, Nat.reduceAdd, Nat.reduceSub, List.replicate, List.cons_append, List.nil_append]
    obtain ⟨ho, hc, hw, hg, ht, cw, fo, fc, fw, fg, ft, fd, kc, kg, kt, nd, fq, gn, tn, kw, kl, nl, nn⟩ := id hm
    obtain ⟨qx, rfl, hxp⟩ := id hx
    obtain ⟨q, hqi, hy, ⟨xs, hq, ha⟩, hqm⟩ := row_at kg hI.lgot hi
    have hiq : IdL H q (rowOf S.got i) := ⟨xs, hq, ha⟩
    have hk : S.keys.length ≤ 450 := Nat.le_trans kl nn
    wtm_at "gs"
    · exact cast_q (k _ (Same.refl _)) (by simp [optV, whyGot, *])
    refine i_dgt hc (k := idK z) hxp ?_
    rw [val_some (R := fun _ => True) hm.keys]
    wtm_at "gs"
    rotate_left
    · exact cast_q (k _ (Same.refl _)) (by simp [optV, whyGot, *])
    refine i_inIds (by wtm_at "sq") ha ⟨qx, rfl, hxp⟩ ?_
    wtm_at "gs"
    · exact cast_q (k _ (Same.refl _)) (by simp [optV, whyGot, *])
    refine i_boo (fun e => ?_) (fun e => ?_)
    all_goals wtm_at "gs"
    all_goals exact cast_q (k _ sm) (by simp [optV, whyGot, *])
theorem ok__law_why (T : Txt w K mg a) : FnOk P w K mg base CX0 3 a._law_why a.d__law_why ["model", "row"] (spWhy K) := by
  refine fund_ok0 T.F__law_why sc__law_why (fun vs H Q E h => ?_) (fun cdv A outer s H vs Q E hr h => ?_)
  · obtain ⟨o, p, b, S, M, r, rfl, hm, hI, hp, hok, k⟩ := h
    rfl
  · obtain ⟨o, p, b, S, M, r, rfl, hm, hI, hp, hok, k⟩ := h
    refine ⟨_, (pss_cons (ps_set (i := 2) sc__law_why.nd rfl (by first | exact Or.inl rfl | exact Or.inr rfl) (pe_ix (ix_U (K := K)) (pv 1) pe_int (fun _ _ => rfl)))
    (pss_cons (ps_set (i := 3) sc__law_why.nd rfl (by first | exact Or.inl rfl | exact Or.inr rfl) (pe_slice (sl_U (K := K)) (pv 1) (po_some (pe_un un_neg pe_int)) po_none))
    (pss_cons (ps_if (pt_cmpR (op_eqU hr.units (K := K)) (pe_ix (ix_U (K := K)) (pv 1) pe_int (fun _ _ => rfl)) pe_str (nomark _)) (pss_one (ps_ret pe_non)) pss_nil)
    (pss_cons (ps_if (pt_cmpR (op_eqU hr.units (K := K)) (pe_ix (ix_U (K := K)) (pv 1) pe_int (fun _ _ => rfl)) pe_str (nomark _)) (pss_one (ps_ret (pe_call (ok__law_why_got (K := K) T) (hr.mono (by decide)) (by rfl) T.m__law_why_got T.F__law_why_got.kp T.B__law_why_got .nil pass0 (pa_cons (pv 0) (pa_cons (pv 2) (pa_cons (pv 3) pa_nil)))))) pss_nil)
    (pss_cons (ps_set (i := 4) sc__law_why.nd rfl (by first | exact Or.inl rfl | exact Or.inr rfl) (pe_ix (ix_U (K := K)) (pe_dget (unit1 hr) (pv 0) pe_str (fun _ _ => rfl)) (pv 2) (fun _ _ => rfl)))
    (pss_cons (ps_if (pt_cmpR (op_neU hr.units (K := K)) (pe_ix (ix_U (K := K)) (pv 1) pe_int (fun _ _ => rfl)) (pe_op (op_addU (K := K)) (pe_callB (call_lenU (K := K)) (by rfl) T.b_len (by decide +kernel) (pa_cons (pv 4) pa_nil)) pe_int) (nomark _)) (pss_one (ps_ret pe_str)) pss_nil)
    (pss_cons (ps_if (pt_cmpR (op_notInDK (K := K) (unit65 hr)) (pv 3) (pe_ix (ix_U (K := K)) (pe_dget (unit1 hr) (pv 0) pe_str (fun _ _ => rfl)) (pv 2) (fun _ _ => rfl)) (by rfl)) (pss_one (ps_ret pe_str)) pss_nil)
    (pss_cons (ps_if (pt_cmpR (op_inDK (K := K) (unit65 hr)) (pv 3) (pv 4) (by rfl)) (pss_one (ps_ret pe_str)) pss_nil)
    (pss_cons (ps_if (pt_val (pe_call (ok__law_otherwise (K := K) T) (hr.mono (by decide)) (by rfl) T.m__law_otherwise T.F__law_otherwise.kp T.B__law_otherwise .nil pass0 (pa_cons (pv 0) (pa_cons (pv 2) (pa_cons (pe_ix (ix_U (K := K)) (pv 1) pe_int (fun _ _ => rfl)) (pa_cons (pv 3) pa_nil)))))) (pss_one (ps_ret pe_str)) pss_nil)
    (pss_one (ps_ret (pe_ifExp (pt_val (pe_call (ok__law_has (K := K) T) (hr.mono (by decide)) (by rfl) T.m__law_has T.F__law_has.kp T.B__law_has .nil pass0 (pa_cons (pv 0) (pa_cons (pv 4) (pa_cons (pv 3) pa_nil))))) pe_non pe_str)))))))))))), ?_⟩
    dsimp only [L2.start, List.map_cons, List.map_nil, List.map, List.length_cons, List.length_nil, Nat.reduceAdd, Nat.reduceSub, List.replicate, List.cons_append, List.nil_append]
    obtain ⟨ho, hc, hw, hg, ht, cw, fo, fc, fw, fg, ft, fd, kc, kg, kt, nd, fq, gn, tn, kw, kl, nl, nn⟩ := id hm
    have hmem0 := Rw.ok_mem hok
    have hk : S.keys.length ≤ 450 := Nat.le_trans kl nn
    cases r with
    | sent i z =>
      wtm_at "gs"
      refine i_slTn (by wtm_at "sq") (slM2 _) (fun q hq => ?_)
      wtm_at "absn"
      wtm_at "gs"
      exact k _ (by wtm_at "same")
    | got i s n =>
      have hmem : 0 ≤ i ∧ i ≤ (M : Int) - 1 := hmem0
      wtm_at "gs"
      refine i_slTn (by wtm_at "sq") (slM2 _) (fun q hq => ?_)
      wtm_at "absn"
      have hid : IdAt HN (.ref q) (s, n) := ⟨q, rfl, hg⟩
      wtm_at "gs"
      exact k _ (by wtm_at "same")
    | told i pl s n =>
      have hmem : 0 ≤ i ∧ i ≤ (M : Int) - 1 := hmem0
      obtain ⟨qt, hqti, hyt, ⟨xt, hqt, hat⟩, hqtm⟩ := row_at kt hI.ltold hmem
      obtain ⟨qg, hqgi, hyg, ⟨xg, hqg, hag⟩, hqgm⟩ := row_at kg hI.lgot hmem
      have hL : IdL H qt (rowOf S.told i) := ⟨xt, hqt, hat⟩
      have lt : xt.length = (rowOf S.told i).length := hat.1
      wtm_at "gs"
      refine i_slTn (by wtm_at "sq") (slM2 _) (fun q hq => ?_)
      wtm_at "absn"
      have hid : IdAt HN (.ref q) (s, n) := ⟨q, rfl, hg⟩
      have hag1 : All2 (IdAt HN) xg (rowOf S.got i) := hag.mono fun _ _ => IdAt.same sa
      have hat1 : All2 (IdAt HN) xt (rowOf S.told i) := hat.mono fun _ _ => IdAt.same sa
      have cast : ∀ {v : V} {HH : Hp}, Same H HH → optV (whyTold S i pl (s, n)) = v → Q v HH := fun sm e => e ▸ k _ sm
      unfold whyTold at cast
      wtm_at "gs"
      rotate_left
      · exact cast (by wtm_at "same") (by rw [if_pos (by omega)]; rfl)
      have hpl : pl = ((rowOf S.told i).length : Int) + 1 := by omega
      rw [if_neg (Classical.not_not.mpr hpl)] at cast
      refine i_ninIds (by wtm_at "sq") hag1 hid ?_
      wtm_at "gs"
      rotate_left
      · exact cast (by wtm_at "same") (by rw [if_pos (by assumption)]; rfl)
      rename_i hin
      have hzk := (hI.gotR hmem).2 _ hin
      rw [if_neg (Classical.not_not.mpr hin)] at cast
      refine i_inIds (by wtm_at "sq") hat1 hid ?_
      wtm_at "gs"
      · exact cast (by wtm_at "same") (by rw [if_pos (by assumption)]; rfl)
      have hni : (s, n) ∉ rowOf S.told i := by assumption
      rw [if_neg hni] at cast
      refine i_boo (fun e => ?_) (fun e => ?_)
      all_goals wtm_at "gs"
      · exact cast (by wtm_at "same") (by rw [if_pos e]; rfl)
      rw [if_neg (by rw [e]; decide)] at cast
      refine i_boo (fun e2 => ?_) (fun e2 => ?_)
      all_goals wtm_at "gs"
      · exact cast (by wtm_at "same") (by rw [if_pos e2]; rfl)
      · exact cast (by wtm_at "same") (by rw [if_neg (by rw [e2]; decide)]; rfl)
theorem ok__law_go (T : Txt w K mg a) : FnOk P w K mg base CX0 1 a._law_go a.d__law_go ["model", "row"] (spGo K) := by
  refine fund_ok0 T.F__law_go sc__law_go (fun vs H Q E h => ?_) (fun cdv A outer s H vs Q E hr h => ?_)
  · obtain ⟨o, p, b, S, M, r, rfl, hm, hI, hp, hok, hn, k⟩ := h
    rfl
  · obtain ⟨o, p, b, S, M, r, rfl, hm, hI, hp, hok, hn, k⟩ := h
    refine ⟨_, (pss_cons (ps_set (i := 2) sc__law_go.nd rfl (by first | exact Or.inl rfl | exact Or.inr rfl) (pe_ix (ix_U (K := K)) (pv 1) pe_int (fun _ _ => rfl)))
    (pss_cons (ps_set (i := 3) sc__law_go.nd rfl (by first | exact Or.inl rfl | exact Or.inr rfl) (pe_slice (sl_U (K := K)) (pv 1) (po_some (pe_un un_neg pe_int)) po_none))
    (pss_cons (ps_if (pt_cmpR (op_eqU hr.units (K := K)) (pe_ix (ix_U (K := K)) (pv 1) pe_int (fun _ _ => rfl)) pe_str (nomark _)) (pss_cons (ps_set (i := 3) sc__law_go.nd rfl (by first | exact Or.inl rfl | exact Or.inr rfl) (pe_tup (pa_cons (pv 2) (pa_cons (pe_op (op_addU (K := K)) pe_int (pe_callB (call_lenU (K := K)) (by rfl) T.b_len (by decide +kernel) (pa_cons (pe_lock (pe_lc (own := [("sent", 4)]) rfl sc__law_go.nd (pi_keys (pe_dget (unit1 hr) (pv 0) pe_str (fun _ _ => rfl))) (blkOk_by (own := [("sent", 4)]) (N := ["model", "row", "member", "ident", "sent", "word"]) (sc := defScope s__law_go) (by decide +kernel)) (fun _ _ _ _ _ => (pg_name (i := 4) sc__law_go.nd rfl (by first | exact Or.inl rfl | exact Or.inr rfl))) (fun _ _ _ _ _ => pts_one (pt_cmpR (op_eqU hr.units (K := K)) (pe_ix (ix_U (K := K)) (pv 4) pe_int (fun _ _ => rfl)) (pv 2) (nomark _))) (fun _ _ _ _ _ => (pv 4)))) pa_nil))) pa_nil))))
    (pss_cons (ps_asg (pe_callTy (call_lstOf (K := K)) (by rfl) T.b_list (by decide +kernel) (pa_cons (pe_ix (ix_U (K := K)) (pe_dget (unit1 hr) (pv 0) pe_str (fun _ _ => rfl)) (pv 2) (fun _ _ => rfl)) pa_nil)) (pg_sub (pe_dget (unit1 hr) (pv 0) pe_str (fun _ _ => rfl)) (pv 3) (set_dict (unit1 hr))))
    (pss_one (ps_asg (pe_ix (ix_U (K := K)) (pv 1) pe_int (fun _ _ => rfl)) (pg_sub (pe_dget (unit1 hr) (pv 0) pe_str (fun _ _ => rfl)) (pv 3) (set_dict (unit1 hr))))))) pss_nil)
    (pss_cons (ps_set (i := 5) sc__law_go.nd rfl (by first | exact Or.inl rfl | exact Or.inr rfl) (pe_ifExp (pt_cmpR (op_eqU hr.units (K := K)) (pe_ix (ix_U (K := K)) (pv 1) pe_int (fun _ _ => rfl)) pe_str (nomark _)) pe_str pe_str))
    (pss_one (ps_expr (pe_appK (K := K) (pe_bm PySem.F.plainAttrs_list PySem.F.slot_list_append PySem.F.type_list_append mt_append (pe_ix (ix_U (K := K)) (pe_dget (unit1 hr) (pv 0) (pv 5) (fun _ _ => rfl)) (pv 2) (fun _ _ => rfl)) (pa_cons (pv 3) pa_nil))))))))), ?_⟩
    dsimp only [L2.start, List.map_cons, List.map_nil, List.map, List.length_cons, List.length_nil, Nat.reduceAdd, Nat.reduceSub, List.replicate, List.cons_append, List.nil_append]
    obtain ⟨ho, hc, hw, hg, ht, cw, fo, fc, fw, fg, ft, fd, kc, kg, kt, nd, fq, gn, tn, kw, kl, nl, nn⟩ := id hm
    have hmem0 := Rw.ok_mem hok
    cases r with
    | sent i z =>
      have hmem : 0 ≤ i ∧ i ≤ (M : Int) - 1 := hmem0
      obtain ⟨j, rfl⟩ := Int.eq_ofNat_of_zero_le hmem.1
      obtain ⟨qg, hqgi, hyg, ⟨xg, hqg, hag⟩, hqgm⟩ := row_at kg hI.lgot hmem
      rw [Int.toNat_natCast] at hqgi
      have lx : xg.length ≤ 450 := by
        obtain ⟨l, _, e2, hl⟩ := row_mem hI.lgot hmem
        rw [hag.1, e2]
        exact Nat.le_trans (nl l (List.mem_append_left _ hl)) nn
      have hFg : b.F qg := fq _ (List.mem_append_left _ hqgm)
      wtm_at "gs"
      refine i_slTn (by wtm_at "sq") (slM2 _) (fun q hq => ?_)
      wtm_at "absn"
      have sa0 := sa
      clear sa
      wtm_at "gs"
      refine i_lockE (d := b.c) (sa0 _ _ hc) trivial (fun od HL sbl hcl => ?_)
      wtm_at "gs"
      refine ⟨_, _, rfl, .inr ⟨_, hcl, ?_⟩⟩
      intro D hD
      refine' lc_keys (R := fun _ => True) (fun z => decide (z.1 = j)) hm.keys hcl hD ?l1 (fun x z hz H2 Q2 R2 s2 ha2 k2 k3 => ?l2) (fun H3 ys s3 e3 l3 => ?l4)
      case l1 => omega
      case l2 =>
        obtain ⟨qz, rfl, hqz⟩ := ha2
        wtm_at "gs"
        · rename_i e
          exact k2 (decide_eq_true e) _ (Same.refl _)
        · rename_i e
          exact k3 (decide_eq_false e) _ (Same.refl _)
      case l4 =>
        refine ⟨s3 _ _ hcl, ?_⟩
        have eD : upd H3 b.c (.dT b.ck) D = some (.lst ys) := by rw [upd_ne (fun c => by subst c; rw [hcl] at hD; cases hD)]; exact e3
        have sl : Same HN (upd H3 b.c (.dT b.ck)) := lock_same (sa0 _ _ hc) sbl s3
        generalize upd H3 b.c (.dT b.ck) = HU at *
        clear hg sbl s3 e3 hD hcl
        have l4 : ys.length = cnt S.keys j := l3
        wtm_at "gs"
        rename_i q2 hq2 H2 sa2 hg2
        have hk2 : HN q2 = some (.tup ((idK (nxt S.keys j)).map kV)) := by
          have e := sa _ _ hg2
          rw [l4] at e
          exact e
        have s2 : Same H H2 := (sa0.trans sl).trans sa2
        have sH : Same H HN := s2.trans sa
        have hmN := hm.same sH
        have hagN : All2 (IdAt HN) xg (rowOf S.got j) := hag.mono fun _ _ => IdAt.same sH
        have nL : ¬ b.F q := (hm.same s2).out hq
        have nq : H q = none := none_same s2 hq
        have hgN := hg
        have lk : b.ck.length = S.keys.length := hm.keys.1
        refine i_setDt (k := idK (nxt S.keys j)) hmN.hc hk2 (line_lt (by omega)) (fun HA sbA hgA => ?_)
        have hk3 : HA q2 = some (.tup ((idK (nxt S.keys j)).map kV)) := sbA _ _ (ne_of hk2 hmN.hc (by simp)) hk2
        have hwA : HA b.wd = some (.dT b.wk) := sbA _ _ (Ne.symm cw) hmN.hw
        have hoA := sbA _ _ (ne_of hmN.ho hmN.hc (by simp)) hmN.ho
        have hpA := sbA _ _ (ne_of (sH _ _ hp) hmN.hc (by simp)) (sH _ _ hp)
        wtm_at "gs"
        refine i_setDt (k := idK (nxt S.keys j)) hwA hk3 (line_lt (by omega)) (fun HB sbB hgB => ?_)
        have hmB := MdX.put hmN ⟨xg, hgN, hagN⟩ nL (nxt_fresh hI) sbA hgA sbB hgB (by omega)
        have hoB := hmB.ho
        have hgB := hmB.hg
        have hpB := sbB _ _ (ne_of hpA hwA (by simp)) hpA
        have hk4 : HB q2 = some (.tup ((idK (nxt S.keys j)).map kV)) := sbB _ _ (ne_of hk3 hwA (by simp)) hk3
        have hqB : HB qg = some (.lst xg) := sbB _ _ (ne_of hqg hw (by simp)) (sbA _ _ (ne_of hqg hc (by simp)) (sH _ _ hqg))
        have hagB : All2 (IdAt HB) xg (rowOf S.got j) := hagN.mono fun _ _ => IdAt.keeps fun b xs e => sbB _ _ (ne_of (sbA _ _ (ne_of e hmN.hc (by simp)) e) hwA (by simp)) (sbA _ _ (ne_of e hmN.hc (by simp)) e)
        wtm_at "gs"
        exact k _ _ (hmB.goGot (S := { S with cs := _ }) hqgi hqB hagB ⟨q2, rfl, hk4⟩ (Nat.lt_of_lt_of_le (Nat.lt_succ_self _) hn) sb hg) (Nat.le_refl _) (fun c (f : b.F c ∨ c = q) => f.imp_right fun e => by rw [e]; exact nq) (fun c u n e => sb c u (ne_F n e hFg hqg (by simp)) (sbB c u (ne_F n e fw hw (by simp)) (sbA c u (ne_F n e fc hc (by simp)) (sH _ _ e))))
    | got i s n =>
      have hmem : 0 ≤ i ∧ i ≤ (M : Int) - 1 := hmem0
      obtain ⟨j, rfl⟩ := Int.eq_ofNat_of_zero_le hmem.1
      obtain ⟨qg, hqgi, hyg, ⟨xg, hqg, hag⟩, hqgm⟩ := row_at kg hI.lgot hmem
      rw [Int.toNat_natCast] at hqgi
      have lx : xg.length ≤ 450 := by
        obtain ⟨l, _, e2, hl⟩ := row_mem hI.lgot hmem
        rw [hag.1, e2]
        exact Nat.le_trans (nl l (List.mem_append_left _ hl)) nn
      have hFg : b.F qg := fq _ (List.mem_append_left _ hqgm)
      wtm_at "gs"
      refine i_slTn (by wtm_at "sq") (slM2 _) (fun q hq => ?_)
      wtm_at "absn"
      have hid : IdAt HN (.ref q) (s, n) := ⟨q, rfl, hg⟩
      have sa0 := sa
      have hag1 : All2 (IdAt HN) xg (rowOf S.got j) := hag.mono fun _ _ => IdAt.same sa
      have hm1 := hm.same sa
      wtm_at "gs"
      exact k _ _ (hm1.goGot hqgi (sa0 _ _ hqg) hag1 hid (by omega) sb hg) (Nat.le_succ _) (fun c f => .inl f) (fun c u n e => sb c u (ne_F n e hFg hqg (by simp)) (sa0 _ _ e))
    | told i pl s n =>
      have hmem : 0 ≤ i ∧ i ≤ (M : Int) - 1 := hmem0
      obtain ⟨j, rfl⟩ := Int.eq_ofNat_of_zero_le hmem.1
      obtain ⟨qg, hqgi, hyg, ⟨xg, hqg, hag⟩, hqgm⟩ := row_at kt hI.ltold hmem
      rw [Int.toNat_natCast] at hqgi
      have lx : xg.length ≤ 450 := by
        obtain ⟨l, _, e2, hl⟩ := row_mem hI.ltold hmem
        rw [hag.1, e2]
        exact Nat.le_trans (nl l (List.mem_append_right _ hl)) nn
      have hFg : b.F qg := fq _ (List.mem_append_right _ hqgm)
      wtm_at "gs"
      refine i_slTn (by wtm_at "sq") (slM2 _) (fun q hq => ?_)
      wtm_at "absn"
      have hid : IdAt HN (.ref q) (s, n) := ⟨q, rfl, hg⟩
      have sa0 := sa
      have hag1 : All2 (IdAt HN) xg (rowOf S.told j) := hag.mono fun _ _ => IdAt.same sa
      have hm1 := hm.same sa
      wtm_at "gs"
      exact k _ _ (hm1.goTold hqgi (sa0 _ _ hqg) hag1 hid (by omega) sb hg) (Nat.le_succ _) (fun c f => .inl f) (fun c u n e => sb c u (ne_F n e hFg hqg (by simp)) (sa0 _ _ e))
end

/-! ### the program's walk -/
set_option hygiene false in
local macro_rules | `(tactic| wtm_at "u") => `(tactic| first | with_reducible refine i_zipM ?_ | ((with_reducible refine' i_zipM2 ?h1 ?h2 ?_); (case h1 => wtm_at "sq"); (case h2 => wtm_at "sq")) | fail)
local macro_rules | `(tactic| wtm_at "wkk") => `(tactic| fail)
local macro_rules | `(tactic| wtm_at "wkk") => `(tactic| first | wtm_at "as" | ((with_reducible refine' Wk.same ?d1 ?d2); (case d1 => wtm_at "as"); (case d2 => wtm_at "wkk")) | fail)
def spWNG (K : PySem.W.Frag) (a : Ad) : Sp := fun vs H Q E => ∃ (x : Addr) (ω : WkA) (H0 : Hp) (S : Ms) (M : Nat) (i s n : Int), vs = [.ref x, .int i, .int s, .int n] ∧ (Wk a.HistoryWalk M H0 H x ω S) ∧ (Inw M S) ∧ (0 ≤ i ∧ i ≤ (M : Int) - 1) ∧ (0 ≤ s ∧ s ≤ (M : Int) - 1) ∧ (1 ≤ n) ∧ (∀ HH, (Same H HH) → Q (optV (whyGot S i (s, n))) HH)
theorem spWNG_u1 {K : PySem.W.Frag} {a : Ad} {H : Hp} {Q : VK} {E : XK} {vs : List V} {x : Addr} {ω : WkA} {H0 : Hp} {S : Ms} {M : Nat} {i s n : Int} (g0 : Wk a.HistoryWalk M H0 H x ω S) (g1 : Inw M S) (g2 : 0 ≤ i ∧ i ≤ (M : Int) - 1) (g3 : 0 ≤ s ∧ s ≤ (M : Int) - 1) (g4 : 1 ≤ n) (k : ∀ HH, (Same H HH) → Q (optV (whyGot S i (s, n))) HH) (he : vs = [.ref x, .int i, .int s, .int n] := by rfl) : spWNG K a vs H Q E := ⟨x, ω, H0, S, M, i, s, n, he, g0, g1, g2, g3, g4, k⟩
set_option hygiene false in
local macro_rules | `(tactic| wtm_at "u") => `(tactic| first | ((with_reducible refine' spWNG_u1 ?g0 ?g1 ?g2 ?g3 ?g4 (fun HH sm => ?_) ?he); (case he => rfl); (case g0 => wtm_at "wkk"); (case g1 => wtm_at "as"); (case g2 => wtm_at "as"); (case g3 => wtm_at "as"); (case g4 => wtm_at "as")) | fail)
def spTO (K : PySem.W.Frag) (a : Ad) : Sp := fun vs H Q E => ∃ (x : Addr) (ω : WkA) (H0 : Hp) (S : Ms) (M : Nat) (i p : Int) (v : V) (z : Idn), vs = [.ref x, .int i, .int p, v] ∧ (Wk a.HistoryWalk M H0 H x ω S) ∧ (1 ≤ p) ∧ (IdAt H v z) ∧ (∀ HH, (Same H HH) → Q (.bl (otherB S.lg p z)) HH)
theorem spTO_u1 {K : PySem.W.Frag} {a : Ad} {H : Hp} {Q : VK} {E : XK} {vs : List V} {x : Addr} {ω : WkA} {H0 : Hp} {S : Ms} {M : Nat} {i p : Int} {v : V} {z : Idn} (g0 : Wk a.HistoryWalk M H0 H x ω S) (g1 : 1 ≤ p) (g2 : IdAt H v z) (k : ∀ HH, (Same H HH) → Q (.bl (otherB S.lg p z)) HH) (he : vs = [.ref x, .int i, .int p, v] := by rfl) : spTO K a vs H Q E := ⟨x, ω, H0, S, M, i, p, v, z, he, g0, g1, g2, k⟩
set_option hygiene false in
local macro_rules | `(tactic| wtm_at "u") => `(tactic| first | ((with_reducible refine' spTO_u1 ?g0 ?g1 ?g2 (fun HH sm => ?_) ?he); (case he => rfl); (case g0 => wtm_at "wkk"); (case g1 => wtm_at "as"); (case g2 => wtm_at "as")) | fail)
def spWNT (K : PySem.W.Frag) (a : Ad) : Sp := fun vs H Q E => ∃ (x : Addr) (ω : WkA) (H0 : Hp) (S : Ms) (M : Nat) (i p s n : Int), vs = [.ref x, .int i, .int p, .int s, .int n] ∧ (Wk a.HistoryWalk M H0 H x ω S) ∧ (Inw M S) ∧ (0 ≤ i ∧ i ≤ (M : Int) - 1) ∧ (1 ≤ p) ∧ (0 ≤ s ∧ s ≤ (M : Int) - 1) ∧ (1 ≤ n) ∧ (∀ HH, (Same H HH) → Q (optV (whyTold S i p (s, n))) HH)
theorem spWNT_u1 {K : PySem.W.Frag} {a : Ad} {H : Hp} {Q : VK} {E : XK} {vs : List V} {x : Addr} {ω : WkA} {H0 : Hp} {S : Ms} {M : Nat} {i p s n : Int} (g0 : Wk a.HistoryWalk M H0 H x ω S) (g1 : Inw M S) (g2 : 0 ≤ i ∧ i ≤ (M : Int) - 1) (g3 : 1 ≤ p) (g4 : 0 ≤ s ∧ s ≤ (M : Int) - 1) (g5 : 1 ≤ n) (k : ∀ HH, (Same H HH) → Q (optV (whyTold S i p (s, n))) HH) (he : vs = [.ref x, .int i, .int p, .int s, .int n] := by rfl) : spWNT K a vs H Q E := ⟨x, ω, H0, S, M, i, p, s, n, he, g0, g1, g2, g3, g4, g5, k⟩
set_option hygiene false in
local macro_rules | `(tactic| wtm_at "u") => `(tactic| first | ((with_reducible refine' spWNT_u1 ?g0 ?g1 ?g2 ?g3 ?g4 ?g5 (fun HH sm => ?_) ?he); (case he => rfl); (case g0 => wtm_at "wkk"); (case g1 => wtm_at "as"); (case g2 => wtm_at "as"); (case g3 => wtm_at "as"); (case g4 => wtm_at "as"); (case g5 => wtm_at "as")) | fail)
def spWN (K : PySem.W.Frag) (a : Ad) : Sp := fun vs H Q E => ∃ (x q : Addr) (ω : WkA) (H0 : Hp) (S : Ms) (M : Nat) (r : Rw), vs = [.ref x, .ref q] ∧ (Wk a.HistoryWalk M H0 H x ω S) ∧ (Inw M S) ∧ (H q = some (.tup r.vs)) ∧ (r.okB M = true) ∧ (∀ HH, (Same H HH) → Q (optV (S.why r)) HH)
theorem spWN_u1 {K : PySem.W.Frag} {a : Ad} {H : Hp} {Q : VK} {E : XK} {vs : List V} {x q : Addr} {ω : WkA} {H0 : Hp} {S : Ms} {M : Nat} {r : Rw} (g0 : Wk a.HistoryWalk M H0 H x ω S) (g1 : Inw M S) (g2 : H q = some (.tup r.vs)) (g3 : r.okB M = true) (k : ∀ HH, (Same H HH) → Q (optV (S.why r)) HH) (he : vs = [.ref x, .ref q] := by rfl) : spWN K a vs H Q E := ⟨x, q, ω, H0, S, M, r, he, g0, g1, g2, g3, k⟩
set_option hygiene false in
local macro_rules | `(tactic| wtm_at "u") => `(tactic| first | ((with_reducible refine' spWN_u1 ?g0 ?g1 ?g2 ?g3 (fun HH sm => ?_) ?he); (case he => rfl); (case g0 => wtm_at "wkk"); (case g1 => wtm_at "as"); (case g2 => wtm_at "get"); (case g3 => wtm_at "as")) | fail)
def spGG (K : PySem.W.Frag) (a : Ad) : Sp := fun vs H Q E => ∃ (x : Addr) (ω : WkA) (H0 : Hp) (S : Ms) (M : Nat) (i : Int) (v : V) (z : Idn), vs = [.ref x, .int i, v] ∧ (Wk a.HistoryWalk M H0 H x ω S) ∧ (S.got.length = M) ∧ (0 ≤ i ∧ i ≤ (M : Int) - 1) ∧ (IdAt H v z) ∧ (0 ≤ z.1 ∧ z.1 ≤ (M : Int) - 1) ∧ (z.2 = (cnt (rowOf S.got i) z.1 : Int) + 1) ∧ (ω.n < 450) ∧ (∀ HH ω', (Wk a.HistoryWalk M H0 HH x ω' (S.goGot i z)) → (ω'.n = ω.n + 1) → Q (.non) HH)
theorem spGG_u1 {K : PySem.W.Frag} {a : Ad} {H : Hp} {Q : VK} {E : XK} {vs : List V} {x : Addr} {ω : WkA} {H0 : Hp} {S : Ms} {M : Nat} {i : Int} {v : V} {z : Idn} (g0 : Wk a.HistoryWalk M H0 H x ω S) (g1 : S.got.length = M) (g2 : 0 ≤ i ∧ i ≤ (M : Int) - 1) (g3 : IdAt H v z) (g4 : 0 ≤ z.1 ∧ z.1 ≤ (M : Int) - 1) (g5 : z.2 = (cnt (rowOf S.got i) z.1 : Int) + 1) (g6 : ω.n < 450) (k : ∀ HH ω', (Wk a.HistoryWalk M H0 HH x ω' (S.goGot i z)) → (ω'.n = ω.n + 1) → Q (.non) HH) (he : vs = [.ref x, .int i, v] := by rfl) : spGG K a vs H Q E := ⟨x, ω, H0, S, M, i, v, z, he, g0, g1, g2, g3, g4, g5, g6, k⟩
set_option hygiene false in
local macro_rules | `(tactic| wtm_at "u") => `(tactic| first | ((with_reducible refine' spGG_u1 ?g0 ?g1 ?g2 ?g3 ?g4 ?g5 ?g6 (fun HH ω' hk' hn' => ?_) ?he); (case he => rfl); (case g0 => wtm_at "wkk"); (case g1 => wtm_at "as"); (case g2 => wtm_at "as"); (case g3 => wtm_at "as"); (case g4 => wtm_at "as"); (case g5 => wtm_at "as"); (case g6 => (first|assumption|omega))) | fail)
def spGT (K : PySem.W.Frag) (a : Ad) : Sp := fun vs H Q E => ∃ (x : Addr) (ω : WkA) (H0 : Hp) (S : Ms) (M : Nat) (i : Int) (v : V) (z : Idn), vs = [.ref x, .int i, v] ∧ (Wk a.HistoryWalk M H0 H x ω S) ∧ (S.told.length = M) ∧ (0 ≤ i ∧ i ≤ (M : Int) - 1) ∧ (IdAt H v z) ∧ (0 ≤ z.1 ∧ z.1 ≤ (M : Int) - 1) ∧ (z.2 = (cnt (rowOf S.told i) z.1 : Int) + 1) ∧ (ω.n < 450) ∧ (∀ HH ω', (Wk a.HistoryWalk M H0 HH x ω' (S.goTold i z)) → (ω'.n = ω.n + 1) → Q (.non) HH)
theorem spGT_u1 {K : PySem.W.Frag} {a : Ad} {H : Hp} {Q : VK} {E : XK} {vs : List V} {x : Addr} {ω : WkA} {H0 : Hp} {S : Ms} {M : Nat} {i : Int} {v : V} {z : Idn} (g0 : Wk a.HistoryWalk M H0 H x ω S) (g1 : S.told.length = M) (g2 : 0 ≤ i ∧ i ≤ (M : Int) - 1) (g3 : IdAt H v z) (g4 : 0 ≤ z.1 ∧ z.1 ≤ (M : Int) - 1) (g5 : z.2 = (cnt (rowOf S.told i) z.1 : Int) + 1) (g6 : ω.n < 450) (k : ∀ HH ω', (Wk a.HistoryWalk M H0 HH x ω' (S.goTold i z)) → (ω'.n = ω.n + 1) → Q (.non) HH) (he : vs = [.ref x, .int i, v] := by rfl) : spGT K a vs H Q E := ⟨x, ω, H0, S, M, i, v, z, he, g0, g1, g2, g3, g4, g5, g6, k⟩
set_option hygiene false in
local macro_rules | `(tactic| wtm_at "u") => `(tactic| first | ((with_reducible refine' spGT_u1 ?g0 ?g1 ?g2 ?g3 ?g4 ?g5 ?g6 (fun HH ω' hk' hn' => ?_) ?he); (case he => rfl); (case g0 => wtm_at "wkk"); (case g1 => wtm_at "as"); (case g2 => wtm_at "as"); (case g3 => wtm_at "as"); (case g4 => wtm_at "as"); (case g5 => wtm_at "as"); (case g6 => (first|assumption|omega))) | fail)
def spGS (K : PySem.W.Frag) (a : Ad) : Sp := fun vs H Q E => ∃ (me : Addr) (ω : WkA) (H0 : Hp) (S : Ms) (M : Nat) (i : Int) (y : Str), vs = [.ref me, .int i, .str y] ∧ (Wk a.HistoryWalk M H0 H me ω S) ∧ (Inw M S) ∧ (0 ≤ i ∧ i ≤ (M : Int) - 1) ∧ (2 ≤ M) ∧ (isWord (.str y) = true) ∧ (y.length ≤ 1000) ∧ (S.keys.length < 30) ∧ (ω.n + 2 ≤ 450) ∧ (∀ HH ω', (Wk a.HistoryWalk M H0 HH me ω' (S.sent i)) → (ω'.n = ω.n + 2) → Q (.non) HH)
theorem spGS_u1 {K : PySem.W.Frag} {a : Ad} {H : Hp} {Q : VK} {E : XK} {vs : List V} {me : Addr} {ω : WkA} {H0 : Hp} {S : Ms} {M : Nat} {i : Int} {y : Str} (g0 : Wk a.HistoryWalk M H0 H me ω S) (g1 : Inw M S) (g2 : 0 ≤ i ∧ i ≤ (M : Int) - 1) (g3 : 2 ≤ M) (g4 : isWord (.str y) = true) (g5 : y.length ≤ 1000) (g6 : S.keys.length < 30) (g7 : ω.n + 2 ≤ 450) (k : ∀ HH ω', (Wk a.HistoryWalk M H0 HH me ω' (S.sent i)) → (ω'.n = ω.n + 2) → Q (.non) HH) (he : vs = [.ref me, .int i, .str y] := by rfl) : spGS K a vs H Q E := ⟨me, ω, H0, S, M, i, y, he, g0, g1, g2, g3, g4, g5, g6, g7, k⟩
set_option hygiene false in
local macro_rules | `(tactic| wtm_at "u") => `(tactic| first | ((with_reducible refine' spGS_u1 ?g0 ?g1 ?g2 ?g3 ?g4 ?g5 ?g6 ?g7 (fun HH ω' hk' hn' => ?_) ?he); (case he => rfl); (case g0 => wtm_at "wkk"); (case g1 => wtm_at "as"); (case g2 => wtm_at "as"); (case g3 => wtm_at "as"); (case g4 => wtm_at "as"); (case g5 => wtm_at "as"); (case g6 => wtm_at "as"); (case g7 => (first|assumption|omega))) | fail)
def spGO (K : PySem.W.Frag) (a : Ad) : Sp := fun vs H Q E => ∃ (x q : Addr) (ω : WkA) (H0 : Hp) (S : Ms) (M : Nat) (r : Rw), vs = [.ref x, .ref q] ∧ (Wk a.HistoryWalk M H0 H x ω S) ∧ (Inw M S) ∧ (2 ≤ M) ∧ (H q = some (.tup r.vs)) ∧ (r.okB M = true) ∧ (r.sml) ∧ (S.why r = none) ∧ (r.sentB = true → S.keys.length < 30) ∧ (ω.n + 2 ≤ 450) ∧ (∀ HH ω', (Wk a.HistoryWalk M H0 HH x ω' (S.go r)) → (ω'.n ≤ ω.n + 2) → Q (.non) HH)
theorem spGO_u1 {K : PySem.W.Frag} {a : Ad} {H : Hp} {Q : VK} {E : XK} {vs : List V} {x q : Addr} {ω : WkA} {H0 : Hp} {S : Ms} {M : Nat} {r : Rw} (g0 : Wk a.HistoryWalk M H0 H x ω S) (g1 : Inw M S) (g2 : 2 ≤ M) (g3 : H q = some (.tup r.vs)) (g4 : r.okB M = true) (g5 : r.sml) (g6 : S.why r = none) (g7 : r.sentB = true → S.keys.length < 30) (g8 : ω.n + 2 ≤ 450) (k : ∀ HH ω', (Wk a.HistoryWalk M H0 HH x ω' (S.go r)) → (ω'.n ≤ ω.n + 2) → Q (.non) HH) (he : vs = [.ref x, .ref q] := by rfl) : spGO K a vs H Q E := ⟨x, q, ω, H0, S, M, r, he, g0, g1, g2, g3, g4, g5, g6, g7, g8, k⟩
set_option hygiene false in
local macro_rules | `(tactic| wtm_at "u") => `(tactic| first | ((with_reducible refine' spGO_u1 ?g0 ?g1 ?g2 ?g3 ?g4 ?g5 ?g6 ?g7 ?g8 (fun HH ω' hk' hn' => ?_) ?he); (case he => rfl); (case g0 => wtm_at "wkk"); (case g1 => wtm_at "as"); (case g2 => wtm_at "as"); (case g3 => wtm_at "get"); (case g4 => wtm_at "as"); (case g5 => wtm_at "as"); (case g6 => wtm_at "as"); (case g7 => wtm_at "as"); (case g8 => (first|assumption|omega))) | fail)
def spWI (a : Ad) : Sp := fun vs H Q _ => ∃ (x dx : Addr) (M : Nat) (H0 : Hp), vs = [.ref x, .int M] ∧ (2 ≤ M ∧ M ≤ 5) ∧ H x = some (.ins a.HistoryWalk dx []) ∧ Same H0 H ∧ H0 x = none ∧ ∀ HH ω, Wk a.HistoryWalk M H0 HH x ω (Ms.new M) → ω.n = 0 → Q .non HH
theorem ixN_of {i : Int} {n : Nat} (h0 : 0 ≤ i) (h : i < n) : ixN n i = some i.toNat := by
  unfold ixN
  rw [if_pos (by omega), if_pos (by omega)]
section
variable {P : Program} {w : World} {K : PySem.W.Frag} {mg : Str → Option Value} {base : Heap} {a : Ad}
theorem ok_HistoryWalk_go_got (T : Txt w K mg a) : FnOk P w K mg base CX0 1 a.HistoryWalk_go_got a.d_HistoryWalk_go_got ["self", "member", "ident"] (spGG K a) := by
  refine fund_ok0 T.F_HistoryWalk_go_got sc_HistoryWalk_go_got (fun vs H Q E h => ?_) (fun cdv A outer s H vs Q E hr h => ?_)
  · obtain ⟨x, ω, H0, S, M, i, v, z, rfl, hk, hlg, hi, hv, hz, he, hn, k⟩ := h
    rfl
  · obtain ⟨x, ω, H0, S, M, i, v, z, rfl, hk, hlg, hi, hv, hz, he, hn, k⟩ := h
    refine ⟨_, (pss_cons (ps_asg (pe_ix (ix_U (K := K)) (pv 2) pe_int (fun _ _ => rfl)) (pg_sub (pe_ix (ix_U (K := K)) (pe_fldK (K := K) (pv 0)) (pv 1) (fun _ _ => rfl)) (pe_ix (ix_U (K := K)) (pv 2) pe_int (fun _ _ => rfl)) set_list))
    (pss_one (ps_expr (pe_appK (K := K) (pe_bm PySem.F.plainAttrs_list PySem.F.slot_list_append PySem.F.type_list_append mt_append (pe_ix (ix_U (K := K)) (pe_fldK (K := K) (pv 0)) (pv 1) (fun _ _ => rfl)) (pa_cons (pv 2) pa_nil)))))), ?_⟩
    dsimp only [L2.start, List.map_cons, List.map_nil, List.map, List.length_cons, List.length_nil, Nat.reduceAdd, Nat.reduceSub, List.replicate, List.cons_append, List.nil_append]
    obtain ⟨hx, hrr, rk, hl, ll, hgc, hgi, hti, htc, kgc, kgi, kti, ktc, hlr, nd, s0, fr, fk, kl, nl, ng, nn⟩ := id hk
    obtain ⟨j, rfl⟩ := Int.eq_ofNat_of_zero_le hi.1
    obtain ⟨q1, h1, hy1, hq1, m1⟩ := row_at kgc hlg hi
    obtain ⟨q2, h2, hy2, ⟨xs, hq2, ha2⟩, m2⟩ := row_at kgi hlg hi
    have hq1 : H q1 = some (.lst ((cnts M (rowOf S.got j)).map V.int)) := hq1
    obtain ⟨qv, rfl, hqv⟩ := id hv
    have l5 : ((cnts M (rowOf S.got j)).map V.int).length = M := by rw [List.length_map, cnts_len]
    have N := hk.apart
    have n12 := N.b12 q1 m1 q2 m2
    rw [Int.toNat_natCast] at h1 h2
    have lx : xs.length ≤ 450 := by
      rw [ha2.1]
      exact Nat.le_trans (rowLen nl (by omega)) nn
    wtm_at "gs"
    refine i_setL hq1 (ixN_of hz.1 (by omega)) ?_
    wtm_at "abss"
    rw [cnts_set hz he] at hg
    have w1 : SameBut q1 H HN ∧ True := ⟨sb, trivial⟩
    have hg1 := hg
    have hx1 := sb _ _ (ne_of hx hq1 (by simp)) hx
    have gi1 := sb _ _ (N.c1 _ m1).2.2.2.1.symm hgi
    have q21 := sb _ _ n12.symm hq2
    have ha21 : All2 (IdAt HN) xs (rowOf S.got j) := ha2.mono fun _ _ => IdAt.keeps fun b xs e => sb _ _ (ne_of e hq1 (by simp)) e
    have hqv1 := sb _ _ (ne_of hqv hq1 (by simp)) hqv
    clear sb hg
    wtm_at "gs"
    rename_i HA
    refine k HN _ (hk.goGot h1 h2 (fun b u n1 n2 e => sb _ _ n2 (w1.1 _ _ n1 e)) (sb _ _ n12 hg1) ⟨_, hg, All2.append (ha21.mono fun _ _ => IdAt.keeps fun b xs e => sb _ _ (ne_of e q21 (by simp)) e) (All2.cons ⟨qv, rfl, sb _ _ (ne_of hqv1 q21 (by simp)) hqv1⟩ All2.nil)⟩ hn) rfl
theorem ok_HistoryWalk_go_told (T : Txt w K mg a) : FnOk P w K mg base CX0 1 a.HistoryWalk_go_told a.d_HistoryWalk_go_told ["self", "member", "ident"] (spGT K a) := by
  refine fund_ok0 T.F_HistoryWalk_go_told sc_HistoryWalk_go_told (fun vs H Q E h => ?_) (fun cdv A outer s H vs Q E hr h => ?_)
  · obtain ⟨x, ω, H0, S, M, i, v, z, rfl, hk, hlg, hi, hv, hz, he, hn, k⟩ := h
    rfl
  · obtain ⟨x, ω, H0, S, M, i, v, z, rfl, hk, hlg, hi, hv, hz, he, hn, k⟩ := h
    refine ⟨_, (pss_cons (ps_asg (pe_ix (ix_U (K := K)) (pv 2) pe_int (fun _ _ => rfl)) (pg_sub (pe_ix (ix_U (K := K)) (pe_fldK (K := K) (pv 0)) (pv 1) (fun _ _ => rfl)) (pe_ix (ix_U (K := K)) (pv 2) pe_int (fun _ _ => rfl)) set_list))
    (pss_cons (ps_expr (pe_appK (K := K) (pe_bm PySem.F.plainAttrs_list PySem.F.slot_list_append PySem.F.type_list_append mt_append (pe_ix (ix_U (K := K)) (pe_fldK (K := K) (pv 0)) (pv 1) (fun _ _ => rfl)) (pa_cons (pv 2) pa_nil))))
    (pss_one (ps_if (pt_cmpR op_gtU (pe_callB (call_lenU (K := K)) (by rfl) T.b_len (by decide +kernel) (pa_cons (pe_ix (ix_U (K := K)) (pe_fldK (K := K) (pv 0)) (pv 1) (fun _ _ => rfl)) pa_nil)) (pe_callB (call_lenU (K := K)) (by rfl) T.b_len (by decide +kernel) (pa_cons (pe_fldK (K := K) (pv 0)) pa_nil)) (nomark _)) (pss_one (ps_expr (pe_appK (K := K) (pe_bm PySem.F.plainAttrs_list PySem.F.slot_list_append PySem.F.type_list_append mt_append (pe_fldK (K := K) (pv 0)) (pa_cons (pv 2) pa_nil))))) pss_nil)))), ?_⟩
    dsimp only [L2.start, List.map_cons, List.map_nil, List.map, List.length_cons, List.length_nil, Nat.reduceAdd, Nat.reduceSub, List.replicate, List.cons_append, List.nil_append]
    obtain ⟨hx, hrr, rk, hl, ll, hgc, hgi, hti, htc, kgc, kgi, kti, ktc, hlr, nd, s0, fr, fk, kl, nl, ng, nn⟩ := id hk
    obtain ⟨j, rfl⟩ := Int.eq_ofNat_of_zero_le hi.1
    obtain ⟨q1, h1, hy1, hq1, m1⟩ := row_at ktc hlg hi
    obtain ⟨q2, h2, hy2, ⟨xs, hq2, ha2⟩, m2⟩ := row_at kti hlg hi
    have hq1 : H q1 = some (.lst ((cnts M (rowOf S.told j)).map V.int)) := hq1
    obtain ⟨xl, hql, hal⟩ := hlr
    obtain ⟨qv, rfl, hqv⟩ := id hv
    have l5 : ((cnts M (rowOf S.told j)).map V.int).length = M := by rw [List.length_map, cnts_len]
    have N := hk.apart
    have n12 := N.b34 q2 m2 q1 m1
    rw [Int.toNat_natCast] at h1 h2
    have lx : xs.length ≤ 450 := by
      rw [ha2.1]
      exact Nat.le_trans (rowLen2 nl (by omega)) nn
    have lxl : xl.length ≤ 450 := by
      rw [hal.1]
      exact Nat.le_trans ng nn
    have lxe : xs.length = (rowOf S.told j).length := ha2.1
    have lle : xl.length = S.lg.length := hal.1
    wtm_at "gs"
    refine i_setL hq1 (ixN_of hz.1 (by omega)) ?_
    wtm_at "abss"
    rw [cnts_set hz he] at hg
    have w1 : SameBut q1 H HN ∧ True := ⟨sb, trivial⟩
    have hg1 := hg
    have hx1 := sb _ _ (ne_of hx hq1 (by simp)) hx
    have ti1 := sb _ _ (N.c4 _ m1).2.2.2.2.1.symm hti
    have q21h : HN q2 = some (.lst xs) ∧ True := ⟨sb _ _ n12 hq2, trivial⟩
    have ha21 : All2 (IdAt HN) xs (rowOf S.told j) := ha2.mono fun _ _ => IdAt.keeps fun b xs e => sb _ _ (ne_of e hq1 (by simp)) e
    have ql1 := sb _ _ (N.c4 _ m1).1.symm hql
    have hal1 : All2 (IdAt HN) xl S.lg := hal.mono fun _ _ => IdAt.keeps fun b xs e => sb _ _ (ne_of e hq1 (by simp)) e
    have hqv1 := sb _ _ (ne_of hqv hq1 (by simp)) hqv
    clear sb hg hq2
    generalize HN = HA at *
    wtm_at "gs"
    refine i_tyL (.of q21h.1) ?_
    wtm_at "gs"
    have q21 := q21h.1
    refine i_rapp q21 (line_lt (by omega)) ?_
    wtm_at "abss"
    have w2 : SameBut q2 HA HN ∧ True := ⟨sb, trivial⟩
    have hg2 := hg
    have hx2 := sb _ _ (ne_of hx1 q21 (by simp)) hx1
    have ti2 := sb _ _ (N.c3 _ m2).2.2.2.2.1.symm ti1
    have tp2 : ∀ b ys, HA b = some (.tup ys) → HN b = some (.tup ys) := fun b ys e => sb _ _ (ne_of e q21 (by simp)) e
    have ha22 : All2 (IdAt HN) (xs ++ [.ref qv]) (rowOf S.told j ++ [z]) := All2.append (ha21.mono fun _ _ => IdAt.keeps tp2) (All2.cons ⟨qv, rfl, tp2 _ _ hqv1⟩ All2.nil)
    have ql2 := sb _ _ (N.c3 _ m2).1.symm ql1
    have hal2 : All2 (IdAt HN) xl S.lg := hal1.mono fun _ _ => IdAt.keeps tp2
    have hqv2 := tp2 _ _ hqv1
    have g12 := sb _ _ n12.symm hg1
    have ll2 : (xs ++ [V.ref qv]).length = xs.length + 1 := by rw [List.length_append]; rfl
    clear sb hg
    have st2 : ∀ b u, b ≠ q1 → b ≠ q2 → H b = some u → HN b = some u := fun b u n1 n2 e => w2.1 _ _ n2 (w1.1 _ _ n1 e)
    have elg : (S.goTold (j : Nat) z).lg = if (rowOf S.told (j : Nat)).length + 1 > S.lg.length then S.lg ++ [z] else S.lg := rfl
    wtm_at "gs"
    · have tp3 : ∀ b ys, _ = some (HO.tup ys) → HN b = some (.tup ys) := fun b ys e => sb _ _ (ne_of e ql2 (by simp)) e
      refine k HN _ (hk.goTold h1 h2 (fun b u n1 n2 n3 e => sb _ _ n3 (st2 b u n1 n2 e)) (sb _ _ (N.c4 _ m1).1 g12) ⟨_, sb _ _ (N.c3 _ m2).1 hg2, ha22.mono fun _ _ => IdAt.keeps tp3⟩ ⟨_, hg, ?_⟩ hn) rfl
      rw [elg, if_pos (by omega)]
      exact All2.append (hal2.mono fun _ _ => IdAt.keeps tp3) (All2.cons ⟨qv, rfl, tp3 _ _ hqv2⟩ All2.nil)
    · refine k HN _ (hk.goTold h1 h2 (fun b u n1 n2 _ e => st2 b u n1 n2 e) g12 ⟨_, hg2, ha22⟩ ⟨_, ql2, ?_⟩ hn) rfl
      rw [elg, if_neg (by omega)]
      exact hal2
theorem ok_HistoryWalk_go_sent (T : Txt w K mg a) : FnOk P w K mg base CX0 7 a.HistoryWalk_go_sent a.d_HistoryWalk_go_sent ["self", "member", "word"] (spGS K a) := by
  refine fund_ok0 T.F_HistoryWalk_go_sent sc_HistoryWalk_go_sent (fun vs H Q E h => ?_) (fun cdv A outer s H vs Q E hr h => ?_)
  · obtain ⟨me, ω, H0, S, M, i, y, rfl, hk, hI, hi, hM, hw, hy, h30, hn, k⟩ := h
    rfl
  · obtain ⟨me, ω, H0, S, M, i, y, rfl, hk, hI, hi, hM, hw, hy, h30, hn, k⟩ := h
    refine ⟨_, (pss_cons (ps_set (i := 3) sc_HistoryWalk_go_sent.nd rfl (by first | exact Or.inl rfl | exact Or.inr rfl) (pe_callTy (call_tupOf (K := K)) (by rfl) T.b_tuple (by decide +kernel) (pa_cons (pe_ix (ix_U (K := K)) (pe_fldK (K := K) (pv 0)) (pv 1) (fun _ _ => rfl)) pa_nil)))
    (pss_cons (ps_set (i := 4) sc_HistoryWalk_go_sent.nd rfl (by first | exact Or.inl rfl | exact Or.inr rfl) (pe_tup (pa_cons (pv 1) (pa_cons (pe_op (op_addU (K := K)) (pe_ix (ix_U (K := K)) (pv 3) (pv 1) (fun _ _ => rfl)) pe_int) pa_nil))))
    (pss_cons (ps_asg (pv 3) (pg_sub (pe_fldK (K := K) (pv 0)) (pv 4) (set_dict (unit1 hr))))
    (pss_cons (ps_expr (pe_appK (K := K) (pe_bm PySem.F.plainAttrs_list PySem.F.slot_list_append PySem.F.type_list_append mt_append (pe_fldK (K := K) (pv 0)) (pa_cons (pe_makeS T.mk_Letter (ok_Letter_init (K := K) T) (hr.mono (by decide)) (by rfl) T.m_Letter T.B_Letter_init .nil (passAt takes0) (pa_cons (pv 1) (pa_cons (pe_ix (ix_U (K := K)) (pv 4) pe_int (fun _ _ => rfl)) (pa_cons (pv 2) (pa_cons (pe_makeS T.mk_Counts (ok_Counts_init (K := K) T) (hr.mono (by decide)) (by rfl) T.m_Counts T.B_Counts_init .nil (passAt takes0) (pa_cons (pv 3) pa_nil)) pa_nil))))) pa_nil))))
    (pss_one (ps_expr (pe_meth (pv 0) T.c_HistoryWalk T.M_HistoryWalk_go_got (ok_HistoryWalk_go_got (K := K) T) (hr.mono (by decide)) T.B_HistoryWalk_go_got .nil pass0 (pa_cons (pv 1) (pa_cons (pv 4) pa_nil))))))))), ?_⟩
    dsimp only [L2.start, List.map_cons, List.map_nil, List.map, List.length_cons, List.length_nil, Nat.reduceAdd, Nat.reduceSub, List.replicate, List.cons_append, List.nil_append]
    obtain ⟨hx, hrr, rk, hl, ll, hgc, hgi, hti, htc, kgc, kgi, kti, ktc, hlr, nd, s0, fr, fk, kl, nl, ng, nn⟩ := id hk
    obtain ⟨j, rfl⟩ := Int.eq_ofNat_of_zero_le hi.1
    obtain ⟨q1, h1, hy1, hq1, m1⟩ := row_at kgc hI.lgot hi
    have hq1 : H q1 = some (.lst ((cnts M (rowOf S.got j)).map V.int)) := hq1
    have a2 := cnts_at (l := rowOf S.got j) hi
    have hj : j < M := by omega
    have ow := hI.own j hj
    have N := hk.apart
    have m5 := hI.m5
    have hnn : ∀ n ∈ cnts M (rowOf S.got j), 0 ≤ n := fun n hn => by
      obtain ⟨_, _, rfl⟩ := List.mem_map.mp hn
      exact Int.natCast_nonneg _
    have lc : (cnts M (rowOf S.got j)).length = M := cnts_len
    have lk : ω.kk.length = S.keys.length := hk.keys.1
    have ez : ((cnt (rowOf S.got j) j : Nat) : Int) + 1 = 1 + ((cnt S.keys j : Nat) : Int) := by rw [ow]; omega
    wtm_at "gs"
    rename_i qt hqt HT saT hgT
    rw [ez] at hg
    have hk2 : HN q = some (.tup ((idK (nxt S.keys j)).map kV)) := hg
    have sH : Same H HN := saT.trans sa
    have hkN := hk.same sH
    have hgt := sa _ _ hgT
    clear sa saT hg hgT
    refine i_setDt (k := idK (nxt S.keys j)) hkN.hr hk2 (line_lt (by omega)) (fun HA sbA hgA => ?_)
    have tpA : ∀ b ys, HN b = some (.tup ys) → HA b = some (.tup ys) := fun b ys e => sbA _ _ (ne_of e hkN.hr (by simp)) e
    have hxA := sbA _ _ (ne_of hkN.hx hkN.hr (by simp)) hkN.hx
    have hlA := sbA _ _ (ne_of hkN.hl hkN.hr (by simp)) hkN.hl
    have hkA := tpA _ _ hk2
    have hgtA := tpA _ _ hgt
    have hkA' : HA q = some (.tup [.int j, .int (1 + ((cnt S.keys j : Nat) : Int))]) := hkA
    have wA : SameBut ω.kr HN HA ∧ True := ⟨sbA, trivial⟩
    clear sbA
    wtm_at "gs"
    rename_i xc dxc ndxc nx1c nxc nexc
    have sC : Same HA HH := fun b u e => sm b u (ne_of_none e nxc) (by rw [upd_ne (ne_of_none e nxc), upd_ne (ne_of_none e ndxc)]; exact e)
    have sL : Same HH (upd (upd HH dx (.own x)) x (.ins a.Letter dx [])) := fun b u e => by rw [upd_ne (ne_of_none e nx), upd_ne (ne_of_none e ndx)]; exact e
    obtain ⟨g1, g2⟩ := hI.gotR hi
    have hmx : ∀ k ∈ cnts M (rowOf S.got j), k ≤ 30 := fun k hk => by
      obtain ⟨s, _, rfl⟩ := List.mem_map.mp hk
      by_cases c : cnt (rowOf S.got j) (s : Nat) = 0
      · rw [c]
        decide
      · have b1 := (g1 (s : Nat) (cnt (rowOf S.got j) (s : Nat))).mpr ⟨by omega, Int.le_refl _⟩
        have b2 := ((hI.kn _ _).mp (g2 _ b1)).2
        have b3 := cnt_le (l := S.keys) (s := (s : Nat))
        omega
    have hge : (cnts M (rowOf S.got j)).getD j 0 = 1 + ((cnt S.keys j : Nat) : Int) - 1 := by
      unfold cnts
      rw [List.getD_eq_getElem?_getD, List.getElem?_map, List.getElem?_range hj]
      show ((cnt (rowOf S.got j) (j : Nat) : Nat) : Int) = _
      rw [ow]
      omega
    have hc30 := cnt_le (l := S.keys) (s := (j : Nat))
    refine spLI_u1 (dx := dx) upd_same (hct.same sL) (by rw [lc]; exact hj) (by omega) hw hy hge hmx (fun H3 sb hl3 => ?_) rfl
    have s3 : Same HA H3 := fun b u e => sb b u (ne_of_none (sC b u e) nx) (sL b u (sC b u e))
    have hl3 := s3 _ _ hlA
    refine ⟨rfl, ?_⟩
    have hx3 := s3 _ _ hxA
    have hk3 := s3 _ _ hkA
    have hgt3 := s3 _ _ hgtA
    have hgA3 := s3 _ _ hgA
    clear sb sC sL sm hct hlA hxA hkA' hkA hgtA hgA
    wtm_at "gs"
    have tp4 : ∀ b ys, H3 b = some (.tup ys) → HN b = some (.tup ys) := fun b ys e => sb _ _ (ne_of e hl3 (by simp)) e
    have hkP := hkN.put (z := nxt S.keys j) (l := rowOf S.got j) (v := .ref x) (nxt_fresh hI) (tp4 _ _ hgt3) (fun b u n1 n2 e => sb _ _ n2 (s3 _ _ (wA.1 _ _ n1 e))) (sb _ _ (ne_of hgA3 hl3 (by simp)) hgA3) hg (by omega)
    have hid : IdAt HN (.ref q) (nxt S.keys j) := ⟨q, rfl, tp4 _ _ hk3⟩
    refine spGG_u1 hkP (show S.got.length = M from hI.lgot) hi hid hi ?_ (show ω.n + 1 < 450 by omega) (fun HF ω' hk' hn' => ?_) rfl
    · show 1 + ((cnt S.keys j : Nat) : Int) = ((cnt (rowOf S.got j) j : Nat) : Int) + 1
      exact ez.symm
    · exact k HF ω' hk' hn'
theorem ok_HistoryWalk_go_on (T : Txt w K mg a) : FnOk P w K mg base CX0 8 a.HistoryWalk_go_on a.d_HistoryWalk_go_on ["self", "row"] (spGO K a) := by
  refine fund_ok0 T.F_HistoryWalk_go_on sc_HistoryWalk_go_on (fun vs H Q E h => ?_) (fun cdv A outer s H vs Q E hr h => ?_)
  · obtain ⟨x, q, ω, H0, S, M, r, rfl, hk, hI, hM, hq, hok, hsm, hw, h30, hn, k⟩ := h
    rfl
  · obtain ⟨x, q, ω, H0, S, M, r, rfl, hk, hI, hM, hq, hok, hsm, hw, h30, hn, k⟩ := h
    refine ⟨_, (pss_one (ps_if (pt_cmpR (op_eqU hr.units (K := K)) (pe_ix (ix_U (K := K)) (pv 1) pe_int (fun _ _ => rfl)) pe_str (nomark _)) (pss_one (ps_expr (pe_meth (pv 0) T.c_HistoryWalk T.M_HistoryWalk_go_sent (ok_HistoryWalk_go_sent (K := K) T) (hr.mono (by decide)) T.B_HistoryWalk_go_sent .nil pass0 (pa_cons (pe_ix (ix_U (K := K)) (pv 1) pe_int (fun _ _ => rfl)) (pa_cons (pe_ix (ix_U (K := K)) (pv 1) pe_int (fun _ _ => rfl)) pa_nil))))) (pss_one (ps_if (pt_cmpR (op_eqU hr.units (K := K)) (pe_ix (ix_U (K := K)) (pv 1) pe_int (fun _ _ => rfl)) pe_str (nomark _)) (pss_one (ps_expr (pe_meth (pv 0) T.c_HistoryWalk T.M_HistoryWalk_go_got (ok_HistoryWalk_go_got (K := K) T) (hr.mono (by decide)) T.B_HistoryWalk_go_got .nil pass0 (pa_cons (pe_ix (ix_U (K := K)) (pv 1) pe_int (fun _ _ => rfl)) (pa_cons (pe_tup (pa_cons (pe_ix (ix_U (K := K)) (pv 1) pe_int (fun _ _ => rfl)) (pa_cons (pe_ix (ix_U (K := K)) (pv 1) pe_int (fun _ _ => rfl)) pa_nil))) pa_nil))))) (pss_one (ps_expr (pe_meth (pv 0) T.c_HistoryWalk T.M_HistoryWalk_go_told (ok_HistoryWalk_go_told (K := K) T) (hr.mono (by decide)) T.B_HistoryWalk_go_told .nil pass0 (pa_cons (pe_ix (ix_U (K := K)) (pv 1) pe_int (fun _ _ => rfl)) (pa_cons (pe_tup (pa_cons (pe_ix (ix_U (K := K)) (pv 1) pe_int (fun _ _ => rfl)) (pa_cons (pe_ix (ix_U (K := K)) (pv 1) pe_int (fun _ _ => rfl)) pa_nil))) pa_nil))))))))), ?_⟩
    dsimp only [L2.start, List.map_cons, List.map_nil, List.map, List.length_cons, List.length_nil, Nat.reduceAdd, Nat.reduceSub, List.replicate, List.cons_append, List.nil_append]
    have hmem0 := Rw.ok_mem hok
    have hx0 := hk.hx
    cases r with
    | sent i z =>
      have hmem : 0 ≤ i ∧ i ≤ (M : Int) - 1 := hmem0
      have hwd : isWord (.str z) = true := by
        simp only [Rw.okB, Bool.and_eq_true] at hok
        exact hok.2
      have hz : z.length ≤ 1000 := hsm
      have h30 : S.keys.length < 30 := h30 rfl
      wtm_at "gs"
      exact k _ _ hk' (by omega)
    | got i s n =>
      have hmem : 0 ≤ i ∧ i ≤ (M : Int) - 1 := hmem0
      have hs : 0 ≤ s ∧ s ≤ (M : Int) - 1 := by simp only [Rw.okB, inR, Bool.and_eq_true, decide_eq_true_eq] at hok; omega
      have hlg := hI.lgot
      have he := hI.got_next hmem hw
      wtm_at "gs"
      refine spGG_u1 (z := (s, n)) (hk.same sa) hlg hmem ⟨q, rfl, hg⟩ hs he (by omega) (fun HH ω' hk' hn' => ?_) rfl
      exact k _ _ hk' (by omega)
    | told i p s n =>
      have hmem : 0 ≤ i ∧ i ≤ (M : Int) - 1 := hmem0
      have hs : 0 ≤ s ∧ s ≤ (M : Int) - 1 := by simp only [Rw.okB, inR, Bool.and_eq_true, decide_eq_true_eq] at hok; omega
      have hlg := hI.ltold
      have he := hI.told_next hmem hw
      wtm_at "gs"
      refine spGT_u1 (z := (s, n)) (hk.same sa) hlg hmem ⟨q, rfl, hg⟩ hs he (by omega) (fun HH ω' hk' hn' => ?_) rfl
      exact k _ _ hk' (by omega)
theorem ok_HistoryWalk_init (T : Txt w K mg a) : FnOk P w K mg base CX0 1 a.HistoryWalk_init a.d_HistoryWalk_init ["self", "members"] (spWI a) := by
  refine fund_ok0 T.F_HistoryWalk_init sc_HistoryWalk_init (fun vs H Q E h => ?_) (fun cdv A outer s H vs Q E hr h => ?_)
  · obtain ⟨x, dx, M, H0, rfl, hM, hx, s0, n0, k⟩ := h
    rfl
  · obtain ⟨x, dx, M, H0, rfl, hM, hx, s0, n0, k⟩ := h
    refine ⟨_, (pss_cons (ps_fldK (K := K) (pv 0) pe_dnewT)
    (pss_cons (ps_fldK (K := K) (pv 0) (pe_lst pa_nil))
    (pss_cons (ps_fldK (K := K) (pv 0) (pe_lc (own := [("member", 2)]) rfl sc_HistoryWalk_init.nd (pi_range1 (by rfl) T.b_range (pa_cons (pv 1) pa_nil)) (blkOk_by (own := [("member", 2)]) (N := ["self", "members", "member"]) (sc := defScope s_HistoryWalk_init) (by decide +kernel)) (fun _ _ _ _ _ => (pg_name (i := 2) sc_HistoryWalk_init.nd rfl (by first | exact Or.inl rfl | exact Or.inr rfl))) (fun _ _ _ _ _ => pts_nil) (fun _ _ _ _ _ => (pe_op op_mulU (pe_lst (pa_cons pe_int pa_nil)) (pv 1)))))
    (pss_cons (ps_fldK (K := K) (pv 0) (pe_lc (own := [("member", 2)]) rfl sc_HistoryWalk_init.nd (pi_range1 (by rfl) T.b_range (pa_cons (pv 1) pa_nil)) (blkOk_by (own := [("member", 2)]) (N := ["self", "members", "member"]) (sc := defScope s_HistoryWalk_init) (by decide +kernel)) (fun _ _ _ _ _ => (pg_name (i := 2) sc_HistoryWalk_init.nd rfl (by first | exact Or.inl rfl | exact Or.inr rfl))) (fun _ _ _ _ _ => pts_nil) (fun _ _ _ _ _ => (pe_lst pa_nil))))
    (pss_cons (ps_fldK (K := K) (pv 0) (pe_lc (own := [("member", 2)]) rfl sc_HistoryWalk_init.nd (pi_range1 (by rfl) T.b_range (pa_cons (pv 1) pa_nil)) (blkOk_by (own := [("member", 2)]) (N := ["self", "members", "member"]) (sc := defScope s_HistoryWalk_init) (by decide +kernel)) (fun _ _ _ _ _ => (pg_name (i := 2) sc_HistoryWalk_init.nd rfl (by first | exact Or.inl rfl | exact Or.inr rfl))) (fun _ _ _ _ _ => pts_nil) (fun _ _ _ _ _ => (pe_lst pa_nil))))
    (pss_cons (ps_fldK (K := K) (pv 0) (pe_lc (own := [("member", 2)]) rfl sc_HistoryWalk_init.nd (pi_range1 (by rfl) T.b_range (pa_cons (pv 1) pa_nil)) (blkOk_by (own := [("member", 2)]) (N := ["self", "members", "member"]) (sc := defScope s_HistoryWalk_init) (by decide +kernel)) (fun _ _ _ _ _ => (pg_name (i := 2) sc_HistoryWalk_init.nd rfl (by first | exact Or.inl rfl | exact Or.inr rfl))) (fun _ _ _ _ _ => pts_nil) (fun _ _ _ _ _ => (pe_op op_mulU (pe_lst (pa_cons pe_int pa_nil)) (pv 1)))))
    (pss_one (ps_fldK (K := K) (pv 0) (pe_lst pa_nil))))))))), ?_⟩
    dsimp only [L2.start, List.map_cons, List.map_nil, List.map, List.length_cons, List.length_nil, Nat.reduceAdd, Nat.reduceSub, List.replicate, List.cons_append, List.nil_append]
    have eM : ((M : Int)).toNat = M := Int.toNat_natCast M
    wtm_at "gs"
    rename_i kr hkr HA saA hgA
    have nkr : kr ≠ x := fun c => by rw [c, hx] at hkr; cases hkr
    have nkl : q ≠ x := fun c => by rw [c, upd_same] at hq; cases hq
    have hkl : HA q = none := by rw [upd_ne nkl] at hq; exact hq
    have fkl : H q = none := none_same saA hkl
    generalize hE1 : upd HN x _ = E1
    have x1 : E1 x = some (.ins a.HistoryWalk dx [("kept_rows", .ref kr), ("kept_letters", .ref q)]) := by rw [← hE1]; exact upd_same
    have L1 : ∀ b u, b ≠ x → H b = some u → E1 b = some u := fun b u n e => by rw [← hE1, upd_ne n]; exact sa _ _ (by rw [upd_ne n]; exact saA _ _ e)
    have kr1 : E1 kr = some (.dT []) := by rw [← hE1, upd_ne nkr]; exact sa _ _ (by rw [upd_ne nkr]; exact hgA)
    have kl1 : E1 q = some (.lst []) := by rw [← hE1, upd_ne nkl]; exact hg
    clear hE1 sa hg hq hgA saA
    generalize q = kl at *
    rw [eM]
    intro D1 hD1
    refine' lc_newL (xs := (List.replicate M (0 : Int)).map V.int) (n := M) ?l11 hD1 (fun i hi H1 Q1 R1 s1 k1 => ?l21) (fun H2 q1s s1 d1 len1 h1 nd1 => ?l31)
    case l11 => omega
    case l21 =>
      have hm1 : -1000 ≤ (M : Int) ∧ (M : Int) ≤ 1000 := by omega
      wtm_at "gs"
      rw [eM] at hg
      rename_i _ hq0 _ sa0 _
      exact k1 _ _ (none_same sa0 hq) (sa0.trans sa) hg
    case l31 =>
      have nD1 : D1 ≠ x := fun c => by rw [c, x1] at hD1; cases hD1
      have hx1 := s1 _ _ x1
      wtm_at "gs"
      generalize hE2 : upd H2 x _ = E2
      have x2 : E2 x = some (.ins a.HistoryWalk dx [("kept_rows", .ref kr), ("kept_letters", .ref kl), ("got_counts", .ref D1)]) := by rw [← hE2]; exact upd_same
      have L2 : ∀ b u, b ≠ x → E1 b = some u → E2 b = some u := fun b u n e => by rw [← hE2, upd_ne n]; exact s1 _ _ e
      have M2 : ∀ b u, b ≠ x → H2 b = some u → E2 b = some u := fun b u n e => by rw [← hE2, upd_ne n]; exact e
      clear hE2
      rw [eM]
      intro D2 hD2
      refine' lc_newL (xs := []) (n := M) ?l12 hD2 (fun i hi H1 Q1 R1 s1 k1 => ?l22) (fun H3 q2s s2 d2 len2 h2 nd2 => ?l32)
      case l12 => omega
      case l22 =>
        wtm_at "gs"
        exact k1 _ _ hq sa hg
      case l32 =>
        have nD2 : D2 ≠ x := fun c => by rw [c, x2] at hD2; cases hD2
        have hx2 := s2 _ _ x2
        wtm_at "gs"
        generalize hE3 : upd H3 x _ = E3
        have x3 : E3 x = some (.ins a.HistoryWalk dx [("kept_rows", .ref kr), ("kept_letters", .ref kl), ("got_counts", .ref D1), ("got_ids", .ref D2)]) := by rw [← hE3]; exact upd_same
        have L3 : ∀ b u, b ≠ x → E2 b = some u → E3 b = some u := fun b u n e => by rw [← hE3, upd_ne n]; exact s2 _ _ e
        have M3 : ∀ b u, b ≠ x → H3 b = some u → E3 b = some u := fun b u n e => by rw [← hE3, upd_ne n]; exact e
        clear hE3
        rw [eM]
        intro D3 hD3
        refine' lc_newL (xs := []) (n := M) ?l13 hD3 (fun i hi H1 Q1 R1 s1 k1 => ?l23) (fun H4 q3s s3 d3 len3 h3 nd3 => ?l33)
        case l13 => omega
        case l23 =>
          wtm_at "gs"
          exact k1 _ _ hq sa hg
        case l33 =>
          have nD3 : D3 ≠ x := fun c => by rw [c, x3] at hD3; cases hD3
          have hx3 := s3 _ _ x3
          wtm_at "gs"
          generalize hE4 : upd H4 x _ = E4
          have x4 : E4 x = some (.ins a.HistoryWalk dx [("kept_rows", .ref kr), ("kept_letters", .ref kl), ("got_counts", .ref D1), ("got_ids", .ref D2), ("told_ids", .ref D3)]) := by rw [← hE4]; exact upd_same
          have L4 : ∀ b u, b ≠ x → E3 b = some u → E4 b = some u := fun b u n e => by rw [← hE4, upd_ne n]; exact s3 _ _ e
          have M4 : ∀ b u, b ≠ x → H4 b = some u → E4 b = some u := fun b u n e => by rw [← hE4, upd_ne n]; exact e
          clear hE4
          rw [eM]
          intro D4 hD4
          refine' lc_newL (xs := (List.replicate M (0 : Int)).map V.int) (n := M) ?l14 hD4 (fun i hi H1 Q1 R1 s1 k1 => ?l24) (fun H5 q4s s4 d4 len4 h4 nd4 => ?l34)
          case l14 => omega
          case l24 =>
            have hm1 : -1000 ≤ (M : Int) ∧ (M : Int) ≤ 1000 := by omega
            wtm_at "gs"
            rw [eM] at hg
            rename_i _ hq0 _ sa0 _
            exact k1 _ _ (none_same sa0 hq) (sa0.trans sa) hg
          case l34 =>
            have nD4 : D4 ≠ x := fun c => by rw [c, x4] at hD4; cases hD4
            have hx4 := s4 _ _ x4
            wtm_at "gs"
            have nlr : q ≠ x := fun c => by rw [c, upd_same] at hq; cases hq
            have hlr5 : H5 q = none := by rw [upd_ne nlr] at hq; exact hq
            have Z0 : ∀ b u, b ≠ x → H5 b = some u → HN b = some u := fun b u n e => sa _ _ (by rw [upd_ne n]; exact e)
            generalize hEZ : upd HN x _ = EZ
            have xZ : EZ x = some (.ins a.HistoryWalk dx [("kept_rows", .ref kr), ("kept_letters", .ref kl), ("got_counts", .ref D1), ("got_ids", .ref D2), ("told_ids", .ref D3), ("told_counts", .ref D4), ("longest_row", .ref q)]) := by rw [← hEZ]; exact upd_same
            have Z : ∀ b u, b ≠ x → H5 b = some u → EZ b = some u := fun b u n e => by rw [← hEZ, upd_ne n]; exact Z0 b u n e
            have lrZ : EZ q = some (.lst []) := by rw [← hEZ, upd_ne nlr]; exact hg
            clear hEZ hg hq sa Z0
            have nkx := nkl
            have kl2 := L2 _ _ nkl kl1
            have kl3 := L3 _ _ nkl kl2
            have kl4 := L4 _ _ nkl kl3
            have kl5 := s4 _ _ kl4
            have D12 := M2 _ _ nD1 d1
            have D13 := L3 _ _ nD1 D12
            have D14 := L4 _ _ nD1 D13
            have D15 := s4 _ _ D14
            have D23 := M3 _ _ nD2 d2
            have D24 := L4 _ _ nD2 D23
            have D25 := s4 _ _ D24
            have D34 := M4 _ _ nD3 d3
            have D35 := s4 _ _ D34
            have n1 : ∀ b ∈ q1s, b ≠ x := fun b hb => (ne_of_none x1 (h1 b hb).1).symm
            have n2 : ∀ b ∈ q2s, b ≠ x := fun b hb => (ne_of_none x2 (h2 b hb).1).symm
            have n3 : ∀ b ∈ q3s, b ≠ x := fun b hb => (ne_of_none x3 (h3 b hb).1).symm
            have n4 : ∀ b ∈ q4s, b ≠ x := fun b hb => (ne_of_none x4 (h4 b hb).1).symm
            have Q12 := fun b hb => M2 b _ (n1 b hb) (h1 b hb).2.2
            have Q13 := fun b hb => L3 b _ (n1 b hb) (Q12 b hb)
            have Q14 := fun b hb => L4 b _ (n1 b hb) (Q13 b hb)
            have Q15 := fun b hb => s4 b _ (Q14 b hb)
            have Q23 := fun b hb => M3 b _ (n2 b hb) (h2 b hb).2.2
            have Q24 := fun b hb => L4 b _ (n2 b hb) (Q23 b hb)
            have Q25 := fun b hb => s4 b _ (Q24 b hb)
            have Q34 := fun b hb => M4 b _ (n3 b hb) (h3 b hb).2.2
            have Q35 := fun b hb => s4 b _ (Q34 b hb)
            have kr2 := L2 _ _ nkr kr1
            have kr5 := s4 _ _ (L4 _ _ nkr (L3 _ _ nkr kr2))
            have SA : Same H0 E1 := fun b u e => L1 b u (ne_of_none e n0) (s0 _ _ e)
            have SB : Same H0 E2 := fun b u e => L2 b u (ne_of_none e n0) (SA _ _ e)
            have SC : Same H0 E3 := fun b u e => L3 b u (ne_of_none e n0) (SB _ _ e)
            have SD : Same H0 E4 := fun b u e => L4 b u (ne_of_none e n0) (SC _ _ e)
            have SE : Same H0 H5 := SD.trans s4
            have SZ : Same H0 EZ := fun b u e => Z b u (ne_of_none e n0) (SE _ _ e)
            refine k EZ { n := 0, dx := dx, kr := kr, kl := kl, gc := D1, gi := D2, ti := D3, tc := D4, lr := q, kk := [], ls := [], gcq := q1s, giq := q2s, tiq := q3s, tcq := q4s } ?_ rfl
            exact {
              hx := xZ
              hr := Z _ _ nkr kr5
              rk := All2.nil
              hl := Z _ _ nkl kl5
              ll := Nat.le_refl _
              hgc := Z _ _ nD1 D15
              hgi := Z _ _ nD2 D25
              hti := Z _ _ nD3 D35
              htc := Z _ _ nD4 d4
              kgc := all2_rep len1 fun p hp => by
                show EZ p = some (.lst ((cnts M []).map V.int))
                rw [cnts_nil]
                exact Z _ _ (n1 p hp) (Q15 p hp)
              kgi := all2_rep len2 fun p hp => ⟨[], Z _ _ (n2 p hp) (Q25 p hp), All2.nil⟩
              kti := all2_rep len3 fun p hp => ⟨[], Z _ _ (n3 p hp) (Q35 p hp), All2.nil⟩
              ktc := all2_rep len4 fun p hp => by
                show EZ p = some (.lst ((cnts M []).map V.int))
                rw [cnts_nil]
                exact Z _ _ (n4 p hp) (h4 p hp).2.2
              hlr := ⟨[], lrZ, All2.nil⟩
              nd := WkN.nd {
                a1 := nd1
                a2 := nd2
                a3 := nd3
                a4 := nd4
                b12 := fun b hb c hc => ne_of_none (Q12 b hb) (h2 c hc).1
                b13 := fun b hb c hc => ne_of_none (Q13 b hb) (h3 c hc).1
                b14 := fun b hb c hc => ne_of_none (Q14 b hb) (h4 c hc).1
                b23 := fun b hb c hc => ne_of_none (Q23 b hb) (h3 c hc).1
                b24 := fun b hb c hc => ne_of_none (Q24 b hb) (h4 c hc).1
                b34 := fun b hb c hc => ne_of_none (Q34 b hb) (h4 c hc).1
                c1 := fun b hb => ⟨ne_of_none (Q15 b hb) hlr5, (ne_of_none kl1 (h1 b hb).1).symm, (h1 b hb).2.1, ne_of_none (Q12 b hb) hD2, ne_of_none (Q13 b hb) hD3, ne_of_none (Q14 b hb) hD4⟩
                c2 := fun b hb => ⟨ne_of_none (Q25 b hb) hlr5, (ne_of_none kl2 (h2 b hb).1).symm, (ne_of_none D12 (h2 b hb).1).symm, (h2 b hb).2.1, ne_of_none (Q23 b hb) hD3, ne_of_none (Q24 b hb) hD4⟩
                c3 := fun b hb => ⟨ne_of_none (Q35 b hb) hlr5, (ne_of_none kl3 (h3 b hb).1).symm, (ne_of_none D13 (h3 b hb).1).symm, (ne_of_none D23 (h3 b hb).1).symm, (h3 b hb).2.1, ne_of_none (Q34 b hb) hD4⟩
                c4 := fun b hb => ⟨ne_of_none (h4 b hb).2.2 hlr5, (ne_of_none kl4 (h4 b hb).1).symm, (ne_of_none D14 (h4 b hb).1).symm, (ne_of_none D24 (h4 b hb).1).symm, (ne_of_none D34 (h4 b hb).1).symm, (h4 b hb).2.1⟩
                d1 := ⟨(ne_of_none kl5 hlr5).symm, (ne_of_none D15 hlr5).symm, (ne_of_none D25 hlr5).symm, (ne_of_none D35 hlr5).symm, (ne_of_none d4 hlr5).symm⟩
                d2 := ⟨ne_of_none kl1 hD1, ne_of_none kl2 hD2, ne_of_none kl3 hD3, ne_of_none kl4 hD4⟩ }
                ⟨ne_of_none D12 hD2, ne_of_none D13 hD3, ne_of_none D14 hD4, ne_of_none D23 hD3, ne_of_none D24 hD4, ne_of_none D34 hD4⟩
              s0 := SZ
              fr := fun b hb => by
                unfold WkA.all at hb
                simp only [List.mem_append, List.mem_cons, List.not_mem_nil, or_false] at hb
                rcases hb with hb | hb | hb | hb | rfl | rfl | rfl | rfl | rfl | rfl
                · exact none_same SA (h1 b hb).1
                · exact none_same SB (h2 b hb).1
                · exact none_same SC (h3 b hb).1
                · exact none_same SD (h4 b hb).1
                · exact none_same SE hlr5
                · exact none_same s0 fkl
                · exact none_same SA hD1
                · exact none_same SB hD2
                · exact none_same SC hD3
                · exact none_same SD hD4
              fk := none_same s0 hkr
              kl := Nat.le_refl _
              nl := fun l hl => by
                rcases List.mem_append.mp hl with hl | hl
                · rw [List.eq_of_mem_replicate hl]
                  exact Nat.le_refl _
                · rw [List.eq_of_mem_replicate hl]
                  exact Nat.le_refl _
              ng := Nat.le_refl _
              nn := Nat.zero_le _ }
theorem ok_HistoryWalk_why_not_got (T : Txt w K mg a) : FnOk P w K mg base CX0 1 a.HistoryWalk_why_not_got a.d_HistoryWalk_why_not_got ["self", "member", "sender", "number"] (spWNG K a) := by
  refine fund_ok0 T.F_HistoryWalk_why_not_got sc_HistoryWalk_why_not_got (fun vs H Q E h => ?_) (fun cdv A outer s H vs Q E hr h => ?_)
  · obtain ⟨x, ω, H0, S, M, i, s, n, rfl, hk, hI, hi, hs, hn, k⟩ := h
    rfl
  · obtain ⟨x, ω, H0, S, M, i, s, n, rfl, hk, hI, hi, hs, hn, k⟩ := h
    refine ⟨_, (pss_cons (ps_if (pt_cmpR (op_eqU hr.units (K := K)) (pv 2) (pv 1) (nomark _)) (pss_one (ps_ret pe_str)) pss_nil)
    (pss_cons (ps_if (pt_cmp (pc_dnotin (unit1 hr) (pe_tup (pa_cons (pv 2) (pa_cons (pv 3) pa_nil))) (pe_fldK (K := K) (pv 0)))) (pss_one (ps_ret pe_str)) pss_nil)
    (pss_cons (ps_if (pt_cmpR op_leU (pv 3) (pe_ix (ix_U (K := K)) (pe_ix (ix_U (K := K)) (pe_fldK (K := K) (pv 0)) (pv 1) (fun _ _ => rfl)) (pv 2) (fun _ _ => rfl)) (nomark _)) (pss_one (ps_ret pe_str)) pss_nil)
    (pss_cons (ps_set (i := 4) sc_HistoryWalk_why_not_got.nd rfl (by first | exact Or.inl rfl | exact Or.inr rfl) (pe_dget (unit1 hr) (pe_fldK (K := K) (pv 0)) (pe_tup (pa_cons (pv 2) (pa_cons (pv 3) pa_nil))) (fun _ _ => rfl)))
    (pss_cons (ps_if (pt_val (pe_callB (cr_anyK (K := K) rfl) (by rfl) T.b_any (by decide +kernel) (pa_cons (pe_lc (own := [("count", 5), ("mine", 6)]) rfl sc_HistoryWalk_why_not_got.nd (pi_zipM (K := K) (by rfl) T.b_zip (pa_cons (pv 4) (pa_cons (pe_ix (ix_U (K := K)) (pe_fldK (K := K) (pv 0)) (pv 1) (fun _ _ => rfl)) pa_nil))) (blkOk_by (own := [("count", 5), ("mine", 6)]) (N := ["self", "member", "sender", "number", "causes", "count", "mine"]) (sc := defScope s_HistoryWalk_why_not_got) (by decide +kernel)) (fun _ _ _ _ _ => (pg_tupK (K := K) (n := 2) rfl (pgs_cons (pg_name (i := 5) sc_HistoryWalk_why_not_got.nd rfl (by first | exact Or.inl rfl | exact Or.inr rfl)) (pgs_cons (pg_name (i := 6) sc_HistoryWalk_why_not_got.nd rfl (by first | exact Or.inl rfl | exact Or.inr rfl)) pgs_nil)))) (fun _ _ _ _ _ => pts_nil) (fun _ _ _ _ _ => (pe_cmpR op_gtU (pv 5) (pv 6) (nomark _)))) pa_nil))) (pss_one (ps_ret pe_str)) pss_nil)
    (pss_one (ps_ret pe_non))))))), ?_⟩
    dsimp only [L2.start, List.map_cons, List.map_nil, List.map, List.length_cons, List.length_nil, Nat.reduceAdd, Nat.reduceSub, List.replicate, List.cons_append, List.nil_append]
    obtain ⟨hx, hrr, rk, hl, ll, hgc, hgi, hti, htc, kgc, kgi, kti, ktc, hlr, nd, s0, fr, fk, kl, nl, ng, nn⟩ := id hk
    obtain ⟨q0, hqi, hy, hCt, hqm⟩ := row_at kgc hI.lgot hi
    have hq0 : H q0 = some (.lst ((cnts M (rowOf S.got i)).map V.int)) := hCt
    have a2 := cnts_at (l := rowOf S.got i) hs
    have l5 : ((cnts M (rowOf S.got i)).map V.int).length = M := by rw [List.length_map, cnts_len]
    have cast : ∀ {v : V} {HH : Hp}, Same H HH → optV (whyGot S i (s, n)) = v → Q v HH := fun sm e => e ▸ k _ sm
    unfold whyGot at cast
    wtm_at "gs"
    · exact cast (Same.refl _) (by rw [if_pos (by assumption)]; rfl)
    have hne : ¬ s = i := by assumption
    rw [if_neg hne] at cast
    refine i_dgt (sa _ _ hrr) (k := idK (s, n)) hg ?_
    rw [val_some (R := fun _ => True) hk.keys]
    obtain ⟨g1, g2⟩ := hI.gotR hi
    wtm_at "gs"
    · have hz : (s, n) ∈ S.keys := by assumption
      exact cast (by wtm_at "same") (by rw [if_neg (Classical.not_not.mpr hz), if_pos ((g1 s n).mpr ⟨hn, by assumption⟩)]; rfl)
    · have hz : (s, n) ∈ S.keys := by assumption
      have hm : (s, n) ∉ rowOf S.got i := fun m => absurd ((g1 s n).mp m).2 (by assumption)
      rw [if_neg (Classical.not_not.mpr hz), if_neg hm] at cast
      obtain ⟨c1, c2, _⟩ := hI.causes hz
      obtain ⟨qc, hvc, hqc⟩ := hk.causes hz
      have lc : ((cnts M (causesOf S.cs (s, n))).map V.int).length = M := by rw [List.length_map, cnts_len]
      wtm_at "gs"
      refine i_dgT (by wtm_at "get") (k := idK (s, n)) hg hvc ?_
      wtm_at "gs"
      intro D hD
      refine' lc_zipM (fun x y => .bl (decide (vI y < vI x))) ?m1 ?m2 hD ?m3 ?m4 (fun j x y hx hy H1 T1 Q1 R1 s1 ht k1 => ?m5) (fun H1 s1 e1 => ?m6)
      case m1 => wtm_at "sq"
      case m2 => wtm_at "sq"
      case m3 => rw [lc, l5]
      case m4 => have := hI.m5; omega
      case m5 =>
        obtain ⟨x, _, rfl⟩ := List.mem_map.mp (List.mem_of_getElem? hx)
        obtain ⟨y, _, rfl⟩ := List.mem_map.mp (List.mem_of_getElem? hy)
        wtm_at "gs"
        exact k1 _ (by wtm_at "same")
      case m6 =>
        have e2 : H1 D = some (.lst ((List.zipWith (fun x y : Int => decide (y < x)) (cnts M (causesOf S.cs (s, n))) (cnts M (rowOf S.got i))).map V.bl)) := by
          rw [e1, List.zipWith_map, List.map_zipWith]
          rfl
        clear e1
        wtm_at "gs"
        refine i_anyB (.of e2) ?_
        rw [any_cnts c1 g1 (fun z hz => hI.kr z (c2 z hz))]
        wtm_at "gs"
        refine i_boo (fun e => ?_) (fun e => ?_)
        all_goals wtm_at "gs"
        · exact cast (by wtm_at "same") (by rw [if_pos e]; rfl)
        · exact cast (by wtm_at "same") (by rw [if_neg (by rw [e]; decide)]; rfl)
    · exact cast (by wtm_at "same") (by rw [if_pos (by assumption)]; rfl)
theorem ok_HistoryWalk_told_otherwise (T : Txt w K mg a) : FnOk P w K mg base CX0 1 a.HistoryWalk_told_otherwise a.d_HistoryWalk_told_otherwise ["self", "member", "place", "ident"] (spTO K a) := by
  refine fund_ok0 T.F_HistoryWalk_told_otherwise sc_HistoryWalk_told_otherwise (fun vs H Q E h => ?_) (fun cdv A outer s H vs Q E hr h => ?_)
  · obtain ⟨x, ω, H0, S, M, i, p, v, z, rfl, hk, h1, hv, k⟩ := h
    rfl
  · obtain ⟨x, ω, H0, S, M, i, p, v, z, rfl, hk, h1, hv, k⟩ := h
    refine ⟨_, (pss_cons (ps_if (pt_cmpR op_leU (pv 2) (pe_callB (call_lenU (K := K)) (by rfl) T.b_len (by decide +kernel) (pa_cons (pe_fldK (K := K) (pv 0)) pa_nil)) (nomark _)) (pss_one (ps_ret (pe_cmpR (op_neU hr.units (K := K)) (pe_ix (ix_U (K := K)) (pe_fldK (K := K) (pv 0)) (pe_op op_subU (pv 2) pe_int) (fun _ _ => rfl)) (pv 3) (nomark _)))) pss_nil)
    (pss_one (ps_ret (pe_cmpR (op_inDK (K := K) (unit65 hr)) (pv 3) (pe_fldK (K := K) (pv 0)) (by rfl))))), ?_⟩
    dsimp only [L2.start, List.map_cons, List.map_nil, List.map, List.length_cons, List.length_nil, Nat.reduceAdd, Nat.reduceSub, List.replicate, List.cons_append, List.nil_append]
    obtain ⟨hx, hrr, rk, hl, ll, hgc, hgi, hti, htc, kgc, kgi, kti, ktc, hlr, nd, s0, fr, fk, kl, nl, ng, nn⟩ := id hk
    obtain ⟨xs, hlr0, hlra⟩ := hlr
    obtain ⟨qv, rfl, hqv⟩ := id hv
    have lx : xs.length = S.lg.length := hlra.1
    wtm_at "gs"
    · obtain ⟨y2, hy2, e2, ey⟩ := atI_in (xs := xs) (r := p - 1) (by omega) (by omega)
      obtain ⟨z2, hz2, q2, rfl, hq2⟩ := hlra.get e2
      refine i_ixL (.of hlr0) ey ?_
      wtm_at "gs"
      refine cast_bl (k _ (Same.refl _)) ?_
      unfold otherB
      rw [if_pos (by omega), hz2]
      obtain ⟨z1, n1⟩ := z
      obtain ⟨z3, n3⟩ := z2
      rw [Bool.eq_iff_iff]
      simp
    · refine i_inIds (.of hlr0) hlra ⟨qv, rfl, hqv⟩ (cast_bl (k _ (Same.refl _)) ?_)
      unfold otherB
      rw [if_neg (by omega)]
theorem ok_HistoryWalk_why_not_told (T : Txt w K mg a) : FnOk P w K mg base CX0 2 a.HistoryWalk_why_not_told a.d_HistoryWalk_why_not_told ["self", "member", "place", "sender", "number"] (spWNT K a) := by
  refine fund_ok0 T.F_HistoryWalk_why_not_told sc_HistoryWalk_why_not_told (fun vs H Q E h => ?_) (fun cdv A outer s H vs Q E hr h => ?_)
  · obtain ⟨x, ω, H0, S, M, i, p, s, n, rfl, hk, hI, hi, h1, hs, hn, k⟩ := h
    rfl
  · obtain ⟨x, ω, H0, S, M, i, p, s, n, rfl, hk, hI, hi, h1, hs, hn, k⟩ := h
    refine ⟨_, (pss_cons (ps_if (pt_cmpR (op_neU hr.units (K := K)) (pv 2) (pe_op (op_addU (K := K)) (pe_callB (call_lenU (K := K)) (by rfl) T.b_len (by decide +kernel) (pa_cons (pe_ix (ix_U (K := K)) (pe_fldK (K := K) (pv 0)) (pv 1) (fun _ _ => rfl)) pa_nil)) pe_int) (nomark _)) (pss_one (ps_ret pe_str)) pss_nil)
    (pss_cons (ps_if (pt_cmpR op_gtU (pv 4) (pe_ix (ix_U (K := K)) (pe_ix (ix_U (K := K)) (pe_fldK (K := K) (pv 0)) (pv 1) (fun _ _ => rfl)) (pv 3) (fun _ _ => rfl)) (nomark _)) (pss_one (ps_ret pe_str)) pss_nil)
    (pss_cons (ps_if (pt_cmpR op_leU (pv 4) (pe_ix (ix_U (K := K)) (pe_ix (ix_U (K := K)) (pe_fldK (K := K) (pv 0)) (pv 1) (fun _ _ => rfl)) (pv 3) (fun _ _ => rfl)) (nomark _)) (pss_one (ps_ret pe_str)) pss_nil)
    (pss_cons (ps_if (pt_val (pe_meth (pv 0) T.c_HistoryWalk T.M_HistoryWalk_told_otherwise (ok_HistoryWalk_told_otherwise (K := K) T) (hr.mono (by decide)) T.B_HistoryWalk_told_otherwise .nil pass0 (pa_cons (pv 1) (pa_cons (pv 2) (pa_cons (pe_tup (pa_cons (pv 3) (pa_cons (pv 4) pa_nil))) pa_nil))))) (pss_one (ps_ret pe_str)) pss_nil)
    (pss_cons (ps_set (i := 5) sc_HistoryWalk_why_not_told.nd rfl (by first | exact Or.inl rfl | exact Or.inr rfl) (pe_dget (unit1 hr) (pe_fldK (K := K) (pv 0)) (pe_tup (pa_cons (pv 3) (pa_cons (pv 4) pa_nil))) (fun _ _ => rfl)))
    (pss_cons (ps_if (pt_val (pe_callB (cr_anyK (K := K) rfl) (by rfl) T.b_any (by decide +kernel) (pa_cons (pe_lc (own := [("count", 6), ("mine", 7)]) rfl sc_HistoryWalk_why_not_told.nd (pi_zipM (K := K) (by rfl) T.b_zip (pa_cons (pv 5) (pa_cons (pe_ix (ix_U (K := K)) (pe_fldK (K := K) (pv 0)) (pv 1) (fun _ _ => rfl)) pa_nil))) (blkOk_by (own := [("count", 6), ("mine", 7)]) (N := ["self", "member", "place", "sender", "number", "causes", "count", "mine"]) (sc := defScope s_HistoryWalk_why_not_told) (by decide +kernel)) (fun _ _ _ _ _ => (pg_tupK (K := K) (n := 2) rfl (pgs_cons (pg_name (i := 6) sc_HistoryWalk_why_not_told.nd rfl (by first | exact Or.inl rfl | exact Or.inr rfl)) (pgs_cons (pg_name (i := 7) sc_HistoryWalk_why_not_told.nd rfl (by first | exact Or.inl rfl | exact Or.inr rfl)) pgs_nil)))) (fun _ _ _ _ _ => pts_nil) (fun _ _ _ _ _ => (pe_cmpR op_gtU (pv 6) (pv 7) (nomark _)))) pa_nil))) (pss_one (ps_ret pe_str)) pss_nil)
    (pss_one (ps_ret pe_non)))))))), ?_⟩
    dsimp only [L2.start, List.map_cons, List.map_nil, List.map, List.length_cons, List.length_nil, Nat.reduceAdd, Nat.reduceSub, List.replicate, List.cons_append, List.nil_append]
    obtain ⟨hx, hrr, rk, hl, ll, hgc, hgi, hti, htc, kgc, kgi, kti, ktc, hlr, nd, s0, fr, fk, kl, nl, ng, nn⟩ := id hk
    obtain ⟨q0, hqi, hy, hCt, hqm⟩ := row_at kgc hI.lgot hi
    have hq0 : H q0 = some (.lst ((cnts M (rowOf S.got i)).map V.int)) := hCt
    obtain ⟨q1, hqi1, hy1, hCt1, hqm1⟩ := row_at ktc hI.ltold hi
    have hq1 : H q1 = some (.lst ((cnts M (rowOf S.told i)).map V.int)) := hCt1
    obtain ⟨q2, hqi2, hy2, ⟨xt, hq2, hat⟩, hqm2⟩ := row_at kti hI.ltold hi
    have lt : xt.length = (rowOf S.told i).length := hat.1
    have a2 := cnts_at (l := rowOf S.got i) hs
    have a3 := cnts_at (l := rowOf S.told i) hs
    have l5 : ((cnts M (rowOf S.told i)).map V.int).length = M := by rw [List.length_map, cnts_len]
    have cast : ∀ {v : V} {HH : Hp}, Same H HH → optV (whyTold S i p (s, n)) = v → Q v HH := fun sm e => e ▸ k _ sm
    unfold whyTold at cast
    obtain ⟨g1, g2⟩ := hI.gotR hi
    obtain ⟨t1, t2, _⟩ := hI.toldR hi
    have ng0 : ¬ n ≤ (cnt (rowOf S.got i) s : Int) → (s, n) ∉ rowOf S.got i := fun h m => h ((g1 s n).mp m).2
    have yg : n ≤ (cnt (rowOf S.got i) s : Int) → (s, n) ∈ rowOf S.got i := fun h => (g1 s n).mpr ⟨hn, h⟩
    wtm_at "gs"
    · exact cast (by wtm_at "same") (by rw [if_neg (by omega), if_pos (ng0 (by omega))]; rfl)
    · exact cast (by wtm_at "same") (by rw [if_neg (by omega), if_neg (Classical.not_not.mpr (yg (by omega))), if_pos ((t1 s n).mpr ⟨hn, by omega⟩)]; rfl)
    · have hpl : p = ((rowOf S.told i).length : Int) + 1 := by omega
      have hmg := yg (by omega)
      have hmt : (s, n) ∉ rowOf S.told i := fun m => absurd ((t1 s n).mp m).2 (by omega)
      have hz := g2 _ hmg
      rw [if_neg (Classical.not_not.mpr hpl), if_neg (Classical.not_not.mpr hmg), if_neg hmt] at cast
      obtain ⟨c1, c2, _⟩ := hI.causes hz
      obtain ⟨qc, hvc, hqc⟩ := hk.causes hz
      have lc : ((cnts M (causesOf S.cs (s, n))).map V.int).length = M := by rw [List.length_map, cnts_len]
      have hid : IdAt HN (.ref q) (s, n) := ⟨q, rfl, hg⟩
      wtm_at "gs"
      refine i_boo (fun e => ?_) (fun e => ?_)
      all_goals wtm_at "gs"
      · exact cast (by wtm_at "same") (by rw [if_pos e]; rfl)
      rw [if_neg (by rw [e]; decide)] at cast
      refine i_dgT (by wtm_at "get") (k := idK (s, n)) hg hvc ?_
      wtm_at "gs"
      intro D hD
      refine' lc_zipM (fun x y => .bl (decide (vI y < vI x))) ?m1 ?m2 hD ?m3 ?m4 (fun j x y hx hy H1 T1 Q1 R1 s1 ht k1 => ?m5) (fun H1 s1 e1 => ?m6)
      case m1 => wtm_at "sq"
      case m2 => wtm_at "sq"
      case m3 => rw [lc, l5]
      case m4 => have := hI.m5; omega
      case m5 =>
        obtain ⟨x, _, rfl⟩ := List.mem_map.mp (List.mem_of_getElem? hx)
        obtain ⟨y, _, rfl⟩ := List.mem_map.mp (List.mem_of_getElem? hy)
        wtm_at "gs"
        exact k1 _ (by wtm_at "same")
      case m6 =>
        have e2 : H1 D = some (.lst ((List.zipWith (fun x y : Int => decide (y < x)) (cnts M (causesOf S.cs (s, n))) (cnts M (rowOf S.told i))).map V.bl)) := by
          rw [e1, List.zipWith_map, List.map_zipWith]
          rfl
        clear e1
        wtm_at "gs"
        refine i_anyB (.of e2) ?_
        rw [any_cnts c1 t1 (fun z hz => hI.kr z (c2 z hz))]
        wtm_at "gs"
        refine i_boo (fun e => ?_) (fun e => ?_)
        all_goals wtm_at "gs"
        · exact cast (by wtm_at "same") (by rw [if_pos e]; rfl)
        · exact cast (by wtm_at "same") (by rw [if_neg (by rw [e]; decide)]; rfl)
    · exact cast (by wtm_at "same") (by rw [if_pos (by omega)]; rfl)
theorem ok_HistoryWalk_why_not (T : Txt w K mg a) : FnOk P w K mg base CX0 3 a.HistoryWalk_why_not a.d_HistoryWalk_why_not ["self", "row"] (spWN K a) := by
  refine fund_ok0 T.F_HistoryWalk_why_not sc_HistoryWalk_why_not (fun vs H Q E h => ?_) (fun cdv A outer s H vs Q E hr h => ?_)
  · obtain ⟨x, q, ω, H0, S, M, r, rfl, hk, hI, hq, hok, k⟩ := h
    rfl
  · obtain ⟨x, q, ω, H0, S, M, r, rfl, hk, hI, hq, hok, k⟩ := h
    refine ⟨_, (pss_cons (ps_if (pt_cmpR (op_eqU hr.units (K := K)) (pe_ix (ix_U (K := K)) (pv 1) pe_int (fun _ _ => rfl)) pe_str (nomark _)) (pss_one (ps_ret (pe_meth (pv 0) T.c_HistoryWalk T.M_HistoryWalk_why_not_got (ok_HistoryWalk_why_not_got (K := K) T) (hr.mono (by decide)) T.B_HistoryWalk_why_not_got .nil pass0 (pa_cons (pe_ix (ix_U (K := K)) (pv 1) pe_int (fun _ _ => rfl)) (pa_cons (pe_ix (ix_U (K := K)) (pv 1) pe_int (fun _ _ => rfl)) (pa_cons (pe_ix (ix_U (K := K)) (pv 1) pe_int (fun _ _ => rfl)) pa_nil)))))) pss_nil)
    (pss_cons (ps_if (pt_cmpR (op_eqU hr.units (K := K)) (pe_ix (ix_U (K := K)) (pv 1) pe_int (fun _ _ => rfl)) pe_str (nomark _)) (pss_one (ps_ret (pe_meth (pv 0) T.c_HistoryWalk T.M_HistoryWalk_why_not_told (ok_HistoryWalk_why_not_told (K := K) T) (hr.mono (by decide)) T.B_HistoryWalk_why_not_told .nil pass0 (pa_cons (pe_ix (ix_U (K := K)) (pv 1) pe_int (fun _ _ => rfl)) (pa_cons (pe_ix (ix_U (K := K)) (pv 1) pe_int (fun _ _ => rfl)) (pa_cons (pe_ix (ix_U (K := K)) (pv 1) pe_int (fun _ _ => rfl)) (pa_cons (pe_ix (ix_U (K := K)) (pv 1) pe_int (fun _ _ => rfl)) pa_nil))))))) pss_nil)
    (pss_one (ps_ret pe_non)))), ?_⟩
    dsimp only [L2.start, List.map_cons, List.map_nil, List.map, List.length_cons, List.length_nil, Nat.reduceAdd, Nat.reduceSub, List.replicate, List.cons_append, List.nil_append]
    have hmem0 := Rw.ok_mem hok
    have hx0 := hk.hx
    cases r with
    | sent i z =>
      wtm_at "gs"
      exact k _ (Same.refl _)
    | got i s n =>
      have hmem : 0 ≤ i ∧ i ≤ (M : Int) - 1 := hmem0
      have hs : (0 ≤ s ∧ s ≤ (M : Int) - 1) ∧ 1 ≤ n := by simp only [Rw.okB, inR, Bool.and_eq_true, decide_eq_true_eq] at hok; omega
      obtain ⟨hs, hn⟩ := hs
      wtm_at "gs"
      exact k _ (by wtm_at "same")
    | told i p s n =>
      have hmem : 0 ≤ i ∧ i ≤ (M : Int) - 1 := hmem0
      have hs : 1 ≤ p ∧ (0 ≤ s ∧ s ≤ (M : Int) - 1) ∧ 1 ≤ n := by simp only [Rw.okB, inR, Bool.and_eq_true, decide_eq_true_eq] at hok; omega
      obtain ⟨h1, hs, hn⟩ := hs
      wtm_at "gs"
      exact k _ (by wtm_at "same")
end
/-! ### first_wrong -/
def spFW (K : PySem.W.Frag) (a : Ad) : Sp := fun vs H Q E => ∃ (M : Nat) (v : V), vs = [.int M, v] ∧ (2 ≤ M ∧ M ≤ 5) ∧ (((HsNo K H M v) ∧ (∀ HH ed, Same H HH → HH ed = some (.xd [("found", v)]) → E (.ref a.NoHistory) (some ed) HH)) ∨ (∃ (rs : List Rw), (HsAt K H v rs) ∧ (histB M rs = true) ∧ (rs.length ≤ 200) ∧ (∀ HH u, (Same H HH) → (FwAt H HH u (firstW (Ms.new M) rs 0)) → Q (u) HH)))
theorem spFW_u1 {K : PySem.W.Frag} {a : Ad} {H : Hp} {Q : VK} {E : XK} {vs : List V} {M : Nat} {v : V} (g0 : 2 ≤ M ∧ M ≤ 5) (g1 : HsNo K H M v) (k : ∀ HH ed, Same H HH → HH ed = some (.xd [("found", v)]) → E (.ref a.NoHistory) (some ed) HH) (he : vs = [.int M, v] := by rfl) : spFW K a vs H Q E := ⟨M, v, he, g0, .inl ⟨g1, k⟩⟩
theorem spFW_u2 {K : PySem.W.Frag} {a : Ad} {H : Hp} {Q : VK} {E : XK} {vs : List V} {M : Nat} {v : V} {rs : List Rw} (g0 : 2 ≤ M ∧ M ≤ 5) (g1 : HsAt K H v rs) (g2 : histB M rs = true) (g3 : rs.length ≤ 200) (k : ∀ HH u, (Same H HH) → (FwAt H HH u (firstW (Ms.new M) rs 0)) → Q (u) HH) (he : vs = [.int M, v] := by rfl) : spFW K a vs H Q E := ⟨M, v, he, g0, .inr (⟨rs, g1, g2, g3, k⟩)⟩
set_option hygiene false in
local macro_rules | `(tactic| wtm_at "u") => `(tactic| first | ((with_reducible refine' spFW_u1 ?g0 ?g1 (fun HH ed sm hed => ?_) ?he); (case he => rfl); (case g0 => wtm_at "as"); (case g1 => wtm_at "hs")) | ((with_reducible refine' spFW_u2 ?g0 ?g1 ?g2 ?g3 (fun HH u sm hu => ?_) ?he); (case he => rfl); (case g0 => wtm_at "as"); (case g1 => wtm_at "hs"); (case g2 => wtm_at "as"); (case g3 => wtm_at "as")) | fail)
set_option hygiene false in
local macro_rules | `(tactic| wtm_at "u") => `(tactic| with_reducible refine i_enumS ?_)
section
variable {P : Program} {w : World} {K : PySem.W.Frag} {mg : Str → Option Value} {base : Heap} {a : Ad}
theorem ok_first_wrong (T : Txt w K mg a) : FnOk P w K mg base (L2.CX P w) 9 a.first_wrong a.d_first_wrong ["members", "rows"] (spFW K a) := by
  refine fund_okX T.F_first_wrong sc_first_wrong (fun vs H Q E h => ?_) (fun cdv A outer s H vs Q E hr tk hp h => ?_)
  · obtain ⟨M, v, rfl, hM, h⟩ := h
    rfl
  · obtain ⟨M, v, rfl, hM, h⟩ := h
    refine ⟨_, (pss_cons (ps_expr (pe_callSD (ok_need_history (K := K) T) (hr.mono (by decide)) (by rfl) T.m_need_history T.F_need_history.kp T.B_need_history .nil (passAt tk) (pa_cons (pv 0) (pa_cons (pv 1) pa_nil))))
    (pss_cons (ps_set (i := 2) sc_first_wrong.nd rfl (by first | exact Or.inl rfl | exact Or.inr rfl) (pe_make T.mk_HistoryWalk (ok_HistoryWalk_init (K := K) T) (hr.mono (by decide)) (by rfl) T.m_HistoryWalk T.B_HistoryWalk_init .nil pass0 (pa_cons (pv 0) pa_nil)))
    (pss_cons (ps_for hp rfl (pi_enumS (K := K) (by rfl) T.b_enumerate (pa_cons (pv 1) pa_nil)) (pg_tupK (K := K) (n := 2) rfl (pgs_cons (pg_name (i := 3) sc_first_wrong.nd rfl (by first | exact Or.inl rfl | exact Or.inr rfl)) (pgs_cons (pg_name (i := 4) sc_first_wrong.nd rfl (by first | exact Or.inl rfl | exact Or.inr rfl)) pgs_nil)))
    (pss_cons (ps_set (i := 5) sc_first_wrong.nd rfl (by first | exact Or.inl rfl | exact Or.inr rfl) (pe_meth (pv 2) T.c_HistoryWalk T.M_HistoryWalk_why_not (ok_HistoryWalk_why_not (K := K) T) (hr.mono (by decide)) T.B_HistoryWalk_why_not .nil pass0 (pa_cons (pv 4) pa_nil)))
    (pss_cons (ps_if (pt_cmpR op_isnU (pv 5) pe_non (nomark _)) (pss_one (ps_ret (pe_tup (pa_cons (pv 3) (pa_cons (pv 5) pa_nil))))) pss_nil)
    (pss_one (ps_expr (pe_meth (pv 2) T.c_HistoryWalk T.M_HistoryWalk_go_on (ok_HistoryWalk_go_on (K := K) T) (hr.mono (by decide)) T.B_HistoryWalk_go_on .nil pass0 (pa_cons (pv 4) pa_nil)))))))
    (pss_one (ps_ret pe_non))))), ?_⟩
    clear tk hp
    dsimp only [L2.start, List.map_cons, List.map_nil, List.map, List.length_cons, List.length_nil, Nat.reduceAdd, Nat.reduceSub, List.replicate, List.cons_append, List.nil_append]
    rcases h with ⟨hn, k⟩ | ⟨rs, hh, hb, hl, k⟩
    · have hM' : 2 ≤ (M : Int) ∧ (M : Int) ≤ 5 := by omega
      wtm_at "gs"
      exact k _ _ (by wtm_at "rz") (by wtm_at "rz")
    · have hM' : 2 ≤ (M : Int) ∧ (M : Int) ≤ 5 := by omega
      wtm_at "gs"
      have sm0 := sm
      have sL : Same HH (upd (upd HH dx (.own x)) x (.ins a.HistoryWalk dx [])) := fun b u e => by rw [upd_ne (ne_of_none e nx), upd_ne (ne_of_none e ndx)]; exact e
      refine ⟨x, dx, M, HH, rfl, hM, upd_same, sL, nx, fun HW ω hwk hn0 => ⟨rfl, ?_⟩⟩
      obtain ⟨p, xs, rfl, hsq, hx, hz, hl4⟩ := hh
      have hx1 : All2 (RwAt HH) xs rs := hx.mono fun _ _ => RwAt.same sm
      have lx : xs.length = rs.length := hx.1
      have s30 : (rs.filter Rw.sentB).length ≤ 30 := by
        unfold histB at hb
        rw [Bool.and_eq_true, decide_eq_true_eq] at hb
        exact hb.2
      have hok : ∀ r ∈ rs, r.okB M = true := by
        unfold histB at hb
        rw [Bool.and_eq_true, List.all_eq_true] at hb
        exact hb.1
      wtm_at "gs"
      rcases hsq with hsq | hsq
      all_goals first
        | refine ⟨p, xs, rfl, .inl ⟨SqL.sm (sm.trans hwk.s0) hsq, ?_⟩⟩
        | refine ⟨p, xs, rfl, .inr ⟨SqT.same (sm.trans hwk.s0) hsq, ?_⟩⟩
      all_goals
        refine for_it (n := xs.length) (by first | exact walk_enum (xs := xs) | exact walk_enumT (xs := xs)) (fun i σ H' => ∃ S ω v3 v4 v5, σ = [some (.int M), some (.ref p), some (.ref x), v3, v4, v5] ∧ Inw M S ∧ Wk a.HistoryWalk M HH H' x ω S ∧ ω.n ≤ 2 * i ∧ firstW (Ms.new M) rs 0 = firstW S (rs.drop i) i ∧ S.keys.length = ((rs.take i).filter Rw.sentB).length) ⟨Ms.new M, ω, _, _, _, rfl, Inw.new hM.2, hwk, by omega, rfl, rfl⟩ (fun i σ H' hi h => ?_) ?_ ?_
        · obtain ⟨S, ω, v3, v4, v5, rfl, e1, e2, e3, e4, e5⟩ := h
          first | exact SqL.sm (sm.trans e2.s0) hsq | exact SqT.same (sm.trans e2.s0) hsq
        · rintro i v σ H' H2 hi ⟨S, ω, v3, v4, v5, rfl, e1, e2, e3, e4, e5⟩ ⟨T1, y1, y2, rfl, nT, rfl, hy1, hy2⟩
          cases hy1
          obtain ⟨r, hr, pr, rfl, hpr⟩ := hx1.get hy2
          have sT : Same H' (upd H' T1 (.tup [.int (i : Nat), .ref pr])) := same_upd (Same.refl _) nT
          have gT : upd H' T1 (.tup [.int (i : Nat), .ref pr]) T1 = some (.tup [.int (i : Nat), .ref pr]) := upd_same
          have hwT := e2.same sT
          have hpT := sT _ _ (e2.s0 _ _ hpr)
          generalize upd H' T1 (.tup [.int (i : Nat), .ref pr]) = HT at *
          have hrm := List.mem_of_getElem? hr
          have hkr := hok r hrm
          have hsm := hz r hrm
          have hx0 := hwT.hx
          clear sT
          have hil := (List.getElem?_eq_some_iff.mp hr).1
          have hdr : rs.drop i = r :: rs.drop (i + 1) := by
            rw [List.drop_eq_getElem_cons hil, (List.getElem?_eq_some_iff.mp hr).2]
          have htk : rs.take (i + 1) = rs.take i ++ [r] := by rw [List.take_add_one, hr]; rfl
          have hle : ((rs.take (i + 1)).filter Rw.sentB).length ≤ 30 := Nat.le_trans (List.Sublist.length_le ((List.take_sublist _ _).filter _)) s30
          rw [htk, List.filter_append, List.length_append] at hle
          have h30 : r.sentB = true → S.keys.length < 30 := fun q => by
            simp only [List.filter_cons, q, if_true, List.filter_nil, List.length_cons, List.length_nil] at hle
            omega
          have hM2 := hM.1
          rw [hdr] at e4
          cases hwy : S.why r with
          | none =>
            have hv : optV (S.why r) = .non := by rw [hwy]; rfl
            have hn5 : ω.n + 2 ≤ 450 := by omega
            wtm_at "gs"
            refine ⟨S.go r, _, _, _, _, rfl, e1.go hkr hwy, hk', by omega, ?_, ?_⟩
            · rw [e4]
              show (match S.why r with | some w => _ | none => _) = _
              rw [hwy]
            · rw [htk, List.filter_append, List.length_append, ← e5, keys_go]
          | some wy =>
            have hv : ¬ optV (S.why r) = .non := by rw [hwy]; exact fun c => by cases c
            wtm_at "gs"
            have s5 := (sm0.trans hwT.s0).trans sm
            refine k _ _ (s5.trans sa) ?_
            rw [e4]
            show FwAt H HN (.ref q) (match S.why r with | some w => some (i, w) | none => firstW (S.go r) (rs.drop (i + 1)) (i + 1))
            rw [hwy]
            exact ⟨q, rfl, none_same s5 hq, by rw [hg, hwy]; rfl⟩
        · rintro σ H' ⟨S, ω, v3, v4, v5, rfl, e1, e2, e3, e4, e5⟩
          wtm_at "gs"
          refine k H' .non (sm.trans e2.s0) ?_
          rw [e4, lx, List.drop_length]
          exact rfl
end

/-! ### drawn words -/
def spWd (K : PySem.W.Frag) : Sp := fun vs H Q E => ∃ (p : Addr) (m : Int), vs = [.ref p] ∧ (H p = some (.lst [.int m])) ∧ (∀ HH m' z, (SameBut p H HH) → (HH p = some (.lst [.int m'])) → (z.length ≤ 8) → (isWord (.str z) = true) → Q (.str z) HH)
theorem spWd_u1 {K : PySem.W.Frag} {H : Hp} {Q : VK} {E : XK} {vs : List V} {p : Addr} {m : Int} (g0 : H p = some (.lst [.int m])) (k : ∀ HH m' z, (SameBut p H HH) → (HH p = some (.lst [.int m'])) → (z.length ≤ 8) → (isWord (.str z) = true) → Q (.str z) HH) (he : vs = [.ref p] := by rfl) : spWd K vs H Q E := ⟨p, m, he, g0, k⟩
set_option hygiene false in
local macro_rules | `(tactic| wtm_at "u") => `(tactic| first | ((with_reducible refine' spWd_u1 ?g0 (fun HH m' z sb hp' hz hw => ?_) ?he); (case he => rfl); (case g0 => wtm_at "get")) | fail)
section
variable {P : Program} {w : World} {K : PySem.W.Frag} {mg : Str → Option Value} {base : Heap} {a : Ad}
theorem ok__law_word (T : Txt w K mg a) : FnOk P w K mg base CX0 2 a._law_word a.d__law_word ["pool"] (spWd K) := by
  refine fund_ok0 T.F__law_word sc__law_word (fun vs H Q E h => ?_) (fun cdv A outer s H vs Q E hr h => ?_)
  · obtain ⟨p, m, rfl, hp, k⟩ := h
    rfl
  · obtain ⟨p, m, rfl, hp, k⟩ := h
    refine ⟨_, (pss_cons (ps_set (i := 1) sc__law_word.nd rfl (by first | exact Or.inl rfl | exact Or.inr rfl) pe_str)
    (pss_cons (ps_for PassesOwn.never rfl (pi_range1 (by rfl) T.b_range (pa_cons (pe_op (op_addU (K := K)) pe_int (pe_call (ok__law_take (K := K) T) (hr.mono (by decide)) (by rfl) T.m__law_take T.F__law_take.kp T.B__law_take .nil pass0 (pa_cons (pv 0) (pa_cons pe_int pa_nil)))) pa_nil)) (pg_name (i := 2) sc__law_word.nd rfl (by first | exact Or.inl rfl | exact Or.inr rfl))
    (pss_one (ps_set (i := 1) sc__law_word.nd rfl (by first | exact Or.inl rfl | exact Or.inr rfl) (pe_op (op_addU (K := K)) (pv 1) (pe_ix (ix_U (K := K)) pe_str (pe_call (ok__law_take (K := K) T) (hr.mono (by decide)) (by rfl) T.m__law_take T.F__law_take.kp T.B__law_take .nil pass0 (pa_cons (pv 0) (pa_cons pe_int pa_nil))) (fun _ _ => rfl))))))
    (pss_one (ps_ret (pv 1))))), ?_⟩
    dsimp only [L2.start, List.map_cons, List.map_nil, List.map, List.length_cons, List.length_nil, Nat.reduceAdd, Nat.reduceSub, List.replicate, List.cons_append, List.nil_append]
    wtm_at "gs"
    refine for_range (lo := 0) (n := (1 + r).toNat) (fun i σ H' => ∃ (z : Str) (v2 : Option V) (m' : Int), σ = [some (.ref p), some (.str z), v2] ∧ SameBut p H H' ∧ H' p = some (.lst [.int m']) ∧ z.length = i ∧ ∀ c ∈ z.cps.toList, c ∈ ("abcdefghijklmnopqrstuvwxyz" : Str).cps.toList) ?_ ?_ ?_
    · exact ⟨_, _, _, rfl, by wtm_at "but", by wtm_at "get", rfl, fun c h => nomatch h⟩
    · rintro i σ H' hi ⟨z, v2, m', rfl, s1, e1, e2, e3⟩
      wtm_at "gs"
      obtain ⟨c, hcm, _, hc⟩ := atI_in (xs := ("abcdefghijklmnopqrstuvwxyz" : Str).cps.toList) (r := r) (by assumption) (by show r < 26; assumption)
      refine i_ixS (by decide +kernel) hc ?_
      have l1 : (⟨#[c]⟩ : Str).length = 1 := rfl
      refine i_addS (line_le (by omega)) ?_
      wtm_at "gs"
      refine ⟨_, _, _, rfl, by wtm_at "but", by wtm_at "get", by rw [Str.length_append]; omega, fun d hd => ?_⟩
      rcases List.mem_append.mp (show d ∈ z.cps.toList ++ [c] from by have e : (z ++ (⟨#[c]⟩ : Str)).cps.toList = z.cps.toList ++ [c] := (show (z.cps ++ #[c]).toList = _ from by simp); rw [e] at hd; exact hd) with h | h
      · exact e3 d h
      · rw [List.mem_singleton.mp h]
        exact hcm
    · rintro σ H' ⟨z, v2, m', rfl, s1, e1, e2, e3⟩
      wtm_at "gs"
      refine k _ _ _ s1 e1 (by omega) ?_
      simp only [isWord, Bool.and_eq_true, decide_eq_true_eq, List.all_eq_true]
      exact ⟨by omega, by omega, e3⟩
end
def spCell (K : PySem.W.Frag) : Sp := fun vs H Q _ => ∃ (p : Addr) (ns : List Int) (i : Int), vs = [.ref p, .int i] ∧ SqL K H p (ns.map V.int) ∧ 0 ≤ i ∧ ∀ n, Q (.int n) H
section
variable {P : Program} {w : World} {K : PySem.W.Frag} {mg : Str → Option Value} {base : Heap} {a : Ad}
theorem ok__law_cell_at (T : Txt w K mg a) : FnOk P w K mg base CX0 1 a._law_cell_at a.d__law_cell_at ["script", "k"] (spCell K) := by
  refine fund_ok0 T.F__law_cell_at sc__law_cell_at (fun vs H Q E h => ?_) (fun cdv A outer s H vs Q E hr h => ?_)
  · obtain ⟨p, ns, i, rfl, hp, h0, k⟩ := h
    rfl
  · obtain ⟨p, ns, i, rfl, hp, h0, k⟩ := h
    refine ⟨_, (pss_cons (ps_if (pt_cmpR op_ltU (pv 1) (pe_callB (call_lenU (K := K)) (by rfl) T.b_len (by decide +kernel) (pa_cons (pv 0) pa_nil)) (nomark _)) (pss_one (ps_ret (pe_ix (ix_U (K := K)) (pv 0) (pv 1) (fun _ _ => rfl)))) pss_nil)
    (pss_one (ps_ret pe_int))), ?_⟩
    dsimp only [L2.start, List.map_cons, List.map_nil, List.map, List.length_cons, List.length_nil, Nat.reduceAdd, Nat.reduceSub, List.replicate, List.cons_append, List.nil_append]
    have ln : (ns.map V.int).length = ns.length := List.length_map ..
    wtm_at "gs"
    · obtain ⟨x, hx, _, hx'⟩ := atI_in (xs := ns.map V.int) (r := i) h0 (by assumption)
      obtain ⟨n, _, rfl⟩ := List.mem_map.mp hx
      wtm_at "gs"
      exact k _
    · exact k _
end
theorem cell_use {K : PySem.W.Frag} {H : Hp} {Q : VK} {E : XK} {vs : List V} {p : Addr} {ns : List Int} {i : Int} (h1 : SqL K H p (ns.map V.int)) (h2 : 0 ≤ i) (h : ∀ n, Q (.int n) H) (he : vs = [.ref p, .int i] := by rfl) : spCell K vs H Q E := ⟨p, ns, i, he, h1, h2, h⟩
set_option hygiene false in
local macro_rules | `(tactic| wtm_at "u") => `(tactic| first | ((with_reducible refine' cell_use ?h1 ?h2 (fun cn => ?_) ?he); (case he => rfl); (case h1 => wtm_at "sq"); (case h2 => first | decide | omega)) | fail)

/-! ### rows that can be, and any rows -/
def spMay (K : PySem.W.Frag) : Sp := fun vs H Q E => ∃ (o : Addr) (β : MdA) (S : Ms) (M : Nat) (i : Int), vs = [.ref o, .int i] ∧ (MdX H o β S) ∧ (Inw M S) ∧ (0 ≤ i ∧ i ≤ (M : Int) - 1) ∧ (S.keys.length ≤ 14) ∧ (∀ HH q ys qs, (Same H HH) → (H q = none) → (HH q = some (.lst ys)) → (All2 (RwAt HH) ys qs) → (∀ r ∈ qs, r.okB M = true ∧ r.sentB = false) → (ys.length ≤ 28) → Q (.ref q) HH)
theorem spMay_u1 {K : PySem.W.Frag} {H : Hp} {Q : VK} {E : XK} {vs : List V} {o : Addr} {β : MdA} {S : Ms} {M : Nat} {i : Int} (g0 : MdX H o β S) (g1 : Inw M S) (g2 : 0 ≤ i ∧ i ≤ (M : Int) - 1) (g3 : S.keys.length ≤ 14) (k : ∀ HH q ys qs, (Same H HH) → (H q = none) → (HH q = some (.lst ys)) → (All2 (RwAt HH) ys qs) → (∀ r ∈ qs, r.okB M = true ∧ r.sentB = false) → (ys.length ≤ 28) → Q (.ref q) HH) (he : vs = [.ref o, .int i] := by rfl) : spMay K vs H Q E := ⟨o, β, S, M, i, he, g0, g1, g2, g3, k⟩
set_option hygiene false in
local macro_rules | `(tactic| wtm_at "u") => `(tactic| first | ((with_reducible refine' spMay_u1 ?g0 ?g1 ?g2 ?g3 (fun HH q ys qs sm hno ho hy hg hl => ?_) ?he); (case he => rfl); (case g0 => wtm_at "md"); (case g1 => wtm_at "as"); (case g2 => wtm_at "as"); (case g3 => wtm_at "as")) | fail)
def spNew (K : PySem.W.Frag) : Sp := fun vs H Q E => ∃ (o p : Addr) (β : MdA) (S : Ms) (M : Nat) (n wd : Int), vs = [.ref o, .int M, .int wd, .ref p] ∧ (MdX H o β S) ∧ (Inw M S) ∧ (2 ≤ M) ∧ (1 ≤ wd ∧ wd ≤ 1000) ∧ (S.keys.length ≤ 14) ∧ (H p = some (.lst [.int n])) ∧ (¬ β.F p) ∧ (∀ HH n' (r : Rw) q, (SameBut p H HH) → (HH p = some (.lst [.int n'])) → (HH q = some (.tup r.vs)) → (r.okB M = true) → (r.sml) → (r.sentB = true → S.keys.length < 14) → Q (.ref q) HH)
theorem spNew_u1 {K : PySem.W.Frag} {H : Hp} {Q : VK} {E : XK} {vs : List V} {o p : Addr} {β : MdA} {S : Ms} {M : Nat} {n wd : Int} (g0 : MdX H o β S) (g1 : Inw M S) (g2 : 2 ≤ M) (g3 : 1 ≤ wd ∧ wd ≤ 1000) (g4 : S.keys.length ≤ 14) (g5 : H p = some (.lst [.int n])) (g6 : ¬ β.F p) (k : ∀ HH n' (r : Rw) q, (SameBut p H HH) → (HH p = some (.lst [.int n'])) → (HH q = some (.tup r.vs)) → (r.okB M = true) → (r.sml) → (r.sentB = true → S.keys.length < 14) → Q (.ref q) HH) (he : vs = [.ref o, .int M, .int wd, .ref p] := by rfl) : spNew K vs H Q E := ⟨o, p, β, S, M, n, wd, he, g0, g1, g2, g3, g4, g5, g6, k⟩
set_option hygiene false in
local macro_rules | `(tactic| wtm_at "u") => `(tactic| first | ((with_reducible refine' spNew_u1 ?g0 ?g1 ?g2 ?g3 ?g4 ?g5 ?g6 (fun HH n' r q sb hp' hrw hok hs h14' => ?_) ?he); (case he => rfl); (case g0 => wtm_at "md"); (case g1 => wtm_at "as"); (case g2 => wtm_at "as"); (case g3 => wtm_at "as"); (case g4 => wtm_at "as"); (case g5 => wtm_at "get"); (case g6 => wtm_at "as")) | fail)
section
variable {P : Program} {w : World} {K : PySem.W.Frag} {mg : Str → Option Value} {base : Heap} {a : Ad}
theorem ok__law_may (T : Txt w K mg a) : FnOk P w K mg base CX0 4 a._law_may a.d__law_may ["model", "member"] (spMay K) := by
  refine fund_ok0 T.F__law_may sc__law_may (fun vs H Q E h => ?_) (fun cdv A outer s H vs Q E hr h => ?_)
  · obtain ⟨o, β, S, M, i, rfl, hm, hI, hi, h14, k⟩ := h
    rfl
  · obtain ⟨o, β, S, M, i, rfl, hm, hI, hi, h14, k⟩ := h
    refine ⟨_, (pss_cons (ps_set (i := 2) sc__law_may.nd rfl (by first | exact Or.inl rfl | exact Or.inr rfl) (pe_op (op_addU (K := K)) (pe_callB (call_lenU (K := K)) (by rfl) T.b_len (by decide +kernel) (pa_cons (pe_ix (ix_U (K := K)) (pe_dget (unit1 hr) (pv 0) pe_str (fun _ _ => rfl)) (pv 1) (fun _ _ => rfl)) pa_nil)) pe_int))
    (pss_cons (ps_set (i := 3) sc__law_may.nd rfl (by first | exact Or.inl rfl | exact Or.inr rfl) (pe_lst pa_nil))
    (pss_cons (ps_lock (ps_for PassesOwn.never rfl (pi_keys (pe_dget (unit1 hr) (pv 0) pe_str (fun _ _ => rfl))) (pg_tupK (K := K) (n := 2) rfl (pgs_cons (pg_name (i := 4) sc__law_may.nd rfl (by first | exact Or.inl rfl | exact Or.inr rfl)) (pgs_cons (pg_name (i := 5) sc__law_may.nd rfl (by first | exact Or.inl rfl | exact Or.inr rfl)) pgs_nil)))
    (pss_cons (ps_expr (pe_appK (K := K) (pe_bm PySem.F.plainAttrs_list PySem.F.slot_list_append PySem.F.type_list_append mt_append (pv 3) (pa_cons (pe_tup (pa_cons pe_str (pa_cons (pv 1) (pa_cons (pv 4) (pa_cons (pv 5) pa_nil))))) pa_nil))))
    (pss_one (ps_expr (pe_appK (K := K) (pe_bm PySem.F.plainAttrs_list PySem.F.slot_list_append PySem.F.type_list_append mt_append (pv 3) (pa_cons (pe_tup (pa_cons pe_str (pa_cons (pv 1) (pa_cons (pv 2) (pa_cons (pv 4) (pa_cons (pv 5) pa_nil)))))) pa_nil))))))))
    (pss_one (ps_ret (pe_lc (own := [("row", 6)]) rfl sc__law_may.nd (pi_listK (K := K) (pv 3)) (blkOk_by (own := [("row", 6)]) (N := ["model", "member", "place", "rows", "sender", "number", "row"]) (sc := defScope s__law_may) (by decide +kernel)) (fun _ _ _ _ _ => (pg_name (i := 6) sc__law_may.nd rfl (by first | exact Or.inl rfl | exact Or.inr rfl))) (fun _ _ _ _ _ => pts_one (pt_cmpR op_isU (pe_call (ok__law_why (K := K) T) (hr.mono (by decide)) (by rfl) T.m__law_why T.F__law_why.kp T.B__law_why .nil pass0 (pa_cons (pv 0) (pa_cons (pv 6) pa_nil))) pe_non (nomark _))) (fun _ _ _ _ _ => (pv 6)))))))), ?_⟩
    dsimp only [L2.start, List.map_cons, List.map_nil, List.map, List.length_cons, List.length_nil, Nat.reduceAdd, Nat.reduceSub, List.replicate, List.cons_append, List.nil_append]
    obtain ⟨ho, hc, hw, hg, ht, cw, fo, fc, fw, fg, ft, fd, kc, kg, kt, nd, fq, gn, tn, kw, kl, nl, nn⟩ := id hm
    obtain ⟨qt, hqti, hy, ⟨xt, hqt, hat⟩, hqtm⟩ := row_at kt hI.ltold hi
    wtm_at "gs"
    revert q HN
    intro L hL HN sa0 hgN
    have ncq : β.c ≠ L := ne_of_none hc hL
    refine i_lock (d := β.c) (sa0 _ _ hc) trivial (fun od HL sbl hcl => ?_)
    wtm_at "gs"
    refine ⟨_, _, rfl, .inr ⟨_, hcl, ?_⟩⟩
    have lk : β.ck.length = S.keys.length := hm.keys.1
    refine for_it walk_keysT (fun j σ H' => ∃ v4 v5 ys qs, σ = [some (.ref o), some (.int i), some (.int (xt.length + 1)), some (.ref L), v4, v5, none] ∧ SameBut L HL H' ∧ H' L = some (.lst ys) ∧ All2 (RwAt H') ys qs ∧ (∀ r ∈ qs, r.okB M = true ∧ r.sentB = false) ∧ ys.length = 2 * j) ⟨none, none, [], [], rfl, SameBut.refl _ _, ?n1, All2.nil, (fun _ h => nomatch h), rfl⟩ ?n2 ?n3 ?n4
    case n1 => exact sbl _ _ (Ne.symm ncq) hgN
    case n2 =>
      rintro j σ H' hj ⟨v4, v5, ys, qs, rfl, s1, e1, e2, e3, e4⟩
      exact s1 _ _ ncq hcl
    case n3 =>
      rintro j x σ H' H2 hj ⟨v4, v5, ys, qs, rfl, s1, e1, e2, e3, e4⟩ ⟨rfl, hx⟩
      obtain ⟨z, hz, qz, rfl, hqz⟩ := key_at (R := fun _ => True) hm.keys hx
      have hzm := List.mem_of_getElem? hz
      have hzk : (0 ≤ z.1 ∧ z.1 ≤ (M : Int) - 1) ∧ 1 ≤ z.2 := ⟨hI.kr z hzm, ((hI.kn z.1 z.2).mp hzm).1⟩
      have l26 : ys.length ≤ 26 := by omega
      have w : SameBut L HL H2 ∧ True := ⟨s1, trivial⟩
      clear s1 sbl hcl
      wtm_at "gs"
      rename_i qa hqa HA saA hgA HB sbB hgB HC hgC
      have sb2 : SameBut L H2 HN := by
        intro b u n e
        exact sb _ _ n (sa _ _ (sbB _ _ n (saA _ _ e)))
      refine ⟨_, _, ys ++ [.ref qa] ++ [.ref q], qs ++ [.got i z.1 z.2] ++ [.told i (xt.length + 1) z.1 z.2], rfl, fun b u n e => sb2 b u n (w.1 b u n e), hg, All2.append (All2.append (e2.mono fun _ _ h => RwAt.stays.but e1 sb2 h) (All2.cons ⟨qa, rfl, ?m1⟩ All2.nil)) (All2.cons ⟨q, rfl, ?m2⟩ All2.nil), fun r hr => ?m3, ?m4⟩
      case m4 => simp only [List.length_append, List.length_cons, List.length_nil]; omega
      case m3 =>
        rcases List.mem_append.mp hr with hr | hr
        · rcases List.mem_append.mp hr with hr | hr
          · exact e3 r hr
          · rw [List.mem_singleton.mp hr]
            exact ⟨by simp only [Rw.okB, inR, Bool.and_eq_true, decide_eq_true_eq]; omega, rfl⟩
        · rw [List.mem_singleton.mp hr]
          exact ⟨by simp only [Rw.okB, inR, Bool.and_eq_true, decide_eq_true_eq]; omega, rfl⟩
      case m1 =>
        have e1 := sbB _ _ (ne_of hgA (saA _ _ e1) (by simp)) hgA
        exact sb _ _ (ne_of e1 hgB (by simp) |> fun n => n) (sa _ _ e1)
      case m2 => exact sb _ _ (ne_of hgC (sa _ _ hgB) (by simp)) hgC
    case n4 =>
      rintro σ H' ⟨v4, v5, ys, qs, rfl, s1, e1, e2, e3, e4⟩
      have hcE := s1 _ _ ncq hcl
      refine ⟨hcE, ?_⟩
      have sU : Same H (upd H' β.c (.dT β.ck)) := by
        intro b u e
        by_cases c : b = β.c
        · subst c
          rw [upd_same, ← hc, e]
        · rw [upd_ne c]
          exact s1 _ _ (ne_of_none e hL) (sbl _ _ c (sa0 _ _ e))
      have eL : upd H' β.c (.dT β.ck) L = some (.lst ys) := by rw [upd_ne (Ne.symm ncq)]; exact e1
      have eX : All2 (RwAt (upd H' β.c (.dT β.ck))) ys qs := e2.mono fun _ _ => by
        rintro ⟨b, rfl, e⟩
        exact ⟨b, rfl, by rw [upd_ne (ne_of e hcE (by simp))]; exact e⟩
      generalize upd H' β.c (.dT β.ck) = HU at *
      clear hcE hcl sbl s1 e1 e2 hgN sa0
      have hmU := hm.same sU
      have l28 : ys.length ≤ 28 := by omega
      wtm_at "gs"
      intro D hD
      refine' lc_some RwAt RwAt.stays ?c1 eX hD ?c2 (fun x c hc2 H2 Q2 R2 s2 hr2 k2 k3 => ?c3) (fun H3 zs cs s3 e5 e6 e7 l3 => ?c4)
      case c1 => wtm_at "sq"
      case c2 => omega
      case c3 =>
        obtain ⟨pr, rfl, hpr⟩ := hr2
        have hok := (e3 c hc2).1
        wtm_at "gs"
        all_goals first | exact k2 _ sm | exact k3 _ sm
      case c4 =>
        wtm_at "gs"
        exact k _ _ zs cs (sU.trans s3) (none_same sU hD) e5 e6 (fun r hr => e3 r (e7 r hr)) (by omega)
theorem ok__law_new_row (T : Txt w K mg a) : FnOk P w K mg base CX0 5 a._law_new_row a.d__law_new_row ["model", "members", "wild", "pool"] (spNew K) := by
  refine fund_ok0 T.F__law_new_row sc__law_new_row (fun vs H Q E h => ?_) (fun cdv A outer s H vs Q E hr h => ?_)
  · obtain ⟨o, p, β, S, M, n, wd, rfl, hm, hI, hM, hwd, h14, hp, hF, k⟩ := h
    rfl
  · obtain ⟨o, p, β, S, M, n, wd, rfl, hm, hI, hM, hwd, h14, hp, hF, k⟩ := h
    refine ⟨_, (pss_cons (ps_set (i := 4) sc__law_new_row.nd rfl (by first | exact Or.inl rfl | exact Or.inr rfl) (pe_call (ok__law_take (K := K) T) (hr.mono (by decide)) (by rfl) T.m__law_take T.F__law_take.kp T.B__law_take .nil pass0 (pa_cons (pv 3) (pa_cons pe_int pa_nil))))
    (pss_cons (ps_set (i := 5) sc__law_new_row.nd rfl (by first | exact Or.inl rfl | exact Or.inr rfl) (pe_call (ok__law_take (K := K) T) (hr.mono (by decide)) (by rfl) T.m__law_take T.F__law_take.kp T.B__law_take .nil pass0 (pa_cons (pv 3) (pa_cons (pv 2) pa_nil))))
    (pss_cons (ps_set (i := 6) sc__law_new_row.nd rfl (by first | exact Or.inl rfl | exact Or.inr rfl) (pe_call (ok__law_take (K := K) T) (hr.mono (by decide)) (by rfl) T.m__law_take T.F__law_take.kp T.B__law_take .nil pass0 (pa_cons (pv 3) (pa_cons (pv 1) pa_nil))))
    (pss_cons (ps_set (i := 7) sc__law_new_row.nd rfl (by first | exact Or.inl rfl | exact Or.inr rfl) (pe_call (ok__law_take (K := K) T) (hr.mono (by decide)) (by rfl) T.m__law_take T.F__law_take.kp T.B__law_take .nil pass0 (pa_cons (pv 3) (pa_cons pe_int pa_nil))))
    (pss_cons (ps_set (i := 8) sc__law_new_row.nd rfl (by first | exact Or.inl rfl | exact Or.inr rfl) (pe_tup (pa_cons (pe_call (ok__law_take (K := K) T) (hr.mono (by decide)) (by rfl) T.m__law_take T.F__law_take.kp T.B__law_take .nil pass0 (pa_cons (pv 3) (pa_cons (pv 1) pa_nil))) (pa_cons (pe_op (op_addU (K := K)) pe_int (pe_call (ok__law_take (K := K) T) (hr.mono (by decide)) (by rfl) T.m__law_take T.F__law_take.kp T.B__law_take .nil pass0 (pa_cons (pv 3) (pa_cons pe_int pa_nil)))) pa_nil))))
    (pss_cons (ps_if (PW.pt (pw_and (pt_cmpR (op_eqU hr.units (K := K)) (pv 5) pe_int (nomark _)) (pw_and1 (pt_cmpR op_ltU (pv 4) pe_int (nomark _))))) (pss_one (ps_ret (pe_op (op_addU (K := K)) (pe_tup (pa_cons pe_str (pa_cons (pv 6) pa_nil))) (pv 8)))) pss_nil)
    (pss_cons (ps_if (pt_cmpR (op_eqU hr.units (K := K)) (pv 5) pe_int (nomark _)) (pss_one (ps_ret (pe_op (op_addU (K := K)) (pe_tup (pa_cons pe_str (pa_cons (pv 6) (pa_cons (pe_op (op_addU (K := K)) pe_int (pe_call (ok__law_take (K := K) T) (hr.mono (by decide)) (by rfl) T.m__law_take T.F__law_take.kp T.B__law_take .nil pass0 (pa_cons (pv 3) (pa_cons (pe_op (op_addU (K := K)) (pe_callB (call_lenU (K := K)) (by rfl) T.b_len (by decide +kernel) (pa_cons (pe_ix (ix_U (K := K)) (pe_dget (unit1 hr) (pv 0) pe_str (fun _ _ => rfl)) (pv 6) (fun _ _ => rfl)) pa_nil)) pe_int) pa_nil)))) pa_nil)))) (pv 8)))) pss_nil)
    (pss_cons (ps_set (i := 9) sc__law_new_row.nd rfl (by first | exact Or.inl rfl | exact Or.inr rfl) (pe_call (ok__law_may (K := K) T) (hr.mono (by decide)) (by rfl) T.m__law_may T.F__law_may.kp T.B__law_may .nil pass0 (pa_cons (pv 0) (pa_cons (pv 6) pa_nil))))
    (pss_cons (ps_if (PW.pt (pw_and (PW.pt (pw_or (pt_cmpR op_ltU (pv 4) pe_int (nomark _)) (pw_or1 (pt_cmpR (op_eqU hr.units (K := K)) (pv 9) (pe_lst pa_nil) (nomark _))))) (pw_and1 (pt_cmpR op_ltU (pe_callB call_len_dT (by rfl) T.b_len (by decide +kernel) (pa_cons (pe_dget (unit1 hr) (pv 0) pe_str (fun _ _ => rfl)) pa_nil)) pe_int (nomark _))))) (pss_one (ps_ret (pe_tup (pa_cons pe_str (pa_cons (pv 6) (pa_cons (pe_call (ok__law_word (K := K) T) (hr.mono (by decide)) (by rfl) T.m__law_word T.F__law_word.kp T.B__law_word .nil pass0 (pa_cons (pv 3) pa_nil)) pa_nil)))))) pss_nil)
    (pss_cons (ps_if (pt_cmpR (op_eqU hr.units (K := K)) (pv 9) (pe_lst pa_nil) (nomark _)) (pss_one (ps_set (i := 9) sc__law_new_row.nd rfl (by first | exact Or.inl rfl | exact Or.inr rfl) (pe_lst (pa_cons (pe_tup (pa_cons pe_str (pa_cons pe_int (pa_cons pe_int (pa_cons pe_int pa_nil))))) pa_nil)))) pss_nil)
    (pss_cons (ps_if (pt_cmpR op_gtU (pv 4) pe_int (nomark _)) (pss_one (ps_set (i := 9) sc__law_new_row.nd rfl (by first | exact Or.inl rfl | exact Or.inr rfl) (pe_op (op_addU (K := K)) (pe_slice (sl_U (K := K)) (pv 9) (po_some (pe_un un_neg pe_int)) po_none) (pe_lc (own := [("row", 10)]) rfl sc__law_new_row.nd (pi_listK (K := K) (pv 9)) (blkOk_by (own := [("row", 10)]) (N := ["model", "members", "wild", "pool", "way", "odd", "member", "pick", "ident", "rows", "row"]) (sc := defScope s__law_new_row) (by decide +kernel)) (fun _ _ _ _ _ => (pg_name (i := 10) sc__law_new_row.nd rfl (by first | exact Or.inl rfl | exact Or.inr rfl))) (fun _ _ _ _ _ => pts_one (pt_cmpR (op_eqU hr.units (K := K)) (pe_ix (ix_U (K := K)) (pv 10) pe_int (fun _ _ => rfl)) pe_str (nomark _))) (fun _ _ _ _ _ => (pv 10)))))) pss_nil)
    (pss_one (ps_ret (pe_ix (ix_U (K := K)) (pv 9) (pe_op op_modU (pv 7) (pe_callB (call_lenU (K := K)) (by rfl) T.b_len (by decide +kernel) (pa_cons (pv 9) pa_nil))) (fun _ _ => rfl))))))))))))))), ?_⟩
    dsimp only [L2.start, List.map_cons, List.map_nil, List.map, List.length_cons, List.length_nil, Nat.reduceAdd, Nat.reduceSub, List.replicate, List.cons_append, List.nil_append]
    obtain ⟨ho, hc, hw, hg, ht, cw, fo, fc, fw, fg, ft, fd, kc, kg, kt, nd, fq, gn, tn, kw, kl, nl, nn⟩ := id hm
    have m5 := hI.m5
    have hM0 : 0 < (M : Int) := by omega
    have hMl : (M : Int).natAbs.log2 < 9000 := log2_le (by omega) (by omega)
    have hw0 : 0 < wd := by omega
    have hwl : wd.natAbs.log2 < 9000 := log2_le (by omega) (by omega)
    have npo : o ≠ p := fun c => hF (c ▸ fo)
    have npt : β.t ≠ p := fun c => hF (c ▸ ft)
    wtm_at "gi"
    rename_i way m1 _ _ odd m2 _ _ mem m3 _ _ pick m4 _ _ snd m5 _ _
    have sbN : SameBut p H HN := by wtm_at "but"
    have hpN : HN p = some (.lst [.int m']) := by wtm_at "get"
    have hm0h : MdX HN o β S ∧ True := ⟨hm.kept (Kept.but hp hF sbN), trivial⟩
    have hmem : 0 ≤ mem ∧ mem ≤ (M : Int) - 1 := by omega
    have ho0 := hm0h.1.ho
    have ht0 := hm0h.1.ht
    have gI := hg
    obtain ⟨qt, hqti, hyt, ⟨xt, hqt, hat⟩, hqtm⟩ := row_at hm0h.1.kt hI.ltold hmem
    have lxt : xt.length ≤ 450 := by
      obtain ⟨l, _, e2, hl⟩ := row_mem hI.ltold hmem
      rw [hat.1, e2]
      exact Nat.le_trans (nl l (List.mem_append_right _ hl)) nn
    have l2 : 0 < (xt.length : Int) + 2 := by omega
    have l3 : ((xt.length : Int) + 2).natAbs.log2 < 9000 := log2_le (by omega) (by omega)
    have okG : (Rw.got mem snd (1 + r)).okB M = true := by simp only [Rw.okB, inR, Bool.and_eq_true, decide_eq_true_eq]; omega
    clear sa hq ho ht hg
    generalize HN = HI at *
    generalize q = qi at *
    generalize hn1 : 1 + r = n1 at *
    have n11 : 1 ≤ n1 := by omega
    clear hn1
    wtm_at "gs"
    · have saX := sa
      refine i_addT (.of hg) (.of (sa _ _ gI)) (by simp) (line_le (by simp)) (fun e => by cases e) (fun _ q hq => ?_)
      wtm_at "absn"
      exact k HN m' (.got mem snd n1) q (fun b u n e => sa _ _ (saX _ _ (sbN b u n e))) (sa _ _ (saX _ _ hpN)) hg okG trivial (fun e => by cases e)
    · have saX := sa
      have nqp : qi ≠ p := ne_of gI hpN (by simp)
      have okT : (Rw.told mem (1 + r) snd n1).okB M = true := by simp only [Rw.okB, inR, Bool.and_eq_true, decide_eq_true_eq]; omega
      refine i_addT (.of hg) (.of (sa _ _ (by rw [upd_ne nqp]; exact gI))) (by simp) (line_le (by simp)) (fun e => by cases e) (fun _ q hq => ?_)
      wtm_at "absn"
      exact k HN m' (.told mem (1 + r) snd n1) q (fun b u n e => sa _ _ (saX _ _ (by rw [upd_ne n]; exact sbN b u n e))) (sa _ _ (saX _ _ upd_same)) hg okT trivial (fun e => by cases e)
    · skip
      have hmN := hm0h.1
      refine spMay_u1 hmN hI hmem h14 (fun HH L ys qs sm hno hL hys hqs hl => ?_) rfl
      have hmH := hmN.same sm
      have hcH := hmH.hc
      have hoH := hmH.ho
      have sbH : SameBut p H HH ∧ True := ⟨fun b u n e => sm _ _ (sbN _ _ n e), trivial⟩
      have hpH := sm _ _ hpN
      have lk : β.ck.length = S.keys.length := hmH.keys.1
      clear sm sbN hpN hmN hno hm0h
      with_reducible refine i_name ?_
      with_reducible refine i_seqIf ?_
      with_reducible refine seq_rest (fun σ' H' => σ' = [some (.ref o), some (.int M), some (.int wd), some (.ref p), some (.int way), some (.int odd), some (.int mem), some (.int pick), some (.ref qi), some (.ref L), none] ∧ Same HH H' ∧ (ys = [] → 14 ≤ S.keys.length)) (fun σ' H' hJ => ?rest) (fun R hR => ?ifA)
      case ifA =>
        have fin : ∀ {HE : Hp} {m'' : Int} {z : Str} {r : Addr}, Same HH HE ∨ SameBut p HH HE → HE p = some (.lst [.int m'']) → HE r = some (.tup (Rw.sent mem z).vs) → z.length ≤ 8 → isWord (.str z) = true → S.keys.length < 14 → Q (.ref r) HE := fun {HE m'' z r} hs h1 h2 h3 h4 h5 =>
          k HE m'' (.sent mem z) r (fun b u n e => hs.elim (fun hs => hs _ _ (sbH.1 b u n e)) fun hs => hs b u n (sbH.1 b u n e)) h1 h2 (by simp only [Rw.okB, inR, h4, Bool.and_true, Bool.and_eq_true, decide_eq_true_eq]; exact hmem) (by show z.length ≤ 1000; omega) (fun _ => h5)
        rcases ys with _ | ⟨y0, yt⟩
        all_goals wtm_at "gs"
        all_goals first
          | exact hR _ _ ⟨rfl, by wtm_at "same", fun h => by first | (cases h; done) | omega⟩
          | exact fin (.inr (by wtm_at "but")) (by wtm_at "get") hg hz hw (by omega)
      case rest =>
        obtain ⟨rfl, s2, h14⟩ := hJ
        have pL : H' p = some (.lst [.int m']) := s2 _ _ hpH
        with_reducible refine seq_rest (fun σ' H2 => ∃ L' ys' qs', σ' = [some (.ref o), some (.int M), some (.int wd), some (.ref p), some (.int way), some (.int odd), some (.int mem), some (.int pick), some (.ref qi), some (.ref L'), none] ∧ Same HH H2 ∧ H2 L' = some (.lst ys') ∧ All2 (RwAt H2) ys' qs' ∧ (∀ r ∈ qs', r.okB M = true ∧ r.sentB = false) ∧ 0 < ys'.length ∧ ys'.length ≤ 28) (fun σ' H2 hJ => ?rest2) (fun R hR => ?ifB)
        case ifB =>
          have hL2 := s2 _ _ hL
          rcases ys with _ | ⟨y0, yt⟩
          all_goals wtm_at "gs"
          · refine hR _ _ ⟨_, [_], [.got 0 0 1], rfl, by wtm_at "same", hg, All2.cons ⟨_, rfl, by wtm_at "get"⟩ All2.nil, fun r hr => ?_, Nat.zero_lt_one, Nat.le_of_ble_eq_true rfl⟩
            rw [List.mem_singleton.mp hr]
            exact ⟨by simp only [Rw.okB, inR, Bool.and_eq_true, decide_eq_true_eq]; omega, rfl⟩
          · have sN : Same HH HN := by wtm_at "same"
            exact hR _ _ ⟨_, _, _, rfl, sN, sN _ _ hL, hys.mono fun _ _ => RwAt.same sN, hqs, by simp, hl⟩
        case rest2 =>
          obtain ⟨L', ys', qs', rfl, s3, e1, e2, e3, e4, e5⟩ := hJ
          clear hL hys hqs hl h14 pL s2
          with_reducible refine seq_rest (fun σ' H3 => ∃ L' ys' qs' v10, σ' = [some (.ref o), some (.int M), some (.int wd), some (.ref p), some (.int way), some (.int odd), some (.int mem), some (.int pick), some (.ref qi), some (.ref L'), v10] ∧ Same HH H3 ∧ H3 L' = some (.lst ys') ∧ All2 (RwAt H3) ys' qs' ∧ (∀ r ∈ qs', r.okB M = true ∧ r.sentB = false) ∧ 0 < ys'.length ∧ ys'.length ≤ 1000) (fun σ' H3 hJ => ?rest3) (fun R hR => ?ifC)
          case rest3 =>
            obtain ⟨L', ys', qs', v10, rfl, s3, e1, e2, e3, e4, e5⟩ := hJ
            have ln : 0 < (ys'.length : Int) := by omega
            wtm_at "gs"
            obtain ⟨y, hy, _, ey⟩ := atI_in (xs := ys') (r := pick % (ys'.length : Int)) (Int.emod_nonneg _ (by omega)) (Int.emod_lt_of_pos _ ln)
            obtain ⟨j, hj⟩ := List.mem_iff_getElem?.mp hy
            obtain ⟨ρ, hρ, pr, rfl, hpr⟩ := e2.get hj
            have hok := e3 ρ (List.mem_of_getElem? hρ)
            refine i_ixL (by wtm_at "sq") ey ?_
            exact k H3 m' ρ pr (fun b u n e => s3 _ _ (sbH.1 b u n e)) (s3 _ _ hpH) hpr hok.1 (by cases ρ <;> first | exact trivial | (have := hok.2; cases this)) (fun e => by rw [hok.2] at e; cases e)
          case ifC =>
            wtm_at "gs"
            · have sN : Same H2 HN := sa
              have e2N : All2 (RwAt HN) ys' qs' := e2.mono fun _ _ => RwAt.same sN
              intro D hD
              refine' lc_some RwAt RwAt.stays ?c1 e2N hD ?c2 (fun x c hc2 H4 Q4 R4 s4 hr4 k4 k5 => ?c3) (fun H5 zs cs s5 f1 f2 f3 f4 => ?c4)
              case c1 => wtm_at "sq"
              case c2 => omega
              case c3 =>
                obtain ⟨pr, rfl, hpr⟩ := hr4
                cases c
                all_goals wtm_at "gs"
                all_goals first | exact k4 _ (Same.refl _) | exact k5 _ (Same.refl _)
              case c4 =>
                obtain ⟨bs, g1, g2, g3⟩ := cut_last (e2N.mono fun _ _ => RwAt.same s5) e4
                have lz : zs.length ≤ 28 := by omega
                wtm_at "gs"
                exact hR _ _ ⟨_, _, bs ++ cs, _, rfl, s3.trans (sN.trans (s5.trans sa)), hg, All2.append (g1.mono fun _ _ => RwAt.same sa) (f2.mono fun _ _ => RwAt.same sa), fun r hr => (List.mem_append.mp hr).elim (fun h => e3 r (g2 r h)) (fun h => e3 r (f3 r h)), by rw [List.length_append, g3]; omega, by rw [List.length_append, g3]; omega⟩
            · exact hR _ _ ⟨_, _, _, _, rfl, s3, e1, e2, e3, e4, by omega⟩
end
/-! ### the rows by the cells -/
theorem cut_ints (ns : List Int) (lo hi : Option Int) : ∃ ms : List Int, cutV (ns.map V.int) lo hi = ms.map V.int := by
  unfold cutV
  exact ⟨(ns.drop _).take _, by rw [List.map_take, List.map_drop]⟩
theorem cut_62 (xs : List V) {st : Nat} (h : 1 ≤ st) : (cutV xs (some (st : Int)) (some 63)).length ≤ 62 := by
  unfold cutV
  rw [List.length_take, List.length_drop, HT.sIx_nat, show HT.sIx xs.length xs.length (some 63) = min 63 xs.length from HT.sIx_nat _ _ 63]
  omega
/-- what the rows rs leave is S -/
def Runs (M : Nat) (rs : List Rw) (S : Ms) : Prop := ∀ rest i, firstW (Ms.new M) (rs ++ rest) i = firstW S rest (i + rs.length)
theorem Runs.nil {M : Nat} : Runs M [] (Ms.new M) := fun _ _ => rfl
theorem Runs.snoc {M : Nat} {rs : List Rw} {S : Ms} {r : Rw} (h : Runs M rs S) (w : S.why r = none) : Runs M (rs ++ [r]) (S.go r) := by
  intro rest i
  rw [List.append_assoc, h, List.length_append]
  show (match S.why r with | some w => _ | none => _) = _
  rw [w]
  show firstW (S.go r) rest (i + rs.length + 1) = firstW (S.go r) rest (i + (rs.length + 1))
  rw [Nat.add_assoc]
def spRows (K : PySem.W.Frag) : Sp := fun vs H Q E => ∃ (sp : Addr) (ns : List Int) (st : Nat) (wd : Int), vs = [.ref sp, .int st, .int wd] ∧ (SqL K H sp (ns.map V.int)) ∧ (1 ≤ st) ∧ (1 ≤ wd ∧ wd ≤ 1000) ∧ (∀ HH M q ys rs t, (Same H HH) → (2 ≤ M ∧ M ≤ 5) → (HH t = some (.tup [.int (M : Nat), .ref q])) → (H q = none) → (HH q = some (.lst ys)) → (All2 (RwAt HH) ys rs) → (histB M rs = true) → (∀ r ∈ rs, r.sml) → (rs.length ≤ 62) → ((rs.filter Rw.sentB).length ≤ 14) → (wd = 1 → firstW (Ms.new M) rs 0 = none) → Q (.ref t) HH)
theorem spRows_u1 {K : PySem.W.Frag} {H : Hp} {Q : VK} {E : XK} {vs : List V} {sp : Addr} {ns : List Int} {st : Nat} {wd : Int} (g0 : SqL K H sp (ns.map V.int)) (g1 : 1 ≤ st) (g2 : 1 ≤ wd ∧ wd ≤ 1000) (k : ∀ HH M q ys rs t, (Same H HH) → (2 ≤ M ∧ M ≤ 5) → (HH t = some (.tup [.int (M : Nat), .ref q])) → (H q = none) → (HH q = some (.lst ys)) → (All2 (RwAt HH) ys rs) → (histB M rs = true) → (∀ r ∈ rs, r.sml) → (rs.length ≤ 62) → ((rs.filter Rw.sentB).length ≤ 14) → (wd = 1 → firstW (Ms.new M) rs 0 = none) → Q (.ref t) HH) (he : vs = [.ref sp, .int st, .int wd] := by rfl) : spRows K vs H Q E := ⟨sp, ns, st, wd, he, g0, g1, g2, k⟩
set_option hygiene false in
local macro_rules | `(tactic| wtm_at "u") => `(tactic| first | ((with_reducible refine' spRows_u1 ?g0 ?g1 ?g2 (fun HH M q ys rs t sm hM ht hno ho hy hg hz hl h14 hrun => ?_) ?he); (case he => rfl); (case g0 => wtm_at "sq"); (case g1 => wtm_at "as"); (case g2 => wtm_at "as")) | fail)
section
variable {P : Program} {w : World} {K : PySem.W.Frag} {mg : Str → Option Value} {base : Heap} {a : Ad}
theorem ok__law_rows (T : Txt w K mg a) : FnOk P w K mg base CX0 6 a._law_rows a.d__law_rows ["script", "start", "wild"] (spRows K) := by
  refine fund_ok0 T.F__law_rows sc__law_rows (fun vs H Q E h => ?_) (fun cdv A outer s H vs Q E hr h => ?_)
  · obtain ⟨sp, ns, st, wd, rfl, hs, hst, hwd, k⟩ := h
    rfl
  · obtain ⟨sp, ns, st, wd, rfl, hs, hst, hwd, k⟩ := h
    refine ⟨_, (pss_cons (ps_set (i := 3) sc__law_rows.nd rfl (by first | exact Or.inl rfl | exact Or.inr rfl) (pe_op (op_addU (K := K)) pe_int (pe_op op_modU (pe_call (ok__law_cell_at (K := K) T) (hr.mono (by decide)) (by rfl) T.m__law_cell_at T.F__law_cell_at.kp T.B__law_cell_at .nil pass0 (pa_cons (pv 0) (pa_cons pe_int pa_nil))) pe_int)))
    (pss_cons (ps_set (i := 4) sc__law_rows.nd rfl (by first | exact Or.inl rfl | exact Or.inr rfl) (pe_call (ok__law_model (K := K) T) (hr.mono (by decide)) (by rfl) T.m__law_model T.F__law_model.kp T.B__law_model .nil pass0 (pa_cons (pv 3) pa_nil)))
    (pss_cons (ps_set (i := 5) sc__law_rows.nd rfl (by first | exact Or.inl rfl | exact Or.inr rfl) (pe_lst pa_nil))
    (pss_cons (ps_for PassesOwn.never rfl (pi_listK (K := K) (pe_slice (sl_U (K := K)) (pv 0) (po_some (pv 1)) (po_some pe_int))) (pg_name (i := 6) sc__law_rows.nd rfl (by first | exact Or.inl rfl | exact Or.inr rfl))
    (pss_cons (ps_set (i := 7) sc__law_rows.nd rfl (by first | exact Or.inl rfl | exact Or.inr rfl) (pe_call (ok__law_new_row (K := K) T) (hr.mono (by decide)) (by rfl) T.m__law_new_row T.F__law_new_row.kp T.B__law_new_row .nil pass0 (pa_cons (pv 4) (pa_cons (pv 3) (pa_cons (pv 2) (pa_cons (pe_call (ok__law_pool (K := K) T) (hr.mono (by decide)) (by rfl) T.m__law_pool T.F__law_pool.kp T.B__law_pool .nil pass0 (pa_cons (pv 6) pa_nil)) pa_nil))))))
    (pss_cons (ps_set (i := 8) sc__law_rows.nd rfl (by first | exact Or.inl rfl | exact Or.inr rfl) (pe_cmpR op_isU (pe_call (ok__law_why (K := K) T) (hr.mono (by decide)) (by rfl) T.m__law_why T.F__law_why.kp T.B__law_why .nil pass0 (pa_cons (pv 4) (pa_cons (pv 7) pa_nil))) pe_non (nomark _)))
    (pss_cons (ps_if (pt_val (pv 8)) (pss_one (ps_expr (pe_call (ok__law_go (K := K) T) (hr.mono (by decide)) (by rfl) T.m__law_go T.F__law_go.kp T.B__law_go .nil pass0 (pa_cons (pv 4) (pa_cons (pv 7) pa_nil))))) pss_nil)
    (pss_one (ps_if (PW.pt (pw_or (pt_val (pv 8)) (pw_or1 (pt_cmpR op_gtU (pv 2) pe_int (nomark _))))) (pss_one (ps_expr (pe_appK (K := K) (pe_bm PySem.F.plainAttrs_list PySem.F.slot_list_append PySem.F.type_list_append mt_append (pv 5) (pa_cons (pv 7) pa_nil))))) pss_nil))))))
    (pss_one (ps_ret (pe_tup (pa_cons (pv 3) (pa_cons (pv 5) pa_nil))))))))), ?_⟩
    dsimp only [L2.start, List.map_cons, List.map_nil, List.map, List.length_cons, List.length_nil, Nat.reduceAdd, Nat.reduceSub, List.replicate, List.cons_append, List.nil_append]
    wtm_at "gs"
    generalize hE : 2 + cn % 4 = MI
    obtain ⟨M, rfl⟩ := Int.eq_ofNat_of_zero_le (a := MI) (by omega)
    have hM : 2 ≤ M ∧ M ≤ 5 := by omega
    clear hE
    refine ⟨M, rfl, hM, fun H1 o μ0 sm0 hmd0 hn0 hF0 => ?_⟩
    wtm_at "gs"
    rename_i L hL HL saL hgL
    revert q HN
    intro S hS HN saS hgS
    obtain ⟨ms, hms⟩ := cut_ints ns (some (st : Int)) (some 63)
    have l61 := cut_62 (ns.map V.int) hst
    rw [hms] at hgS l61
    have hmdN := hmd0.same (saL.trans saS)
    have fL : ¬ μ0.F L := (hmd0).out hL
    have fS : ¬ μ0.F S := (hmd0.same saL).out hS
    have nL : H L = none := none_same sm0 hL
    have nS : H S = none := none_same (sm0.trans saL) hS
    have nSL : S ≠ L := fun c => by subst c; rw [hgL] at hS; cases hS
    refine for_it (walk_list (K := K) (a := S) (xs := ms.map V.int)) (fun j σ H' => ∃ μ Ψ v6 v7 v8 ys rs, σ = [some (.ref sp), some (.int st), some (.int wd), some (.int M), some (.ref o), some (.ref L), v6, v7, v8] ∧ MdX H' o μ Ψ ∧ Inw M Ψ ∧ μ.n ≤ 2 * j ∧ (∀ b, μ.F b → H b = none) ∧ ¬ μ.F L ∧ ¬ μ.F S ∧ Same H H' ∧ H' S = some (.lst (ms.map V.int)) ∧ H' L = some (.lst ys) ∧ All2 (RwAt H') ys rs ∧ (∀ r ∈ rs, r.okB M = true ∧ r.sml) ∧ (rs.filter Rw.sentB).length ≤ Ψ.keys.length ∧ ys.length ≤ j ∧ Ψ.keys.length ≤ 14 ∧ (wd = 1 → Runs M rs Ψ)) ⟨μ0, Ms.new M, none, none, none, [], [], rfl, hmdN, Inw.new hM.2, by omega, hF0, fL, fS, (sm0.trans saL).trans saS, hgS, saS _ _ hgL, All2.nil, (fun _ h => nomatch h), Nat.zero_le _, Nat.zero_le _, Nat.zero_le _, fun _ => Runs.nil⟩ (fun j σ H' hj h => ?c1) ?c2 ?c3
    case c1 =>
      obtain ⟨μ, Ψ, v6, v7, v8, ys, rs, rfl, e1, e2, e3, e4, e5, e6, e7, e8, _⟩ := h
      exact .of e8
    case c2 =>
      rintro j x σ H' _ hj ⟨μ, Ψ, v6, v7, v8, ys, rs, rfl, e1, eI, e3, e4, e5, e6, e7, e8, e9, e10, e11, e12, e13, e14, e15⟩ ⟨rfl, hx⟩
      rename_i H'
      obtain ⟨c, _, rfl⟩ := List.mem_map.mp (List.mem_of_getElem? hx)
      clear hgL hgS saL saS sm0 hmd0 hmdN
      wtm_at "gs"
      wtm_at "absn"
      have hmN := e1.same sa
      have fq := e1.out hq
      refine spNew_u1 hmN eI hM.1 hwd e14 hg fq (fun HA n' r qr sbA hpA hrw hok hsml h14 => ?_) rfl
      have hmA : MdX HA o μ Ψ := hmN.kept (Kept.but hg fq sbA)
      have sA : Same H' HA := fun b u e => sbA b u (ne_of_none e hq) (sa _ _ e)
      clear sbA hg hmN sa
      have e7A := e7.trans sA
      have e8A := sA _ _ e8
      have e9A := sA _ _ e9
      have e10A := e10.mono fun _ _ => RwAt.same sA
      clear e7 e8 e9 e10 e1 sA
      have lj : (ms.map V.int).length ≤ 62 := l61
      have lyr : ys.length = rs.length := e10A.1
      have okN : ∀ ρ ∈ rs ++ [r], ρ.okB M = true ∧ ρ.sml := fun ρ hρ => (List.mem_append.mp hρ).elim (e11 ρ) fun h => by rw [List.mem_singleton.mp h]; exact ⟨hok, hsml⟩
      cases hwy : Ψ.why r with
      | none =>
        have hv : optV (Ψ.why r) = .non := by rw [hwy]; rfl
        wtm_at "gs"
        have f8 := hst _ _ (.inl e6) (sm _ _ e8A)
        have f9 := hst _ _ (.inl e5) (sm _ _ e9A)
        have f10 : All2 (RwAt HH) ys rs := e10A.mono fun _ _ => by
          rintro ⟨b, rfl, e⟩
          exact ⟨b, rfl, hst _ _ (.inr ⟨_, rfl⟩) (sm _ _ e)⟩
        have fr : HH qr = some (.tup r.vs) := hst _ _ (.inr ⟨_, rfl⟩) (sm _ _ hrw)
        have f7 : Same H HH := fun b u e => hst _ _ (.inl fun f => by rw [e4 b f] at e; cases e) (sm _ _ (e7A _ _ e))
        have f5 : ¬ b'.F L := fun f => (hF L f).elim e5 fun n => by rw [sm _ _ e9A] at n; cases n
        have f6 : ¬ b'.F S := fun f => (hF S f).elim e6 fun n => by rw [sm _ _ e8A] at n; cases n
        have f4 : ∀ c, b'.F c → H c = none := fun c f => (hF c f).elim (e4 c) fun n => none_same (e7A.trans sm) n
        clear hst e7A e8A e9A e10A sm hmA hrw hpA
        wtm_at "gs"
        refine ⟨b', Ψ.go r, _, _, _, ys ++ [.ref qr], rs ++ [r], rfl, hmd.kept (Kept.but f9 f5 sb), eI.go hok hwy, by omega, f4, f5, f6, fun b u e => sb b u (ne_of_none e nL) (f7 _ _ e), sb _ _ nSL f8, hg, All2.append (f10.mono fun _ _ h => RwAt.stays.but f9 sb h) (All2.cons ⟨qr, rfl, sb _ _ (ne_of fr f9 (by simp)) fr⟩ All2.nil), okN, ?_, by rw [List.length_append]; exact Nat.succ_le_succ e13, ?_, fun e => (e15 e).snoc hwy⟩
        · rw [List.filter_append, List.length_append, keys_go]
          omega
        · rw [keys_go]
          cases q : r.sentB with
          | true =>
            have := h14 q
            simp only [List.filter_cons, q, if_true, List.filter_nil, List.length_cons, List.length_nil]
            omega
          | false =>
            simp only [List.filter_cons, q, List.filter_nil]
            exact e14
      | some wy =>
        have hv : ¬ optV (Ψ.why r) = .non := by rw [hwy]; exact fun c => by cases c
        have ns : r.sentB = false := by
          cases r with
          | sent m z => cases hwy
          | got m s n => rfl
          | told m p s n => rfl
        wtm_at "gs"
        · have f9 := sm _ _ e9A
          refine ⟨μ, Ψ, _, _, _, ys ++ [.ref qr], rs ++ [r], rfl, (hmA.same sm).kept (Kept.but f9 e5 sb), eI, by omega, e4, e5, e6, fun b u e => sb b u (ne_of_none e nL) (sm _ _ (e7A _ _ e)), sb _ _ nSL (sm _ _ e8A), hg, All2.append (e10A.mono fun _ _ h => RwAt.stays.but f9 sb (RwAt.same sm h)) (All2.cons ⟨qr, rfl, sb _ _ (ne_of (sm _ _ hrw) f9 (by simp)) (sm _ _ hrw)⟩ All2.nil), okN, ?_, by rw [List.length_append]; exact Nat.succ_le_succ e13, e14, fun e => by exfalso; omega⟩
          rw [List.filter_append, List.length_append]
          simp only [List.filter_cons, ns, List.filter_nil]
          exact e12
        · exact ⟨μ, Ψ, _, _, _, ys, rs, rfl, hmA.same sm, eI, by omega, e4, e5, e6, e7A.trans sm, sm _ _ e8A, sm _ _ e9A, e10A.mono fun _ _ => RwAt.same sm, e11, e12, by omega, e14, e15⟩
    case c3 =>
      rintro σ H' ⟨μ, Ψ, v6, v7, v8, ys, rs, rfl, e1, eI, e3, e4, e5, e6, e7, e8, e9, e10, e11, e12, e13, e14, e15⟩
      have lr : ys.length = rs.length := e10.1
      have hj : ys.length ≤ 62 := Nat.le_trans e13 l61
      wtm_at "gs"
      refine k HN M L ys rs q (e7.trans sa) hM hg nL (sa _ _ e9) (e10.mono fun _ _ => RwAt.same sa) ?_ (fun r hr => (e11 r hr).2) (by omega) (by omega) (fun e => ?_)
      · unfold histB
        rw [Bool.and_eq_true]
        exact ⟨List.all_eq_true.mpr fun r hr => (e11 r hr).1, decide_eq_true (by omega)⟩
      · have := e15 e [] 0
        rw [List.append_nil] at this
        rw [this]
        rfl
end

/-! ### what is due -/
/-- a tuple (place, word), or nothing, as it stands -/
def FwD (H : Hp) (v : V) : Option (Nat × Str) → Prop
  | none => v = .non
  | some (i, w) => ∃ t, v = .ref t ∧ H t = some (.tup [.int (i : Nat), .str w])
theorem FwAt.d {H HH : Hp} {v : V} {o : Option (Nat × Str)} (h : FwAt H HH v o) : FwD HH v o := by
  cases o with
  | none => exact h
  | some x =>
    obtain ⟨t, e, _, g⟩ := h
    exact ⟨t, e, g⟩
theorem FwD.same {H H' : Hp} {v : V} {o : Option (Nat × Str)} (s : Same H H') (h : FwD H v o) : FwD H' v o := by
  cases o with
  | none => exact h
  | some x =>
    obtain ⟨t, e, g⟩ := h
    exact ⟨t, e, s _ _ g⟩
local macro_rules | `(tactic| wtm_at "fwd") => `(tactic| fail)
local macro_rules | `(tactic| wtm_at "fwd") => `(tactic| first | wtm_at "as" | ((with_reducible refine' FwD.same ?d1 ?d2); (case d1 => wtm_at "as"); (case d2 => wtm_at "fwd")) | fail)
theorem firstW_ge {S : Ms} {rs : List Rw} {j i : Nat} {w : Str} (h : firstW S rs j = some (i, w)) : j ≤ i ∧ i < j + rs.length ∧ firstW S (rs.take (i - j)) j = none := by
  induction rs generalizing S j with
  | nil => cases h
  | cons r rs ih =>
    have e : firstW S (r :: rs) j = match S.why r with | some w => some (j, w) | none => firstW (S.go r) rs (j + 1) := rfl
    rw [e] at h
    cases hw : S.why r with
    | some v =>
      rw [hw] at h
      cases h
      exact ⟨Nat.le_refl _, by rw [List.length_cons]; omega, by rw [Nat.sub_self]; rfl⟩
    | none =>
      rw [hw] at h
      obtain ⟨h1, h2, h3⟩ := ih h
      refine ⟨by omega, by rw [List.length_cons]; omega, ?_⟩
      rw [show i - j = (i - (j + 1)) + 1 by omega, List.take_succ_cons]
      show (match S.why r with | some w => _ | none => _) = _
      rw [hw]
      exact h3
def spDue (K : PySem.W.Frag) : Sp := fun vs H Q E => ∃ (p : Addr) (M : Nat) (xs : List V) (rs : List Rw), vs = [.int M, .ref p] ∧ (2 ≤ M ∧ M ≤ 5) ∧ (SqL K H p xs) ∧ (All2 (RwAt H) xs rs) ∧ (∀ r ∈ rs, r.okB M = true) ∧ (rs.length ≤ 200) ∧ (∀ HH u, (Same H HH) → (FwAt H HH u (firstW (Ms.new M) rs 0)) → Q (u) HH)
theorem spDue_u1 {K : PySem.W.Frag} {H : Hp} {Q : VK} {E : XK} {vs : List V} {p : Addr} {M : Nat} {xs : List V} {rs : List Rw} (g0 : 2 ≤ M ∧ M ≤ 5) (g1 : SqL K H p xs) (g2 : All2 (RwAt H) xs rs) (g3 : ∀ r ∈ rs, r.okB M = true) (g4 : rs.length ≤ 200) (k : ∀ HH u, (Same H HH) → (FwAt H HH u (firstW (Ms.new M) rs 0)) → Q (u) HH) (he : vs = [.int M, .ref p] := by rfl) : spDue K vs H Q E := ⟨p, M, xs, rs, he, g0, g1, g2, g3, g4, k⟩
set_option hygiene false in
local macro_rules | `(tactic| wtm_at "u") => `(tactic| first | ((with_reducible refine' spDue_u1 ?g0 ?g1 ?g2 ?g3 ?g4 (fun HH u sm hu => ?_) ?he); (case he => rfl); (case g0 => wtm_at "as"); (case g1 => wtm_at "sq"); (case g2 => wtm_at "as"); (case g3 => wtm_at "as"); (case g4 => wtm_at "as")) | fail)
def spRt (K : PySem.W.Frag) (a : Ad) : Sp := fun vs H Q E => ∃ (p : Addr) (M : Nat) (xs : List V) (rs : List Rw) (u : V), vs = [.int M, .ref p, u] ∧ (2 ≤ M ∧ M ≤ 5) ∧ (SqL K H p xs) ∧ (All2 (RwAt H) xs rs) ∧ (histB M rs = true) ∧ (∀ r ∈ rs, r.sml) ∧ (rs.length ≤ 200) ∧ (FwD H u (firstW (Ms.new M) rs 0)) ∧ (∀ HH, (Same H HH) → Q (.bl true) HH)
theorem spRt_u1 {K : PySem.W.Frag} {a : Ad} {H : Hp} {Q : VK} {E : XK} {vs : List V} {p : Addr} {M : Nat} {xs : List V} {rs : List Rw} {u : V} (g0 : 2 ≤ M ∧ M ≤ 5) (g1 : SqL K H p xs) (g2 : All2 (RwAt H) xs rs) (g3 : histB M rs = true) (g4 : ∀ r ∈ rs, r.sml) (g5 : rs.length ≤ 200) (g6 : FwD H u (firstW (Ms.new M) rs 0)) (k : ∀ HH, (Same H HH) → Q (.bl true) HH) (he : vs = [.int M, .ref p, u] := by rfl) : spRt K a vs H Q E := ⟨p, M, xs, rs, u, he, g0, g1, g2, g3, g4, g5, g6, k⟩
set_option hygiene false in
local macro_rules | `(tactic| wtm_at "u") => `(tactic| first | ((with_reducible refine' spRt_u1 ?g0 ?g1 ?g2 ?g3 ?g4 ?g5 ?g6 (fun HH sm => ?_) ?he); (case he => rfl); (case g0 => wtm_at "as"); (case g1 => wtm_at "sq"); (case g2 => wtm_at "as"); (case g3 => wtm_at "as"); (case g4 => wtm_at "as"); (case g5 => wtm_at "as"); (case g6 => wtm_at "fwd")) | fail)
section
variable {P : Program} {w : World} {K : PySem.W.Frag} {mg : Str → Option Value} {base : Heap} {a : Ad}
theorem ok__law_due (T : Txt w K mg a) : FnOk P w K mg base CX0 4 a._law_due a.d__law_due ["members", "rows"] (spDue K) := by
  refine fund_ok0 T.F__law_due sc__law_due (fun vs H Q E h => ?_) (fun cdv A outer s H vs Q E hr h => ?_)
  · obtain ⟨p, M, xs, rs, rfl, hM, hp, hx, hok, hl, k⟩ := h
    rfl
  · obtain ⟨p, M, xs, rs, rfl, hM, hp, hx, hok, hl, k⟩ := h
    refine ⟨_, (pss_cons (ps_set (i := 2) sc__law_due.nd rfl (by first | exact Or.inl rfl | exact Or.inr rfl) (pe_call (ok__law_model (K := K) T) (hr.mono (by decide)) (by rfl) T.m__law_model T.F__law_model.kp T.B__law_model .nil pass0 (pa_cons (pv 0) pa_nil)))
    (pss_cons (ps_for PassesOwn.never rfl (pi_range1 (by rfl) T.b_range (pa_cons (pe_callB (call_lenU (K := K)) (by rfl) T.b_len (by decide +kernel) (pa_cons (pv 1) pa_nil)) pa_nil)) (pg_name (i := 3) sc__law_due.nd rfl (by first | exact Or.inl rfl | exact Or.inr rfl))
    (pss_cons (ps_set (i := 4) sc__law_due.nd rfl (by first | exact Or.inl rfl | exact Or.inr rfl) (pe_call (ok__law_why (K := K) T) (hr.mono (by decide)) (by rfl) T.m__law_why T.F__law_why.kp T.B__law_why .nil pass0 (pa_cons (pv 2) (pa_cons (pe_ix (ix_U (K := K)) (pv 1) (pv 3) (fun _ _ => rfl)) pa_nil))))
    (pss_cons (ps_if (pt_cmpR op_isnU (pv 4) pe_non (nomark _)) (pss_one (ps_ret (pe_tup (pa_cons (pv 3) (pa_cons (pv 4) pa_nil))))) pss_nil)
    (pss_one (ps_expr (pe_call (ok__law_go (K := K) T) (hr.mono (by decide)) (by rfl) T.m__law_go T.F__law_go.kp T.B__law_go .nil pass0 (pa_cons (pv 2) (pa_cons (pe_ix (ix_U (K := K)) (pv 1) (pv 3) (fun _ _ => rfl)) pa_nil))))))))
    (pss_one (ps_ret pe_non)))), ?_⟩
    dsimp only [L2.start, List.map_cons, List.map_nil, List.map, List.length_cons, List.length_nil, Nat.reduceAdd, Nat.reduceSub, List.replicate, List.cons_append, List.nil_append]
    wtm_at "gs"
    refine ⟨M, rfl, hM, fun HM o μ0 sm0 hmd0 hn0 hF0 => ?_⟩
    have lx : xs.length = rs.length := hx.1
    have hpM := SqL.sm sm0 hp
    wtm_at "gs"
    have eM : ((xs.length : Int)).toNat = rs.length := by rw [Int.toNat_natCast, lx]
    rw [eM]
    refine' for_range (lo := 0) (n := rs.length) (fun i σ H' => ∃ S μ v4 v5, σ = [some (.int M), some (.ref p), some (.ref o), v4, v5] ∧ MdX H' o μ S ∧ Inw M S ∧ μ.n ≤ 2 * i ∧ (∀ b, μ.F b → H b = none) ∧ Same H H' ∧ firstW (Ms.new M) rs 0 = firstW S (rs.drop i) i) ⟨Ms.new M, μ0, _, _, rfl, hmd0, Inw.new hM.2, by omega, hF0, sm0, rfl⟩ (fun i σ H' hi hJ => ?c1s) (fun σ H' hJ => ?c1d)
    case c1d =>
      obtain ⟨S, μ, v4, v5, rfl, e1, e2, e3, e4, e5, e6⟩ := hJ
      wtm_at "gs"
      refine k H' .non e5 ?_
      rw [e6, List.drop_length]
      exact rfl
    case c1s =>
      obtain ⟨S, μ, v4, v5, rfl, e1, e2, e3, e4, e5, e6⟩ := hJ
      simp only [Int.zero_add]
      obtain ⟨r, hr⟩ : ∃ r, rs[i]? = some r := ⟨_, List.getElem?_eq_getElem hi⟩
      obtain ⟨x, hxi, pr, rfl, hpr⟩ := hx.swap.get hr
      have ai := atI_of hxi
      have hp1 := SqL.sm e5 hp
      have hpr1 := e5 _ _ hpr
      have hkr := hok r (List.mem_of_getElem? hr)
      have hdr : rs.drop i = r :: rs.drop (i + 1) := by
        rw [List.drop_eq_getElem_cons hi, (List.getElem?_eq_some_iff.mp hr).2]
      rw [hdr] at e6
      clear hpM hp hpr sm0 hmd0
      cases hwy : S.why r with
      | none =>
        have hv : optV (S.why r) = .non := by rw [hwy]; rfl
        have hn5 : μ.n + 2 ≤ 450 := by omega
        wtm_at "gs"
        refine ⟨S.go r, _, _, _, rfl, hmd, e2.go hkr hwy, by omega, (fun c f => (hF c f).elim (e4 c) (fun n => none_same (e5.trans sm) n)), (fun b u e => hst _ _ (.inl fun f => by rw [e4 b f] at e; cases e) (sm _ _ (e5 _ _ e))), ?_⟩
        rw [e6]
        show (match S.why r with | some w => _ | none => _) = _
        rw [hwy]
      | some wy =>
        have hv : ¬ optV (S.why r) = .non := by rw [hwy]; exact fun c => by cases c
        wtm_at "gs"
        have s5 := e5.trans sm
        refine k HN (.ref q) (s5.trans sa) ?_
        rw [e6]
        show FwAt H HN (.ref q) (match S.why r with | some w => some (i, w) | none => firstW (S.go r) (rs.drop (i + 1)) (i + 1))
        rw [hwy]
        exact ⟨q, rfl, none_same s5 hq, by rw [hg, hwy]; rfl⟩
end

/-! ### one row changed -/
theorem slP {n i : Nat} (h : i < n) : ¬ (HT.sIx n 0 none = 0 ∧ HT.sIx n n (some (i : Int)) = n) := by
  rw [HT.sIx_nat]
  omega
theorem slS {n i : Nat} (h0 : 0 < n) (h : 0 < i) : ¬ (HT.sIx n 0 (some (i : Int)) = 0 ∧ HT.sIx n n none = n) := by
  rw [HT.sIx_nat]
  omega
/-- a part of a row put otherwise -/
theorem part_row {M : Nat} {r : Rw} {j : Nat} {v : Int} (hok : r.okB M = true) (hs : r.sentB = false) (h1 : 1 ≤ j) (h2 : j < r.vs.length) :
    ∃ r' : Rw, r.vs.take j ++ [.int v] ++ r.vs.drop (j + 1) = r'.vs ∧ r'.sml ∧ r'.sentB = false ∧ ((j = 1 ∨ (j : Int) = (r.vs.length : Int) - 2) → (0 ≤ v ∧ v < M) → r'.okB M = true) ∧ (¬ (j = 1 ∨ (j : Int) = (r.vs.length : Int) - 2) → 1 ≤ v → r'.okB M = true) := by
  cases r with
  | sent m z => cases hs
  | got m s n =>
    simp only [Rw.okB, inR, Bool.and_eq_true, decide_eq_true_eq] at hok
    have hl : (Rw.got m s n).vs.length = 4 := rfl
    rw [hl] at h2 ⊢
    have : j = 1 ∨ j = 2 ∨ j = 3 := by omega
    rcases this with rfl | rfl | rfl
    · exact ⟨.got v s n, rfl, trivial, rfl, fun _ h => by simp only [Rw.okB, inR, Bool.and_eq_true, decide_eq_true_eq]; omega, fun h => absurd (.inl rfl) h⟩
    · exact ⟨.got m v n, rfl, trivial, rfl, fun _ h => by simp only [Rw.okB, inR, Bool.and_eq_true, decide_eq_true_eq]; omega, fun h => absurd (.inr rfl) h⟩
    · exact ⟨.got m s v, rfl, trivial, rfl, fun h => by rcases h with h | h <;> omega, fun _ h => by simp only [Rw.okB, inR, Bool.and_eq_true, decide_eq_true_eq]; omega⟩
  | told m p s n =>
    simp only [Rw.okB, inR, Bool.and_eq_true, decide_eq_true_eq] at hok
    have hl : (Rw.told m p s n).vs.length = 5 := rfl
    rw [hl] at h2 ⊢
    have : j = 1 ∨ j = 2 ∨ j = 3 ∨ j = 4 := by omega
    rcases this with rfl | rfl | rfl | rfl
    · exact ⟨.told v p s n, rfl, trivial, rfl, fun _ h => by simp only [Rw.okB, inR, Bool.and_eq_true, decide_eq_true_eq]; omega, fun h => absurd (.inl rfl) h⟩
    · exact ⟨.told m v s n, rfl, trivial, rfl, fun h => by rcases h with h | h <;> omega, fun _ h => by simp only [Rw.okB, inR, Bool.and_eq_true, decide_eq_true_eq]; omega⟩
    · exact ⟨.told m p v n, rfl, trivial, rfl, fun _ h => by simp only [Rw.okB, inR, Bool.and_eq_true, decide_eq_true_eq]; omega, fun h => absurd (.inr rfl) h⟩
    · exact ⟨.told m p s v, rfl, trivial, rfl, fun h => by rcases h with h | h <;> omega, fun _ h => by simp only [Rw.okB, inR, Bool.and_eq_true, decide_eq_true_eq]; omega⟩
theorem part_at {r : Rw} {j : Nat} (hs : r.sentB = false) (h1 : 1 ≤ j) (h2 : j < r.vs.length) : ∃ v, atI r.vs (j : Int) = some (.int v) := by
  cases r with
  | sent m z => cases hs
  | got m s n =>
    have hl : (Rw.got m s n).vs.length = 4 := rfl
    rw [hl] at h2
    have : j = 1 ∨ j = 2 ∨ j = 3 := by omega
    rcases this with rfl | rfl | rfl <;> exact ⟨_, rfl⟩
  | told m p s n =>
    have hl : (Rw.told m p s n).vs.length = 5 := rfl
    rw [hl] at h2
    have : j = 1 ∨ j = 2 ∨ j = 3 ∨ j = 4 := by omega
    rcases this with rfl | rfl | rfl | rfl <;> exact ⟨_, rfl⟩
theorem vs_len (r : Rw) : 3 ≤ r.vs.length ∧ r.vs.length ≤ 5 := by cases r <;> exact ⟨by simp [Rw.vs], by simp [Rw.vs]⟩
def spPart (K : PySem.W.Frag) : Sp := fun vs H Q E => ∃ (qr p : Addr) (M : Nat) (m : Int) (ρ : Rw), vs = [.int M, .ref qr, .ref p] ∧ (2 ≤ M ∧ M ≤ 5) ∧ (H qr = some (.tup ρ.vs)) ∧ (H p = some (.lst [.int m])) ∧ (ρ.okB M = true) ∧ (ρ.sentB = false) ∧ (∀ HH m' q' (r' : Rw), (SameBut p H HH) → (HH p = some (.lst [.int m'])) → (HH q' = some (.tup r'.vs)) → (r'.okB M = true) → (r'.sml) → Q (.ref q') HH)
theorem spPart_u1 {K : PySem.W.Frag} {H : Hp} {Q : VK} {E : XK} {vs : List V} {qr p : Addr} {M : Nat} {m : Int} {ρ : Rw} (g0 : 2 ≤ M ∧ M ≤ 5) (g1 : H qr = some (.tup ρ.vs)) (g2 : H p = some (.lst [.int m])) (g3 : ρ.okB M = true) (g4 : ρ.sentB = false) (k : ∀ HH m' q' (r' : Rw), (SameBut p H HH) → (HH p = some (.lst [.int m'])) → (HH q' = some (.tup r'.vs)) → (r'.okB M = true) → (r'.sml) → Q (.ref q') HH) (he : vs = [.int M, .ref qr, .ref p] := by rfl) : spPart K vs H Q E := ⟨qr, p, M, m, ρ, he, g0, g1, g2, g3, g4, k⟩
set_option hygiene false in
local macro_rules | `(tactic| wtm_at "u") => `(tactic| first | ((with_reducible refine' spPart_u1 ?g0 ?g1 ?g2 ?g3 ?g4 (fun HH m' q' r' sb hp' hq' hok' hsm' => ?_) ?he); (case he => rfl); (case g0 => wtm_at "as"); (case g1 => wtm_at "as"); (case g2 => wtm_at "get"); (case g3 => wtm_at "as"); (case g4 => wtm_at "as")) | fail)
section
variable {P : Program} {w : World} {K : PySem.W.Frag} {mg : Str → Option Value} {base : Heap} {a : Ad}
theorem slS1 {n i : Nat} (h0 : 0 < n) : ¬ (HT.sIx n 0 (some ((i : Int) + 1)) = 0 ∧ HT.sIx n n none = n) := slS (i := i + 1) h0 (Nat.succ_pos i)
theorem ok__law_part (T : Txt w K mg a) : FnOk P w K mg base CX0 2 a._law_part a.d__law_part ["members", "row", "pool"] (spPart K) := by
  refine fund_ok0 T.F__law_part sc__law_part (fun vs H Q E h => ?_) (fun cdv A outer s H vs Q E hr h => ?_)
  · obtain ⟨qr, p, M, m, ρ, rfl, hM, hq0, hp, hok, hs, k⟩ := h
    rfl
  · obtain ⟨qr, p, M, m, ρ, rfl, hM, hq0, hp, hok, hs, k⟩ := h
    refine ⟨_, (pss_cons (ps_set (i := 3) sc__law_part.nd rfl (by first | exact Or.inl rfl | exact Or.inr rfl) (pe_op (op_addU (K := K)) pe_int (pe_call (ok__law_take (K := K) T) (hr.mono (by decide)) (by rfl) T.m__law_take T.F__law_take.kp T.B__law_take .nil pass0 (pa_cons (pv 2) (pa_cons (pe_op op_subU (pe_callB (call_lenU (K := K)) (by rfl) T.b_len (by decide +kernel) (pa_cons (pv 1) pa_nil)) pe_int) pa_nil)))))
    (pss_cons (ps_set (i := 4) sc__law_part.nd rfl (by first | exact Or.inl rfl | exact Or.inr rfl) (pe_ix (ix_U (K := K)) (pe_lst (pa_cons pe_int (pa_cons (pe_un un_neg pe_int) pa_nil))) (pe_call (ok__law_take (K := K) T) (hr.mono (by decide)) (by rfl) T.m__law_take T.F__law_take.kp T.B__law_take .nil pass0 (pa_cons (pv 2) (pa_cons pe_int pa_nil))) (fun _ _ => rfl)))
    (pss_cons (ps_if (PW.pt (pw_or (pt_cmpR (op_eqU hr.units (K := K)) (pv 3) pe_int (nomark _)) (pw_or1 (pt_cmpR (op_eqU hr.units (K := K)) (pv 3) (pe_op op_subU (pe_callB (call_lenU (K := K)) (by rfl) T.b_len (by decide +kernel) (pa_cons (pv 1) pa_nil)) pe_int) (nomark _))))) (pss_one (ps_ret (pe_op (op_addU (K := K)) (pe_op (op_addU (K := K)) (pe_slice (sl_U (K := K)) (pv 1) po_none (po_some (pv 3))) (pe_tup (pa_cons (pe_op op_modU (pe_op (op_addU (K := K)) (pe_ix (ix_U (K := K)) (pv 1) (pv 3) (fun _ _ => rfl)) (pv 4)) (pv 0)) pa_nil))) (pe_slice (sl_U (K := K)) (pv 1) (po_some (pe_op (op_addU (K := K)) (pv 3) pe_int)) po_none)))) pss_nil)
    (pss_one (ps_ret (pe_op (op_addU (K := K)) (pe_op (op_addU (K := K)) (pe_slice (sl_U (K := K)) (pv 1) po_none (po_some (pv 3))) (pe_tup (pa_cons (pe_callB (call_maxU rfl) (by rfl) T.b_max (by decide +kernel) (pa_cons pe_int (pa_cons (pe_op (op_addU (K := K)) (pe_ix (ix_U (K := K)) (pv 1) (pv 3) (fun _ _ => rfl)) (pv 4)) pa_nil))) pa_nil))) (pe_slice (sl_U (K := K)) (pv 1) (po_some (pe_op (op_addU (K := K)) (pv 3) pe_int)) po_none))))))), ?_⟩
    dsimp only [L2.start, List.map_cons, List.map_nil, List.map, List.length_cons, List.length_nil, Nat.reduceAdd, Nat.reduceSub, List.replicate, List.cons_append, List.nil_append]
    have lv := vs_len ρ
    have nqp : qr ≠ p := ne_of hq0 hp (by simp)
    have z0 : 0 < (ρ.vs.length : Int) - 1 := by omega
    have z1 : ((ρ.vs.length : Int) - 1).natAbs.log2 < 9000 := log2_le (by omega) (by omega)
    have hM0 : 0 < (M : Int) := by omega
    wtm_at "gs"
    rename_i r0 m0 _ _
    obtain ⟨x, hx, _, ex⟩ := atI_in (xs := [V.int 1, V.int (-1)]) (r := r) hr0 (by show r < 2; exact hr1)
    obtain ⟨st, rfl⟩ : ∃ st, x = V.int st := by
      simp only [List.mem_cons, List.not_mem_nil, or_false] at hx
      rcases hx with rfl | rfl
      · exact ⟨_, rfl⟩
      · exact ⟨_, rfl⟩
    refine i_ixL (by wtm_at "sq") ex ?_
    have sbS : SameBut p H (upd HN p (.lst [.int m'])) := by wtm_at "but"
    have pS : upd HN p (.lst [.int m']) p = some (.lst [.int m']) := upd_same
    have qS : upd HN p (.lst [.int m']) qr = some (.tup ρ.vs) := sbS _ _ nqp hq0
    generalize upd HN p (.lst [.int m']) = HS at *
    clear sa hg hq
    obtain ⟨j, hj⟩ := Int.eq_ofNat_of_zero_le (a := 1 + r0) (by omega)
    rw [hj]
    have h1 : 1 ≤ j := by omega
    have h2 : j < ρ.vs.length := by omega
    obtain ⟨v, av⟩ := part_at hs h1 h2
    have m0 := Int.emod_nonneg (v + st) (b := (M : Int)) (by omega)
    have m1 := Int.emod_lt_of_pos (v + st) (b := (M : Int)) (by omega)
    have mx : 1 ≤ maxP 1 (v + st) := by
      unfold maxP
      split <;> omega
    clear hq0 hp
    wtm_at "gs"
    ·
      refine i_slTn (.of qS) (slP h2) (fun q hq => ?_)
      wtm_at "absn"
      rw [cut_take] at hg
      wtm_at "gs"
      rename_i q1 hq1 H1 s1 g1
      refine i_addT (.of (sa _ _ g1)) (.of hg) (fun c => ?_) (line_le (by rw [List.length_take]; simp only [List.length_cons, List.length_nil]; omega)) (fun e => by cases e) (fun _ q hq => ?_)
      · have := congrArg List.length c
        rw [List.length_take] at this
        simp only [List.length_nil] at this
        omega
      have s2 := s1.trans sa
      clear sa hg g1
      wtm_at "absn"
      have s3 := s2.trans sa
      have g3 := hg
      have q3 := s3 _ _ qS
      have p3 := s3 _ _ pS
      clear s2 sa hg
      wtm_at "gs"
      refine i_slTn (.of q3) (slS1 (by omega)) (fun q hq => ?_)
      wtm_at "absn"
      rw [cut_drop1] at hg
      have s4 := s3.trans sa
      have g4 := sa _ _ g3
      have p4 := sa _ _ p3
      clear sa
      wtm_at "gs"
      obtain ⟨r', er, sm', sB', ok1, ok2⟩ := part_row (M := M) (v := (v + st) % M) hok hs h1 h2
      have ok' : r'.okB M = true := ok1 (.inl (by omega)) ⟨m0, m1⟩
      refine i_addT (.of g4) (.of hg) (fun c => ?_) (line_le (by simp only [List.length_append, List.length_take, List.length_drop, List.length_cons, List.length_nil]; omega)) (fun e => ?_) (fun _ q hq => ?_)
      · have := congrArg List.length c
        simp only [List.length_append, List.length_cons, List.length_nil] at this
        omega
      · rw [e, List.append_nil] at er
        rw [er] at g4
        exact k _ _ _ r' (fun b u n e => s4 _ _ (sbS b u n e)) p4 g4 ok' sm'
      · wtm_at "absn"
        rw [er] at hg
        exact k _ _ _ r' (fun b u n e => sa _ _ (s4 _ _ (sbS b u n e))) (sa _ _ p4) hg ok' sm'
    ·
      refine i_slTn (.of qS) (slP h2) (fun q hq => ?_)
      wtm_at "absn"
      rw [cut_take] at hg
      wtm_at "gs"
      rename_i q1 hq1 H1 s1 g1
      refine i_addT (.of (sa _ _ g1)) (.of hg) (fun c => ?_) (line_le (by rw [List.length_take]; simp only [List.length_cons, List.length_nil]; omega)) (fun e => by cases e) (fun _ q hq => ?_)
      · have := congrArg List.length c
        rw [List.length_take] at this
        simp only [List.length_nil] at this
        omega
      have s2 := s1.trans sa
      clear sa hg g1
      wtm_at "absn"
      have s3 := s2.trans sa
      have g3 := hg
      have q3 := s3 _ _ qS
      have p3 := s3 _ _ pS
      clear s2 sa hg
      wtm_at "gs"
      refine i_slTn (.of q3) (slS1 (by omega)) (fun q hq => ?_)
      wtm_at "absn"
      rw [cut_drop1] at hg
      have s4 := s3.trans sa
      have g4 := sa _ _ g3
      have p4 := sa _ _ p3
      clear sa
      wtm_at "gs"
      obtain ⟨r', er, sm', sB', ok1, ok2⟩ := part_row (M := M) (v := (v + st) % M) hok hs h1 h2
      have ok' : r'.okB M = true := ok1 (.inr (by omega)) ⟨m0, m1⟩
      refine i_addT (.of g4) (.of hg) (fun c => ?_) (line_le (by simp only [List.length_append, List.length_take, List.length_drop, List.length_cons, List.length_nil]; omega)) (fun e => ?_) (fun _ q hq => ?_)
      · have := congrArg List.length c
        simp only [List.length_append, List.length_cons, List.length_nil] at this
        omega
      · rw [e, List.append_nil] at er
        rw [er] at g4
        exact k _ _ _ r' (fun b u n e => s4 _ _ (sbS b u n e)) p4 g4 ok' sm'
      · wtm_at "absn"
        rw [er] at hg
        exact k _ _ _ r' (fun b u n e => sa _ _ (s4 _ _ (sbS b u n e))) (sa _ _ p4) hg ok' sm'
    ·
      refine i_slTn (.of qS) (slP h2) (fun q hq => ?_)
      wtm_at "absn"
      rw [cut_take] at hg
      wtm_at "gs"
      rename_i q1 hq1 H1 s1 g1
      refine i_addT (.of (sa _ _ g1)) (.of hg) (fun c => ?_) (line_le (by rw [List.length_take]; simp only [List.length_cons, List.length_nil]; omega)) (fun e => by cases e) (fun _ q hq => ?_)
      · have := congrArg List.length c
        rw [List.length_take] at this
        simp only [List.length_nil] at this
        omega
      have s2 := s1.trans sa
      clear sa hg g1
      wtm_at "absn"
      have s3 := s2.trans sa
      have g3 := hg
      have q3 := s3 _ _ qS
      have p3 := s3 _ _ pS
      clear s2 sa hg
      wtm_at "gs"
      refine i_slTn (.of q3) (slS1 (by omega)) (fun q hq => ?_)
      wtm_at "absn"
      rw [cut_drop1] at hg
      have s4 := s3.trans sa
      have g4 := sa _ _ g3
      have p4 := sa _ _ p3
      clear sa
      wtm_at "gs"
      obtain ⟨r', er, sm', sB', ok1, ok2⟩ := part_row (M := M) (v := maxP 1 (v + st)) hok hs h1 h2
      have ok' : r'.okB M = true := ok2 (by omega) mx
      refine i_addT (.of g4) (.of hg) (fun c => ?_) (line_le (by simp only [List.length_append, List.length_take, List.length_drop, List.length_cons, List.length_nil]; omega)) (fun e => ?_) (fun _ q hq => ?_)
      · have := congrArg List.length c
        simp only [List.length_append, List.length_cons, List.length_nil] at this
        omega
      · rw [e, List.append_nil] at er
        rw [er] at g4
        exact k _ _ _ r' (fun b u n e => s4 _ _ (sbS b u n e)) p4 g4 ok' sm'
      · wtm_at "absn"
        rw [er] at hg
        exact k _ _ _ r' (fun b u n e => sa _ _ (s4 _ _ (sbS b u n e))) (sa _ _ p4) hg ok' sm'
end
def Rw.put (m : Int) : Rw → Rw
  | .sent _ z => .sent m z
  | .got _ s n => .got m s n
  | .told _ p s n => .told m p s n
theorem Rw.put_vs (m : Int) (r : Rw) : r.vs.take 1 ++ [.int m] ++ r.vs.drop 2 = (r.put m).vs := by cases r <;> rfl
theorem Rw.put_ok {M m : Int} {r : Rw} (h : r.okB M = true) (h0 : 0 ≤ m) (h1 : m < M) : (r.put m).okB M = true := by
  cases r <;> simp only [Rw.okB, Rw.put, inR, Bool.and_eq_true, decide_eq_true_eq] at * <;> (obtain ⟨_, h⟩ := h; exact ⟨⟨h0, by omega⟩, h⟩)
theorem Rw.put_sml {m : Int} {r : Rw} (h : r.sml) : (r.put m).sml := by cases r <;> exact h
theorem Rw.put_sent {m : Int} {r : Rw} : (r.put m).sentB = r.sentB := by cases r <;> rfl
theorem cutA (r : Rw) : cutV r.vs none (some 1) = r.vs.take 1 := cut_take (i := 1)
theorem cutB (r : Rw) : cutV r.vs (some 2) none = r.vs.drop 2 := cut_drop (i := 2)
theorem slT1 (r : Rw) : ¬ (HT.sIx r.vs.length 0 none = 0 ∧ HT.sIx r.vs.length r.vs.length (some 1) = r.vs.length) := by
  cases r
  · show ¬ (HT.sIx 3 0 none = 0 ∧ HT.sIx 3 3 (some 1) = 3)
    decide
  · show ¬ (HT.sIx 4 0 none = 0 ∧ HT.sIx 4 4 (some 1) = 4)
    decide
  · show ¬ (HT.sIx 5 0 none = 0 ∧ HT.sIx 5 5 (some 1) = 5)
    decide
theorem slT2 (r : Rw) : ¬ (HT.sIx r.vs.length 0 (some 2) = 0 ∧ HT.sIx r.vs.length r.vs.length none = r.vs.length) := by
  cases r
  · show ¬ (HT.sIx 3 0 (some 2) = 0 ∧ HT.sIx 3 3 none = 3)
    decide
  · show ¬ (HT.sIx 4 0 (some 2) = 0 ∧ HT.sIx 4 4 none = 4)
    decide
  · show ¬ (HT.sIx 5 0 (some 2) = 0 ∧ HT.sIx 5 5 none = 5)
    decide
/-- rows that can be written -/
def GoodL (H : Hp) (M : Nat) (ys : List V) : Prop := ∃ qs : List Rw, All2 (RwAt H) ys qs ∧ ∀ r ∈ qs, r.okB M = true ∧ r.sml
theorem GoodL.same {H H' : Hp} {M : Nat} {ys : List V} (s : Same H H') (h : GoodL H M ys) : GoodL H' M ys := by
  obtain ⟨qs, a, b⟩ := h
  exact ⟨qs, a.mono fun _ _ => RwAt.same s, b⟩
theorem GoodL.but {H H' : Hp} {M : Nat} {ys zs : List V} {p : Addr} (hp : H p = some (.lst zs)) (s : SameBut p H H') (h : GoodL H M ys) : GoodL H' M ys := by
  obtain ⟨qs, a, b⟩ := h
  exact ⟨qs, a.mono fun _ _ h => RwAt.stays.but hp s h, b⟩
theorem GoodL.take {H : Hp} {M : Nat} {ys : List V} (i : Nat) (h : GoodL H M ys) : GoodL H M (ys.take i) := by
  obtain ⟨qs, a, b⟩ := h
  exact ⟨qs.take i, a.take i, fun r hr => b r (List.mem_of_mem_take hr)⟩
theorem GoodL.drop {H : Hp} {M : Nat} {ys : List V} (i : Nat) (h : GoodL H M ys) : GoodL H M (ys.drop i) := by
  obtain ⟨qs, a, b⟩ := h
  exact ⟨qs.drop i, a.drop i, fun r hr => b r (List.mem_of_mem_drop hr)⟩
theorem GoodL.app {H : Hp} {M : Nat} {ys zs : List V} (h : GoodL H M ys) (g : GoodL H M zs) : GoodL H M (ys ++ zs) := by
  obtain ⟨qs, a, b⟩ := h
  obtain ⟨rs, c, d⟩ := g
  exact ⟨qs ++ rs, All2.append a c, fun r hr => (List.mem_append.mp hr).elim (b r) (d r)⟩
theorem GoodL.one {H : Hp} {M : Nat} {q : Addr} {r : Rw} (h : H q = some (.tup r.vs)) (ok : r.okB M = true) (s : r.sml) : GoodL H M [.ref q] :=
  ⟨[r], All2.cons ⟨q, rfl, h⟩ All2.nil, fun x hx => by rw [List.mem_singleton.mp hx]; exact ⟨ok, s⟩⟩
def spChg15 (K : PySem.W.Frag) : Sp := fun vs H Q E => ∃ (L p : Addr) (M : Nat) (m : Int) (xs : List V) (rs : List Rw), vs = [.int M, .ref L, .ref p] ∧ (2 ≤ M ∧ M ≤ 5) ∧ (H L = some (.lst xs)) ∧ (H p = some (.lst [.int m])) ∧ (L ≠ p) ∧ (All2 (RwAt H) xs rs) ∧ (∀ r ∈ rs, r.okB M = true ∧ r.sml) ∧ (0 < xs.length) ∧ (xs.length ≤ 100) ∧ (∀ HH m' q ys, (SameBut p H HH) → (HH p = some (.lst [.int m'])) → (HH q = some (.lst ys)) → (GoodL HH M ys) → (ys.length ≤ xs.length + 1) → Q (.ref q) HH)
theorem spChg15_u1 {K : PySem.W.Frag} {H : Hp} {Q : VK} {E : XK} {vs : List V} {L p : Addr} {M : Nat} {m : Int} {xs : List V} {rs : List Rw} (g0 : 2 ≤ M ∧ M ≤ 5) (g1 : H L = some (.lst xs)) (g2 : H p = some (.lst [.int m])) (g3 : L ≠ p) (g4 : All2 (RwAt H) xs rs) (g5 : ∀ r ∈ rs, r.okB M = true ∧ r.sml) (g6 : 0 < xs.length) (g7 : xs.length ≤ 100) (k : ∀ HH m' q ys, (SameBut p H HH) → (HH p = some (.lst [.int m'])) → (HH q = some (.lst ys)) → (GoodL HH M ys) → (ys.length ≤ xs.length + 1) → Q (.ref q) HH) (he : vs = [.int M, .ref L, .ref p] := by rfl) : spChg15 K vs H Q E := ⟨L, p, M, m, xs, rs, he, g0, g1, g2, g3, g4, g5, g6, g7, k⟩
set_option hygiene false in
local macro_rules | `(tactic| wtm_at "u") => `(tactic| first | ((with_reducible refine' spChg15_u1 ?g0 ?g1 ?g2 ?g3 ?g4 ?g5 ?g6 ?g7 (fun HH m' q ys sb hp' ho hg hyl => ?_) ?he); (case he => rfl); (case g0 => wtm_at "as"); (case g1 => wtm_at "as"); (case g2 => wtm_at "get"); (case g3 => wtm_at "as"); (case g4 => wtm_at "as"); (case g5 => wtm_at "as"); (case g6 => wtm_at "as"); (case g7 => wtm_at "as")) | fail)
section
variable {P : Program} {w : World} {K : PySem.W.Frag} {mg : Str → Option Value} {base : Heap} {a : Ad}
theorem ok__law_changed (T : Txt w K mg a) : FnOk P w K mg base CX0 3 a._law_changed a.d__law_changed ["members", "rows", "pool"] (spChg15 K) := by
  refine fund_ok0 T.F__law_changed sc__law_changed (fun vs H Q E h => ?_) (fun cdv A outer s H vs Q E hr h => ?_)
  · obtain ⟨L, p, M, m, xs, rs, rfl, hM, hL, hp, hn, hx, hok, h0, hl, k⟩ := h
    rfl
  · obtain ⟨L, p, M, m, xs, rs, rfl, hM, hL, hp, hn, hx, hok, h0, hl, k⟩ := h
    refine ⟨_, (pss_cons (ps_set (i := 3) sc__law_changed.nd rfl (by first | exact Or.inl rfl | exact Or.inr rfl) (pe_call (ok__law_take (K := K) T) (hr.mono (by decide)) (by rfl) T.m__law_take T.F__law_take.kp T.B__law_take .nil pass0 (pa_cons (pv 2) (pa_cons pe_int pa_nil))))
    (pss_cons (ps_set (i := 4) sc__law_changed.nd rfl (by first | exact Or.inl rfl | exact Or.inr rfl) (pe_call (ok__law_take (K := K) T) (hr.mono (by decide)) (by rfl) T.m__law_take T.F__law_take.kp T.B__law_take .nil pass0 (pa_cons (pv 2) (pa_cons (pe_callB (call_lenU (K := K)) (by rfl) T.b_len (by decide +kernel) (pa_cons (pv 1) pa_nil)) pa_nil))))
    (pss_cons (ps_set (i := 5) sc__law_changed.nd rfl (by first | exact Or.inl rfl | exact Or.inr rfl) (pe_call (ok__law_take (K := K) T) (hr.mono (by decide)) (by rfl) T.m__law_take T.F__law_take.kp T.B__law_take .nil pass0 (pa_cons (pv 2) (pa_cons (pe_callB (call_lenU (K := K)) (by rfl) T.b_len (by decide +kernel) (pa_cons (pv 1) pa_nil)) pa_nil))))
    (pss_cons (ps_set (i := 6) sc__law_changed.nd rfl (by first | exact Or.inl rfl | exact Or.inr rfl) (pe_ix (ix_U (K := K)) (pv 1) (pv 4) (fun _ _ => rfl)))
    (pss_cons (ps_set (i := 7) sc__law_changed.nd rfl (by first | exact Or.inl rfl | exact Or.inr rfl) (pe_op (op_addU (K := K)) (pe_slice (sl_U (K := K)) (pv 1) po_none (po_some (pv 4))) (pe_slice (sl_U (K := K)) (pv 1) (po_some (pe_op (op_addU (K := K)) (pv 4) pe_int)) po_none)))
    (pss_cons (ps_if (pt_cmpR (op_eqU hr.units (K := K)) (pv 3) pe_int (nomark _)) (pss_one (ps_ret (pv 7))) pss_nil)
    (pss_cons (ps_if (pt_cmpR (op_eqU hr.units (K := K)) (pv 3) pe_int (nomark _)) (pss_one (ps_ret (pe_op (op_addU (K := K)) (pe_op (op_addU (K := K)) (pe_slice (sl_U (K := K)) (pv 1) po_none (po_some (pv 5))) (pe_lst (pa_cons (pv 6) pa_nil))) (pe_slice (sl_U (K := K)) (pv 1) (po_some (pv 5)) po_none)))) pss_nil)
    (pss_cons (ps_if (pt_cmpR (op_eqU hr.units (K := K)) (pv 3) pe_int (nomark _)) (pss_one (ps_ret (pe_op (op_addU (K := K)) (pe_op (op_addU (K := K)) (pe_slice (sl_U (K := K)) (pv 7) po_none (po_some (pv 5))) (pe_lst (pa_cons (pv 6) pa_nil))) (pe_slice (sl_U (K := K)) (pv 7) (po_some (pv 5)) po_none)))) pss_nil)
    (pss_cons (ps_if (PW.pt (pw_and (pt_cmpR (op_eqU hr.units (K := K)) (pv 3) pe_int (nomark _)) (pw_and1 (pt_cmpR (op_neU hr.units (K := K)) (pe_ix (ix_U (K := K)) (pv 6) pe_int (fun _ _ => rfl)) pe_str (nomark _))))) (pss_one (ps_ret (pe_op (op_addU (K := K)) (pe_op (op_addU (K := K)) (pe_slice (sl_U (K := K)) (pv 1) po_none (po_some (pv 4))) (pe_lst (pa_cons (pe_call (ok__law_part (K := K) T) (hr.mono (by decide)) (by rfl) T.m__law_part T.F__law_part.kp T.B__law_part .nil pass0 (pa_cons (pv 0) (pa_cons (pv 6) (pa_cons (pv 2) pa_nil)))) pa_nil))) (pe_slice (sl_U (K := K)) (pv 1) (po_some (pe_op (op_addU (K := K)) (pv 4) pe_int)) po_none)))) pss_nil)
    (pss_cons (ps_set (i := 8) sc__law_changed.nd rfl (by first | exact Or.inl rfl | exact Or.inr rfl) (pe_op op_modU (pe_op (op_addU (K := K)) (pe_op (op_addU (K := K)) (pe_ix (ix_U (K := K)) (pv 6) pe_int (fun _ _ => rfl)) pe_int) (pe_op op_modU (pv 5) (pe_op op_subU (pv 0) pe_int))) (pv 0)))
    (pss_one (ps_ret (pe_op (op_addU (K := K)) (pe_op (op_addU (K := K)) (pe_slice (sl_U (K := K)) (pv 1) po_none (po_some (pv 4))) (pe_lst (pa_cons (pe_op (op_addU (K := K)) (pe_op (op_addU (K := K)) (pe_slice (sl_U (K := K)) (pv 6) po_none (po_some pe_int)) (pe_tup (pa_cons (pv 8) pa_nil))) (pe_slice (sl_U (K := K)) (pv 6) (po_some pe_int) po_none)) pa_nil))) (pe_slice (sl_U (K := K)) (pv 1) (po_some (pe_op (op_addU (K := K)) (pv 4) pe_int)) po_none)))))))))))))), ?_⟩
    dsimp only [L2.start, List.map_cons, List.map_nil, List.map, List.length_cons, List.length_nil, Nat.reduceAdd, Nat.reduceSub, List.replicate, List.cons_append, List.nil_append]
    have lx : xs.length = rs.length := hx.1
    have z0 : 0 < (xs.length : Int) := by omega
    have z1 : (xs.length : Int).natAbs.log2 < 9000 := log2_le (by omega) (by omega)
    have hM1 : 0 < (M : Int) - 1 := by omega
    have hM0 : 0 < (M : Int) := by omega
    wtm_at "gs"
    rename_i way m1 _ hw5 at0 m2 hat0 hat1
    have sbS : SameBut p H (upd (upd (upd H p (.lst [.int m1])) p (.lst [.int m2])) p (.lst [.int m'])) := by wtm_at "but"
    have pS : upd (upd (upd H p (.lst [.int m1])) p (.lst [.int m2])) p (.lst [.int m']) p = some (.lst [.int m']) := upd_same
    generalize upd (upd (upd H p (.lst [.int m1])) p (.lst [.int m2])) p (.lst [.int m']) = HS at *
    have hLS := sbS _ _ hn hL
    have hxS : All2 (RwAt HS) xs rs := hx.mono fun _ _ h => RwAt.stays.but hp sbS h
    obtain ⟨j, rfl⟩ := Int.eq_ofNat_of_zero_le hat0
    obtain ⟨oo, rfl⟩ := Int.eq_ofNat_of_zero_le hr0
    have hj : j < rs.length := by omega
    obtain ⟨ρ, hρ⟩ : ∃ ρ, rs[j]? = some ρ := ⟨_, List.getElem?_eq_getElem hj⟩
    obtain ⟨x, hx1, px, rfl, hpx⟩ := hxS.swap.get hρ
    have a1 := atI_of hx1
    have a2 := mem_at ρ
    obtain ⟨zz, hz0, hzb⟩ := sent_at ρ
    have gρ := hok ρ (List.mem_of_getElem? hρ)
    have mr := Rw.ok_mem gρ.1
    have gS : GoodL HS M xs := ⟨rs, hxS, hok⟩
    have cA : (cutV xs none (some (j : Int))).length ≤ 100 := by rw [cut_take, List.length_take]; omega
    have cB : (cutV xs (some ((j : Int) + 1)) none).length ≤ 100 := by rw [cut_drop1, List.length_drop]; omega
    have cC : (cutV xs none (some (oo : Int))).length ≤ 100 := by rw [cut_take, List.length_take]; omega
    have cD : (cutV xs (some (oo : Int)) none).length ≤ 100 := by rw [cut_drop, List.length_drop]; omega
    have cR : (cutV xs none (some (j : Int)) ++ cutV xs (some ((j : Int) + 1)) none).length ≤ 200 := by rw [List.length_append]; omega
    have cE := cutV_length (cutV xs none (some (j : Int)) ++ cutV xs (some ((j : Int) + 1)) none) none (some (oo : Int))
    have cF := cutV_length (cutV xs none (some (j : Int)) ++ cutV xs (some ((j : Int) + 1)) none) (some (oo : Int)) none
    have gone : GoodL HS M [.ref px] := GoodL.one hpx gρ.1 gρ.2
    have hqq := hpx
    have ok2 : (ρ.put ((ρ.mem + 1 + (oo : Int) % ((M : Int) - 1)) % M)).okB M = true := Rw.put_ok gρ.1 (Int.emod_nonneg _ (by omega)) (Int.emod_lt_of_pos _ (by omega))
    clear hL hp hx
    wtm_at "gs"
    · have sHN : Same HS HN := by wtm_at "same"
      have g := gS.same sHN
      have o := gone.same sHN
      simp only [cut_take, cut_drop, cut_drop1] at hg
      exact k HN m' q _ (fun b u n e => sHN _ _ (sbS b u n e)) (sHN _ _ pS) hg ((g.take j).app (g.drop (j + 1))) (by simp only [List.length_append, List.length_take, List.length_drop, List.length_cons, List.length_nil]; omega)
    · have sHN : Same HS HN := by wtm_at "same"
      have g := gS.same sHN
      have o := gone.same sHN
      simp only [cut_take, cut_drop, cut_drop1] at hg
      exact k HN m' q _ (fun b u n e => sHN _ _ (sbS b u n e)) (sHN _ _ pS) hg (((g.take oo).app o).app (g.drop oo)) (by simp only [List.length_append, List.length_take, List.length_drop, List.length_cons, List.length_nil]; omega)
    · have sHN : Same HS HN := by wtm_at "same"
      have g := gS.same sHN
      have o := gone.same sHN
      simp only [cut_take, cut_drop, cut_drop1] at hg
      exact k HN m' q _ (fun b u n e => sHN _ _ (sbS b u n e)) (sHN _ _ pS) hg (((((g.take j).app (g.drop (j + 1))).take oo).app o).app (((g.take j).app (g.drop (j + 1))).drop oo)) (by simp only [List.length_append, List.length_take, List.length_drop, List.length_cons, List.length_nil]; omega)
    · have sHN : Same HS HN := by wtm_at "same"
      have g := gS.same sHN
      have hg1 := hg
      have sq1 := sHN _ _ hqq
      have pS1 := sHN _ _ pS
      have L1 := sHN _ _ hLS
      clear hg hq sa
      refine i_slTn (.of sq1) (slT1 ρ) (fun q hq => ?_)
      wtm_at "absn"
      rw [cutA] at hg
      wtm_at "gs"
      refine i_addT (by wtm_at "sq") (by wtm_at "sq") (by cases ρ <;> simp [Rw.vs]) (line_le (by cases ρ <;> simp [Rw.vs])) (fun e => by cases e) (fun _ q hq => ?_)
      wtm_at "absn"
      wtm_at "gs"
      refine i_slTn (by wtm_at "sq") (slT2 ρ) (fun q hq => ?_)
      wtm_at "absn"
      rw [cutB] at hg
      wtm_at "gs"
      refine i_addT (by wtm_at "sq") (by wtm_at "sq") (by simp) (line_le (by cases ρ <;> simp [Rw.vs])) (fun e => absurd e (by cases ρ <;> simp [Rw.vs])) (fun _ q hq => ?_)
      wtm_at "absn"
      rw [Rw.put_vs] at hg
      have hk : ∀ {X : Hp}, Same HN X → X q = _ := fun s => s _ _ hg
      wtm_at "gs"
      have hk3 := @hk HN (by wtm_at "same")
      have sN : Same HS HN := by wtm_at "same"
      have g := gS.same sN
      simp only [cut_take, cut_drop, cut_drop1] at hg
      exact k HN m' q _ (fun b u n e => sN _ _ (sbS b u n e)) (sN _ _ pS) hg (((g.take j).app (GoodL.one hk3 ok2 (Rw.put_sml gρ.2))).app (g.drop (j + 1))) (by simp only [List.length_append, List.length_take, List.length_drop, List.length_cons, List.length_nil]; omega)
    · have sHN : Same HS HN := by wtm_at "same"
      have g := gS.same sHN
      have hg1 := hg
      have sq1 := sHN _ _ hqq
      have pS1 := sHN _ _ pS
      have L1 := sHN _ _ hLS
      have ns : ρ.sentB = false := by
        rw [← hzb]
        exact decide_eq_false (by assumption)
      have nqp : q ≠ p := fun e => by
        have hq0 : HS q = none := none_same (by wtm_at "same") hq
        rw [e, pS] at hq0
        cases hq0
      clear hg hq sa
      refine spPart_u1 hM sq1 pS1 gρ.1 ns (fun HH m3 q' r' sb hp' hq' hok' hsm' => ?_) rfl
      have hg2 := sb _ _ nqp hg1
      have L2 := sb _ _ hn L1
      have g2 := g.but pS1 sb
      have sb2 : SameBut p H HH ∧ True := ⟨fun b u n e => sb _ _ n (sHN _ _ (sbS b u n e)), trivial⟩
      clear sb g gS gone sHN sbS hqq sq1 pS1 L1 hg1 hxS hpx hLS pS
      generalize HH = HB at *
      wtm_at "gs"
      have sN : Same HB HN := by wtm_at "same"
      have g := g2.same sN
      have hp9 := sN _ _ hp'
      simp only [cut_take, cut_drop, cut_drop1] at hg
      exact k HN m3 q _ (fun b u n e => sN _ _ (sb2.1 b u n e)) hp9 hg (((g.take j).app (GoodL.one (sN _ _ hq') hok' hsm')).app (g.drop (j + 1))) (by simp only [List.length_append, List.length_take, List.length_drop, List.length_cons, List.length_nil]; omega)
    · have sHN : Same HS HN := by wtm_at "same"
      have g := gS.same sHN
      have hg1 := hg
      have sq1 := sHN _ _ hqq
      have pS1 := sHN _ _ pS
      have L1 := sHN _ _ hLS
      clear hg hq sa
      refine i_slTn (.of sq1) (slT1 ρ) (fun q hq => ?_)
      wtm_at "absn"
      rw [cutA] at hg
      wtm_at "gs"
      refine i_addT (by wtm_at "sq") (by wtm_at "sq") (by cases ρ <;> simp [Rw.vs]) (line_le (by cases ρ <;> simp [Rw.vs])) (fun e => by cases e) (fun _ q hq => ?_)
      wtm_at "absn"
      wtm_at "gs"
      refine i_slTn (by wtm_at "sq") (slT2 ρ) (fun q hq => ?_)
      wtm_at "absn"
      rw [cutB] at hg
      wtm_at "gs"
      refine i_addT (by wtm_at "sq") (by wtm_at "sq") (by simp) (line_le (by cases ρ <;> simp [Rw.vs])) (fun e => absurd e (by cases ρ <;> simp [Rw.vs])) (fun _ q hq => ?_)
      wtm_at "absn"
      rw [Rw.put_vs] at hg
      have hk : ∀ {X : Hp}, Same HN X → X q = _ := fun s => s _ _ hg
      wtm_at "gs"
      have hk3 := @hk HN (by wtm_at "same")
      have sN : Same HS HN := by wtm_at "same"
      have g := gS.same sN
      simp only [cut_take, cut_drop, cut_drop1] at hg
      exact k HN m' q _ (fun b u n e => sN _ _ (sbS b u n e)) (sN _ _ pS) hg (((g.take j).app (GoodL.one hk3 ok2 (Rw.put_sml gρ.2))).app (g.drop (j + 1))) (by simp only [List.length_append, List.length_take, List.length_drop, List.length_cons, List.length_nil]; omega)
end
def spLaw (K : PySem.W.Frag) : Sp := fun vs H Q _ => ∃ (p : Addr) (ns : List Int), vs = [.ref p] ∧ SqL K H p (ns.map V.int) ∧ ns.length ≤ 63 ∧ ∀ H', Q (.bl true) H'
section
variable {P : Program} {w : World} {K : PySem.W.Frag} {mg : Str → Option Value} {base : Heap} {a : Ad}
theorem ok_law (T : Txt w K mg a) : FnOk P w K mg base CX0 10 a.law a.d_law ["script"] (spLaw K) := by
  refine fund_ok0 T.F_law sc_law (fun vs H Q E h => ?_) (fun cdv A outer s H vs Q E hr h => ?_)
  · obtain ⟨sp, ns, rfl, hS, hl, k⟩ := h
    rfl
  · obtain ⟨sp, ns, rfl, hS, hl, k⟩ := h
    refine ⟨_, (pss_cons (ps_asg (pe_call (ok__law_rows (K := K) T) (hr.mono (by decide)) (by rfl) T.m__law_rows T.F__law_rows.kp T.B__law_rows .nil pass0 (pa_cons (pv 0) (pa_cons pe_int (pa_cons pe_int pa_nil)))) (pg_tupK (K := K) (n := 2) rfl (pgs_cons (pg_name (i := 1) sc_law.nd rfl (by first | exact Or.inl rfl | exact Or.inr rfl)) (pgs_cons (pg_name (i := 2) sc_law.nd rfl (by first | exact Or.inl rfl | exact Or.inr rfl)) pgs_nil))))
    (pss_cons (ps_if (pt_cmpR op_isnU (pe_callSD (ok_first_wrong (K := K) T) (hr.mono (by decide)) (by rfl) T.m_first_wrong T.F_first_wrong.kp T.B_first_wrong .nil (passAt takes0) (pa_cons (pv 1) (pa_cons (pv 2) pa_nil))) pe_non (nomark _)) (pss_one (ps_ret pe_bl)) pss_nil)
    (pss_cons (ps_set (i := 3) sc_law.nd rfl (by first | exact Or.inl rfl | exact Or.inr rfl) (pe_call (ok__law_pool (K := K) T) (hr.mono (by decide)) (by rfl) T.m__law_pool T.F__law_pool.kp T.B__law_pool .nil pass0 (pa_cons (pe_call (ok__law_cell_at (K := K) T) (hr.mono (by decide)) (by rfl) T.m__law_cell_at T.F__law_cell_at.kp T.B__law_cell_at .nil pass0 (pa_cons (pv 0) (pa_cons pe_int pa_nil))) pa_nil)))
    (pss_cons (ps_for PassesOwn.never rfl (pi_range1 (by rfl) T.b_range (pa_cons pe_int pa_nil)) (pg_name (i := 4) sc_law.nd rfl (by first | exact Or.inl rfl | exact Or.inr rfl))
    (pss_one (ps_if (pt_cmpR (op_neU hr.units (K := K)) (pv 2) (pe_lst pa_nil) (nomark _)) (pss_cons (ps_set (i := 5) sc_law.nd rfl (by first | exact Or.inl rfl | exact Or.inr rfl) (pe_call (ok__law_changed (K := K) T) (hr.mono (by decide)) (by rfl) T.m__law_changed T.F__law_changed.kp T.B__law_changed .nil pass0 (pa_cons (pv 1) (pa_cons (pv 2) (pa_cons (pv 3) pa_nil)))))
    (pss_one (ps_if (pt_cmpR op_leU (pe_callB (call_lenU (K := K)) (by rfl) T.b_len (by decide +kernel) (pa_cons (pe_lc (own := [("row", 6)]) rfl sc_law.nd (pi_listK (K := K) (pv 5)) (blkOk_by (own := [("row", 6)]) (N := ["script", "members", "rows", "pool", "k", "changed_rows", "row"]) (sc := defScope s_law) (by decide +kernel)) (fun _ _ _ _ _ => (pg_name (i := 6) sc_law.nd rfl (by first | exact Or.inl rfl | exact Or.inr rfl))) (fun _ _ _ _ _ => pts_one (pt_cmpR (op_eqU hr.units (K := K)) (pe_ix (ix_U (K := K)) (pv 6) pe_int (fun _ _ => rfl)) pe_str (nomark _))) (fun _ _ _ _ _ => (pv 6))) pa_nil)) pe_int (nomark _)) (pss_one (ps_if (pt_cmpR (op_neU hr.units (K := K)) (pe_callSD (ok_first_wrong (K := K) T) (hr.mono (by decide)) (by rfl) T.m_first_wrong T.F_first_wrong.kp T.B_first_wrong .nil (passAt takes0) (pa_cons (pv 1) (pa_cons (pv 5) pa_nil))) (pe_call (ok__law_due (K := K) T) (hr.mono (by decide)) (by rfl) T.m__law_due T.F__law_due.kp T.B__law_due .nil pass0 (pa_cons (pv 1) (pa_cons (pv 5) pa_nil))) (nomark _)) (pss_one (ps_ret pe_bl)) pss_nil)) pss_nil))) pss_nil)))
    (pss_one (ps_ret (pe_cmpR op_isU (pe_callSD (ok_first_wrong (K := K) T) (hr.mono (by decide)) (by rfl) T.m_first_wrong T.F_first_wrong.kp T.B_first_wrong .nil (passAt takes0) (pa_cons (pv 1) (pa_cons (pe_callTy (call_tupOf (K := K)) (by rfl) T.b_tuple (by decide +kernel) (pa_cons (pv 2) pa_nil)) pa_nil))) pe_non (nomark _)))))))), ?_⟩
    dsimp only [L2.start, List.map_cons, List.map_nil, List.map, List.length_cons, List.length_nil, Nat.reduceAdd, Nat.reduceSub, List.replicate, List.cons_append, List.nil_append]
    wtm_at "gs"
    refine spRows_u1 (st := 2) hS (by decide) (by decide) (fun HH M L ys rs t sm hM ht hno ho hy hg0 hz hl62 h14 hrun => ?_) rfl
    have hr1 := hrun rfl
    have l200 : rs.length ≤ 200 := by omega
    have ly : ys.length = rs.length := hy.1
    wtm_at "gs"
    have hs1 : HsAt K HH (.ref L) rs := ⟨L, ys, rfl, .inl (.of ho), hy, hz, by omega⟩
    refine spFW_u2 hM hs1 hg0 l200 (fun HR u smR hu => ?_) rfl
    rw [hr1] at hu
    obtain rfl : u = .non := hu
    have hLR := smR _ _ ho
    have hyR : All2 (RwAt HR) ys rs := hy.mono fun _ _ => RwAt.same smR
    have hSR := SqL.sm (sm.trans smR) hS
    have hgood : ∀ r ∈ rs, r.okB M = true ∧ r.sml := fun r hr => ⟨List.all_eq_true.mp ((Bool.and_eq_true _ _).mp hg0).1 r hr, hz r hr⟩
    clear hs1 sm smR ho hy hS ht
    wtm_at "gs"
    have nLp : L ≠ q := by wtm_at "ne"
    generalize q = pq at *
    refine for_range (lo := 0) (n := 8) (fun j σ H' => ∃ v4 v5 m, σ = [some (.ref sp), some (.int M), some (.ref L), some (.ref pq), v4, v5, none] ∧ H' L = some (.lst ys) ∧ All2 (RwAt H') ys rs ∧ H' pq = some (.lst [.int m])) ?c0 ?c1 ?c2
    case c0 => exact ⟨_, _, _, rfl, by wtm_at "get", hyR.mono fun _ _ => RwAt.same (by wtm_at "same"), by wtm_at "get"⟩
    case c1 =>
      rintro j σ H' hj ⟨v4, v5, m', rfl, e1, e2, e3⟩
      clear hyR hLR hSR
      cases ys with
      | nil =>
        wtm_at "gs"
        exact ⟨_, _, _, rfl, by wtm_at "get", e2.mono fun _ _ => RwAt.same (by wtm_at "same"), by wtm_at "get"⟩
      | cons y0 yt =>
        wtm_at "gs"
        generalize hX : y0 :: yt = ys at *
        have lp : 0 < ys.length := by rw [← hX]; exact Nat.succ_pos _
        have l100 : ys.length ≤ 100 := by omega
        have f1 := sa _ _ e1
        have f2 : All2 (RwAt HN) ys rs := e2.mono fun _ _ => RwAt.same sa
        have f3 := sa _ _ e3
        clear e1 e2 e3 sa hg hq
        generalize HN = HA at *
        refine spChg15_u1 hM f1 f3 nLp f2 hgood lp l100 (fun HC m2 qc zs sb hp' ho hgl hyl => ?_) rfl
        obtain ⟨qs, hzq, hqg⟩ := hgl
        have f4 := sb _ _ nLp f1
        have f5 : All2 (RwAt HC) ys rs := f2.mono fun _ _ h => RwAt.stays.but f3 sb h
        have lz := hzq.1
        have nqc : True := trivial
        clear f1 f2 f3 sb
        wtm_at "gs"
        intro D hD
        refine' lc_filL RwAt Rw.sentB RwAt.stays ?m1a hzq hD ?m2a (fun x r hr H2 Q2 R2 s2 hr2 ha2 k2 k3 => ?m3a) (fun H2 ws s2 g1 g2 => ?m4a)
        case m1a => wtm_at "sq"
        case m2a => omega
        case m3a =>
          obtain ⟨p1, rfl, hp1⟩ := hr2
          obtain ⟨z, hz0, hzb⟩ := sent_at r
          wtm_at "gs"
          · rename_i e
            exact k2 (hzb ▸ decide_eq_true e) _ (Same.refl _)
          · rename_i e
            exact k3 (hzb ▸ decide_eq_false e) _ (Same.refl _)
        case m4a =>
          have lw : ws.length = (qs.filter Rw.sentB).length := g2.1
          have j1 := s2 _ _ f4
          have j2 : All2 (RwAt H2) ys rs := f5.mono fun _ _ => RwAt.same s2
          have j3 := s2 _ _ hp'
          have j4 := s2 _ _ ho
          have j5 : All2 (RwAt H2) zs qs := hzq.mono fun _ _ => RwAt.same s2
          have hqk : ∀ r ∈ qs, r.okB M = true := fun r h => (hqg r h).1
          have lq : qs.length ≤ 200 := by omega
          clear f4 f5 hp' ho hzq
          wtm_at "gs"
          · have hb : histB M qs = true := by
              unfold histB
              rw [Bool.and_eq_true, List.all_eq_true, decide_eq_true_eq]
              exact ⟨hqk, by omega⟩
            have hsT : HsAt K H2 (.ref qc) qs := ⟨qc, zs, rfl, .inl (.of j4), j5, fun r h => (hqg r h).2, by omega⟩
            refine spFW_u2 hM hsT hb lq (fun HF u2 sm2 hu2 => ?_) rfl
            have j5F : All2 (RwAt HF) zs qs := j5.mono fun _ _ => RwAt.same sm2
            have j2F : All2 (RwAt HF) ys rs := j2.mono fun _ _ => RwAt.same sm2
            have j1F := sm2 _ _ j1
            have j3F := sm2 _ _ j3
            have j4F := sm2 _ _ j4
            clear j1 j2 j3 j4 j5 hsT sm2 s2 g1 g2 hD
            cases hf : firstW (Ms.new M) qs 0 with
            | none =>
              rw [hf] at hu2
              obtain rfl : u2 = .non := hu2
              wtm_at "gs"
              rw [hf] at hu
              obtain rfl : u = .non := hu
              wtm_at "gs"
              exact ⟨_, _, _, rfl, sm _ _ j1F, j2F.mono fun _ _ => RwAt.same sm, sm _ _ j3F⟩
            | some iw =>
              obtain ⟨i, iw⟩ := iw
              rw [hf] at hu2
              obtain ⟨t, rfl, nt, ht⟩ := hu2
              wtm_at "gs"
              rw [hf] at hu
              obtain ⟨t2, rfl, nt2, ht2⟩ := hu
              wtm_at "gs"
              exact ⟨_, _, _, rfl, sm _ _ j1F, j2F.mono fun _ _ => RwAt.same sm, sm _ _ j3F⟩
          · exact ⟨_, _, _, rfl, j1, j2, j3⟩
    case c2 =>
      rintro σ H' ⟨v4, v5, m', rfl, e1, e2, e3⟩
      clear hyR hLR hSR
      wtm_at "gs"
      have hsT : HsAt K HN (.ref q) rs := ⟨q, ys, rfl, .inr (.of hg), e2.mono fun _ _ => RwAt.same sa, hz, by omega⟩
      refine spFW_u2 hM hsT hg0 l200 (fun HF u2 sm2 hu2 => ?_) rfl
      rw [hr1] at hu2
      obtain rfl : u2 = .non := hu2
      wtm_at "gs"
      exact k _
end
set_option maxRecDepth 100000
theorem all_mk {l : PySem.W.OpenLaw} {w : World} {K : PySem.W.Frag} {h : Heap} {mg : Str → Option Value} {fa : Addr} (X : K.In h) (G : h.Ns mainGlobals mg) (hfa : mg "law" = some (.ref fa))
    {C0 C1 C2 C3 C4 C5 C6 C7 C8 C9 f1 f2 f3 f4 f5 f6 f7 f8 f9 f10 f11 f13 f16 f17 f19 f28 f38 f39 f40 f41 f42 f43 f44 f45 f46 f47 f48 f49 f50 f51 f52 f53 f54 f55 f56 f57 f58 f59 f60 f61 f62 f63 f64 f65 f66 f67 f68 f69 f70 : Addr}
    {od1 an1 od2 an2 od3 an3 od4 an4 od5 an5 od6 an6 od7 an7 od8 an8 od9 an9 od10 an10 od11 an11 od13 an13 od16 an16 od17 an17 od19 an19 od28 an28 od38 an38 od39 an39 od40 an40 od41 an41 od42 an42 od43 an43 od44 an44 od45 an45 od46 an46 od47 an47 od48 an48 od49 an49 od50 an50 od51 an51 od52 an52 od53 an53 od54 an54 od55 an55 od56 an56 od57 an57 od58 an58 od59 an59 od60 an60 od61 an61 od62 an62 od63 an63 od64 an64 od65 an65 od66 an66 od67 an67 od68 an68 od69 an69 od70 an70 : Option Addr} {sl1 sl2 sl3 sl4 sl5 sl6 sl7 sl8 sl9 sl10 sl11 sl13 sl16 sl17 sl19 sl28 sl38 sl39 sl40 sl41 sl42 sl43 sl44 sl45 sl46 sl47 sl48 sl49 sl50 sl51 sl52 sl53 sl54 sl55 sl56 sl57 sl58 sl59 sl60 sl61 sl62 sl63 sl64 sl65 sl66 sl67 sl68 sl69 sl70 : Array (Option Value)} {oc1 dV1 kV1 dc1 pm1 cd1 ct1 oc2 dV2 kV2 dc2 pm2 cd2 ct2 oc3 dV3 kV3 dc3 pm3 cd3 ct3 oc4 dV4 kV4 dc4 pm4 cd4 ct4 oc5 dV5 kV5 dc5 pm5 cd5 ct5 oc6 dV6 kV6 dc6 pm6 cd6 ct6 oc7 dV7 kV7 dc7 pm7 cd7 ct7 oc8 dV8 kV8 dc8 pm8 cd8 ct8 oc9 dV9 kV9 dc9 pm9 cd9 ct9 oc10 dV10 kV10 dc10 pm10 cd10 ct10 oc11 dV11 kV11 dc11 pm11 cd11 ct11 oc13 dV13 kV13 dc13 pm13 cd13 ct13 oc16 dV16 kV16 dc16 pm16 cd16 ct16 oc17 dV17 kV17 dc17 pm17 cd17 ct17 oc19 dV19 kV19 dc19 pm19 cd19 ct19 oc28 dV28 kV28 dc28 pm28 cd28 ct28 oc38 dV38 kV38 dc38 pm38 cd38 ct38 oc39 dV39 kV39 dc39 pm39 cd39 ct39 oc40 dV40 kV40 dc40 pm40 cd40 ct40 oc41 dV41 kV41 dc41 pm41 cd41 ct41 oc42 dV42 kV42 dc42 pm42 cd42 ct42 oc43 dV43 kV43 dc43 pm43 cd43 ct43 oc44 dV44 kV44 dc44 pm44 cd44 ct44 oc45 dV45 kV45 dc45 pm45 cd45 ct45 oc46 dV46 kV46 dc46 pm46 cd46 ct46 oc47 dV47 kV47 dc47 pm47 cd47 ct47 oc48 dV48 kV48 dc48 pm48 cd48 ct48 oc49 dV49 kV49 dc49 pm49 cd49 ct49 oc50 dV50 kV50 dc50 pm50 cd50 ct50 oc51 dV51 kV51 dc51 pm51 cd51 ct51 oc52 dV52 kV52 dc52 pm52 cd52 ct52 oc53 dV53 kV53 dc53 pm53 cd53 ct53 oc54 dV54 kV54 dc54 pm54 cd54 ct54 oc55 dV55 kV55 dc55 pm55 cd55 ct55 oc56 dV56 kV56 dc56 pm56 cd56 ct56 oc57 dV57 kV57 dc57 pm57 cd57 ct57 oc58 dV58 kV58 dc58 pm58 cd58 ct58 oc59 dV59 kV59 dc59 pm59 cd59 ct59 oc60 dV60 kV60 dc60 pm60 cd60 ct60 oc61 dV61 kV61 dc61 pm61 cd61 ct61 oc62 dV62 kV62 dc62 pm62 cd62 ct62 oc63 dV63 kV63 dc63 pm63 cd63 ct63 oc64 dV64 kV64 dc64 pm64 cd64 ct64 oc65 dV65 kV65 dc65 pm65 cd65 ct65 oc66 dV66 kV66 dc66 pm66 cd66 ct66 oc67 dV67 kV67 dc67 pm67 cd67 ct67 oc68 dV68 kV68 dc68 pm68 cd68 ct68 oc69 dV69 kV69 dc69 pm69 cd69 ct69 oc70 dV70 kV70 dc70 pm70 cd70 ct70 : Value}
    {T7 : Addr} {cT7 : Value} {dT7 : Option Addr} {its7 : List Value} {n7 : Nat} {sT7 : Array (Option Value)}
    {nmx1 nmx2 nmx3 nmx4 nmx5 nmx6 qx1 qx2 qx3 qx4 qx5 qx6 : Str} {Nx1 Nx2 Nx3 Nx4 Nx5 Nx6 : Addr} {bsx1 bsx2 bsx3 bsx4 bsx5 bsx6 bmx1 bmx2 bmx3 bmx4 bmx5 bmx6 subx1 subx2 subx3 subx4 subx5 subx6 : List Value} {snx1 snx2 snx3 snx4 snx5 snx6 : List Str} {abx1 abx2 abx3 abx4 abx5 abx6 : Bool} {colx1 colx2 colx3 colx4 colx5 colx6 : Option Bool} {ddx1 ddx2 ddx3 ddx4 ddx5 ddx6 : Option Addr} {k0x1 k0x2 k0x3 k0x4 k0x5 k0x6 k1x1 k1x2 k1x3 k1x4 k1x5 k1x6 k2x1 k2x2 k2x3 k2x4 k2x5 k2x6 k3x1 k3x2 k3x3 k3x4 k3x5 k3x6 k5x1 k5x2 k5x3 k5x4 k5x5 k5x6 : Option Value}
    {D0 : Addr} {jes0 : Array DictEntry} {jn0 : Nat}
    {gv0 gv1 gv2 gv3 gv4 gv5 gv6 gv7 : Value}
    (aC0 : PySem.W.nsIn K mainGlobals "HallError" = some (some (.ref C0)))
    (aC1 : PySem.W.nsIn K mainGlobals "NoNumber" = some (some (.ref C1)))
    (aC2 : PySem.W.nsIn K mainGlobals "NoWord" = some (some (.ref C2)))
    (aC3 : PySem.W.nsIn K mainGlobals "NoMember" = some (some (.ref C3)))
    (aC4 : PySem.W.nsIn K mainGlobals "NoCounts" = some (some (.ref C4)))
    (aC5 : PySem.W.nsIn K mainGlobals "NoCauses" = some (some (.ref C5)))
    (aC6 : PySem.W.nsIn K mainGlobals "NoHistory" = some (some (.ref C6)))
    (aC7 : PySem.W.nsIn K mainGlobals "Counts" = some (some (.ref C7)))
    (aC8 : PySem.W.nsIn K mainGlobals "Letter" = some (some (.ref C8)))
    (aC9 : PySem.W.nsIn K mainGlobals "HistoryWalk" = some (some (.ref C9)))
    (a1 : PySem.W.findIn K (.ref C1) "__init__" = some (some (.ref f1)))
    (i1 : PySem.W.isFn K (.ref f1) = true)
    (l1 : K.lookup f1 = some ⟨oc1, od1, .func (PySem.W.fnOf "__init__" "NoNumber.__init__" (defArgs s_NoNumber_init) (defBody s_NoNumber_init) (defScope s_NoNumber_init) dV1 kV1 dc1 pm1 an1 cd1 ct1), sl1⟩)
    (c1 : PySem.W.codeIn K cd1 "NoNumber.__init__" = true)
    (k1 : PySem.W.keepIn K (.ref f1) = true)
    (q1 : dV1 = .none)
    (a2 : PySem.W.findIn K (.ref C2) "__init__" = some (some (.ref f2)))
    (i2 : PySem.W.isFn K (.ref f2) = true)
    (l2 : K.lookup f2 = some ⟨oc2, od2, .func (PySem.W.fnOf "__init__" "NoWord.__init__" (defArgs s_NoWord_init) (defBody s_NoWord_init) (defScope s_NoWord_init) dV2 kV2 dc2 pm2 an2 cd2 ct2), sl2⟩)
    (c2 : PySem.W.codeIn K cd2 "NoWord.__init__" = true)
    (k2 : PySem.W.keepIn K (.ref f2) = true)
    (q2 : dV2 = .none)
    (a3 : PySem.W.findIn K (.ref C3) "__init__" = some (some (.ref f3)))
    (i3 : PySem.W.isFn K (.ref f3) = true)
    (l3 : K.lookup f3 = some ⟨oc3, od3, .func (PySem.W.fnOf "__init__" "NoMember.__init__" (defArgs s_NoMember_init) (defBody s_NoMember_init) (defScope s_NoMember_init) dV3 kV3 dc3 pm3 an3 cd3 ct3), sl3⟩)
    (c3 : PySem.W.codeIn K cd3 "NoMember.__init__" = true)
    (k3 : PySem.W.keepIn K (.ref f3) = true)
    (q3 : dV3 = .none)
    (a4 : PySem.W.findIn K (.ref C4) "__init__" = some (some (.ref f4)))
    (i4 : PySem.W.isFn K (.ref f4) = true)
    (l4 : K.lookup f4 = some ⟨oc4, od4, .func (PySem.W.fnOf "__init__" "NoCounts.__init__" (defArgs s_NoCounts_init) (defBody s_NoCounts_init) (defScope s_NoCounts_init) dV4 kV4 dc4 pm4 an4 cd4 ct4), sl4⟩)
    (c4 : PySem.W.codeIn K cd4 "NoCounts.__init__" = true)
    (k4 : PySem.W.keepIn K (.ref f4) = true)
    (q4 : dV4 = .none)
    (a5 : PySem.W.findIn K (.ref C5) "__init__" = some (some (.ref f5)))
    (i5 : PySem.W.isFn K (.ref f5) = true)
    (l5 : K.lookup f5 = some ⟨oc5, od5, .func (PySem.W.fnOf "__init__" "NoCauses.__init__" (defArgs s_NoCauses_init) (defBody s_NoCauses_init) (defScope s_NoCauses_init) dV5 kV5 dc5 pm5 an5 cd5 ct5), sl5⟩)
    (c5 : PySem.W.codeIn K cd5 "NoCauses.__init__" = true)
    (k5 : PySem.W.keepIn K (.ref f5) = true)
    (q5 : dV5 = .none)
    (a6 : PySem.W.findIn K (.ref C6) "__init__" = some (some (.ref f6)))
    (i6 : PySem.W.isFn K (.ref f6) = true)
    (l6 : K.lookup f6 = some ⟨oc6, od6, .func (PySem.W.fnOf "__init__" "NoHistory.__init__" (defArgs s_NoHistory_init) (defBody s_NoHistory_init) (defScope s_NoHistory_init) dV6 kV6 dc6 pm6 an6 cd6 ct6), sl6⟩)
    (c6 : PySem.W.codeIn K cd6 "NoHistory.__init__" = true)
    (k6 : PySem.W.keepIn K (.ref f6) = true)
    (q6 : dV6 = .none)
    (a7 : PySem.W.nsIn K mainGlobals "is_whole" = some (some (.ref f7)))
    (l7 : K.lookup f7 = some ⟨oc7, od7, .func (PySem.W.fnOf "is_whole" "is_whole" (defArgs s_is_whole) (defBody s_is_whole) (defScope s_is_whole) dV7 kV7 dc7 pm7 an7 cd7 ct7), sl7⟩)
    (c7 : PySem.W.codeIn K cd7 "is_whole" = true)
    (k7 : PySem.W.keepIn K (.ref f7) = true)
    (q7 : dV7 = .ref T7)
    (r7 : K.lookup T7 = some ⟨cT7, dT7, .seq its7.toArray n7, sT7⟩)
    (s7 : Vals [V.non] its7)
    (a8 : PySem.W.nsIn K mainGlobals "is_word" = some (some (.ref f8)))
    (l8 : K.lookup f8 = some ⟨oc8, od8, .func (PySem.W.fnOf "is_word" "is_word" (defArgs s_is_word) (defBody s_is_word) (defScope s_is_word) dV8 kV8 dc8 pm8 an8 cd8 ct8), sl8⟩)
    (c8 : PySem.W.codeIn K cd8 "is_word" = true)
    (k8 : PySem.W.keepIn K (.ref f8) = true)
    (q8 : dV8 = .none)
    (a9 : PySem.W.nsIn K mainGlobals "are_members" = some (some (.ref f9)))
    (l9 : K.lookup f9 = some ⟨oc9, od9, .func (PySem.W.fnOf "are_members" "are_members" (defArgs s_are_members) (defBody s_are_members) (defScope s_are_members) dV9 kV9 dc9 pm9 an9 cd9 ct9), sl9⟩)
    (c9 : PySem.W.codeIn K cd9 "are_members" = true)
    (k9 : PySem.W.keepIn K (.ref f9) = true)
    (q9 : dV9 = .none)
    (a10 : PySem.W.nsIn K mainGlobals "are_numbers" = some (some (.ref f10)))
    (l10 : K.lookup f10 = some ⟨oc10, od10, .func (PySem.W.fnOf "are_numbers" "are_numbers" (defArgs s_are_numbers) (defBody s_are_numbers) (defScope s_are_numbers) dV10 kV10 dc10 pm10 an10 cd10 ct10), sl10⟩)
    (c10 : PySem.W.codeIn K cd10 "are_numbers" = true)
    (k10 : PySem.W.keepIn K (.ref f10) = true)
    (q10 : dV10 = .none)
    (a11 : PySem.W.findIn K (.ref C7) "__init__" = some (some (.ref f11)))
    (i11 : PySem.W.isFn K (.ref f11) = true)
    (l11 : K.lookup f11 = some ⟨oc11, od11, .func (PySem.W.fnOf "__init__" "Counts.__init__" (defArgs s_Counts_init) (defBody s_Counts_init) (defScope s_Counts_init) dV11 kV11 dc11 pm11 an11 cd11 ct11), sl11⟩)
    (c11 : PySem.W.codeIn K cd11 "Counts.__init__" = true)
    (k11 : PySem.W.keepIn K (.ref f11) = true)
    (q11 : dV11 = .none)
    (a13 : PySem.W.findIn K (.ref C7) "__len__" = some (some (.ref f13)))
    (i13 : PySem.W.isFn K (.ref f13) = true)
    (l13 : K.lookup f13 = some ⟨oc13, od13, .func (PySem.W.fnOf "__len__" "Counts.__len__" (defArgs s_Counts_len) (defBody s_Counts_len) (defScope s_Counts_len) dV13 kV13 dc13 pm13 an13 cd13 ct13), sl13⟩)
    (c13 : PySem.W.codeIn K cd13 "Counts.__len__" = true)
    (k13 : PySem.W.keepIn K (.ref f13) = true)
    (q13 : dV13 = .none)
    (a16 : PySem.W.findIn K (.ref C7) "told" = some (some (.ref f16)))
    (i16 : PySem.W.isFn K (.ref f16) = true)
    (l16 : K.lookup f16 = some ⟨oc16, od16, .func (PySem.W.fnOf "told" "Counts.told" (defArgs s_Counts_told) (defBody s_Counts_told) (defScope s_Counts_told) dV16 kV16 dc16 pm16 an16 cd16 ct16), sl16⟩)
    (c16 : PySem.W.codeIn K cd16 "Counts.told" = true)
    (k16 : PySem.W.keepIn K (.ref f16) = true)
    (q16 : dV16 = .none)
    (a17 : PySem.W.findIn K (.ref C7) "need_member" = some (some (.ref f17)))
    (i17 : PySem.W.isFn K (.ref f17) = true)
    (l17 : K.lookup f17 = some ⟨oc17, od17, .func (PySem.W.fnOf "need_member" "Counts.need_member" (defArgs s_Counts_need_member) (defBody s_Counts_need_member) (defScope s_Counts_need_member) dV17 kV17 dc17 pm17 an17 cd17 ct17), sl17⟩)
    (c17 : PySem.W.codeIn K cd17 "Counts.need_member" = true)
    (k17 : PySem.W.keepIn K (.ref f17) = true)
    (q17 : dV17 = .none)
    (a19 : PySem.W.findIn K (.ref C7) "of" = some (some (.ref f19)))
    (i19 : PySem.W.isFn K (.ref f19) = true)
    (l19 : K.lookup f19 = some ⟨oc19, od19, .func (PySem.W.fnOf "of" "Counts.of" (defArgs s_Counts_of) (defBody s_Counts_of) (defScope s_Counts_of) dV19 kV19 dc19 pm19 an19 cd19 ct19), sl19⟩)
    (c19 : PySem.W.codeIn K cd19 "Counts.of" = true)
    (k19 : PySem.W.keepIn K (.ref f19) = true)
    (q19 : dV19 = .none)
    (a28 : PySem.W.findIn K (.ref C8) "__init__" = some (some (.ref f28)))
    (i28 : PySem.W.isFn K (.ref f28) = true)
    (l28 : K.lookup f28 = some ⟨oc28, od28, .func (PySem.W.fnOf "__init__" "Letter.__init__" (defArgs s_Letter_init) (defBody s_Letter_init) (defScope s_Letter_init) dV28 kV28 dc28 pm28 an28 cd28 ct28), sl28⟩)
    (c28 : PySem.W.codeIn K cd28 "Letter.__init__" = true)
    (k28 : PySem.W.keepIn K (.ref f28) = true)
    (q28 : dV28 = .none)
    (a38 : PySem.W.nsIn K mainGlobals "fits_sent" = some (some (.ref f38)))
    (l38 : K.lookup f38 = some ⟨oc38, od38, .func (PySem.W.fnOf "fits_sent" "fits_sent" (defArgs s_fits_sent) (defBody s_fits_sent) (defScope s_fits_sent) dV38 kV38 dc38 pm38 an38 cd38 ct38), sl38⟩)
    (c38 : PySem.W.codeIn K cd38 "fits_sent" = true)
    (k38 : PySem.W.keepIn K (.ref f38) = true)
    (q38 : dV38 = .none)
    (a39 : PySem.W.nsIn K mainGlobals "fits_got" = some (some (.ref f39)))
    (l39 : K.lookup f39 = some ⟨oc39, od39, .func (PySem.W.fnOf "fits_got" "fits_got" (defArgs s_fits_got) (defBody s_fits_got) (defScope s_fits_got) dV39 kV39 dc39 pm39 an39 cd39 ct39), sl39⟩)
    (c39 : PySem.W.codeIn K cd39 "fits_got" = true)
    (k39 : PySem.W.keepIn K (.ref f39) = true)
    (q39 : dV39 = .none)
    (a40 : PySem.W.nsIn K mainGlobals "fits_told" = some (some (.ref f40)))
    (l40 : K.lookup f40 = some ⟨oc40, od40, .func (PySem.W.fnOf "fits_told" "fits_told" (defArgs s_fits_told) (defBody s_fits_told) (defScope s_fits_told) dV40 kV40 dc40 pm40 an40 cd40 ct40), sl40⟩)
    (c40 : PySem.W.codeIn K cd40 "fits_told" = true)
    (k40 : PySem.W.keepIn K (.ref f40) = true)
    (q40 : dV40 = .none)
    (a41 : PySem.W.nsIn K mainGlobals "is_row" = some (some (.ref f41)))
    (l41 : K.lookup f41 = some ⟨oc41, od41, .func (PySem.W.fnOf "is_row" "is_row" (defArgs s_is_row) (defBody s_is_row) (defScope s_is_row) dV41 kV41 dc41 pm41 an41 cd41 ct41), sl41⟩)
    (c41 : PySem.W.codeIn K cd41 "is_row" = true)
    (k41 : PySem.W.keepIn K (.ref f41) = true)
    (q41 : dV41 = .none)
    (a42 : PySem.W.nsIn K mainGlobals "is_history" = some (some (.ref f42)))
    (l42 : K.lookup f42 = some ⟨oc42, od42, .func (PySem.W.fnOf "is_history" "is_history" (defArgs s_is_history) (defBody s_is_history) (defScope s_is_history) dV42 kV42 dc42 pm42 an42 cd42 ct42), sl42⟩)
    (c42 : PySem.W.codeIn K cd42 "is_history" = true)
    (k42 : PySem.W.keepIn K (.ref f42) = true)
    (q42 : dV42 = .none)
    (a43 : PySem.W.nsIn K mainGlobals "need_history" = some (some (.ref f43)))
    (l43 : K.lookup f43 = some ⟨oc43, od43, .func (PySem.W.fnOf "need_history" "need_history" (defArgs s_need_history) (defBody s_need_history) (defScope s_need_history) dV43 kV43 dc43 pm43 an43 cd43 ct43), sl43⟩)
    (c43 : PySem.W.codeIn K cd43 "need_history" = true)
    (k43 : PySem.W.keepIn K (.ref f43) = true)
    (q43 : dV43 = .none)
    (a44 : PySem.W.findIn K (.ref C9) "__init__" = some (some (.ref f44)))
    (i44 : PySem.W.isFn K (.ref f44) = true)
    (l44 : K.lookup f44 = some ⟨oc44, od44, .func (PySem.W.fnOf "__init__" "HistoryWalk.__init__" (defArgs s_HistoryWalk_init) (defBody s_HistoryWalk_init) (defScope s_HistoryWalk_init) dV44 kV44 dc44 pm44 an44 cd44 ct44), sl44⟩)
    (c44 : PySem.W.codeIn K cd44 "HistoryWalk.__init__" = true)
    (k44 : PySem.W.keepIn K (.ref f44) = true)
    (q44 : dV44 = .none)
    (a45 : PySem.W.findIn K (.ref C9) "why_not_got" = some (some (.ref f45)))
    (i45 : PySem.W.isFn K (.ref f45) = true)
    (l45 : K.lookup f45 = some ⟨oc45, od45, .func (PySem.W.fnOf "why_not_got" "HistoryWalk.why_not_got" (defArgs s_HistoryWalk_why_not_got) (defBody s_HistoryWalk_why_not_got) (defScope s_HistoryWalk_why_not_got) dV45 kV45 dc45 pm45 an45 cd45 ct45), sl45⟩)
    (c45 : PySem.W.codeIn K cd45 "HistoryWalk.why_not_got" = true)
    (k45 : PySem.W.keepIn K (.ref f45) = true)
    (q45 : dV45 = .none)
    (a46 : PySem.W.findIn K (.ref C9) "told_otherwise" = some (some (.ref f46)))
    (i46 : PySem.W.isFn K (.ref f46) = true)
    (l46 : K.lookup f46 = some ⟨oc46, od46, .func (PySem.W.fnOf "told_otherwise" "HistoryWalk.told_otherwise" (defArgs s_HistoryWalk_told_otherwise) (defBody s_HistoryWalk_told_otherwise) (defScope s_HistoryWalk_told_otherwise) dV46 kV46 dc46 pm46 an46 cd46 ct46), sl46⟩)
    (c46 : PySem.W.codeIn K cd46 "HistoryWalk.told_otherwise" = true)
    (k46 : PySem.W.keepIn K (.ref f46) = true)
    (q46 : dV46 = .none)
    (a47 : PySem.W.findIn K (.ref C9) "why_not_told" = some (some (.ref f47)))
    (i47 : PySem.W.isFn K (.ref f47) = true)
    (l47 : K.lookup f47 = some ⟨oc47, od47, .func (PySem.W.fnOf "why_not_told" "HistoryWalk.why_not_told" (defArgs s_HistoryWalk_why_not_told) (defBody s_HistoryWalk_why_not_told) (defScope s_HistoryWalk_why_not_told) dV47 kV47 dc47 pm47 an47 cd47 ct47), sl47⟩)
    (c47 : PySem.W.codeIn K cd47 "HistoryWalk.why_not_told" = true)
    (k47 : PySem.W.keepIn K (.ref f47) = true)
    (q47 : dV47 = .none)
    (a48 : PySem.W.findIn K (.ref C9) "why_not" = some (some (.ref f48)))
    (i48 : PySem.W.isFn K (.ref f48) = true)
    (l48 : K.lookup f48 = some ⟨oc48, od48, .func (PySem.W.fnOf "why_not" "HistoryWalk.why_not" (defArgs s_HistoryWalk_why_not) (defBody s_HistoryWalk_why_not) (defScope s_HistoryWalk_why_not) dV48 kV48 dc48 pm48 an48 cd48 ct48), sl48⟩)
    (c48 : PySem.W.codeIn K cd48 "HistoryWalk.why_not" = true)
    (k48 : PySem.W.keepIn K (.ref f48) = true)
    (q48 : dV48 = .none)
    (a49 : PySem.W.findIn K (.ref C9) "go_sent" = some (some (.ref f49)))
    (i49 : PySem.W.isFn K (.ref f49) = true)
    (l49 : K.lookup f49 = some ⟨oc49, od49, .func (PySem.W.fnOf "go_sent" "HistoryWalk.go_sent" (defArgs s_HistoryWalk_go_sent) (defBody s_HistoryWalk_go_sent) (defScope s_HistoryWalk_go_sent) dV49 kV49 dc49 pm49 an49 cd49 ct49), sl49⟩)
    (c49 : PySem.W.codeIn K cd49 "HistoryWalk.go_sent" = true)
    (k49 : PySem.W.keepIn K (.ref f49) = true)
    (q49 : dV49 = .none)
    (a50 : PySem.W.findIn K (.ref C9) "go_got" = some (some (.ref f50)))
    (i50 : PySem.W.isFn K (.ref f50) = true)
    (l50 : K.lookup f50 = some ⟨oc50, od50, .func (PySem.W.fnOf "go_got" "HistoryWalk.go_got" (defArgs s_HistoryWalk_go_got) (defBody s_HistoryWalk_go_got) (defScope s_HistoryWalk_go_got) dV50 kV50 dc50 pm50 an50 cd50 ct50), sl50⟩)
    (c50 : PySem.W.codeIn K cd50 "HistoryWalk.go_got" = true)
    (k50 : PySem.W.keepIn K (.ref f50) = true)
    (q50 : dV50 = .none)
    (a51 : PySem.W.findIn K (.ref C9) "go_told" = some (some (.ref f51)))
    (i51 : PySem.W.isFn K (.ref f51) = true)
    (l51 : K.lookup f51 = some ⟨oc51, od51, .func (PySem.W.fnOf "go_told" "HistoryWalk.go_told" (defArgs s_HistoryWalk_go_told) (defBody s_HistoryWalk_go_told) (defScope s_HistoryWalk_go_told) dV51 kV51 dc51 pm51 an51 cd51 ct51), sl51⟩)
    (c51 : PySem.W.codeIn K cd51 "HistoryWalk.go_told" = true)
    (k51 : PySem.W.keepIn K (.ref f51) = true)
    (q51 : dV51 = .none)
    (a52 : PySem.W.findIn K (.ref C9) "go_on" = some (some (.ref f52)))
    (i52 : PySem.W.isFn K (.ref f52) = true)
    (l52 : K.lookup f52 = some ⟨oc52, od52, .func (PySem.W.fnOf "go_on" "HistoryWalk.go_on" (defArgs s_HistoryWalk_go_on) (defBody s_HistoryWalk_go_on) (defScope s_HistoryWalk_go_on) dV52 kV52 dc52 pm52 an52 cd52 ct52), sl52⟩)
    (c52 : PySem.W.codeIn K cd52 "HistoryWalk.go_on" = true)
    (k52 : PySem.W.keepIn K (.ref f52) = true)
    (q52 : dV52 = .none)
    (a53 : PySem.W.nsIn K mainGlobals "first_wrong" = some (some (.ref f53)))
    (l53 : K.lookup f53 = some ⟨oc53, od53, .func (PySem.W.fnOf "first_wrong" "first_wrong" (defArgs s_first_wrong) (defBody s_first_wrong) (defScope s_first_wrong) dV53 kV53 dc53 pm53 an53 cd53 ct53), sl53⟩)
    (c53 : PySem.W.codeIn K cd53 "first_wrong" = true)
    (k53 : PySem.W.keepIn K (.ref f53) = true)
    (q53 : dV53 = .none)
    (a54 : PySem.W.nsIn K mainGlobals "_law_cell_at" = some (some (.ref f54)))
    (l54 : K.lookup f54 = some ⟨oc54, od54, .func (PySem.W.fnOf "_law_cell_at" "_law_cell_at" (defArgs s__law_cell_at) (defBody s__law_cell_at) (defScope s__law_cell_at) dV54 kV54 dc54 pm54 an54 cd54 ct54), sl54⟩)
    (c54 : PySem.W.codeIn K cd54 "_law_cell_at" = true)
    (k54 : PySem.W.keepIn K (.ref f54) = true)
    (q54 : dV54 = .none)
    (a55 : PySem.W.nsIn K mainGlobals "_law_pool" = some (some (.ref f55)))
    (l55 : K.lookup f55 = some ⟨oc55, od55, .func (PySem.W.fnOf "_law_pool" "_law_pool" (defArgs s__law_pool) (defBody s__law_pool) (defScope s__law_pool) dV55 kV55 dc55 pm55 an55 cd55 ct55), sl55⟩)
    (c55 : PySem.W.codeIn K cd55 "_law_pool" = true)
    (k55 : PySem.W.keepIn K (.ref f55) = true)
    (q55 : dV55 = .none)
    (a56 : PySem.W.nsIn K mainGlobals "_law_take" = some (some (.ref f56)))
    (l56 : K.lookup f56 = some ⟨oc56, od56, .func (PySem.W.fnOf "_law_take" "_law_take" (defArgs s__law_take) (defBody s__law_take) (defScope s__law_take) dV56 kV56 dc56 pm56 an56 cd56 ct56), sl56⟩)
    (c56 : PySem.W.codeIn K cd56 "_law_take" = true)
    (k56 : PySem.W.keepIn K (.ref f56) = true)
    (q56 : dV56 = .none)
    (a57 : PySem.W.nsIn K mainGlobals "_law_model" = some (some (.ref f57)))
    (l57 : K.lookup f57 = some ⟨oc57, od57, .func (PySem.W.fnOf "_law_model" "_law_model" (defArgs s__law_model) (defBody s__law_model) (defScope s__law_model) dV57 kV57 dc57 pm57 an57 cd57 ct57), sl57⟩)
    (c57 : PySem.W.codeIn K cd57 "_law_model" = true)
    (k57 : PySem.W.keepIn K (.ref f57) = true)
    (q57 : dV57 = .none)
    (a58 : PySem.W.nsIn K mainGlobals "_law_otherwise" = some (some (.ref f58)))
    (l58 : K.lookup f58 = some ⟨oc58, od58, .func (PySem.W.fnOf "_law_otherwise" "_law_otherwise" (defArgs s__law_otherwise) (defBody s__law_otherwise) (defScope s__law_otherwise) dV58 kV58 dc58 pm58 an58 cd58 ct58), sl58⟩)
    (c58 : PySem.W.codeIn K cd58 "_law_otherwise" = true)
    (k58 : PySem.W.keepIn K (.ref f58) = true)
    (q58 : dV58 = .none)
    (a59 : PySem.W.nsIn K mainGlobals "_law_has" = some (some (.ref f59)))
    (l59 : K.lookup f59 = some ⟨oc59, od59, .func (PySem.W.fnOf "_law_has" "_law_has" (defArgs s__law_has) (defBody s__law_has) (defScope s__law_has) dV59 kV59 dc59 pm59 an59 cd59 ct59), sl59⟩)
    (c59 : PySem.W.codeIn K cd59 "_law_has" = true)
    (k59 : PySem.W.keepIn K (.ref f59) = true)
    (q59 : dV59 = .none)
    (a60 : PySem.W.nsIn K mainGlobals "_law_why_got" = some (some (.ref f60)))
    (l60 : K.lookup f60 = some ⟨oc60, od60, .func (PySem.W.fnOf "_law_why_got" "_law_why_got" (defArgs s__law_why_got) (defBody s__law_why_got) (defScope s__law_why_got) dV60 kV60 dc60 pm60 an60 cd60 ct60), sl60⟩)
    (c60 : PySem.W.codeIn K cd60 "_law_why_got" = true)
    (k60 : PySem.W.keepIn K (.ref f60) = true)
    (q60 : dV60 = .none)
    (a61 : PySem.W.nsIn K mainGlobals "_law_why" = some (some (.ref f61)))
    (l61 : K.lookup f61 = some ⟨oc61, od61, .func (PySem.W.fnOf "_law_why" "_law_why" (defArgs s__law_why) (defBody s__law_why) (defScope s__law_why) dV61 kV61 dc61 pm61 an61 cd61 ct61), sl61⟩)
    (c61 : PySem.W.codeIn K cd61 "_law_why" = true)
    (k61 : PySem.W.keepIn K (.ref f61) = true)
    (q61 : dV61 = .none)
    (a62 : PySem.W.nsIn K mainGlobals "_law_go" = some (some (.ref f62)))
    (l62 : K.lookup f62 = some ⟨oc62, od62, .func (PySem.W.fnOf "_law_go" "_law_go" (defArgs s__law_go) (defBody s__law_go) (defScope s__law_go) dV62 kV62 dc62 pm62 an62 cd62 ct62), sl62⟩)
    (c62 : PySem.W.codeIn K cd62 "_law_go" = true)
    (k62 : PySem.W.keepIn K (.ref f62) = true)
    (q62 : dV62 = .none)
    (a63 : PySem.W.nsIn K mainGlobals "_law_may" = some (some (.ref f63)))
    (l63 : K.lookup f63 = some ⟨oc63, od63, .func (PySem.W.fnOf "_law_may" "_law_may" (defArgs s__law_may) (defBody s__law_may) (defScope s__law_may) dV63 kV63 dc63 pm63 an63 cd63 ct63), sl63⟩)
    (c63 : PySem.W.codeIn K cd63 "_law_may" = true)
    (k63 : PySem.W.keepIn K (.ref f63) = true)
    (q63 : dV63 = .none)
    (a64 : PySem.W.nsIn K mainGlobals "_law_word" = some (some (.ref f64)))
    (l64 : K.lookup f64 = some ⟨oc64, od64, .func (PySem.W.fnOf "_law_word" "_law_word" (defArgs s__law_word) (defBody s__law_word) (defScope s__law_word) dV64 kV64 dc64 pm64 an64 cd64 ct64), sl64⟩)
    (c64 : PySem.W.codeIn K cd64 "_law_word" = true)
    (k64 : PySem.W.keepIn K (.ref f64) = true)
    (q64 : dV64 = .none)
    (a65 : PySem.W.nsIn K mainGlobals "_law_new_row" = some (some (.ref f65)))
    (l65 : K.lookup f65 = some ⟨oc65, od65, .func (PySem.W.fnOf "_law_new_row" "_law_new_row" (defArgs s__law_new_row) (defBody s__law_new_row) (defScope s__law_new_row) dV65 kV65 dc65 pm65 an65 cd65 ct65), sl65⟩)
    (c65 : PySem.W.codeIn K cd65 "_law_new_row" = true)
    (k65 : PySem.W.keepIn K (.ref f65) = true)
    (q65 : dV65 = .none)
    (a66 : PySem.W.nsIn K mainGlobals "_law_rows" = some (some (.ref f66)))
    (l66 : K.lookup f66 = some ⟨oc66, od66, .func (PySem.W.fnOf "_law_rows" "_law_rows" (defArgs s__law_rows) (defBody s__law_rows) (defScope s__law_rows) dV66 kV66 dc66 pm66 an66 cd66 ct66), sl66⟩)
    (c66 : PySem.W.codeIn K cd66 "_law_rows" = true)
    (k66 : PySem.W.keepIn K (.ref f66) = true)
    (q66 : dV66 = .none)
    (a67 : PySem.W.nsIn K mainGlobals "_law_due" = some (some (.ref f67)))
    (l67 : K.lookup f67 = some ⟨oc67, od67, .func (PySem.W.fnOf "_law_due" "_law_due" (defArgs s__law_due) (defBody s__law_due) (defScope s__law_due) dV67 kV67 dc67 pm67 an67 cd67 ct67), sl67⟩)
    (c67 : PySem.W.codeIn K cd67 "_law_due" = true)
    (k67 : PySem.W.keepIn K (.ref f67) = true)
    (q67 : dV67 = .none)
    (a68 : PySem.W.nsIn K mainGlobals "_law_part" = some (some (.ref f68)))
    (l68 : K.lookup f68 = some ⟨oc68, od68, .func (PySem.W.fnOf "_law_part" "_law_part" (defArgs s__law_part) (defBody s__law_part) (defScope s__law_part) dV68 kV68 dc68 pm68 an68 cd68 ct68), sl68⟩)
    (c68 : PySem.W.codeIn K cd68 "_law_part" = true)
    (k68 : PySem.W.keepIn K (.ref f68) = true)
    (q68 : dV68 = .none)
    (a69 : PySem.W.nsIn K mainGlobals "_law_changed" = some (some (.ref f69)))
    (l69 : K.lookup f69 = some ⟨oc69, od69, .func (PySem.W.fnOf "_law_changed" "_law_changed" (defArgs s__law_changed) (defBody s__law_changed) (defScope s__law_changed) dV69 kV69 dc69 pm69 an69 cd69 ct69), sl69⟩)
    (c69 : PySem.W.codeIn K cd69 "_law_changed" = true)
    (k69 : PySem.W.keepIn K (.ref f69) = true)
    (q69 : dV69 = .none)
    (a70 : PySem.W.nsIn K mainGlobals "law" = some (some (.ref f70)))
    (l70 : K.lookup f70 = some ⟨oc70, od70, .func (PySem.W.fnOf "law" "law" (defArgs s_law) (defBody s_law) (defScope s_law) dV70 kV70 dc70 pm70 an70 cd70 ct70), sl70⟩)
    (c70 : PySem.W.codeIn K cd70 "law" = true)
    (k70 : PySem.W.keepIn K (.ref f70) = true)
    (q70 : dV70 = .none)
    (gl0 : PySem.W.nsIn K mainGlobals "LETTERS" = some (some gv0))
    (gr0 : RelV (V.str "abcdefghijklmnopqrstuvwxyz") gv0)
    (gl1 : PySem.W.nsIn K mainGlobals "LONGEST_WORD" = some (some gv1))
    (gr1 : RelV (V.int 8) gv1)
    (gl2 : PySem.W.nsIn K mainGlobals "LEAST_MEMBERS" = some (some gv2))
    (gr2 : RelV (V.int 2) gv2)
    (gl3 : PySem.W.nsIn K mainGlobals "MOST_MEMBERS" = some (some gv3))
    (gr3 : RelV (V.int 5) gv3)
    (gl4 : PySem.W.nsIn K mainGlobals "MOST_LETTERS" = some (some gv4))
    (gr4 : RelV (V.int 30) gv4)
    (gl5 : PySem.W.nsIn K mainGlobals "LAST_MEMBER" = some (some gv5))
    (gr5 : RelV (V.int 4) gv5)
    (gl6 : PySem.W.nsIn K mainGlobals "MOST_ROWS" = some (some gv6))
    (gr6 : RelV (V.int 400) gv6)
    (gl7 : PySem.W.nsIn K mainGlobals "MOST_SENT" = some (some gv7))
    (gr7 : RelV (V.int 30) gv7)
    (aD0 : PySem.W.nsIn K mainGlobals "FORMS" = some (some (.ref D0)))
    (ga0 : PySem.W.findIn K (.ref C0) "__getattribute__" = some (some (.builtin "BaseException.__getattribute__")))
    (ga1 : PySem.W.findIn K (.ref C1) "__getattribute__" = some (some (.builtin "BaseException.__getattribute__")))
    (ga2 : PySem.W.findIn K (.ref C2) "__getattribute__" = some (some (.builtin "BaseException.__getattribute__")))
    (ga3 : PySem.W.findIn K (.ref C3) "__getattribute__" = some (some (.builtin "BaseException.__getattribute__")))
    (ga4 : PySem.W.findIn K (.ref C4) "__getattribute__" = some (some (.builtin "BaseException.__getattribute__")))
    (ga5 : PySem.W.findIn K (.ref C5) "__getattribute__" = some (some (.builtin "BaseException.__getattribute__")))
    (ga6 : PySem.W.findIn K (.ref C6) "__getattribute__" = some (some (.builtin "BaseException.__getattribute__")))
    (gg0 : PySem.W.findIn K (.ref C0) "__getattr__" = some none)
    (gg1 : PySem.W.findIn K (.ref C1) "__getattr__" = some none)
    (gg2 : PySem.W.findIn K (.ref C2) "__getattr__" = some none)
    (gg3 : PySem.W.findIn K (.ref C3) "__getattr__" = some none)
    (gg4 : PySem.W.findIn K (.ref C4) "__getattr__" = some none)
    (gg5 : PySem.W.findIn K (.ref C5) "__getattr__" = some none)
    (gg6 : PySem.W.findIn K (.ref C6) "__getattr__" = some none)
    (hd0 : PySem.W.hasDictIn K C0 = true)
    (hd1 : PySem.W.hasDictIn K C1 = true)
    (hd2 : PySem.W.hasDictIn K C2 = true)
    (hd3 : PySem.W.hasDictIn K C3 = true)
    (hd4 : PySem.W.hasDictIn K C4 = true)
    (hd5 : PySem.W.hasDictIn K C5 = true)
    (hd6 : PySem.W.hasDictIn K C6 = true)
    (hd7 : PySem.W.hasDictIn K C7 = true)
    (hd8 : PySem.W.hasDictIn K C8 = true)
    (hd9 : PySem.W.hasDictIn K C9 = true)
    (hf0 : PySem.W.findCls K (.ref C0) (.type "type") "__init__" = some (.val (.builtin "ValueError.__init__")))
    (hn : PySem.W.specialIn K (.builtin "object.__class__") "__get__" = some (some (.builtin "getset_descriptor.__get__")))
    (hq0 : PySem.W.readsIn K C0 (.type "type") = true)
    (hs0 : PySem.W.specialIn K (.ref C0) "__getattribute__" = some (some (.builtin "type.__getattribute__")))
    (htk : PySem.W.takesIn K (.builtin "object.__class__") = some true)
    (ia0 : PySem.W.findIn K (.ref C0) "__class__" = some (some (.builtin "object.__class__")))
    (ia1 : PySem.W.findIn K (.ref C1) "__class__" = some (some (.builtin "object.__class__")))
    (ia2 : PySem.W.findIn K (.ref C2) "__class__" = some (some (.builtin "object.__class__")))
    (ia3 : PySem.W.findIn K (.ref C3) "__class__" = some (some (.builtin "object.__class__")))
    (ia4 : PySem.W.findIn K (.ref C4) "__class__" = some (some (.builtin "object.__class__")))
    (ia5 : PySem.W.findIn K (.ref C5) "__class__" = some (some (.builtin "object.__class__")))
    (ia6 : PySem.W.findIn K (.ref C6) "__class__" = some (some (.builtin "object.__class__")))
    (ia7 : PySem.W.findIn K (.ref C7) "__class__" = some (some (.builtin "object.__class__")))
    (ia8 : PySem.W.findIn K (.ref C8) "__class__" = some (some (.builtin "object.__class__")))
    (ia9 : PySem.W.findIn K (.ref C9) "__class__" = some (some (.builtin "object.__class__")))
    (ic0 : PySem.W.isClsIn K C0 = true)
    (ic1 : PySem.W.isClsIn K C1 = true)
    (ic2 : PySem.W.isClsIn K C2 = true)
    (ic3 : PySem.W.isClsIn K C3 = true)
    (ic4 : PySem.W.isClsIn K C4 = true)
    (ic5 : PySem.W.isClsIn K C5 = true)
    (ic6 : PySem.W.isClsIn K C6 = true)
    (ic7 : PySem.W.isClsIn K C7 = true)
    (ic8 : PySem.W.isClsIn K C8 = true)
    (ic9 : PySem.W.isClsIn K C9 = true)
    (ii7NoneType : PySem.W.subIn K (.type "NoneType") (.ref C7) = some false)
    (ii7bool : PySem.W.subIn K (.type "bool") (.ref C7) = some false)
    (ii7dict : PySem.W.subIn K (.type "dict") (.ref C7) = some false)
    (ii7int : PySem.W.subIn K (.type "int") (.ref C7) = some false)
    (ii7list : PySem.W.subIn K (.type "list") (.ref C7) = some false)
    (ii7str : PySem.W.subIn K (.type "str") (.ref C7) = some false)
    (ii7tuple : PySem.W.subIn K (.type "tuple") (.ref C7) = some false)
    (ii8NoneType : PySem.W.subIn K (.type "NoneType") (.ref C8) = some false)
    (ii8bool : PySem.W.subIn K (.type "bool") (.ref C8) = some false)
    (ii8dict : PySem.W.subIn K (.type "dict") (.ref C8) = some false)
    (ii8int : PySem.W.subIn K (.type "int") (.ref C8) = some false)
    (ii8list : PySem.W.subIn K (.type "list") (.ref C8) = some false)
    (ii8str : PySem.W.subIn K (.type "str") (.ref C8) = some false)
    (ii8tuple : PySem.W.subIn K (.type "tuple") (.ref C8) = some false)
    (ii9NoneType : PySem.W.subIn K (.type "NoneType") (.ref C9) = some false)
    (ii9bool : PySem.W.subIn K (.type "bool") (.ref C9) = some false)
    (ii9dict : PySem.W.subIn K (.type "dict") (.ref C9) = some false)
    (ii9int : PySem.W.subIn K (.type "int") (.ref C9) = some false)
    (ii9list : PySem.W.subIn K (.type "list") (.ref C9) = some false)
    (ii9str : PySem.W.subIn K (.type "str") (.ref C9) = some false)
    (ii9tuple : PySem.W.subIn K (.type "tuple") (.ref C9) = some false)
    (im0 : PySem.W.mroIn K C0 (.type "object") = some true)
    (im1 : PySem.W.mroIn K C1 (.type "object") = some true)
    (im2 : PySem.W.mroIn K C2 (.type "object") = some true)
    (im3 : PySem.W.mroIn K C3 (.type "object") = some true)
    (im4 : PySem.W.mroIn K C4 (.type "object") = some true)
    (im5 : PySem.W.mroIn K C5 (.type "object") = some true)
    (im6 : PySem.W.mroIn K C6 (.type "object") = some true)
    (im7 : PySem.W.mroIn K C7 (.type "object") = some true)
    (im8 : PySem.W.mroIn K C8 (.type "object") = some true)
    (im9 : PySem.W.mroIn K C9 (.type "object") = some true)
    (io7bool : PySem.W.subIn K (.ref C7) (.type "bool") = some false)
    (io7dict : PySem.W.subIn K (.ref C7) (.type "dict") = some false)
    (io7int : PySem.W.subIn K (.ref C7) (.type "int") = some false)
    (io7list : PySem.W.subIn K (.ref C7) (.type "list") = some false)
    (io7str : PySem.W.subIn K (.ref C7) (.type "str") = some false)
    (io7tuple : PySem.W.subIn K (.ref C7) (.type "tuple") = some false)
    (io8bool : PySem.W.subIn K (.ref C8) (.type "bool") = some false)
    (io8dict : PySem.W.subIn K (.ref C8) (.type "dict") = some false)
    (io8int : PySem.W.subIn K (.ref C8) (.type "int") = some false)
    (io8list : PySem.W.subIn K (.ref C8) (.type "list") = some false)
    (io8str : PySem.W.subIn K (.ref C8) (.type "str") = some false)
    (io8tuple : PySem.W.subIn K (.ref C8) (.type "tuple") = some false)
    (io9bool : PySem.W.subIn K (.ref C9) (.type "bool") = some false)
    (io9dict : PySem.W.subIn K (.ref C9) (.type "dict") = some false)
    (io9int : PySem.W.subIn K (.ref C9) (.type "int") = some false)
    (io9list : PySem.W.subIn K (.ref C9) (.type "list") = some false)
    (io9str : PySem.W.subIn K (.ref C9) (.type "str") = some false)
    (io9tuple : PySem.W.subIn K (.ref C9) (.type "tuple") = some false)
    (it0 : PySem.W.typeIn K (.ref C0) = some (.type "type"))
    (it1 : PySem.W.typeIn K (.ref C1) = some (.type "type"))
    (it2 : PySem.W.typeIn K (.ref C2) = some (.type "type"))
    (it3 : PySem.W.typeIn K (.ref C3) = some (.type "type"))
    (it4 : PySem.W.typeIn K (.ref C4) = some (.type "type"))
    (it5 : PySem.W.typeIn K (.ref C5) = some (.type "type"))
    (it6 : PySem.W.typeIn K (.ref C6) = some (.type "type"))
    (it7 : PySem.W.typeIn K (.ref C7) = some (.type "type"))
    (it8 : PySem.W.typeIn K (.ref C8) = some (.type "type"))
    (it9 : PySem.W.typeIn K (.ref C9) = some (.type "type"))
    (jA0 : K.lookup D0 = some ⟨.type "dict", none, .dict jes0 jn0, #[]⟩)
    (jB0 : PySem.W.KeysLit w.params jes0.toList)
    (jC0_got : PySem.W.nsIn K D0 "got" = some (some (.ref f39)))
    (jC0_sent : PySem.W.nsIn K D0 "sent" = some (some (.ref f38)))
    (jC0_told : PySem.W.nsIn K D0 "told" = some (some (.ref f40)))
    (jD0 : (D0 == sysModules) = false)
    (kc1 : PySem.W.keepIn K (.ref C1) = true)
    (kc2 : PySem.W.keepIn K (.ref C2) = true)
    (kc3 : PySem.W.keepIn K (.ref C3) = true)
    (kc4 : PySem.W.keepIn K (.ref C4) = true)
    (kc5 : PySem.W.keepIn K (.ref C5) = true)
    (kc6 : PySem.W.keepIn K (.ref C6) = true)
    (kc7 : PySem.W.keepIn K (.ref C7) = true)
    (kc8 : PySem.W.keepIn K (.ref C8) = true)
    (kc9 : PySem.W.keepIn K (.ref C9) = true)
    (mk7 : PySem.W.makesIn K C7 = true)
    (mk8 : PySem.W.makesIn K C8 = true)
    (mk9 : PySem.W.makesIn K C9 = true)
    (n1_found : PySem.W.findIn K (.ref C1) "found" = some none)
    (n2_found : PySem.W.findIn K (.ref C2) "found" = some none)
    (n3_found : PySem.W.findIn K (.ref C3) "found" = some none)
    (n4_found : PySem.W.findIn K (.ref C4) "found" = some none)
    (n5_found : PySem.W.findIn K (.ref C5) "found" = some none)
    (n6_found : PySem.W.findIn K (.ref C6) "found" = some none)
    (n7_kept_numbers : PySem.W.findIn K (.ref C7) "kept_numbers" = some none)
    (n8_own_causes : PySem.W.findIn K (.ref C8) "own_causes" = some none)
    (n8_own_number : PySem.W.findIn K (.ref C8) "own_number" = some none)
    (n8_own_sender : PySem.W.findIn K (.ref C8) "own_sender" = some none)
    (n8_own_word : PySem.W.findIn K (.ref C8) "own_word" = some none)
    (n9_got_counts : PySem.W.findIn K (.ref C9) "got_counts" = some none)
    (n9_got_ids : PySem.W.findIn K (.ref C9) "got_ids" = some none)
    (n9_kept_letters : PySem.W.findIn K (.ref C9) "kept_letters" = some none)
    (n9_kept_rows : PySem.W.findIn K (.ref C9) "kept_rows" = some none)
    (n9_longest_row : PySem.W.findIn K (.ref C9) "longest_row" = some none)
    (n9_told_counts : PySem.W.findIn K (.ref C9) "told_counts" = some none)
    (n9_told_ids : PySem.W.findIn K (.ref C9) "told_ids" = some none)
    (ne1_0 : (Value.ref C1 == Value.ref C0) = false)
    (ne1_2 : (Value.ref C1 == Value.ref C2) = false)
    (ne1_3 : (Value.ref C1 == Value.ref C3) = false)
    (ne1_4 : (Value.ref C1 == Value.ref C4) = false)
    (ne1_5 : (Value.ref C1 == Value.ref C5) = false)
    (ne1_6 : (Value.ref C1 == Value.ref C6) = false)
    (ne2_0 : (Value.ref C2 == Value.ref C0) = false)
    (ne2_1 : (Value.ref C2 == Value.ref C1) = false)
    (ne2_3 : (Value.ref C2 == Value.ref C3) = false)
    (ne2_4 : (Value.ref C2 == Value.ref C4) = false)
    (ne2_5 : (Value.ref C2 == Value.ref C5) = false)
    (ne2_6 : (Value.ref C2 == Value.ref C6) = false)
    (ne3_0 : (Value.ref C3 == Value.ref C0) = false)
    (ne3_1 : (Value.ref C3 == Value.ref C1) = false)
    (ne3_2 : (Value.ref C3 == Value.ref C2) = false)
    (ne3_4 : (Value.ref C3 == Value.ref C4) = false)
    (ne3_5 : (Value.ref C3 == Value.ref C5) = false)
    (ne3_6 : (Value.ref C3 == Value.ref C6) = false)
    (ne4_0 : (Value.ref C4 == Value.ref C0) = false)
    (ne4_1 : (Value.ref C4 == Value.ref C1) = false)
    (ne4_2 : (Value.ref C4 == Value.ref C2) = false)
    (ne4_3 : (Value.ref C4 == Value.ref C3) = false)
    (ne4_5 : (Value.ref C4 == Value.ref C5) = false)
    (ne4_6 : (Value.ref C4 == Value.ref C6) = false)
    (ne5_0 : (Value.ref C5 == Value.ref C0) = false)
    (ne5_1 : (Value.ref C5 == Value.ref C1) = false)
    (ne5_2 : (Value.ref C5 == Value.ref C2) = false)
    (ne5_3 : (Value.ref C5 == Value.ref C3) = false)
    (ne5_4 : (Value.ref C5 == Value.ref C4) = false)
    (ne5_6 : (Value.ref C5 == Value.ref C6) = false)
    (ne6_0 : (Value.ref C6 == Value.ref C0) = false)
    (ne6_1 : (Value.ref C6 == Value.ref C1) = false)
    (ne6_2 : (Value.ref C6 == Value.ref C2) = false)
    (ne6_3 : (Value.ref C6 == Value.ref C3) = false)
    (ne6_4 : (Value.ref C6 == Value.ref C4) = false)
    (ne6_5 : (Value.ref C6 == Value.ref C5) = false)
    (ne7_8 : (Value.ref C7 == Value.ref C8) = false)
    (ne7_9 : (Value.ref C7 == Value.ref C9) = false)
    (ne8_7 : (Value.ref C8 == Value.ref C7) = false)
    (ne8_9 : (Value.ref C8 == Value.ref C9) = false)
    (ne9_7 : (Value.ref C9 == Value.ref C7) = false)
    (ne9_8 : (Value.ref C9 == Value.ref C8) = false)
    (pg7 : PySem.W.plainGet K C7 Str.empty = true)
    (pg8 : PySem.W.plainGet K C8 Str.empty = true)
    (pg9 : PySem.W.plainGet K C9 Str.empty = true)
    (po7 : PySem.W.plainOver K C7 = true)
    (po8 : PySem.W.plainOver K C8 = true)
    (po9 : PySem.W.plainOver K C9 = true)
    (sa1 : PySem.W.findIn K (.ref C1) "__setattr__" = some (some (.builtin "object.__setattr__")))
    (sa2 : PySem.W.findIn K (.ref C2) "__setattr__" = some (some (.builtin "object.__setattr__")))
    (sa3 : PySem.W.findIn K (.ref C3) "__setattr__" = some (some (.builtin "object.__setattr__")))
    (sa4 : PySem.W.findIn K (.ref C4) "__setattr__" = some (some (.builtin "object.__setattr__")))
    (sa5 : PySem.W.findIn K (.ref C5) "__setattr__" = some (some (.builtin "object.__setattr__")))
    (sa6 : PySem.W.findIn K (.ref C6) "__setattr__" = some (some (.builtin "object.__setattr__")))
    (sa7 : PySem.W.findIn K (.ref C7) "__setattr__" = some (some (.builtin "object.__setattr__")))
    (sa8 : PySem.W.findIn K (.ref C8) "__setattr__" = some (some (.builtin "object.__setattr__")))
    (sa9 : PySem.W.findIn K (.ref C9) "__setattr__" = some (some (.builtin "object.__setattr__")))
    (sx0 : PySem.W.subIn K (.ref C0) (.type "BaseException") = some true)
    (sx1 : PySem.W.subIn K (.ref C1) (.type "BaseException") = some true)
    (sx2 : PySem.W.subIn K (.ref C2) (.type "BaseException") = some true)
    (sx3 : PySem.W.subIn K (.ref C3) (.type "BaseException") = some true)
    (sx4 : PySem.W.subIn K (.ref C4) (.type "BaseException") = some true)
    (sx5 : PySem.W.subIn K (.ref C5) (.type "BaseException") = some true)
    (sx6 : PySem.W.subIn K (.ref C6) (.type "BaseException") = some true)
    (tf1 : PySem.W.typeIn K (.ref f1) = some (.type "function"))
    (tf2 : PySem.W.typeIn K (.ref f2) = some (.type "function"))
    (tf3 : PySem.W.typeIn K (.ref f3) = some (.type "function"))
    (tf4 : PySem.W.typeIn K (.ref f4) = some (.type "function"))
    (tf5 : PySem.W.typeIn K (.ref f5) = some (.type "function"))
    (tf6 : PySem.W.typeIn K (.ref f6) = some (.type "function"))
    (x1_0 : PySem.W.subIn K (.ref C1) (.ref C0) = some true)
    (x1_1 : PySem.W.subIn K (.ref C1) (.ref C1) = some true)
    (x1_2 : PySem.W.subIn K (.ref C1) (.ref C2) = some false)
    (x1_3 : PySem.W.subIn K (.ref C1) (.ref C3) = some false)
    (x1_4 : PySem.W.subIn K (.ref C1) (.ref C4) = some false)
    (x1_5 : PySem.W.subIn K (.ref C1) (.ref C5) = some false)
    (x1_6 : PySem.W.subIn K (.ref C1) (.ref C6) = some false)
    (x2_0 : PySem.W.subIn K (.ref C2) (.ref C0) = some true)
    (x2_1 : PySem.W.subIn K (.ref C2) (.ref C1) = some false)
    (x2_2 : PySem.W.subIn K (.ref C2) (.ref C2) = some true)
    (x2_3 : PySem.W.subIn K (.ref C2) (.ref C3) = some false)
    (x2_4 : PySem.W.subIn K (.ref C2) (.ref C4) = some false)
    (x2_5 : PySem.W.subIn K (.ref C2) (.ref C5) = some false)
    (x2_6 : PySem.W.subIn K (.ref C2) (.ref C6) = some false)
    (x3_0 : PySem.W.subIn K (.ref C3) (.ref C0) = some true)
    (x3_1 : PySem.W.subIn K (.ref C3) (.ref C1) = some false)
    (x3_2 : PySem.W.subIn K (.ref C3) (.ref C2) = some false)
    (x3_3 : PySem.W.subIn K (.ref C3) (.ref C3) = some true)
    (x3_4 : PySem.W.subIn K (.ref C3) (.ref C4) = some false)
    (x3_5 : PySem.W.subIn K (.ref C3) (.ref C5) = some false)
    (x3_6 : PySem.W.subIn K (.ref C3) (.ref C6) = some false)
    (x4_0 : PySem.W.subIn K (.ref C4) (.ref C0) = some true)
    (x4_1 : PySem.W.subIn K (.ref C4) (.ref C1) = some false)
    (x4_2 : PySem.W.subIn K (.ref C4) (.ref C2) = some false)
    (x4_3 : PySem.W.subIn K (.ref C4) (.ref C3) = some false)
    (x4_4 : PySem.W.subIn K (.ref C4) (.ref C4) = some true)
    (x4_5 : PySem.W.subIn K (.ref C4) (.ref C5) = some false)
    (x4_6 : PySem.W.subIn K (.ref C4) (.ref C6) = some false)
    (x5_0 : PySem.W.subIn K (.ref C5) (.ref C0) = some true)
    (x5_1 : PySem.W.subIn K (.ref C5) (.ref C1) = some false)
    (x5_2 : PySem.W.subIn K (.ref C5) (.ref C2) = some false)
    (x5_3 : PySem.W.subIn K (.ref C5) (.ref C3) = some false)
    (x5_4 : PySem.W.subIn K (.ref C5) (.ref C4) = some false)
    (x5_5 : PySem.W.subIn K (.ref C5) (.ref C5) = some true)
    (x5_6 : PySem.W.subIn K (.ref C5) (.ref C6) = some false)
    (x6_0 : PySem.W.subIn K (.ref C6) (.ref C0) = some true)
    (x6_1 : PySem.W.subIn K (.ref C6) (.ref C1) = some false)
    (x6_2 : PySem.W.subIn K (.ref C6) (.ref C2) = some false)
    (x6_3 : PySem.W.subIn K (.ref C6) (.ref C3) = some false)
    (x6_4 : PySem.W.subIn K (.ref C6) (.ref C4) = some false)
    (x6_5 : PySem.W.subIn K (.ref C6) (.ref C5) = some false)
    (x6_6 : PySem.W.subIn K (.ref C6) (.ref C6) = some true)
    (x7_8 : PySem.W.subIn K (.ref C7) (.ref C8) = some false)
    (x7_9 : PySem.W.subIn K (.ref C7) (.ref C9) = some false)
    (x8_7 : PySem.W.subIn K (.ref C8) (.ref C7) = some false)
    (x8_9 : PySem.W.subIn K (.ref C8) (.ref C9) = some false)
    (x9_7 : PySem.W.subIn K (.ref C9) (.ref C7) = some false)
    (x9_8 : PySem.W.subIn K (.ref C9) (.ref C8) = some false)
    (xL1 : K.lookup C1 = some (excClassObj nmx1 qx1 C1 Nx1 bsx1 bmx1 true snx1 subx1 abx1 colx1 ddx1 k0x1 k1x1 k2x1 k3x1 k5x1 "ValueError.__new__"))
    (xL2 : K.lookup C2 = some (excClassObj nmx2 qx2 C2 Nx2 bsx2 bmx2 true snx2 subx2 abx2 colx2 ddx2 k0x2 k1x2 k2x2 k3x2 k5x2 "ValueError.__new__"))
    (xL3 : K.lookup C3 = some (excClassObj nmx3 qx3 C3 Nx3 bsx3 bmx3 true snx3 subx3 abx3 colx3 ddx3 k0x3 k1x3 k2x3 k3x3 k5x3 "ValueError.__new__"))
    (xL4 : K.lookup C4 = some (excClassObj nmx4 qx4 C4 Nx4 bsx4 bmx4 true snx4 subx4 abx4 colx4 ddx4 k0x4 k1x4 k2x4 k3x4 k5x4 "ValueError.__new__"))
    (xL5 : K.lookup C5 = some (excClassObj nmx5 qx5 C5 Nx5 bsx5 bmx5 true snx5 subx5 abx5 colx5 ddx5 k0x5 k1x5 k2x5 k3x5 k5x5 "ValueError.__new__"))
    (xL6 : K.lookup C6 = some (excClassObj nmx6 qx6 C6 Nx6 bsx6 bmx6 true snx6 subx6 abx6 colx6 ddx6 k0x6 k1x6 k2x6 k3x6 k5x6 "ValueError.__new__"))
    (xM1 : PySem.HandSPX.refsVE bmx1 = true)
    (xM2 : PySem.HandSPX.refsVE bmx2 = true)
    (xM3 : PySem.HandSPX.refsVE bmx3 = true)
    (xM4 : PySem.HandSPX.refsVE bmx4 = true)
    (xM5 : PySem.HandSPX.refsVE bmx5 = true)
    (xM6 : PySem.HandSPX.refsVE bmx6 = true)
    (z36 : PySem.W.nsIn K mainGlobals "all" = some none)
    (z37 : PySem.W.nsIn K mainGlobals "any" = some none)
    (z40 : PySem.W.nsIn K mainGlobals "bool" = some none)
    (z41 : PySem.W.nsIn K mainGlobals "enumerate" = some none)
    (z43 : PySem.W.nsIn K mainGlobals "int" = some none)
    (z48 : PySem.W.nsIn K mainGlobals "isinstance" = some none)
    (z49 : PySem.W.nsIn K mainGlobals "len" = some none)
    (z50 : PySem.W.nsIn K mainGlobals "list" = some none)
    (z51 : PySem.W.nsIn K mainGlobals "max" = some none)
    (z53 : PySem.W.nsIn K mainGlobals "range" = some none)
    (z54 : PySem.W.nsIn K mainGlobals "str" = some none)
    (z55 : PySem.W.nsIn K mainGlobals "tuple" = some none)
    (z56 : PySem.W.nsIn K mainGlobals "zip" = some none)
    : ∃ fd : FuncData, (∀ (s : Shared) (v : Value), BindsTo s fd ⟨[v], []⟩ [("script", v)]) ∧ ∀ base : Heap, K.In base → base.Ns mainGlobals mg → FnOk l.prog w K mg base CX0 10 fa fd ["script"] (spLaw K) := by
  have e := hfa.symm.trans (PySem.W.mg_of X G a70)
  cases e
  have T : Txt w K mg { FORMS := D0, HallError := C0, NoNumber := C1, NoWord := C2, NoMember := C3, NoCounts := C4, NoCauses := C5, NoHistory := C6, Counts := C7, Letter := C8, HistoryWalk := C9, NoNumber_init := f1, d_NoNumber_init := PySem.W.fnOf "__init__" "NoNumber.__init__" (defArgs s_NoNumber_init) (defBody s_NoNumber_init) (defScope s_NoNumber_init) dV1 kV1 dc1 pm1 an1 cd1 ct1, NoWord_init := f2, d_NoWord_init := PySem.W.fnOf "__init__" "NoWord.__init__" (defArgs s_NoWord_init) (defBody s_NoWord_init) (defScope s_NoWord_init) dV2 kV2 dc2 pm2 an2 cd2 ct2, NoMember_init := f3, d_NoMember_init := PySem.W.fnOf "__init__" "NoMember.__init__" (defArgs s_NoMember_init) (defBody s_NoMember_init) (defScope s_NoMember_init) dV3 kV3 dc3 pm3 an3 cd3 ct3, NoCounts_init := f4, d_NoCounts_init := PySem.W.fnOf "__init__" "NoCounts.__init__" (defArgs s_NoCounts_init) (defBody s_NoCounts_init) (defScope s_NoCounts_init) dV4 kV4 dc4 pm4 an4 cd4 ct4, NoCauses_init := f5, d_NoCauses_init := PySem.W.fnOf "__init__" "NoCauses.__init__" (defArgs s_NoCauses_init) (defBody s_NoCauses_init) (defScope s_NoCauses_init) dV5 kV5 dc5 pm5 an5 cd5 ct5, NoHistory_init := f6, d_NoHistory_init := PySem.W.fnOf "__init__" "NoHistory.__init__" (defArgs s_NoHistory_init) (defBody s_NoHistory_init) (defScope s_NoHistory_init) dV6 kV6 dc6 pm6 an6 cd6 ct6, is_whole := f7, d_is_whole := PySem.W.fnOf "is_whole" "is_whole" (defArgs s_is_whole) (defBody s_is_whole) (defScope s_is_whole) dV7 kV7 dc7 pm7 an7 cd7 ct7, is_word := f8, d_is_word := PySem.W.fnOf "is_word" "is_word" (defArgs s_is_word) (defBody s_is_word) (defScope s_is_word) dV8 kV8 dc8 pm8 an8 cd8 ct8, are_members := f9, d_are_members := PySem.W.fnOf "are_members" "are_members" (defArgs s_are_members) (defBody s_are_members) (defScope s_are_members) dV9 kV9 dc9 pm9 an9 cd9 ct9, are_numbers := f10, d_are_numbers := PySem.W.fnOf "are_numbers" "are_numbers" (defArgs s_are_numbers) (defBody s_are_numbers) (defScope s_are_numbers) dV10 kV10 dc10 pm10 an10 cd10 ct10, Counts_init := f11, d_Counts_init := PySem.W.fnOf "__init__" "Counts.__init__" (defArgs s_Counts_init) (defBody s_Counts_init) (defScope s_Counts_init) dV11 kV11 dc11 pm11 an11 cd11 ct11, Counts_len := f13, d_Counts_len := PySem.W.fnOf "__len__" "Counts.__len__" (defArgs s_Counts_len) (defBody s_Counts_len) (defScope s_Counts_len) dV13 kV13 dc13 pm13 an13 cd13 ct13, Counts_told := f16, d_Counts_told := PySem.W.fnOf "told" "Counts.told" (defArgs s_Counts_told) (defBody s_Counts_told) (defScope s_Counts_told) dV16 kV16 dc16 pm16 an16 cd16 ct16, Counts_need_member := f17, d_Counts_need_member := PySem.W.fnOf "need_member" "Counts.need_member" (defArgs s_Counts_need_member) (defBody s_Counts_need_member) (defScope s_Counts_need_member) dV17 kV17 dc17 pm17 an17 cd17 ct17, Counts_of := f19, d_Counts_of := PySem.W.fnOf "of" "Counts.of" (defArgs s_Counts_of) (defBody s_Counts_of) (defScope s_Counts_of) dV19 kV19 dc19 pm19 an19 cd19 ct19, Letter_init := f28, d_Letter_init := PySem.W.fnOf "__init__" "Letter.__init__" (defArgs s_Letter_init) (defBody s_Letter_init) (defScope s_Letter_init) dV28 kV28 dc28 pm28 an28 cd28 ct28, fits_sent := f38, d_fits_sent := PySem.W.fnOf "fits_sent" "fits_sent" (defArgs s_fits_sent) (defBody s_fits_sent) (defScope s_fits_sent) dV38 kV38 dc38 pm38 an38 cd38 ct38, fits_got := f39, d_fits_got := PySem.W.fnOf "fits_got" "fits_got" (defArgs s_fits_got) (defBody s_fits_got) (defScope s_fits_got) dV39 kV39 dc39 pm39 an39 cd39 ct39, fits_told := f40, d_fits_told := PySem.W.fnOf "fits_told" "fits_told" (defArgs s_fits_told) (defBody s_fits_told) (defScope s_fits_told) dV40 kV40 dc40 pm40 an40 cd40 ct40, is_row := f41, d_is_row := PySem.W.fnOf "is_row" "is_row" (defArgs s_is_row) (defBody s_is_row) (defScope s_is_row) dV41 kV41 dc41 pm41 an41 cd41 ct41, is_history := f42, d_is_history := PySem.W.fnOf "is_history" "is_history" (defArgs s_is_history) (defBody s_is_history) (defScope s_is_history) dV42 kV42 dc42 pm42 an42 cd42 ct42, need_history := f43, d_need_history := PySem.W.fnOf "need_history" "need_history" (defArgs s_need_history) (defBody s_need_history) (defScope s_need_history) dV43 kV43 dc43 pm43 an43 cd43 ct43, HistoryWalk_init := f44, d_HistoryWalk_init := PySem.W.fnOf "__init__" "HistoryWalk.__init__" (defArgs s_HistoryWalk_init) (defBody s_HistoryWalk_init) (defScope s_HistoryWalk_init) dV44 kV44 dc44 pm44 an44 cd44 ct44, HistoryWalk_why_not_got := f45, d_HistoryWalk_why_not_got := PySem.W.fnOf "why_not_got" "HistoryWalk.why_not_got" (defArgs s_HistoryWalk_why_not_got) (defBody s_HistoryWalk_why_not_got) (defScope s_HistoryWalk_why_not_got) dV45 kV45 dc45 pm45 an45 cd45 ct45, HistoryWalk_told_otherwise := f46, d_HistoryWalk_told_otherwise := PySem.W.fnOf "told_otherwise" "HistoryWalk.told_otherwise" (defArgs s_HistoryWalk_told_otherwise) (defBody s_HistoryWalk_told_otherwise) (defScope s_HistoryWalk_told_otherwise) dV46 kV46 dc46 pm46 an46 cd46 ct46, HistoryWalk_why_not_told := f47, d_HistoryWalk_why_not_told := PySem.W.fnOf "why_not_told" "HistoryWalk.why_not_told" (defArgs s_HistoryWalk_why_not_told) (defBody s_HistoryWalk_why_not_told) (defScope s_HistoryWalk_why_not_told) dV47 kV47 dc47 pm47 an47 cd47 ct47, HistoryWalk_why_not := f48, d_HistoryWalk_why_not := PySem.W.fnOf "why_not" "HistoryWalk.why_not" (defArgs s_HistoryWalk_why_not) (defBody s_HistoryWalk_why_not) (defScope s_HistoryWalk_why_not) dV48 kV48 dc48 pm48 an48 cd48 ct48, HistoryWalk_go_sent := f49, d_HistoryWalk_go_sent := PySem.W.fnOf "go_sent" "HistoryWalk.go_sent" (defArgs s_HistoryWalk_go_sent) (defBody s_HistoryWalk_go_sent) (defScope s_HistoryWalk_go_sent) dV49 kV49 dc49 pm49 an49 cd49 ct49, HistoryWalk_go_got := f50, d_HistoryWalk_go_got := PySem.W.fnOf "go_got" "HistoryWalk.go_got" (defArgs s_HistoryWalk_go_got) (defBody s_HistoryWalk_go_got) (defScope s_HistoryWalk_go_got) dV50 kV50 dc50 pm50 an50 cd50 ct50, HistoryWalk_go_told := f51, d_HistoryWalk_go_told := PySem.W.fnOf "go_told" "HistoryWalk.go_told" (defArgs s_HistoryWalk_go_told) (defBody s_HistoryWalk_go_told) (defScope s_HistoryWalk_go_told) dV51 kV51 dc51 pm51 an51 cd51 ct51, HistoryWalk_go_on := f52, d_HistoryWalk_go_on := PySem.W.fnOf "go_on" "HistoryWalk.go_on" (defArgs s_HistoryWalk_go_on) (defBody s_HistoryWalk_go_on) (defScope s_HistoryWalk_go_on) dV52 kV52 dc52 pm52 an52 cd52 ct52, first_wrong := f53, d_first_wrong := PySem.W.fnOf "first_wrong" "first_wrong" (defArgs s_first_wrong) (defBody s_first_wrong) (defScope s_first_wrong) dV53 kV53 dc53 pm53 an53 cd53 ct53, _law_cell_at := f54, d__law_cell_at := PySem.W.fnOf "_law_cell_at" "_law_cell_at" (defArgs s__law_cell_at) (defBody s__law_cell_at) (defScope s__law_cell_at) dV54 kV54 dc54 pm54 an54 cd54 ct54, _law_pool := f55, d__law_pool := PySem.W.fnOf "_law_pool" "_law_pool" (defArgs s__law_pool) (defBody s__law_pool) (defScope s__law_pool) dV55 kV55 dc55 pm55 an55 cd55 ct55, _law_take := f56, d__law_take := PySem.W.fnOf "_law_take" "_law_take" (defArgs s__law_take) (defBody s__law_take) (defScope s__law_take) dV56 kV56 dc56 pm56 an56 cd56 ct56, _law_model := f57, d__law_model := PySem.W.fnOf "_law_model" "_law_model" (defArgs s__law_model) (defBody s__law_model) (defScope s__law_model) dV57 kV57 dc57 pm57 an57 cd57 ct57, _law_otherwise := f58, d__law_otherwise := PySem.W.fnOf "_law_otherwise" "_law_otherwise" (defArgs s__law_otherwise) (defBody s__law_otherwise) (defScope s__law_otherwise) dV58 kV58 dc58 pm58 an58 cd58 ct58, _law_has := f59, d__law_has := PySem.W.fnOf "_law_has" "_law_has" (defArgs s__law_has) (defBody s__law_has) (defScope s__law_has) dV59 kV59 dc59 pm59 an59 cd59 ct59, _law_why_got := f60, d__law_why_got := PySem.W.fnOf "_law_why_got" "_law_why_got" (defArgs s__law_why_got) (defBody s__law_why_got) (defScope s__law_why_got) dV60 kV60 dc60 pm60 an60 cd60 ct60, _law_why := f61, d__law_why := PySem.W.fnOf "_law_why" "_law_why" (defArgs s__law_why) (defBody s__law_why) (defScope s__law_why) dV61 kV61 dc61 pm61 an61 cd61 ct61, _law_go := f62, d__law_go := PySem.W.fnOf "_law_go" "_law_go" (defArgs s__law_go) (defBody s__law_go) (defScope s__law_go) dV62 kV62 dc62 pm62 an62 cd62 ct62, _law_may := f63, d__law_may := PySem.W.fnOf "_law_may" "_law_may" (defArgs s__law_may) (defBody s__law_may) (defScope s__law_may) dV63 kV63 dc63 pm63 an63 cd63 ct63, _law_word := f64, d__law_word := PySem.W.fnOf "_law_word" "_law_word" (defArgs s__law_word) (defBody s__law_word) (defScope s__law_word) dV64 kV64 dc64 pm64 an64 cd64 ct64, _law_new_row := f65, d__law_new_row := PySem.W.fnOf "_law_new_row" "_law_new_row" (defArgs s__law_new_row) (defBody s__law_new_row) (defScope s__law_new_row) dV65 kV65 dc65 pm65 an65 cd65 ct65, _law_rows := f66, d__law_rows := PySem.W.fnOf "_law_rows" "_law_rows" (defArgs s__law_rows) (defBody s__law_rows) (defScope s__law_rows) dV66 kV66 dc66 pm66 an66 cd66 ct66, _law_due := f67, d__law_due := PySem.W.fnOf "_law_due" "_law_due" (defArgs s__law_due) (defBody s__law_due) (defScope s__law_due) dV67 kV67 dc67 pm67 an67 cd67 ct67, _law_part := f68, d__law_part := PySem.W.fnOf "_law_part" "_law_part" (defArgs s__law_part) (defBody s__law_part) (defScope s__law_part) dV68 kV68 dc68 pm68 an68 cd68 ct68, _law_changed := f69, d__law_changed := PySem.W.fnOf "_law_changed" "_law_changed" (defArgs s__law_changed) (defBody s__law_changed) (defScope s__law_changed) dV69 kV69 dc69 pm69 an69 cd69 ct69, law := fa, d_law := PySem.W.fnOf "law" "law" (defArgs s_law) (defBody s_law) (defScope s_law) dV70 kV70 dc70 pm70 an70 cd70 ct70 } := {
    m_HallError := PySem.W.mg_of X G aC0,
    e_HallError := ⟨ga0, gg0, sx0, hd0, ia0, hn, htk, im0, it0⟩,
    hs_HallError := hs0,
    hq_HallError := hq0,
    hf_HallError := hf0,
    m_NoNumber := PySem.W.mg_of X G aC1,
    n_NoNumber_found := n1_found,
    e_NoNumber := ⟨ga1, gg1, sx1, hd1, ia1, hn, htk, im1, it1⟩,
    o_NoNumber := ⟨⟨_, _, _, _, _, _, _, _, _, _, _, _, _, _, _, xL1, xM1⟩, sa1, sx1, it1, kc1⟩,
    oi_NoNumber := a1,
    ot_NoNumber := tf1,
    u_NoNumber_HallError := x1_0,
    u_NoNumber_NoNumber := x1_1,
    u_NoNumber_NoWord := x1_2,
    u_NoNumber_NoMember := x1_3,
    u_NoNumber_NoCounts := x1_4,
    u_NoNumber_NoCauses := x1_5,
    u_NoNumber_NoHistory := x1_6,
    x_NoNumber_HallError := kit_in ne1_0 ic0 it0 x1_0,
    x_NoNumber_NoWord := kit_in ne1_2 ic2 it2 x1_2,
    x_NoNumber_NoMember := kit_in ne1_3 ic3 it3 x1_3,
    x_NoNumber_NoCounts := kit_in ne1_4 ic4 it4 x1_4,
    x_NoNumber_NoCauses := kit_in ne1_5 ic5 it5 x1_5,
    x_NoNumber_NoHistory := kit_in ne1_6 ic6 it6 x1_6,
    m_NoWord := PySem.W.mg_of X G aC2,
    n_NoWord_found := n2_found,
    e_NoWord := ⟨ga2, gg2, sx2, hd2, ia2, hn, htk, im2, it2⟩,
    o_NoWord := ⟨⟨_, _, _, _, _, _, _, _, _, _, _, _, _, _, _, xL2, xM2⟩, sa2, sx2, it2, kc2⟩,
    oi_NoWord := a2,
    ot_NoWord := tf2,
    u_NoWord_HallError := x2_0,
    u_NoWord_NoNumber := x2_1,
    u_NoWord_NoWord := x2_2,
    u_NoWord_NoMember := x2_3,
    u_NoWord_NoCounts := x2_4,
    u_NoWord_NoCauses := x2_5,
    u_NoWord_NoHistory := x2_6,
    x_NoWord_HallError := kit_in ne2_0 ic0 it0 x2_0,
    x_NoWord_NoNumber := kit_in ne2_1 ic1 it1 x2_1,
    x_NoWord_NoMember := kit_in ne2_3 ic3 it3 x2_3,
    x_NoWord_NoCounts := kit_in ne2_4 ic4 it4 x2_4,
    x_NoWord_NoCauses := kit_in ne2_5 ic5 it5 x2_5,
    x_NoWord_NoHistory := kit_in ne2_6 ic6 it6 x2_6,
    m_NoMember := PySem.W.mg_of X G aC3,
    n_NoMember_found := n3_found,
    e_NoMember := ⟨ga3, gg3, sx3, hd3, ia3, hn, htk, im3, it3⟩,
    o_NoMember := ⟨⟨_, _, _, _, _, _, _, _, _, _, _, _, _, _, _, xL3, xM3⟩, sa3, sx3, it3, kc3⟩,
    oi_NoMember := a3,
    ot_NoMember := tf3,
    u_NoMember_HallError := x3_0,
    u_NoMember_NoNumber := x3_1,
    u_NoMember_NoWord := x3_2,
    u_NoMember_NoMember := x3_3,
    u_NoMember_NoCounts := x3_4,
    u_NoMember_NoCauses := x3_5,
    u_NoMember_NoHistory := x3_6,
    x_NoMember_HallError := kit_in ne3_0 ic0 it0 x3_0,
    x_NoMember_NoNumber := kit_in ne3_1 ic1 it1 x3_1,
    x_NoMember_NoWord := kit_in ne3_2 ic2 it2 x3_2,
    x_NoMember_NoCounts := kit_in ne3_4 ic4 it4 x3_4,
    x_NoMember_NoCauses := kit_in ne3_5 ic5 it5 x3_5,
    x_NoMember_NoHistory := kit_in ne3_6 ic6 it6 x3_6,
    m_NoCounts := PySem.W.mg_of X G aC4,
    n_NoCounts_found := n4_found,
    e_NoCounts := ⟨ga4, gg4, sx4, hd4, ia4, hn, htk, im4, it4⟩,
    o_NoCounts := ⟨⟨_, _, _, _, _, _, _, _, _, _, _, _, _, _, _, xL4, xM4⟩, sa4, sx4, it4, kc4⟩,
    oi_NoCounts := a4,
    ot_NoCounts := tf4,
    u_NoCounts_HallError := x4_0,
    u_NoCounts_NoNumber := x4_1,
    u_NoCounts_NoWord := x4_2,
    u_NoCounts_NoMember := x4_3,
    u_NoCounts_NoCounts := x4_4,
    u_NoCounts_NoCauses := x4_5,
    u_NoCounts_NoHistory := x4_6,
    x_NoCounts_HallError := kit_in ne4_0 ic0 it0 x4_0,
    x_NoCounts_NoNumber := kit_in ne4_1 ic1 it1 x4_1,
    x_NoCounts_NoWord := kit_in ne4_2 ic2 it2 x4_2,
    x_NoCounts_NoMember := kit_in ne4_3 ic3 it3 x4_3,
    x_NoCounts_NoCauses := kit_in ne4_5 ic5 it5 x4_5,
    x_NoCounts_NoHistory := kit_in ne4_6 ic6 it6 x4_6,
    m_NoCauses := PySem.W.mg_of X G aC5,
    n_NoCauses_found := n5_found,
    e_NoCauses := ⟨ga5, gg5, sx5, hd5, ia5, hn, htk, im5, it5⟩,
    o_NoCauses := ⟨⟨_, _, _, _, _, _, _, _, _, _, _, _, _, _, _, xL5, xM5⟩, sa5, sx5, it5, kc5⟩,
    oi_NoCauses := a5,
    ot_NoCauses := tf5,
    u_NoCauses_HallError := x5_0,
    u_NoCauses_NoNumber := x5_1,
    u_NoCauses_NoWord := x5_2,
    u_NoCauses_NoMember := x5_3,
    u_NoCauses_NoCounts := x5_4,
    u_NoCauses_NoCauses := x5_5,
    u_NoCauses_NoHistory := x5_6,
    x_NoCauses_HallError := kit_in ne5_0 ic0 it0 x5_0,
    x_NoCauses_NoNumber := kit_in ne5_1 ic1 it1 x5_1,
    x_NoCauses_NoWord := kit_in ne5_2 ic2 it2 x5_2,
    x_NoCauses_NoMember := kit_in ne5_3 ic3 it3 x5_3,
    x_NoCauses_NoCounts := kit_in ne5_4 ic4 it4 x5_4,
    x_NoCauses_NoHistory := kit_in ne5_6 ic6 it6 x5_6,
    m_NoHistory := PySem.W.mg_of X G aC6,
    n_NoHistory_found := n6_found,
    e_NoHistory := ⟨ga6, gg6, sx6, hd6, ia6, hn, htk, im6, it6⟩,
    o_NoHistory := ⟨⟨_, _, _, _, _, _, _, _, _, _, _, _, _, _, _, xL6, xM6⟩, sa6, sx6, it6, kc6⟩,
    oi_NoHistory := a6,
    ot_NoHistory := tf6,
    u_NoHistory_HallError := x6_0,
    u_NoHistory_NoNumber := x6_1,
    u_NoHistory_NoWord := x6_2,
    u_NoHistory_NoMember := x6_3,
    u_NoHistory_NoCounts := x6_4,
    u_NoHistory_NoCauses := x6_5,
    u_NoHistory_NoHistory := x6_6,
    x_NoHistory_HallError := kit_in ne6_0 ic0 it0 x6_0,
    x_NoHistory_NoNumber := kit_in ne6_1 ic1 it1 x6_1,
    x_NoHistory_NoWord := kit_in ne6_2 ic2 it2 x6_2,
    x_NoHistory_NoMember := kit_in ne6_3 ic3 it3 x6_3,
    x_NoHistory_NoCounts := kit_in ne6_4 ic4 it4 x6_4,
    x_NoHistory_NoCauses := kit_in ne6_5 ic5 it5 x6_5,
    m_Counts := PySem.W.mg_of X G aC7,
    c_Counts := ⟨pg7, hd7, po7, sa7⟩,
    i_Counts := ⟨ia7, hn, htk, im7, fun d => by cases d <;> first | exact kit_out (by decide +kernel) io7int | exact kit_out (by decide +kernel) io7bool | exact kit_out (by decide +kernel) io7str | exact kit_out (by decide +kernel) io7list | exact kit_out (by decide +kernel) io7tuple | exact kit_out (by decide +kernel) io7dict, fun t ht => by
      simp only [List.mem_cons, List.not_mem_nil, or_false] at ht
      rcases ht with rfl | rfl | rfl | rfl | rfl | rfl | rfl
      all_goals first | exact kit_in rfl ic7 it7 ii7NoneType | exact kit_in rfl ic7 it7 ii7int | exact kit_in rfl ic7 it7 ii7bool | exact kit_in rfl ic7 it7 ii7str | exact kit_in rfl ic7 it7 ii7list | exact kit_in rfl ic7 it7 ii7tuple | exact kit_in rfl ic7 it7 ii7dict⟩,
    mk_Counts := ⟨mk7, a11, i11, kc7⟩,
    n_Counts_kept_numbers := n7_kept_numbers,
    x_Counts_Letter := kit_in ne7_8 ic8 it8 x7_8,
    x_Counts_HistoryWalk := kit_in ne7_9 ic9 it9 x7_9,
    m_Letter := PySem.W.mg_of X G aC8,
    c_Letter := ⟨pg8, hd8, po8, sa8⟩,
    i_Letter := ⟨ia8, hn, htk, im8, fun d => by cases d <;> first | exact kit_out (by decide +kernel) io8int | exact kit_out (by decide +kernel) io8bool | exact kit_out (by decide +kernel) io8str | exact kit_out (by decide +kernel) io8list | exact kit_out (by decide +kernel) io8tuple | exact kit_out (by decide +kernel) io8dict, fun t ht => by
      simp only [List.mem_cons, List.not_mem_nil, or_false] at ht
      rcases ht with rfl | rfl | rfl | rfl | rfl | rfl | rfl
      all_goals first | exact kit_in rfl ic8 it8 ii8NoneType | exact kit_in rfl ic8 it8 ii8int | exact kit_in rfl ic8 it8 ii8bool | exact kit_in rfl ic8 it8 ii8str | exact kit_in rfl ic8 it8 ii8list | exact kit_in rfl ic8 it8 ii8tuple | exact kit_in rfl ic8 it8 ii8dict⟩,
    mk_Letter := ⟨mk8, a28, i28, kc8⟩,
    n_Letter_own_sender := n8_own_sender,
    n_Letter_own_number := n8_own_number,
    n_Letter_own_word := n8_own_word,
    n_Letter_own_causes := n8_own_causes,
    x_Letter_Counts := kit_in ne8_7 ic7 it7 x8_7,
    x_Letter_HistoryWalk := kit_in ne8_9 ic9 it9 x8_9,
    m_HistoryWalk := PySem.W.mg_of X G aC9,
    c_HistoryWalk := ⟨pg9, hd9, po9, sa9⟩,
    i_HistoryWalk := ⟨ia9, hn, htk, im9, fun d => by cases d <;> first | exact kit_out (by decide +kernel) io9int | exact kit_out (by decide +kernel) io9bool | exact kit_out (by decide +kernel) io9str | exact kit_out (by decide +kernel) io9list | exact kit_out (by decide +kernel) io9tuple | exact kit_out (by decide +kernel) io9dict, fun t ht => by
      simp only [List.mem_cons, List.not_mem_nil, or_false] at ht
      rcases ht with rfl | rfl | rfl | rfl | rfl | rfl | rfl
      all_goals first | exact kit_in rfl ic9 it9 ii9NoneType | exact kit_in rfl ic9 it9 ii9int | exact kit_in rfl ic9 it9 ii9bool | exact kit_in rfl ic9 it9 ii9str | exact kit_in rfl ic9 it9 ii9list | exact kit_in rfl ic9 it9 ii9tuple | exact kit_in rfl ic9 it9 ii9dict⟩,
    mk_HistoryWalk := ⟨mk9, a44, i44, kc9⟩,
    n_HistoryWalk_kept_rows := n9_kept_rows,
    n_HistoryWalk_kept_letters := n9_kept_letters,
    n_HistoryWalk_got_counts := n9_got_counts,
    n_HistoryWalk_got_ids := n9_got_ids,
    n_HistoryWalk_told_ids := n9_told_ids,
    n_HistoryWalk_told_counts := n9_told_counts,
    n_HistoryWalk_longest_row := n9_longest_row,
    x_HistoryWalk_Counts := kit_in ne9_7 ic7 it7 x9_7,
    x_HistoryWalk_Letter := kit_in ne9_8 ic8 it8 x9_8,
    F_NoNumber_init := (fund_mk (K := K) (x := "__init__") (qual := "NoNumber.__init__") (st := s_NoNumber_init) (dvs := []) l1 c1 k1 (.inl ⟨rfl, q1⟩)),
    B_NoNumber_init := fund_all0 (fund_mk (K := K) (x := "__init__") (qual := "NoNumber.__init__") (st := s_NoNumber_init) (dvs := []) l1 c1 k1 (.inl ⟨rfl, q1⟩)) (fun _ _ _ _ _ _ us hl => match us, hl with | [_, _], _ => rfl),
    F_NoWord_init := (fund_mk (K := K) (x := "__init__") (qual := "NoWord.__init__") (st := s_NoWord_init) (dvs := []) l2 c2 k2 (.inl ⟨rfl, q2⟩)),
    B_NoWord_init := fund_all0 (fund_mk (K := K) (x := "__init__") (qual := "NoWord.__init__") (st := s_NoWord_init) (dvs := []) l2 c2 k2 (.inl ⟨rfl, q2⟩)) (fun _ _ _ _ _ _ us hl => match us, hl with | [_, _], _ => rfl),
    F_NoMember_init := (fund_mk (K := K) (x := "__init__") (qual := "NoMember.__init__") (st := s_NoMember_init) (dvs := []) l3 c3 k3 (.inl ⟨rfl, q3⟩)),
    B_NoMember_init := fund_all0 (fund_mk (K := K) (x := "__init__") (qual := "NoMember.__init__") (st := s_NoMember_init) (dvs := []) l3 c3 k3 (.inl ⟨rfl, q3⟩)) (fun _ _ _ _ _ _ us hl => match us, hl with | [_, _], _ => rfl),
    F_NoCounts_init := (fund_mk (K := K) (x := "__init__") (qual := "NoCounts.__init__") (st := s_NoCounts_init) (dvs := []) l4 c4 k4 (.inl ⟨rfl, q4⟩)),
    B_NoCounts_init := fund_all0 (fund_mk (K := K) (x := "__init__") (qual := "NoCounts.__init__") (st := s_NoCounts_init) (dvs := []) l4 c4 k4 (.inl ⟨rfl, q4⟩)) (fun _ _ _ _ _ _ us hl => match us, hl with | [_, _], _ => rfl),
    F_NoCauses_init := (fund_mk (K := K) (x := "__init__") (qual := "NoCauses.__init__") (st := s_NoCauses_init) (dvs := []) l5 c5 k5 (.inl ⟨rfl, q5⟩)),
    B_NoCauses_init := fund_all0 (fund_mk (K := K) (x := "__init__") (qual := "NoCauses.__init__") (st := s_NoCauses_init) (dvs := []) l5 c5 k5 (.inl ⟨rfl, q5⟩)) (fun _ _ _ _ _ _ us hl => match us, hl with | [_, _], _ => rfl),
    F_NoHistory_init := (fund_mk (K := K) (x := "__init__") (qual := "NoHistory.__init__") (st := s_NoHistory_init) (dvs := []) l6 c6 k6 (.inl ⟨rfl, q6⟩)),
    B_NoHistory_init := fund_all0 (fund_mk (K := K) (x := "__init__") (qual := "NoHistory.__init__") (st := s_NoHistory_init) (dvs := []) l6 c6 k6 (.inl ⟨rfl, q6⟩)) (fun _ _ _ _ _ _ us hl => match us, hl with | [_, _], _ => rfl),
    F_is_whole := (fund_mk (K := K) (x := "is_whole") (qual := "is_whole") (st := s_is_whole) (dvs := [V.non]) l7 c7 k7 (dfl_mk q7 r7 rfl s7 (by simp))),
    B_is_whole := fund_allD (fund_mk (K := K) (x := "is_whole") (qual := "is_whole") (st := s_is_whole) (dvs := [V.non]) l7 c7 k7 (dfl_mk q7 r7 rfl s7 (by simp))) (by simp) (fun _ _ _ _ _ _ _ us its hl h2 => match us, its, hl, h2 with | [_, _, _], [_], _, _ => ⟨_, rfl, rfl⟩),
    m_is_whole := PySem.W.mg_of X G a7,
    B1_is_whole := FunD.binds1 (fund_mk (K := K) (x := "is_whole") (qual := "is_whole") (st := s_is_whole) (dvs := [V.non]) l7 c7 k7 (dfl_mk q7 r7 rfl s7 (by simp))) 2 0 (by simp) (by decide) (fun _ _ _ _ _ _ _ us its h1 h2 => match us, its, h1, h2 with | [_, _], [_], _, _ => ⟨_, rfl, rfl⟩),
    F_is_word := (fund_mk (K := K) (x := "is_word") (qual := "is_word") (st := s_is_word) (dvs := []) l8 c8 k8 (.inl ⟨rfl, q8⟩)),
    B_is_word := fund_all0 (fund_mk (K := K) (x := "is_word") (qual := "is_word") (st := s_is_word) (dvs := []) l8 c8 k8 (.inl ⟨rfl, q8⟩)) (fun _ _ _ _ _ _ us hl => match us, hl with | [_], _ => rfl),
    m_is_word := PySem.W.mg_of X G a8,
    F_are_members := (fund_mk (K := K) (x := "are_members") (qual := "are_members") (st := s_are_members) (dvs := []) l9 c9 k9 (.inl ⟨rfl, q9⟩)),
    B_are_members := fund_all0 (fund_mk (K := K) (x := "are_members") (qual := "are_members") (st := s_are_members) (dvs := []) l9 c9 k9 (.inl ⟨rfl, q9⟩)) (fun _ _ _ _ _ _ us hl => match us, hl with | [_], _ => rfl),
    m_are_members := PySem.W.mg_of X G a9,
    F_are_numbers := (fund_mk (K := K) (x := "are_numbers") (qual := "are_numbers") (st := s_are_numbers) (dvs := []) l10 c10 k10 (.inl ⟨rfl, q10⟩)),
    B_are_numbers := fund_all0 (fund_mk (K := K) (x := "are_numbers") (qual := "are_numbers") (st := s_are_numbers) (dvs := []) l10 c10 k10 (.inl ⟨rfl, q10⟩)) (fun _ _ _ _ _ _ us hl => match us, hl with | [_], _ => rfl),
    m_are_numbers := PySem.W.mg_of X G a10,
    F_Counts_init := (fund_mk (K := K) (x := "__init__") (qual := "Counts.__init__") (st := s_Counts_init) (dvs := []) l11 c11 k11 (.inl ⟨rfl, q11⟩)),
    B_Counts_init := fund_all0 (fund_mk (K := K) (x := "__init__") (qual := "Counts.__init__") (st := s_Counts_init) (dvs := []) l11 c11 k11 (.inl ⟨rfl, q11⟩)) (fun _ _ _ _ _ _ us hl => match us, hl with | [_, _], _ => rfl),
    F_Counts_len := (fund_mk (K := K) (x := "__len__") (qual := "Counts.__len__") (st := s_Counts_len) (dvs := []) l13 c13 k13 (.inl ⟨rfl, q13⟩)),
    B_Counts_len := fund_all0 (fund_mk (K := K) (x := "__len__") (qual := "Counts.__len__") (st := s_Counts_len) (dvs := []) l13 c13 k13 (.inl ⟨rfl, q13⟩)) (fun _ _ _ _ _ _ us hl => match us, hl with | [_], _ => rfl),
    M_Counts_len := ⟨a13, i13, k13⟩,
    F_Counts_told := (fund_mk (K := K) (x := "told") (qual := "Counts.told") (st := s_Counts_told) (dvs := []) l16 c16 k16 (.inl ⟨rfl, q16⟩)),
    B_Counts_told := fund_all0 (fund_mk (K := K) (x := "told") (qual := "Counts.told") (st := s_Counts_told) (dvs := []) l16 c16 k16 (.inl ⟨rfl, q16⟩)) (fun _ _ _ _ _ _ us hl => match us, hl with | [_], _ => rfl),
    M_Counts_told := ⟨a16, i16, k16⟩,
    F_Counts_need_member := (fund_mk (K := K) (x := "need_member") (qual := "Counts.need_member") (st := s_Counts_need_member) (dvs := []) l17 c17 k17 (.inl ⟨rfl, q17⟩)),
    B_Counts_need_member := fund_all0 (fund_mk (K := K) (x := "need_member") (qual := "Counts.need_member") (st := s_Counts_need_member) (dvs := []) l17 c17 k17 (.inl ⟨rfl, q17⟩)) (fun _ _ _ _ _ _ us hl => match us, hl with | [_, _], _ => rfl),
    M_Counts_need_member := ⟨a17, i17, k17⟩,
    F_Counts_of := (fund_mk (K := K) (x := "of") (qual := "Counts.of") (st := s_Counts_of) (dvs := []) l19 c19 k19 (.inl ⟨rfl, q19⟩)),
    B_Counts_of := fund_all0 (fund_mk (K := K) (x := "of") (qual := "Counts.of") (st := s_Counts_of) (dvs := []) l19 c19 k19 (.inl ⟨rfl, q19⟩)) (fun _ _ _ _ _ _ us hl => match us, hl with | [_, _], _ => rfl),
    M_Counts_of := ⟨a19, i19, k19⟩,
    F_Letter_init := (fund_mk (K := K) (x := "__init__") (qual := "Letter.__init__") (st := s_Letter_init) (dvs := []) l28 c28 k28 (.inl ⟨rfl, q28⟩)),
    B_Letter_init := fund_all0 (fund_mk (K := K) (x := "__init__") (qual := "Letter.__init__") (st := s_Letter_init) (dvs := []) l28 c28 k28 (.inl ⟨rfl, q28⟩)) (fun _ _ _ _ _ _ us hl => match us, hl with | [_, _, _, _, _], _ => rfl),
    F_fits_sent := (fund_mk (K := K) (x := "fits_sent") (qual := "fits_sent") (st := s_fits_sent) (dvs := []) l38 c38 k38 (.inl ⟨rfl, q38⟩)),
    B_fits_sent := fund_all0 (fund_mk (K := K) (x := "fits_sent") (qual := "fits_sent") (st := s_fits_sent) (dvs := []) l38 c38 k38 (.inl ⟨rfl, q38⟩)) (fun _ _ _ _ _ _ us hl => match us, hl with | [_, _], _ => rfl),
    F_fits_got := (fund_mk (K := K) (x := "fits_got") (qual := "fits_got") (st := s_fits_got) (dvs := []) l39 c39 k39 (.inl ⟨rfl, q39⟩)),
    B_fits_got := fund_all0 (fund_mk (K := K) (x := "fits_got") (qual := "fits_got") (st := s_fits_got) (dvs := []) l39 c39 k39 (.inl ⟨rfl, q39⟩)) (fun _ _ _ _ _ _ us hl => match us, hl with | [_, _], _ => rfl),
    F_fits_told := (fund_mk (K := K) (x := "fits_told") (qual := "fits_told") (st := s_fits_told) (dvs := []) l40 c40 k40 (.inl ⟨rfl, q40⟩)),
    B_fits_told := fund_all0 (fund_mk (K := K) (x := "fits_told") (qual := "fits_told") (st := s_fits_told) (dvs := []) l40 c40 k40 (.inl ⟨rfl, q40⟩)) (fun _ _ _ _ _ _ us hl => match us, hl with | [_, _], _ => rfl),
    F_is_row := (fund_mk (K := K) (x := "is_row") (qual := "is_row") (st := s_is_row) (dvs := []) l41 c41 k41 (.inl ⟨rfl, q41⟩)),
    B_is_row := fund_all0 (fund_mk (K := K) (x := "is_row") (qual := "is_row") (st := s_is_row) (dvs := []) l41 c41 k41 (.inl ⟨rfl, q41⟩)) (fun _ _ _ _ _ _ us hl => match us, hl with | [_, _], _ => rfl),
    m_is_row := PySem.W.mg_of X G a41,
    F_is_history := (fund_mk (K := K) (x := "is_history") (qual := "is_history") (st := s_is_history) (dvs := []) l42 c42 k42 (.inl ⟨rfl, q42⟩)),
    B_is_history := fund_all0 (fund_mk (K := K) (x := "is_history") (qual := "is_history") (st := s_is_history) (dvs := []) l42 c42 k42 (.inl ⟨rfl, q42⟩)) (fun _ _ _ _ _ _ us hl => match us, hl with | [_, _], _ => rfl),
    m_is_history := PySem.W.mg_of X G a42,
    F_need_history := (fund_mk (K := K) (x := "need_history") (qual := "need_history") (st := s_need_history) (dvs := []) l43 c43 k43 (.inl ⟨rfl, q43⟩)),
    B_need_history := fund_all0 (fund_mk (K := K) (x := "need_history") (qual := "need_history") (st := s_need_history) (dvs := []) l43 c43 k43 (.inl ⟨rfl, q43⟩)) (fun _ _ _ _ _ _ us hl => match us, hl with | [_, _], _ => rfl),
    m_need_history := PySem.W.mg_of X G a43,
    F_HistoryWalk_init := (fund_mk (K := K) (x := "__init__") (qual := "HistoryWalk.__init__") (st := s_HistoryWalk_init) (dvs := []) l44 c44 k44 (.inl ⟨rfl, q44⟩)),
    B_HistoryWalk_init := fund_all0 (fund_mk (K := K) (x := "__init__") (qual := "HistoryWalk.__init__") (st := s_HistoryWalk_init) (dvs := []) l44 c44 k44 (.inl ⟨rfl, q44⟩)) (fun _ _ _ _ _ _ us hl => match us, hl with | [_, _], _ => rfl),
    F_HistoryWalk_why_not_got := (fund_mk (K := K) (x := "why_not_got") (qual := "HistoryWalk.why_not_got") (st := s_HistoryWalk_why_not_got) (dvs := []) l45 c45 k45 (.inl ⟨rfl, q45⟩)),
    B_HistoryWalk_why_not_got := fund_all0 (fund_mk (K := K) (x := "why_not_got") (qual := "HistoryWalk.why_not_got") (st := s_HistoryWalk_why_not_got) (dvs := []) l45 c45 k45 (.inl ⟨rfl, q45⟩)) (fun _ _ _ _ _ _ us hl => match us, hl with | [_, _, _, _], _ => rfl),
    M_HistoryWalk_why_not_got := ⟨a45, i45, k45⟩,
    F_HistoryWalk_told_otherwise := (fund_mk (K := K) (x := "told_otherwise") (qual := "HistoryWalk.told_otherwise") (st := s_HistoryWalk_told_otherwise) (dvs := []) l46 c46 k46 (.inl ⟨rfl, q46⟩)),
    B_HistoryWalk_told_otherwise := fund_all0 (fund_mk (K := K) (x := "told_otherwise") (qual := "HistoryWalk.told_otherwise") (st := s_HistoryWalk_told_otherwise) (dvs := []) l46 c46 k46 (.inl ⟨rfl, q46⟩)) (fun _ _ _ _ _ _ us hl => match us, hl with | [_, _, _, _], _ => rfl),
    M_HistoryWalk_told_otherwise := ⟨a46, i46, k46⟩,
    F_HistoryWalk_why_not_told := (fund_mk (K := K) (x := "why_not_told") (qual := "HistoryWalk.why_not_told") (st := s_HistoryWalk_why_not_told) (dvs := []) l47 c47 k47 (.inl ⟨rfl, q47⟩)),
    B_HistoryWalk_why_not_told := fund_all0 (fund_mk (K := K) (x := "why_not_told") (qual := "HistoryWalk.why_not_told") (st := s_HistoryWalk_why_not_told) (dvs := []) l47 c47 k47 (.inl ⟨rfl, q47⟩)) (fun _ _ _ _ _ _ us hl => match us, hl with | [_, _, _, _, _], _ => rfl),
    M_HistoryWalk_why_not_told := ⟨a47, i47, k47⟩,
    F_HistoryWalk_why_not := (fund_mk (K := K) (x := "why_not") (qual := "HistoryWalk.why_not") (st := s_HistoryWalk_why_not) (dvs := []) l48 c48 k48 (.inl ⟨rfl, q48⟩)),
    B_HistoryWalk_why_not := fund_all0 (fund_mk (K := K) (x := "why_not") (qual := "HistoryWalk.why_not") (st := s_HistoryWalk_why_not) (dvs := []) l48 c48 k48 (.inl ⟨rfl, q48⟩)) (fun _ _ _ _ _ _ us hl => match us, hl with | [_, _], _ => rfl),
    M_HistoryWalk_why_not := ⟨a48, i48, k48⟩,
    F_HistoryWalk_go_sent := (fund_mk (K := K) (x := "go_sent") (qual := "HistoryWalk.go_sent") (st := s_HistoryWalk_go_sent) (dvs := []) l49 c49 k49 (.inl ⟨rfl, q49⟩)),
    B_HistoryWalk_go_sent := fund_all0 (fund_mk (K := K) (x := "go_sent") (qual := "HistoryWalk.go_sent") (st := s_HistoryWalk_go_sent) (dvs := []) l49 c49 k49 (.inl ⟨rfl, q49⟩)) (fun _ _ _ _ _ _ us hl => match us, hl with | [_, _, _], _ => rfl),
    M_HistoryWalk_go_sent := ⟨a49, i49, k49⟩,
    F_HistoryWalk_go_got := (fund_mk (K := K) (x := "go_got") (qual := "HistoryWalk.go_got") (st := s_HistoryWalk_go_got) (dvs := []) l50 c50 k50 (.inl ⟨rfl, q50⟩)),
    B_HistoryWalk_go_got := fund_all0 (fund_mk (K := K) (x := "go_got") (qual := "HistoryWalk.go_got") (st := s_HistoryWalk_go_got) (dvs := []) l50 c50 k50 (.inl ⟨rfl, q50⟩)) (fun _ _ _ _ _ _ us hl => match us, hl with | [_, _, _], _ => rfl),
    M_HistoryWalk_go_got := ⟨a50, i50, k50⟩,
    F_HistoryWalk_go_told := (fund_mk (K := K) (x := "go_told") (qual := "HistoryWalk.go_told") (st := s_HistoryWalk_go_told) (dvs := []) l51 c51 k51 (.inl ⟨rfl, q51⟩)),
    B_HistoryWalk_go_told := fund_all0 (fund_mk (K := K) (x := "go_told") (qual := "HistoryWalk.go_told") (st := s_HistoryWalk_go_told) (dvs := []) l51 c51 k51 (.inl ⟨rfl, q51⟩)) (fun _ _ _ _ _ _ us hl => match us, hl with | [_, _, _], _ => rfl),
    M_HistoryWalk_go_told := ⟨a51, i51, k51⟩,
    F_HistoryWalk_go_on := (fund_mk (K := K) (x := "go_on") (qual := "HistoryWalk.go_on") (st := s_HistoryWalk_go_on) (dvs := []) l52 c52 k52 (.inl ⟨rfl, q52⟩)),
    B_HistoryWalk_go_on := fund_all0 (fund_mk (K := K) (x := "go_on") (qual := "HistoryWalk.go_on") (st := s_HistoryWalk_go_on) (dvs := []) l52 c52 k52 (.inl ⟨rfl, q52⟩)) (fun _ _ _ _ _ _ us hl => match us, hl with | [_, _], _ => rfl),
    M_HistoryWalk_go_on := ⟨a52, i52, k52⟩,
    F_first_wrong := (fund_mk (K := K) (x := "first_wrong") (qual := "first_wrong") (st := s_first_wrong) (dvs := []) l53 c53 k53 (.inl ⟨rfl, q53⟩)),
    B_first_wrong := fund_all0 (fund_mk (K := K) (x := "first_wrong") (qual := "first_wrong") (st := s_first_wrong) (dvs := []) l53 c53 k53 (.inl ⟨rfl, q53⟩)) (fun _ _ _ _ _ _ us hl => match us, hl with | [_, _], _ => rfl),
    m_first_wrong := PySem.W.mg_of X G a53,
    F__law_cell_at := (fund_mk (K := K) (x := "_law_cell_at") (qual := "_law_cell_at") (st := s__law_cell_at) (dvs := []) l54 c54 k54 (.inl ⟨rfl, q54⟩)),
    B__law_cell_at := fund_all0 (fund_mk (K := K) (x := "_law_cell_at") (qual := "_law_cell_at") (st := s__law_cell_at) (dvs := []) l54 c54 k54 (.inl ⟨rfl, q54⟩)) (fun _ _ _ _ _ _ us hl => match us, hl with | [_, _], _ => rfl),
    m__law_cell_at := PySem.W.mg_of X G a54,
    F__law_pool := (fund_mk (K := K) (x := "_law_pool") (qual := "_law_pool") (st := s__law_pool) (dvs := []) l55 c55 k55 (.inl ⟨rfl, q55⟩)),
    B__law_pool := fund_all0 (fund_mk (K := K) (x := "_law_pool") (qual := "_law_pool") (st := s__law_pool) (dvs := []) l55 c55 k55 (.inl ⟨rfl, q55⟩)) (fun _ _ _ _ _ _ us hl => match us, hl with | [_], _ => rfl),
    m__law_pool := PySem.W.mg_of X G a55,
    F__law_take := (fund_mk (K := K) (x := "_law_take") (qual := "_law_take") (st := s__law_take) (dvs := []) l56 c56 k56 (.inl ⟨rfl, q56⟩)),
    B__law_take := fund_all0 (fund_mk (K := K) (x := "_law_take") (qual := "_law_take") (st := s__law_take) (dvs := []) l56 c56 k56 (.inl ⟨rfl, q56⟩)) (fun _ _ _ _ _ _ us hl => match us, hl with | [_, _], _ => rfl),
    m__law_take := PySem.W.mg_of X G a56,
    F__law_model := (fund_mk (K := K) (x := "_law_model") (qual := "_law_model") (st := s__law_model) (dvs := []) l57 c57 k57 (.inl ⟨rfl, q57⟩)),
    B__law_model := fund_all0 (fund_mk (K := K) (x := "_law_model") (qual := "_law_model") (st := s__law_model) (dvs := []) l57 c57 k57 (.inl ⟨rfl, q57⟩)) (fun _ _ _ _ _ _ us hl => match us, hl with | [_], _ => rfl),
    m__law_model := PySem.W.mg_of X G a57,
    F__law_otherwise := (fund_mk (K := K) (x := "_law_otherwise") (qual := "_law_otherwise") (st := s__law_otherwise) (dvs := []) l58 c58 k58 (.inl ⟨rfl, q58⟩)),
    B__law_otherwise := fund_all0 (fund_mk (K := K) (x := "_law_otherwise") (qual := "_law_otherwise") (st := s__law_otherwise) (dvs := []) l58 c58 k58 (.inl ⟨rfl, q58⟩)) (fun _ _ _ _ _ _ us hl => match us, hl with | [_, _, _, _], _ => rfl),
    m__law_otherwise := PySem.W.mg_of X G a58,
    F__law_has := (fund_mk (K := K) (x := "_law_has") (qual := "_law_has") (st := s__law_has) (dvs := []) l59 c59 k59 (.inl ⟨rfl, q59⟩)),
    B__law_has := fund_all0 (fund_mk (K := K) (x := "_law_has") (qual := "_law_has") (st := s__law_has) (dvs := []) l59 c59 k59 (.inl ⟨rfl, q59⟩)) (fun _ _ _ _ _ _ us hl => match us, hl with | [_, _, _], _ => rfl),
    m__law_has := PySem.W.mg_of X G a59,
    F__law_why_got := (fund_mk (K := K) (x := "_law_why_got") (qual := "_law_why_got") (st := s__law_why_got) (dvs := []) l60 c60 k60 (.inl ⟨rfl, q60⟩)),
    B__law_why_got := fund_all0 (fund_mk (K := K) (x := "_law_why_got") (qual := "_law_why_got") (st := s__law_why_got) (dvs := []) l60 c60 k60 (.inl ⟨rfl, q60⟩)) (fun _ _ _ _ _ _ us hl => match us, hl with | [_, _, _], _ => rfl),
    m__law_why_got := PySem.W.mg_of X G a60,
    F__law_why := (fund_mk (K := K) (x := "_law_why") (qual := "_law_why") (st := s__law_why) (dvs := []) l61 c61 k61 (.inl ⟨rfl, q61⟩)),
    B__law_why := fund_all0 (fund_mk (K := K) (x := "_law_why") (qual := "_law_why") (st := s__law_why) (dvs := []) l61 c61 k61 (.inl ⟨rfl, q61⟩)) (fun _ _ _ _ _ _ us hl => match us, hl with | [_, _], _ => rfl),
    m__law_why := PySem.W.mg_of X G a61,
    F__law_go := (fund_mk (K := K) (x := "_law_go") (qual := "_law_go") (st := s__law_go) (dvs := []) l62 c62 k62 (.inl ⟨rfl, q62⟩)),
    B__law_go := fund_all0 (fund_mk (K := K) (x := "_law_go") (qual := "_law_go") (st := s__law_go) (dvs := []) l62 c62 k62 (.inl ⟨rfl, q62⟩)) (fun _ _ _ _ _ _ us hl => match us, hl with | [_, _], _ => rfl),
    m__law_go := PySem.W.mg_of X G a62,
    F__law_may := (fund_mk (K := K) (x := "_law_may") (qual := "_law_may") (st := s__law_may) (dvs := []) l63 c63 k63 (.inl ⟨rfl, q63⟩)),
    B__law_may := fund_all0 (fund_mk (K := K) (x := "_law_may") (qual := "_law_may") (st := s__law_may) (dvs := []) l63 c63 k63 (.inl ⟨rfl, q63⟩)) (fun _ _ _ _ _ _ us hl => match us, hl with | [_, _], _ => rfl),
    m__law_may := PySem.W.mg_of X G a63,
    F__law_word := (fund_mk (K := K) (x := "_law_word") (qual := "_law_word") (st := s__law_word) (dvs := []) l64 c64 k64 (.inl ⟨rfl, q64⟩)),
    B__law_word := fund_all0 (fund_mk (K := K) (x := "_law_word") (qual := "_law_word") (st := s__law_word) (dvs := []) l64 c64 k64 (.inl ⟨rfl, q64⟩)) (fun _ _ _ _ _ _ us hl => match us, hl with | [_], _ => rfl),
    m__law_word := PySem.W.mg_of X G a64,
    F__law_new_row := (fund_mk (K := K) (x := "_law_new_row") (qual := "_law_new_row") (st := s__law_new_row) (dvs := []) l65 c65 k65 (.inl ⟨rfl, q65⟩)),
    B__law_new_row := fund_all0 (fund_mk (K := K) (x := "_law_new_row") (qual := "_law_new_row") (st := s__law_new_row) (dvs := []) l65 c65 k65 (.inl ⟨rfl, q65⟩)) (fun _ _ _ _ _ _ us hl => match us, hl with | [_, _, _, _], _ => rfl),
    m__law_new_row := PySem.W.mg_of X G a65,
    F__law_rows := (fund_mk (K := K) (x := "_law_rows") (qual := "_law_rows") (st := s__law_rows) (dvs := []) l66 c66 k66 (.inl ⟨rfl, q66⟩)),
    B__law_rows := fund_all0 (fund_mk (K := K) (x := "_law_rows") (qual := "_law_rows") (st := s__law_rows) (dvs := []) l66 c66 k66 (.inl ⟨rfl, q66⟩)) (fun _ _ _ _ _ _ us hl => match us, hl with | [_, _, _], _ => rfl),
    m__law_rows := PySem.W.mg_of X G a66,
    F__law_due := (fund_mk (K := K) (x := "_law_due") (qual := "_law_due") (st := s__law_due) (dvs := []) l67 c67 k67 (.inl ⟨rfl, q67⟩)),
    B__law_due := fund_all0 (fund_mk (K := K) (x := "_law_due") (qual := "_law_due") (st := s__law_due) (dvs := []) l67 c67 k67 (.inl ⟨rfl, q67⟩)) (fun _ _ _ _ _ _ us hl => match us, hl with | [_, _], _ => rfl),
    m__law_due := PySem.W.mg_of X G a67,
    F__law_part := (fund_mk (K := K) (x := "_law_part") (qual := "_law_part") (st := s__law_part) (dvs := []) l68 c68 k68 (.inl ⟨rfl, q68⟩)),
    B__law_part := fund_all0 (fund_mk (K := K) (x := "_law_part") (qual := "_law_part") (st := s__law_part) (dvs := []) l68 c68 k68 (.inl ⟨rfl, q68⟩)) (fun _ _ _ _ _ _ us hl => match us, hl with | [_, _, _], _ => rfl),
    m__law_part := PySem.W.mg_of X G a68,
    F__law_changed := (fund_mk (K := K) (x := "_law_changed") (qual := "_law_changed") (st := s__law_changed) (dvs := []) l69 c69 k69 (.inl ⟨rfl, q69⟩)),
    B__law_changed := fund_all0 (fund_mk (K := K) (x := "_law_changed") (qual := "_law_changed") (st := s__law_changed) (dvs := []) l69 c69 k69 (.inl ⟨rfl, q69⟩)) (fun _ _ _ _ _ _ us hl => match us, hl with | [_, _, _], _ => rfl),
    m__law_changed := PySem.W.mg_of X G a69,
    F_law := (fund_mk (K := K) (x := "law") (qual := "law") (st := s_law) (dvs := []) l70 c70 k70 (.inl ⟨rfl, q70⟩)),
    g_LETTERS := ⟨_, PySem.W.mg_of X G gl0, gr0⟩,
    g_LONGEST_WORD := ⟨_, PySem.W.mg_of X G gl1, gr1⟩,
    g_LEAST_MEMBERS := ⟨_, PySem.W.mg_of X G gl2, gr2⟩,
    g_MOST_MEMBERS := ⟨_, PySem.W.mg_of X G gl3, gr3⟩,
    g_MOST_LETTERS := ⟨_, PySem.W.mg_of X G gl4, gr4⟩,
    g_LAST_MEMBER := ⟨_, PySem.W.mg_of X G gl5, gr5⟩,
    g_MOST_ROWS := ⟨_, PySem.W.mg_of X G gl6, gr6⟩,
    g_MOST_SENT := ⟨_, PySem.W.mg_of X G gl7, gr7⟩,
    m_FORMS := PySem.W.mg_of X G aD0,
    d_FORMS_sent := ⟨⟨_, _, _, jA0, jB0, jC0_sent, rfl⟩, jD0⟩,
    d_FORMS_got := ⟨⟨_, _, _, jA0, jB0, jC0_got, rfl⟩, jD0⟩,
    d_FORMS_told := ⟨⟨_, _, _, jA0, jB0, jC0_told, rfl⟩, jD0⟩,
    b_all := PySem.W.mg_none_of X G z36,
    b_any := PySem.W.mg_none_of X G z37,
    b_bool := PySem.W.mg_none_of X G z40,
    b_enumerate := PySem.W.mg_none_of X G z41,
    b_int := PySem.W.mg_none_of X G z43,
    b_isinstance := PySem.W.mg_none_of X G z48,
    b_len := PySem.W.mg_none_of X G z49,
    b_list := PySem.W.mg_none_of X G z50,
    b_max := PySem.W.mg_none_of X G z51,
    b_range := PySem.W.mg_none_of X G z53,
    b_str := PySem.W.mg_none_of X G z54,
    b_tuple := PySem.W.mg_none_of X G z55,
    b_zip := PySem.W.mg_none_of X G z56
  }
  exact ⟨_, fun s v => (fund_mk (K := K) (x := "law") (qual := "law") (st := s_law) (dvs := []) l70 c70 k70 (.inl ⟨rfl, q70⟩)).bindsA (ps := ["script"]) (fun _ _ _ _ _ _ us hl => match us, hl with | [_], _ => rfl) s [v] rfl, fun base _ _ => ok_law T⟩
theorem walk {l : PySem.W.OpenLaw} {q : Program} {loose : List Str} {XP : (Str → Option Value) → Heap → Prop} {YP : World → Heap → Prop} {d : DefRec} {K : Params → PySem.W.Frag} (hn : l.most = some 63) (hdf : d.params.defaults = [])
    (hY : ∀ (w : World) (h : Heap), YP w h → (K w.params).In h)
    (F : ∀ (w : World) (mg : Str → Option Value) (fa : Addr) (h : Heap), (K w.params).In h → h.Ns mainGlobals mg → mg d.name = some (.ref fa) →
      ∃ fd : FuncData, (∀ (s : Shared) (u : Value), BindsTo s fd ⟨[u], []⟩ [("script", u)]) ∧ ∀ base : Heap, (K w.params).In base → base.Ns mainGlobals mg → FnOk l.prog w (K w.params) mg base CX0 10 fa fd ["script"] (spLaw (K w.params))) :
    PySem.W.WalkO q loose XP YP l.row.toRowW d [] (fun f vs => PySem.call f vs) :=
  L2.walk_of (n := 63) (k := 10) (x := "script") (CX := fun _ => CX0) (sp := fun w => spLaw (K w.params)) hn (by decide) hdf ⟨rfl, by decide, by decide⟩ hY F (fun _ _ b ns hl _ hS => ⟨b, ns, rfl, hS, hl, fun _ => rfl⟩) fun _ _ _ _ _ z => z
end My
open PySem PySem.W PyProof.Rows
set_option maxRecDepth 100000 in
set_option maxHeartbeats 0 in
theorem PySem.Challenge.cw_causehall_k15_whole_one_row_changed_holds : PySem.Challenge.rw_causehall_k15_whole_one_row_changed.Holds := by
  w_on; o_law; k_head; (case hw => w_witness2)
  k_fill
  refine My.walk (l := PySem.Challenge.rw_causehall_k15_whole_one_row_changed) rfl rfl (fun w h Y => PySem.W.kIn_of Y) ?F
  case F =>
    intro w mg fa h KX G hmg
    refine' My.all_mk KX G hmg ?aC0 ?aC1 ?aC2 ?aC3 ?aC4 ?aC5 ?aC6 ?aC7 ?aC8 ?aC9 ?a1 ?i1 ?l1 ?c1 ?k1 ?q1 ?a2 ?i2 ?l2 ?c2 ?k2 ?q2 ?a3 ?i3 ?l3 ?c3 ?k3 ?q3 ?a4 ?i4 ?l4 ?c4 ?k4 ?q4 ?a5 ?i5 ?l5 ?c5 ?k5 ?q5 ?a6 ?i6 ?l6 ?c6 ?k6 ?q6 ?a7 ?l7 ?c7 ?k7 ?q7 ?r7 ?s7 ?a8 ?l8 ?c8 ?k8 ?q8 ?a9 ?l9 ?c9 ?k9 ?q9 ?a10 ?l10 ?c10 ?k10 ?q10 ?a11 ?i11 ?l11 ?c11 ?k11 ?q11 ?a13 ?i13 ?l13 ?c13 ?k13 ?q13 ?a16 ?i16 ?l16 ?c16 ?k16 ?q16 ?a17 ?i17 ?l17 ?c17 ?k17 ?q17 ?a19 ?i19 ?l19 ?c19 ?k19 ?q19 ?a28 ?i28 ?l28 ?c28 ?k28 ?q28 ?a38 ?l38 ?c38 ?k38 ?q38 ?a39 ?l39 ?c39 ?k39 ?q39 ?a40 ?l40 ?c40 ?k40 ?q40 ?a41 ?l41 ?c41 ?k41 ?q41 ?a42 ?l42 ?c42 ?k42 ?q42 ?a43 ?l43 ?c43 ?k43 ?q43 ?a44 ?i44 ?l44 ?c44 ?k44 ?q44 ?a45 ?i45 ?l45 ?c45 ?k45 ?q45 ?a46 ?i46 ?l46 ?c46 ?k46 ?q46 ?a47 ?i47 ?l47 ?c47 ?k47 ?q47 ?a48 ?i48 ?l48 ?c48 ?k48 ?q48 ?a49 ?i49 ?l49 ?c49 ?k49 ?q49 ?a50 ?i50 ?l50 ?c50 ?k50 ?q50 ?a51 ?i51 ?l51 ?c51 ?k51 ?q51 ?a52 ?i52 ?l52 ?c52 ?k52 ?q52 ?a53 ?l53 ?c53 ?k53 ?q53 ?a54 ?l54 ?c54 ?k54 ?q54 ?a55 ?l55 ?c55 ?k55 ?q55 ?a56 ?l56 ?c56 ?k56 ?q56 ?a57 ?l57 ?c57 ?k57 ?q57 ?a58 ?l58 ?c58 ?k58 ?q58 ?a59 ?l59 ?c59 ?k59 ?q59 ?a60 ?l60 ?c60 ?k60 ?q60 ?a61 ?l61 ?c61 ?k61 ?q61 ?a62 ?l62 ?c62 ?k62 ?q62 ?a63 ?l63 ?c63 ?k63 ?q63 ?a64 ?l64 ?c64 ?k64 ?q64 ?a65 ?l65 ?c65 ?k65 ?q65 ?a66 ?l66 ?c66 ?k66 ?q66 ?a67 ?l67 ?c67 ?k67 ?q67 ?a68 ?l68 ?c68 ?k68 ?q68 ?a69 ?l69 ?c69 ?k69 ?q69 ?a70 ?l70 ?c70 ?k70 ?q70 ?gl0 ?gr0 ?gl1 ?gr1 ?gl2 ?gr2 ?gl3 ?gr3 ?gl4 ?gr4 ?gl5 ?gr5 ?gl6 ?gr6 ?gl7 ?gr7 ?aD0 ?ga0 ?ga1 ?ga2 ?ga3 ?ga4 ?ga5 ?ga6 ?gg0 ?gg1 ?gg2 ?gg3 ?gg4 ?gg5 ?gg6 ?hd0 ?hd1 ?hd2 ?hd3 ?hd4 ?hd5 ?hd6 ?hd7 ?hd8 ?hd9 ?hf0 ?hn ?hq0 ?hs0 ?htk ?ia0 ?ia1 ?ia2 ?ia3 ?ia4 ?ia5 ?ia6 ?ia7 ?ia8 ?ia9 ?ic0 ?ic1 ?ic2 ?ic3 ?ic4 ?ic5 ?ic6 ?ic7 ?ic8 ?ic9 ?ii7NoneType ?ii7bool ?ii7dict ?ii7int ?ii7list ?ii7str ?ii7tuple ?ii8NoneType ?ii8bool ?ii8dict ?ii8int ?ii8list ?ii8str ?ii8tuple ?ii9NoneType ?ii9bool ?ii9dict ?ii9int ?ii9list ?ii9str ?ii9tuple ?im0 ?im1 ?im2 ?im3 ?im4 ?im5 ?im6 ?im7 ?im8 ?im9 ?io7bool ?io7dict ?io7int ?io7list ?io7str ?io7tuple ?io8bool ?io8dict ?io8int ?io8list ?io8str ?io8tuple ?io9bool ?io9dict ?io9int ?io9list ?io9str ?io9tuple ?it0 ?it1 ?it2 ?it3 ?it4 ?it5 ?it6 ?it7 ?it8 ?it9 ?jA0 ?jB0 ?jC0_got ?jC0_sent ?jC0_told ?jD0 ?kc1 ?kc2 ?kc3 ?kc4 ?kc5 ?kc6 ?kc7 ?kc8 ?kc9 ?mk7 ?mk8 ?mk9 ?n1_found ?n2_found ?n3_found ?n4_found ?n5_found ?n6_found ?n7_kept_numbers ?n8_own_causes ?n8_own_number ?n8_own_sender ?n8_own_word ?n9_got_counts ?n9_got_ids ?n9_kept_letters ?n9_kept_rows ?n9_longest_row ?n9_told_counts ?n9_told_ids ?ne1_0 ?ne1_2 ?ne1_3 ?ne1_4 ?ne1_5 ?ne1_6 ?ne2_0 ?ne2_1 ?ne2_3 ?ne2_4 ?ne2_5 ?ne2_6 ?ne3_0 ?ne3_1 ?ne3_2 ?ne3_4 ?ne3_5 ?ne3_6 ?ne4_0 ?ne4_1 ?ne4_2 ?ne4_3 ?ne4_5 ?ne4_6 ?ne5_0 ?ne5_1 ?ne5_2 ?ne5_3 ?ne5_4 ?ne5_6 ?ne6_0 ?ne6_1 ?ne6_2 ?ne6_3 ?ne6_4 ?ne6_5 ?ne7_8 ?ne7_9 ?ne8_7 ?ne8_9 ?ne9_7 ?ne9_8 ?pg7 ?pg8 ?pg9 ?po7 ?po8 ?po9 ?sa1 ?sa2 ?sa3 ?sa4 ?sa5 ?sa6 ?sa7 ?sa8 ?sa9 ?sx0 ?sx1 ?sx2 ?sx3 ?sx4 ?sx5 ?sx6 ?tf1 ?tf2 ?tf3 ?tf4 ?tf5 ?tf6 ?x1_0 ?x1_1 ?x1_2 ?x1_3 ?x1_4 ?x1_5 ?x1_6 ?x2_0 ?x2_1 ?x2_2 ?x2_3 ?x2_4 ?x2_5 ?x2_6 ?x3_0 ?x3_1 ?x3_2 ?x3_3 ?x3_4 ?x3_5 ?x3_6 ?x4_0 ?x4_1 ?x4_2 ?x4_3 ?x4_4 ?x4_5 ?x4_6 ?x5_0 ?x5_1 ?x5_2 ?x5_3 ?x5_4 ?x5_5 ?x5_6 ?x6_0 ?x6_1 ?x6_2 ?x6_3 ?x6_4 ?x6_5 ?x6_6 ?x7_8 ?x7_9 ?x8_7 ?x8_9 ?x9_7 ?x9_8 ?xL1 ?xL2 ?xL3 ?xL4 ?xL5 ?xL6 ?xM1 ?xM2 ?xM3 ?xM4 ?xM5 ?xM6 ?z36 ?z37 ?z40 ?z41 ?z43 ?z48 ?z49 ?z50 ?z51 ?z53 ?z54 ?z55 ?z56
    (case aC0 => k_is)
    (case aC1 => k_is)
    (case aC2 => k_is)
    (case aC3 => k_is)
    (case aC4 => k_is)
    (case aC5 => k_is)
    (case aC6 => k_is)
    (case aC7 => k_is)
    (case aC8 => k_is)
    (case aC9 => k_is)
    (case a1 => k_is)
    (case i1 => k_is)
    (case l1 => k_is)
    (case c1 => k_is)
    (case k1 => k_is)
    (case q1 => rfl)
    (case a2 => k_is)
    (case i2 => k_is)
    (case l2 => k_is)
    (case c2 => k_is)
    (case k2 => k_is)
    (case q2 => rfl)
    (case a3 => k_is)
    (case i3 => k_is)
    (case l3 => k_is)
    (case c3 => k_is)
    (case k3 => k_is)
    (case q3 => rfl)
    (case a4 => k_is)
    (case i4 => k_is)
    (case l4 => k_is)
    (case c4 => k_is)
    (case k4 => k_is)
    (case q4 => rfl)
    (case a5 => k_is)
    (case i5 => k_is)
    (case l5 => k_is)
    (case c5 => k_is)
    (case k5 => k_is)
    (case q5 => rfl)
    (case a6 => k_is)
    (case i6 => k_is)
    (case l6 => k_is)
    (case c6 => k_is)
    (case k6 => k_is)
    (case q6 => rfl)
    (case a7 => k_is)
    (case l7 => k_is)
    (case c7 => k_is)
    (case k7 => k_is)
    (case q7 => rfl)
    (case r7 => k_is)
    (case s7 => exact .cons rfl (.nil))
    (case a8 => k_is)
    (case l8 => k_is)
    (case c8 => k_is)
    (case k8 => k_is)
    (case q8 => rfl)
    (case a9 => k_is)
    (case l9 => k_is)
    (case c9 => k_is)
    (case k9 => k_is)
    (case q9 => rfl)
    (case a10 => k_is)
    (case l10 => k_is)
    (case c10 => k_is)
    (case k10 => k_is)
    (case q10 => rfl)
    (case a11 => k_is)
    (case i11 => k_is)
    (case l11 => k_is)
    (case c11 => k_is)
    (case k11 => k_is)
    (case q11 => rfl)
    (case a13 => k_is)
    (case i13 => k_is)
    (case l13 => k_is)
    (case c13 => k_is)
    (case k13 => k_is)
    (case q13 => rfl)
    (case a16 => k_is)
    (case i16 => k_is)
    (case l16 => k_is)
    (case c16 => k_is)
    (case k16 => k_is)
    (case q16 => rfl)
    (case a17 => k_is)
    (case i17 => k_is)
    (case l17 => k_is)
    (case c17 => k_is)
    (case k17 => k_is)
    (case q17 => rfl)
    (case a19 => k_is)
    (case i19 => k_is)
    (case l19 => k_is)
    (case c19 => k_is)
    (case k19 => k_is)
    (case q19 => rfl)
    (case a28 => k_is)
    (case i28 => k_is)
    (case l28 => k_is)
    (case c28 => k_is)
    (case k28 => k_is)
    (case q28 => rfl)
    (case a38 => k_is)
    (case l38 => k_is)
    (case c38 => k_is)
    (case k38 => k_is)
    (case q38 => rfl)
    (case a39 => k_is)
    (case l39 => k_is)
    (case c39 => k_is)
    (case k39 => k_is)
    (case q39 => rfl)
    (case a40 => k_is)
    (case l40 => k_is)
    (case c40 => k_is)
    (case k40 => k_is)
    (case q40 => rfl)
    (case a41 => k_is)
    (case l41 => k_is)
    (case c41 => k_is)
    (case k41 => k_is)
    (case q41 => rfl)
    (case a42 => k_is)
    (case l42 => k_is)
    (case c42 => k_is)
    (case k42 => k_is)
    (case q42 => rfl)
    (case a43 => k_is)
    (case l43 => k_is)
    (case c43 => k_is)
    (case k43 => k_is)
    (case q43 => rfl)
    (case a44 => k_is)
    (case i44 => k_is)
    (case l44 => k_is)
    (case c44 => k_is)
    (case k44 => k_is)
    (case q44 => rfl)
    (case a45 => k_is)
    (case i45 => k_is)
    (case l45 => k_is)
    (case c45 => k_is)
    (case k45 => k_is)
    (case q45 => rfl)
    (case a46 => k_is)
    (case i46 => k_is)
    (case l46 => k_is)
    (case c46 => k_is)
    (case k46 => k_is)
    (case q46 => rfl)
    (case a47 => k_is)
    (case i47 => k_is)
    (case l47 => k_is)
    (case c47 => k_is)
    (case k47 => k_is)
    (case q47 => rfl)
    (case a48 => k_is)
    (case i48 => k_is)
    (case l48 => k_is)
    (case c48 => k_is)
    (case k48 => k_is)
    (case q48 => rfl)
    (case a49 => k_is)
    (case i49 => k_is)
    (case l49 => k_is)
    (case c49 => k_is)
    (case k49 => k_is)
    (case q49 => rfl)
    (case a50 => k_is)
    (case i50 => k_is)
    (case l50 => k_is)
    (case c50 => k_is)
    (case k50 => k_is)
    (case q50 => rfl)
    (case a51 => k_is)
    (case i51 => k_is)
    (case l51 => k_is)
    (case c51 => k_is)
    (case k51 => k_is)
    (case q51 => rfl)
    (case a52 => k_is)
    (case i52 => k_is)
    (case l52 => k_is)
    (case c52 => k_is)
    (case k52 => k_is)
    (case q52 => rfl)
    (case a53 => k_is)
    (case l53 => k_is)
    (case c53 => k_is)
    (case k53 => k_is)
    (case q53 => rfl)
    (case a54 => k_is)
    (case l54 => k_is)
    (case c54 => k_is)
    (case k54 => k_is)
    (case q54 => rfl)
    (case a55 => k_is)
    (case l55 => k_is)
    (case c55 => k_is)
    (case k55 => k_is)
    (case q55 => rfl)
    (case a56 => k_is)
    (case l56 => k_is)
    (case c56 => k_is)
    (case k56 => k_is)
    (case q56 => rfl)
    (case a57 => k_is)
    (case l57 => k_is)
    (case c57 => k_is)
    (case k57 => k_is)
    (case q57 => rfl)
    (case a58 => k_is)
    (case l58 => k_is)
    (case c58 => k_is)
    (case k58 => k_is)
    (case q58 => rfl)
    (case a59 => k_is)
    (case l59 => k_is)
    (case c59 => k_is)
    (case k59 => k_is)
    (case q59 => rfl)
    (case a60 => k_is)
    (case l60 => k_is)
    (case c60 => k_is)
    (case k60 => k_is)
    (case q60 => rfl)
    (case a61 => k_is)
    (case l61 => k_is)
    (case c61 => k_is)
    (case k61 => k_is)
    (case q61 => rfl)
    (case a62 => k_is)
    (case l62 => k_is)
    (case c62 => k_is)
    (case k62 => k_is)
    (case q62 => rfl)
    (case a63 => k_is)
    (case l63 => k_is)
    (case c63 => k_is)
    (case k63 => k_is)
    (case q63 => rfl)
    (case a64 => k_is)
    (case l64 => k_is)
    (case c64 => k_is)
    (case k64 => k_is)
    (case q64 => rfl)
    (case a65 => k_is)
    (case l65 => k_is)
    (case c65 => k_is)
    (case k65 => k_is)
    (case q65 => rfl)
    (case a66 => k_is)
    (case l66 => k_is)
    (case c66 => k_is)
    (case k66 => k_is)
    (case q66 => rfl)
    (case a67 => k_is)
    (case l67 => k_is)
    (case c67 => k_is)
    (case k67 => k_is)
    (case q67 => rfl)
    (case a68 => k_is)
    (case l68 => k_is)
    (case c68 => k_is)
    (case k68 => k_is)
    (case q68 => rfl)
    (case a69 => k_is)
    (case l69 => k_is)
    (case c69 => k_is)
    (case k69 => k_is)
    (case q69 => rfl)
    (case a70 => k_is)
    (case l70 => k_is)
    (case c70 => k_is)
    (case k70 => k_is)
    (case q70 => rfl)
    (case gl0 => k_is)
    (case gr0 => exact ⟨_, rfl⟩)
    (case gl1 => k_is)
    (case gr1 => exact ⟨_, rfl⟩)
    (case gl2 => k_is)
    (case gr2 => exact ⟨_, rfl⟩)
    (case gl3 => k_is)
    (case gr3 => exact ⟨_, rfl⟩)
    (case gl4 => k_is)
    (case gr4 => exact ⟨_, rfl⟩)
    (case gl5 => k_is)
    (case gr5 => exact ⟨_, rfl⟩)
    (case gl6 => k_is)
    (case gr6 => exact ⟨_, rfl⟩)
    (case gl7 => k_is)
    (case gr7 => exact ⟨_, rfl⟩)
    (case aD0 => k_is)
    (case ga0 => k_is)
    (case ga1 => k_is)
    (case ga2 => k_is)
    (case ga3 => k_is)
    (case ga4 => k_is)
    (case ga5 => k_is)
    (case ga6 => k_is)
    (case gg0 => k_is)
    (case gg1 => k_is)
    (case gg2 => k_is)
    (case gg3 => k_is)
    (case gg4 => k_is)
    (case gg5 => k_is)
    (case gg6 => k_is)
    (case hd0 => k_is)
    (case hd1 => k_is)
    (case hd2 => k_is)
    (case hd3 => k_is)
    (case hd4 => k_is)
    (case hd5 => k_is)
    (case hd6 => k_is)
    (case hd7 => k_is)
    (case hd8 => k_is)
    (case hd9 => k_is)
    (case hf0 => k_is)
    (case hn => k_is)
    (case hq0 => k_is)
    (case hs0 => k_is)
    (case htk => k_is)
    (case ia0 => k_is)
    (case ia1 => k_is)
    (case ia2 => k_is)
    (case ia3 => k_is)
    (case ia4 => k_is)
    (case ia5 => k_is)
    (case ia6 => k_is)
    (case ia7 => k_is)
    (case ia8 => k_is)
    (case ia9 => k_is)
    (case ic0 => k_is)
    (case ic1 => k_is)
    (case ic2 => k_is)
    (case ic3 => k_is)
    (case ic4 => k_is)
    (case ic5 => k_is)
    (case ic6 => k_is)
    (case ic7 => k_is)
    (case ic8 => k_is)
    (case ic9 => k_is)
    (case ii7NoneType => k_is)
    (case ii7bool => k_is)
    (case ii7dict => k_is)
    (case ii7int => k_is)
    (case ii7list => k_is)
    (case ii7str => k_is)
    (case ii7tuple => k_is)
    (case ii8NoneType => k_is)
    (case ii8bool => k_is)
    (case ii8dict => k_is)
    (case ii8int => k_is)
    (case ii8list => k_is)
    (case ii8str => k_is)
    (case ii8tuple => k_is)
    (case ii9NoneType => k_is)
    (case ii9bool => k_is)
    (case ii9dict => k_is)
    (case ii9int => k_is)
    (case ii9list => k_is)
    (case ii9str => k_is)
    (case ii9tuple => k_is)
    (case im0 => k_is)
    (case im1 => k_is)
    (case im2 => k_is)
    (case im3 => k_is)
    (case im4 => k_is)
    (case im5 => k_is)
    (case im6 => k_is)
    (case im7 => k_is)
    (case im8 => k_is)
    (case im9 => k_is)
    (case io7bool => k_is)
    (case io7dict => k_is)
    (case io7int => k_is)
    (case io7list => k_is)
    (case io7str => k_is)
    (case io7tuple => k_is)
    (case io8bool => k_is)
    (case io8dict => k_is)
    (case io8int => k_is)
    (case io8list => k_is)
    (case io8str => k_is)
    (case io8tuple => k_is)
    (case io9bool => k_is)
    (case io9dict => k_is)
    (case io9int => k_is)
    (case io9list => k_is)
    (case io9str => k_is)
    (case io9tuple => k_is)
    (case it0 => k_is)
    (case it1 => k_is)
    (case it2 => k_is)
    (case it3 => k_is)
    (case it4 => k_is)
    (case it5 => k_is)
    (case it6 => k_is)
    (case it7 => k_is)
    (case it8 => k_is)
    (case it9 => k_is)
    (case jA0 => k_is)
    (case jB0 => k_keys)
    (case jC0_got => k_is)
    (case jC0_sent => k_is)
    (case jC0_told => k_is)
    (case jD0 => rfl)
    (case kc1 => k_is)
    (case kc2 => k_is)
    (case kc3 => k_is)
    (case kc4 => k_is)
    (case kc5 => k_is)
    (case kc6 => k_is)
    (case kc7 => k_is)
    (case kc8 => k_is)
    (case kc9 => k_is)
    (case mk7 => k_is)
    (case mk8 => k_is)
    (case mk9 => k_is)
    (case n1_found => k_is)
    (case n2_found => k_is)
    (case n3_found => k_is)
    (case n4_found => k_is)
    (case n5_found => k_is)
    (case n6_found => k_is)
    (case n7_kept_numbers => k_is)
    (case n8_own_causes => k_is)
    (case n8_own_number => k_is)
    (case n8_own_sender => k_is)
    (case n8_own_word => k_is)
    (case n9_got_counts => k_is)
    (case n9_got_ids => k_is)
    (case n9_kept_letters => k_is)
    (case n9_kept_rows => k_is)
    (case n9_longest_row => k_is)
    (case n9_told_counts => k_is)
    (case n9_told_ids => k_is)
    (case ne1_0 => rfl)
    (case ne1_2 => rfl)
    (case ne1_3 => rfl)
    (case ne1_4 => rfl)
    (case ne1_5 => rfl)
    (case ne1_6 => rfl)
    (case ne2_0 => rfl)
    (case ne2_1 => rfl)
    (case ne2_3 => rfl)
    (case ne2_4 => rfl)
    (case ne2_5 => rfl)
    (case ne2_6 => rfl)
    (case ne3_0 => rfl)
    (case ne3_1 => rfl)
    (case ne3_2 => rfl)
    (case ne3_4 => rfl)
    (case ne3_5 => rfl)
    (case ne3_6 => rfl)
    (case ne4_0 => rfl)
    (case ne4_1 => rfl)
    (case ne4_2 => rfl)
    (case ne4_3 => rfl)
    (case ne4_5 => rfl)
    (case ne4_6 => rfl)
    (case ne5_0 => rfl)
    (case ne5_1 => rfl)
    (case ne5_2 => rfl)
    (case ne5_3 => rfl)
    (case ne5_4 => rfl)
    (case ne5_6 => rfl)
    (case ne6_0 => rfl)
    (case ne6_1 => rfl)
    (case ne6_2 => rfl)
    (case ne6_3 => rfl)
    (case ne6_4 => rfl)
    (case ne6_5 => rfl)
    (case ne7_8 => rfl)
    (case ne7_9 => rfl)
    (case ne8_7 => rfl)
    (case ne8_9 => rfl)
    (case ne9_7 => rfl)
    (case ne9_8 => rfl)
    (case pg7 => k_is)
    (case pg8 => k_is)
    (case pg9 => k_is)
    (case po7 => k_is)
    (case po8 => k_is)
    (case po9 => k_is)
    (case sa1 => k_is)
    (case sa2 => k_is)
    (case sa3 => k_is)
    (case sa4 => k_is)
    (case sa5 => k_is)
    (case sa6 => k_is)
    (case sa7 => k_is)
    (case sa8 => k_is)
    (case sa9 => k_is)
    (case sx0 => k_is)
    (case sx1 => k_is)
    (case sx2 => k_is)
    (case sx3 => k_is)
    (case sx4 => k_is)
    (case sx5 => k_is)
    (case sx6 => k_is)
    (case tf1 => k_is)
    (case tf2 => k_is)
    (case tf3 => k_is)
    (case tf4 => k_is)
    (case tf5 => k_is)
    (case tf6 => k_is)
    (case x1_0 => k_is)
    (case x1_1 => k_is)
    (case x1_2 => k_is)
    (case x1_3 => k_is)
    (case x1_4 => k_is)
    (case x1_5 => k_is)
    (case x1_6 => k_is)
    (case x2_0 => k_is)
    (case x2_1 => k_is)
    (case x2_2 => k_is)
    (case x2_3 => k_is)
    (case x2_4 => k_is)
    (case x2_5 => k_is)
    (case x2_6 => k_is)
    (case x3_0 => k_is)
    (case x3_1 => k_is)
    (case x3_2 => k_is)
    (case x3_3 => k_is)
    (case x3_4 => k_is)
    (case x3_5 => k_is)
    (case x3_6 => k_is)
    (case x4_0 => k_is)
    (case x4_1 => k_is)
    (case x4_2 => k_is)
    (case x4_3 => k_is)
    (case x4_4 => k_is)
    (case x4_5 => k_is)
    (case x4_6 => k_is)
    (case x5_0 => k_is)
    (case x5_1 => k_is)
    (case x5_2 => k_is)
    (case x5_3 => k_is)
    (case x5_4 => k_is)
    (case x5_5 => k_is)
    (case x5_6 => k_is)
    (case x6_0 => k_is)
    (case x6_1 => k_is)
    (case x6_2 => k_is)
    (case x6_3 => k_is)
    (case x6_4 => k_is)
    (case x6_5 => k_is)
    (case x6_6 => k_is)
    (case x7_8 => k_is)
    (case x7_9 => k_is)
    (case x8_7 => k_is)
    (case x8_9 => k_is)
    (case x9_7 => k_is)
    (case x9_8 => k_is)
    (case xL1 => k_is)
    (case xL2 => k_is)
    (case xL3 => k_is)
    (case xL4 => k_is)
    (case xL5 => k_is)
    (case xL6 => k_is)
    (case xM1 => exact rfl)
    (case xM2 => exact rfl)
    (case xM3 => exact rfl)
    (case xM4 => exact rfl)
    (case xM5 => exact rfl)
    (case xM6 => exact rfl)
    (case z36 => k_is)
    (case z37 => k_is)
    (case z40 => k_is)
    (case z41 => k_is)
    (case z43 => k_is)
    (case z48 => k_is)
    (case z49 => k_is)
    (case z50 => k_is)
    (case z51 => k_is)
    (case z53 => k_is)
    (case z54 => k_is)
    (case z55 => k_is)
    (case z56 => k_is)
#print axioms PySem.Challenge.cw_causehall_k15_whole_one_row_changed_holds

