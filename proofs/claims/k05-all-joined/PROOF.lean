import PyProof.Rows.All
import Wide.All
import OpenK.AllK
import Wide.FinOn
import HandS.ForMost
import HandS.Wide
import HandS.IsInst
import HandS.Style
import HandS.Defaults
import HandS.Walk
import KE.IntTextLaws
import HandS.ForExc
import HandS.TryMany
import HandS.TryElse
import KE.KTryMore
import HandS.ExcInit
import HandS.CallSlots
import HandS.ExcField
import HandS.ExcIs
import KE.KEqNest
import PyProof.NeKinds
import KE.KExcIs
import HandS.Zip
import KE.KRevSl
import PySem.Challenge.RW_causehall_k05_all_joined
set_option Elab.async false
set_option maxRecDepth 100000
set_option maxHeartbeats 4000000
/-! == of things of any make: what is one thing, numbers, texts, lists and tuples of such. -/
namespace My
open PySem L2 PySem.SeqAt PySem.W
/-- what == says of two flat things, numbers and truths together -/
def eqF : V → V → Option Bool
  | .int i, .int j => some (i == j)
  | .bl i, .bl j => some (i == j)
  | .str i, .str j => some (i == j)
  | .bl a, .int j => some ((if a then 1 else 0) == j)
  | .int i, .bl b => some (i == (if b then 1 else 0))
  | .non, .non => some true
  | .int _, .non | .non, .int _ | .int _, .str _ | .str _, .int _ | .str _, .non | .non, .str _ | .bl _, .non | .non, .bl _ | .bl _, .str _ | .str _, .bl _ => some false
  | _, _ => none
theorem eqF_at {A : Around} {s : Shared} {x y : V} {b : Bool} {u v : Value} (h : eqF x y = some b) (ru : RelV x u) (rv : RelV y v) : EqAt A s u v b := by
  cases x with
  | non =>
    cases y with
    | non =>
      obtain rfl : u = Value.none := ru
      obtain rfl : v = Value.none := rv
      obtain rfl := Option.some.inj h
      exact .same _
    | bl q =>
      obtain rfl : u = Value.none := ru
      obtain rfl : v = Value.bool q := rv
      obtain rfl := Option.some.inj h
      exact .none_bool _
    | int q =>
      obtain rfl : u = Value.none := ru
      obtain ⟨tq, rfl⟩ : ∃ t, v = Value.int q t := rv
      obtain rfl := Option.some.inj h
      exact .none_int _ _
    | str q =>
      obtain rfl : u = Value.none := ru
      obtain ⟨tq, rfl⟩ : ∃ t, v = Value.str q t := rv
      obtain rfl := Option.some.inj h
      exact .none_str _ _
    | _ => cases h
  | bl p =>
    cases y with
    | non =>
      obtain rfl : u = Value.bool p := ru
      obtain rfl : v = Value.none := rv
      obtain rfl := Option.some.inj h
      exact .bool_none _
    | bl q =>
      obtain rfl : u = Value.bool p := ru
      obtain rfl : v = Value.bool q := rv
      obtain rfl := Option.some.inj h
      exact .bool_bool _ _
    | int q =>
      obtain rfl : u = Value.bool p := ru
      obtain ⟨tq, rfl⟩ : ∃ t, v = Value.int q t := rv
      obtain rfl := Option.some.inj h
      exact .bool_int _ _ _
    | str q =>
      obtain rfl : u = Value.bool p := ru
      obtain ⟨tq, rfl⟩ : ∃ t, v = Value.str q t := rv
      obtain rfl := Option.some.inj h
      exact .bool_str _ _ _
    | _ => cases h
  | int p =>
    cases y with
    | non =>
      obtain ⟨tp, rfl⟩ : ∃ t, u = Value.int p t := ru
      obtain rfl : v = Value.none := rv
      obtain rfl := Option.some.inj h
      exact .int_none _ _
    | bl q =>
      obtain ⟨tp, rfl⟩ : ∃ t, u = Value.int p t := ru
      obtain rfl : v = Value.bool q := rv
      obtain rfl := Option.some.inj h
      exact .int_bool _ _ _
    | int q =>
      obtain ⟨tp, rfl⟩ : ∃ t, u = Value.int p t := ru
      obtain ⟨tq, rfl⟩ : ∃ t, v = Value.int q t := rv
      obtain rfl := Option.some.inj h
      exact .int_int _ _ _ _
    | str q =>
      obtain ⟨tp, rfl⟩ : ∃ t, u = Value.int p t := ru
      obtain ⟨tq, rfl⟩ : ∃ t, v = Value.str q t := rv
      obtain rfl := Option.some.inj h
      exact .int_str _ _ _ _
    | _ => cases h
  | str p =>
    cases y with
    | non =>
      obtain ⟨tp, rfl⟩ : ∃ t, u = Value.str p t := ru
      obtain rfl : v = Value.none := rv
      obtain rfl := Option.some.inj h
      exact .str_none _ _
    | bl q =>
      obtain ⟨tp, rfl⟩ : ∃ t, u = Value.str p t := ru
      obtain rfl : v = Value.bool q := rv
      obtain rfl := Option.some.inj h
      exact .str_bool _ _ _
    | int q =>
      obtain ⟨tp, rfl⟩ : ∃ t, u = Value.str p t := ru
      obtain ⟨tq, rfl⟩ : ∃ t, v = Value.int q t := rv
      obtain rfl := Option.some.inj h
      exact .str_int _ _ _ _
    | str q =>
      obtain ⟨tp, rfl⟩ : ∃ t, u = Value.str p t := ru
      obtain ⟨tq, rfl⟩ : ∃ t, v = Value.str q t := rv
      obtain rfl := Option.some.inj h
      exact .str_str _ _ _ _
    | _ => cases h
  | _ => cases y <;> cases h
mutual
/-- x == y is b, as an item of a list tells it -/
inductive EqV (K : Frag) (H : Hp) : Nat → V → V → Bool → Prop
  | one {n : Nat} {a : Addr} : EqV K H n (.ref a) (.ref a) true
  | flat {n : Nat} {x y : V} {b : Bool} (h : eqF x y = some b) : EqV K H n x y b
  | lsts {n : Nat} {a c : Addr} {xs ys : List V} {b : Bool} (d : a ≠ c) (h1 : SqL K H a xs) (h2 : SqL K H c ys) (h : EqVs K H n xs ys b) : EqV K H (n + 1) (.ref a) (.ref c) b
  | tups {n : Nat} {a c : Addr} {xs ys : List V} {b : Bool} (d : a ≠ c) (h1 : SqT K H a xs) (h2 : SqT K H c ys) (h : EqVs K H n xs ys b) : EqV K H (n + 1) (.ref a) (.ref c) b
/-- of two rows -/
inductive EqVs (K : Frag) (H : Hp) : Nat → List V → List V → Bool → Prop
  | nil {n : Nat} : EqVs K H n [] [] true
  | cons {n : Nat} {x y : V} {xs ys : List V} {b c : Bool} (h : EqV K H n x y b) (t : EqVs K H n xs ys c) : EqVs K H n (x :: xs) (y :: ys) (b && c)
  | nilc {n : Nat} {y : V} {ys : List V} : EqVs K H n [] (y :: ys) false
  | cnil {n : Nat} {x : V} {xs : List V} : EqVs K H n (x :: xs) [] false
end
section
variable {X : Cx} {pins : List (Addr × Obj)} {σ : St} {H : Hp} {s : Shared}
/-- of a row: each place's answer -/
def RowT (s : Shared) (n : Nat) (us ws : List Value) (b : Bool) : Prop :=
  ∃ e : Nat → Bool, (∀ j (h1 : j < us.length) (h2 : j < ws.length) (A : Around), A.units + n < cLine → EqAt A s us[j] ws[j] (e j)) ∧ (us.length = ws.length → b = (List.range us.length).all e) ∧ (us.length ≠ ws.length → b = false)
theorem all_succ (e : Nat → Bool) (n : Nat) : (List.range (n + 1)).all e = (e 0 && (List.range n).all fun j => e (j + 1)) := by
  rw [List.range_succ_eq_map, List.all_cons, List.all_map]
  rfl
theorem RowT.lists {n : Nat} {us ws : List Value} {b : Bool} {a c : Addr} (r : RowT s n us ws b) (ha : s.heap.IsList a us.toArray) (hc : s.heap.IsList c ws.toArray) {A : Around} (hu : A.units + (n + 1) < cLine) : RcAt A s (.ref a) (.ref c) b ∧ RcNeAt A s (.ref a) (.ref c) (!b) := by
  obtain ⟨e, t, q1, q2⟩ := r
  have t' : ∀ j (h1 : j < us.toArray.size) (h2 : j < ws.toArray.size), EqAt A.in1 s us.toArray[j] ws.toArray[j] (e j) := fun j h1 h2 => t j h1 h2 A.in1 (by show A.units + 1 + n < cLine; omega)
  by_cases hl : us.length = ws.length
  · rw [q1 hl]
    exact ⟨.lists ha hc hl (by omega) t', .lists ha hc hl (by omega) t'⟩
  · rw [q2 hl]
    have hb : (us.toArray.size != ws.toArray.size) = true := by simpa using hl
    exact ⟨.lists_lengths ha hc hb (by omega), .lists_lengths ha hc hb (by omega)⟩
theorem RowT.tups {n : Nat} {us ws : List Value} {b : Bool} {a c : Addr} (r : RowT s n us ws b) (ha : s.heap.IsTuple a us.toArray) (hc : s.heap.IsTuple c ws.toArray) {A : Around} (hu : A.units + (n + 1) < cLine) : RcAt A s (.ref a) (.ref c) b ∧ RcNeAt A s (.ref a) (.ref c) (!b) := by
  obtain ⟨e, t, q1, q2⟩ := r
  have t' : ∀ j (h1 : j < us.toArray.size) (h2 : j < ws.toArray.size), EqAt A.in1 s us.toArray[j] ws.toArray[j] (e j) := fun j h1 h2 => t j h1 h2 A.in1 (by show A.units + 1 + n < cLine; omega)
  have g1 := RcAt.tuples ha hc (by omega) t'
  have g2 := RcNeAt.tuples ha hc (by omega) t'
  have e1 : ((List.range (min us.toArray.size ws.toArray.size)).all e && us.toArray.size == ws.toArray.size) = b := by
    by_cases hl : us.length = ws.length
    · rw [q1 hl]
      simp [hl]
    · rw [q2 hl]
      simp [hl]
  rw [e1] at g1 g2
  exact ⟨g1, g2⟩
mutual
theorem EqV.at (I : Inv X pins σ H s) : ∀ {n : Nat} {x y : V} {b : Bool}, EqV X.K H n x y b → ∀ {u v : Value}, RelV x u → RelV y v → ∀ A : Around, A.units + n < cLine → EqAt A s u v b
  | _, _, _, _, .one, _, _, ru, rv, _, _ => by
    cases ru
    cases rv
    exact .same _
  | _, _, _, _, .flat h, _, _, ru, rv, _, _ => eqF_at h ru rv
  | _, _, _, _, .lsts d h1 h2 h, _, _, ru, rv, A, hu => by
    cases ru
    cases rv
    obtain ⟨us, r1, p1, _⟩ := I.list h1
    obtain ⟨ws, r2, p2, _⟩ := I.list h2
    exact .of_refs d ((EqVs.row I h r1 r2).lists p1.isList p2.isList hu).1
  | _, _, _, _, .tups d h1 h2 h, _, _, ru, rv, A, hu => by
    cases ru
    cases rv
    obtain ⟨us, r1, p1, _⟩ := I.tuple h1
    obtain ⟨ws, r2, p2, _⟩ := I.tuple h2
    exact .of_refs d ((EqVs.row I h r1 r2).tups (show s.heap.IsTuple _ us.toArray from p1) (show s.heap.IsTuple _ ws.toArray from p2) hu).1
theorem EqVs.row (I : Inv X pins σ H s) : ∀ {n : Nat} {xs ys : List V} {b : Bool}, EqVs X.K H n xs ys b → ∀ {us ws : List Value}, Vals xs us → Vals ys ws → RowT s n us ws b
  | _, _, _, _, .nil, _, _, .nil, .nil => ⟨fun _ => true, fun j h1 => absurd h1 (Nat.not_lt_zero _), fun _ => rfl, fun h => absurd rfl h⟩
  | _, _, _, _, .nilc, _, _, .nil, .cons _ _ => ⟨fun _ => true, fun j h1 => absurd h1 (Nat.not_lt_zero _), fun h => absurd h (by simp), fun _ => rfl⟩
  | _, _, _, _, .cnil, _, _, .cons _ _, .nil => ⟨fun _ => true, fun j _ h2 => absurd h2 (Nat.not_lt_zero _), fun h => absurd h (by simp), fun _ => rfl⟩
  | _, _, _, _, .cons (b := b) h t, _, _, .cons r1 s1, .cons r2 s2 => by
    obtain ⟨e, q, q1, q2⟩ := EqVs.row I t s1 s2
    have q0 := EqV.at I h r1 r2
    refine ⟨fun j => match j with | 0 => b | j + 1 => e j, ?_, ?_, ?_⟩
    · intro j h1 h2 A hu
      cases j with
      | zero => exact q0 A hu
      | succ j => exact q j (Nat.lt_of_succ_lt_succ h1) (Nat.lt_of_succ_lt_succ h2) A hu
    · intro hl
      rw [q1 (Nat.succ.inj hl)]
      show _ = (List.range (_ + 1)).all _
      rw [all_succ]
    · intro hl
      rw [q2 (fun z => hl (congrArg Nat.succ z)), Bool.and_false]
end
end
/-- == and != of two lists or two tuples, whatever stands in them -/
def rEqG (K : Frag) (ne : Bool) : R2 := fun x y H Q => ∃ (a c : Addr) (xs ys : List V) (n : Nat) (b : Bool), x = .ref a ∧ y = .ref c ∧ ((SqL K H a xs ∧ SqL K H c ys) ∨ (SqT K H a xs ∧ SqT K H c ys)) ∧ n < 60 ∧ EqVs K H n xs ys b ∧ Q (.bl (if ne then !b else b)) H
section
variable {X : Cx}
theorem op_eqG (hu : X.A.units + 64 < cLine) {K : Frag} (hK : X.K = K := by rfl) : OpR X (compareOp .Eq) (rEqG K false) := by
  subst hK
  intro pins s σ H x y v u Q I rx ry h
  obtain ⟨a, c, xs, ys, n, b, rfl, rfl, hs, hn, t, q⟩ := h
  cases rx
  cases ry
  rcases hs with ⟨h1, h2⟩ | ⟨h1, h2⟩
  · obtain ⟨us, r1, p1, _⟩ := I.list h1
    obtain ⟨ws, r2, p2, _⟩ := I.list h2
    exact ((EqVs.row I t r1 r2).lists p1.isList p2.isList (by omega)).1 _ _ _ _ ⟨.bl b, H, I, rfl, q⟩
  · obtain ⟨us, r1, p1, _⟩ := I.tuple h1
    obtain ⟨ws, r2, p2, _⟩ := I.tuple h2
    exact ((EqVs.row I t r1 r2).tups (show s.heap.IsTuple _ us.toArray from p1) (show s.heap.IsTuple _ ws.toArray from p2) (by omega)).1 _ _ _ _ ⟨.bl b, H, I, rfl, q⟩
theorem op_neG (hu : X.A.units + 64 < cLine) {K : Frag} (hK : X.K = K := by rfl) : OpR X (compareOp .NotEq) (rEqG K true) := by
  subst hK
  intro pins s σ H x y v u Q I rx ry h
  obtain ⟨a, c, xs, ys, n, b, rfl, rfl, hs, hn, t, q⟩ := h
  cases rx
  cases ry
  rcases hs with ⟨h1, h2⟩ | ⟨h1, h2⟩
  · obtain ⟨us, r1, p1, _⟩ := I.list h1
    obtain ⟨ws, r2, p2, _⟩ := I.list h2
    exact ((EqVs.row I t r1 r2).lists p1.isList p2.isList (by omega)).2 _ _ _ _ ⟨.bl (!b), H, I, rfl, q⟩
  · obtain ⟨us, r1, p1, _⟩ := I.tuple h1
    obtain ⟨ws, r2, p2, _⟩ := I.tuple h2
    exact ((EqVs.row I t r1 r2).tups (show s.heap.IsTuple _ us.toArray from p1) (show s.heap.IsTuple _ ws.toArray from p2) (by omega)).2 _ _ _ _ ⟨.bl (!b), H, I, rfl, q⟩
end
end My
/-! My own small layer: rules of one name for what several of the layer's rules say, told apart by the values. -/
namespace My
open PySem L2
/-- a is seen as o: a list, a tuple (by whatever stands there), anything else as it is tracked -/
def Obs (K : PySem.W.Frag) (H : Hp) (a : Addr) : HO → Prop
  | .lst xs => SqL K H a xs
  | .tup xs => SqT K H a xs
  | o => H a = some o
theorem Obs.of {K : PySem.W.Frag} {H : Hp} {a : Addr} {o : HO} (h : H a = some o) : Obs K H a o := by
  cases o <;> first | exact h | exact Or.inl (Or.inl h)
/-- of two numbers the greater, the lesser, as max and min tell them -/
def maxP (i j : Int) : Int := if j > i then j else i
def minP (i j : Int) : Int := if j < i then j else i
theorem maxP_eq (i j : Int) : maxP i j = max i j := by unfold maxP; omega
theorem minP_eq (i j : Int) : minP i j = min i j := by unfold minP; omega
def rMaxU : List V → Hp → VK → Prop := fun xs H Q => ∃ i j, xs = [.int i, .int j] ∧ Q (.int (maxP i j)) H
def rMinU : List V → Hp → VK → Prop := fun xs H Q => ∃ i j, xs = [.int i, .int j] ∧ Q (.int (minP i j)) H
section
variable {X : Cx}
/-! ### operators -/
def rAddU (K : PySem.W.Frag) : R2 := fun x y H Q => match x, y with
  | .int i, .int j => Q (.int (i + j)) H
  | .str i, .str j => i.length + j.length ≤ sizeLine ∧ Q (.str (i ++ j)) H
  | .ref a, .ref b => (∃ xs ys, H a = some (.lst xs) ∧ H b = some (.lst ys) ∧ xs.length + ys.length ≤ sizeLine ∧ ∀ p, H p = none → Q (.ref p) (upd H p (.lst (xs ++ ys))))
      ∨ rCatT K (.ref a) (.ref b) H Q
  | _, _ => False
theorem op_addU {K : PySem.W.Frag} (hK : X.K = K := by rfl) : OpR X (binaryOp .Add) (rAddU K) := by
  subst hK
  intro pins s σ H x y v u Q I rx ry h
  cases x <;> cases y <;> first | exact False.elim h | skip
  · exact op_add pins s σ H _ _ v u Q I rx ry ⟨_, _, rfl, rfl, h⟩
  · exact op_add_str pins s σ H _ _ v u Q I rx ry ⟨_, _, rfl, rfl, h.1, h.2⟩
  · rcases h with ⟨xs, ys, h1, h2, h3, h4⟩ | h
    · exact op_cat pins s σ H _ _ v u Q I rx ry ⟨_, _, xs, ys, rfl, rfl, h1, h2, h3, h4⟩
    · exact op_catT pins s σ H _ _ v u Q I rx ry h
theorem op_subU : OpR X (binaryOp .Sub) (rI0 fun i j => .int (i - j)) := op_sub
def rMulU : R2 := fun x y H Q => match x, y with
  | .int i, .int j => CMulW i j ∧ Q (.int (i * j)) H
  | .ref a, .int k => rRep (.ref a) (.int k) H Q
  | _, _ => False
theorem op_mulU : OpR X (binaryOp .Mult) rMulU := by
  intro pins s σ H x y v u Q I rx ry h
  cases x <;> cases y <;> first | exact False.elim h | skip
  · exact op_mulW pins s σ H _ _ v u Q I rx ry ⟨_, _, rfl, rfl, h.1, h.2⟩
  · exact op_rep pins s σ H _ _ v u Q I rx ry h
theorem op_fdivU : OpR X (binaryOp .FloorDiv) (rI CDivW fun i j => .int (i / j)) := op_fdivW
theorem op_modU : OpR X (binaryOp .Mod) (rI (fun _ j => 0 < j) fun i j => .int (i % j)) := op_mod
theorem op_powU : OpR X (binaryOp .Pow) (rI CPow fun i j => .int (i ^ j.toNat)) := op_pow
/-! ### comparisons -/
theorem op_ltU : OpR X (compareOp .Lt) (rI0 fun i j => .bl (decide (i < j))) := op_lt
theorem op_leU : OpR X (compareOp .LtE) (rI0 fun i j => .bl (decide (i ≤ j))) := op_le
theorem op_gtU : OpR X (compareOp .Gt) (rI0 fun i j => .bl (decide (j < i))) := op_gt
theorem op_geU : OpR X (compareOp .GtE) (rI0 fun i j => .bl (decide (j ≤ i))) := op_ge
/-- what == says of two flat things -/
def eqS : V → V → Option Bool
  | .int i, .int j => some (decide (i = j))
  | .bl i, .bl j => some (decide (i = j))
  | .str i, .str j => some (decide (i = j))
  | .non, .non => some true
  | .int _, .non | .non, .int _ | .int _, .str _ | .str _, .int _ | .str _, .non | .non, .str _ | .bl _, .non | .non, .bl _ | .bl _, .str _ | .str _, .bl _ => some false
  | _, _ => none
theorem eqS_scal : ∀ {x y : V} {b : Bool}, eqS x y = some b → scal x y = true ∧ decide (x = y) = b := by
  intro x y b h
  cases x <;> cases y <;> first | (cases h; done) | (cases Option.some.inj h; exact ⟨rfl, by simp⟩)
def rEqU (K : PySem.W.Frag) : R2 := fun x y H Q => match eqS x y with
  | some b => Q (.bl b) H
  | none => rEqD K x y H Q ∨ rEqG K false x y H Q
def rNeU (K : PySem.W.Frag) : R2 := fun x y H Q => match eqS x y with
  | some b => Q (.bl (!b)) H
  | none => rNeD K x y H Q ∨ rEqG K true x y H Q
theorem op_eqU (hu : X.A.units + 64 < cLine) {K : PySem.W.Frag} (hK : X.K = K := by rfl) : OpR X (compareOp .Eq) (rEqU K) := by
  subst hK
  intro pins s σ H x y v u Q I rx ry h
  unfold rEqU at h
  split at h
  · rename_i b e
    obtain ⟨e1, e2⟩ := eqS_scal e
    exact op_eq pins s σ H _ _ v u Q I rx ry ⟨e1, by rw [e2]; exact h⟩
  · rcases h with h | h
    · exact op_eqD hu pins s σ H _ _ v u Q I rx ry h
    · exact op_eqG hu rfl pins s σ H _ _ v u Q I rx ry h
theorem op_neU (hu : X.A.units + 64 < cLine) {K : PySem.W.Frag} (hK : X.K = K := by rfl) : OpR X (compareOp .NotEq) (rNeU K) := by
  subst hK
  intro pins s σ H x y v u Q I rx ry h
  unfold rNeU at h
  split at h
  · rename_i b e
    obtain ⟨e1, e2⟩ := eqS_scal e
    exact op_ne pins s σ H _ _ v u Q I rx ry ⟨e1, by rw [e2]; exact h⟩
  · rcases h with h | h
    · exact op_neD hu pins s σ H _ _ v u Q I rx ry h
    · exact op_neG hu rfl pins s σ H _ _ v u Q I rx ry h
def rIsU : R2 := fun x y H Q => match x, y with
  | .bl a, .bl b => Q (.bl (decide (a = b))) H
  | x, .non => Q (.bl (decide (x = .non))) H
  | .ref a, .ref b => ∃ oa ob, H a = some oa ∧ isObj oa = true ∧ H b = some ob ∧ isObj ob = true ∧ Q (.bl (decide (a = b))) H
  | _, _ => False
def rIsnU : R2 := fun x y H Q => match x, y with
  | .bl a, .bl b => Q (.bl (!decide (a = b))) H
  | x, .non => Q (.bl (!decide (x = .non))) H
  | .ref a, .ref b => ∃ oa ob, H a = some oa ∧ isObj oa = true ∧ H b = some ob ∧ isObj ob = true ∧ Q (.bl (!decide (a = b))) H
  | _, _ => False
theorem op_isU : OpR X (compareOp .Is) rIsU := by
  intro pins s σ H x y v u Q I rx ry h
  cases y <;> cases x <;> first
    | exact False.elim h
    | exact op_isN pins s σ H _ _ v u Q I rx ry ⟨rfl, h⟩
    | exact op_isBl pins s σ H _ _ v u Q I rx ry ⟨_, _, rfl, rfl, h⟩
    | exact op_is_ref pins s σ H _ _ v u Q I rx ry (let ⟨oa, ob, h1, h2, h3, h4, h5⟩ := h; ⟨_, _, oa, ob, rfl, rfl, h1, h2, h3, h4, h5⟩)
theorem op_isnU : OpR X (compareOp .IsNot) rIsnU := by
  intro pins s σ H x y v u Q I rx ry h
  cases y <;> cases x <;> first
    | exact False.elim h
    | exact op_notN pins s σ H _ _ v u Q I rx ry ⟨rfl, h⟩
    | exact op_notBl pins s σ H _ _ v u Q I rx ry ⟨_, _, rfl, rfl, h⟩
    | exact op_isnot_ref pins s σ H _ _ v u Q I rx ry (let ⟨oa, ob, h1, h2, h3, h4, h5⟩ := h; ⟨_, _, oa, ob, rfl, rfl, h1, h2, h3, h4, h5⟩)
/-- one sign in a text; a flat thing in a list or a tuple -/
def rInU (K : PySem.W.Frag) : R2 := fun x y H Q => match y with
  | .str z => ∃ c : Nat, x = .str ⟨#[c]⟩ ∧ Q (.bl (decide (c ∈ z.cps.toList))) H
  | _ => rIn K false x y H Q
theorem op_inU {K : PySem.W.Frag} (hK : X.K = K := by rfl) : OpR X (compareOp .In) (rInU K) := by
  subst hK
  intro pins s σ H x y v u Q I rx ry h
  cases y <;> first
    | exact op_in_seq pins s σ H _ _ v u Q I rx ry h
    | exact op_in_sign pins s σ H _ _ v u Q I rx ry (let ⟨c, e, q⟩ := h; ⟨c, _, e, rfl, q⟩)
/-! ### subscripts, slices -/
def rIxU (K : PySem.W.Frag) : R2 := fun x y H Q => match x, y with
  | .str z, .int i => z.length ≤ sizeLine ∧ ∃ c, atI z.cps.toList i = some c ∧ Q (.str ⟨#[c]⟩) H
  | .ref a, .int i => ∃ xs v, (SqL K H a xs ∨ SqT K H a xs) ∧ atI xs i = some v ∧ Q v H
  | _, _ => False
theorem ix_U {K : PySem.W.Frag} (hK : X.K = K := by rfl) : IxR X (rIxU K) := by
  subst hK
  intro e1 e2 pins s σ H x y v u Q I rx ry h hs
  cases x <;> cases y <;> first | exact False.elim h | skip
  · obtain ⟨h1, c, h2, h3⟩ := h
    exact ix_str e1 e2 pins s σ H _ _ v u Q I rx ry ⟨_, _, c, rfl, rfl, h1, h2, h3⟩ hs
  · obtain ⟨xs, w, h1, h2, h3⟩ := h
    rcases h1 with h1 | h1
    · exact ix_list e1 e2 pins s σ H _ _ v u Q I rx ry ⟨_, xs, _, w, rfl, rfl, h1, h2, h3⟩ hs
    · exact ix_tup e1 e2 pins s σ H _ _ v u Q I rx ry ⟨_, xs, _, w, rfl, rfl, h1, h2, h3⟩ hs
def rSlU (K : PySem.W.Frag) : V → Option Int → Option Int → Hp → VK → Prop := fun x lo hi H Q => match x with
  | .str z => z.length ≤ sizeLine ∧ Q (.str (cutS z lo hi)) H
  | .ref a => rSlL K (.ref a) lo hi H Q ∨ rSlT K (.ref a) lo hi H Q
  | _ => False
theorem sl_U {K : PySem.W.Frag} (hK : X.K = K := by rfl) : SlR X (rSlU K) := by
  subst hK
  intro pins s σ H x v vl vu lo hi sl Q I rx h1 h2 h3 h
  cases x <;> first | exact False.elim h | skip
  · exact sl_str pins s σ H _ v vl vu lo hi sl Q I rx h1 h2 h3 ⟨_, rfl, h.1, h.2⟩
  · exact sl_list.or sl_tup pins s σ H _ v vl vu lo hi sl Q I rx h1 h2 h3 h
/-! ### len, isinstance, int, str -/
def rLenU (K : PySem.W.Frag) : List V → Hp → VK → Prop := fun xs H Q => ∃ x n, xs = [x] ∧ LenV K x H n ∧ Q (.int n) H
theorem call_lenU {K : PySem.W.Frag} (hK : X.K = K := by rfl) : CallR X (.builtin "len") (rLenU K) := by
  subst hK
  exact call_len
def rIntU : List V → Hp → VK → Prop := fun xs H Q => match xs with
  | [.int i] => Q (.int i) H
  | [.bl k] => Q (.int (if k then 1 else 0)) H
  | [.str a] => ∃ n, PySem.intText? a = some n ∧ a.length ≤ 640 ∧ Q (.int n) H
  | _ => False
theorem call_intU : CallR X (.type "int") rIntU := by
  intro pins s σ H xs us Q I r h
  unfold rIntU at h
  split at h
  · exact call_int1 pins s σ H _ us Q I r (.inl ⟨_, rfl, h⟩)
  · exact call_int1 pins s σ H _ us Q I r (.inr ⟨_, rfl, h⟩)
  · obtain ⟨n, h1, h2, h3⟩ := h
    exact call_int_str pins s σ H _ us Q I r ⟨_, n, rfl, h1, h2, h3⟩
  · exact False.elim h
/-! ### isinstance -/
end
/-- the built-in classes that are asked for -/
inductive Kd where | int | bl | str | lst | tup | dct
  deriving DecidableEq
def Kd.name : Kd → String | .int => "int" | .bl => "bool" | .str => "str" | .lst => "list" | .tup => "tuple" | .dct => "dict"
/-- what the text says of a class of its own, for isinstance of its instances and of others -/
structure IsC (K : PySem.W.Frag) (C : Addr) : Prop where
  ha : PySem.W.findIn K (.ref C) "__class__" = some (some (.builtin "object.__class__"))
  hn : PySem.W.specialIn K (.builtin "object.__class__") "__get__" = some (some (.builtin "getset_descriptor.__get__"))
  htk : PySem.W.takesIn K (.builtin "object.__class__") = some true
  hm : PySem.W.mroIn K C (.type "object") = some true
  out : ∀ d : Kd, PySem.W.kitOne K (.ref C) (.type d.name) = some false
  inn : ∀ t : String, t ∈ ["NoneType", "int", "bool", "str", "list", "tuple", "dict"] → PySem.W.kitOne K (.type t) (.ref C) = some false
theorem kit_out {K : PySem.W.Frag} {C : Addr} {n : String} {b : Bool} (hm : PySem.W.kitMeta n = true) (h : PySem.W.subIn K (.ref C) (.type n) = some b) : PySem.W.kitOne K (.ref C) (.type n) = some b := by
  unfold PySem.W.kitOne PySem.W.kitCls
  rw [if_neg (show ¬ ((Value.ref C == Value.type n) = true) by simp)]
  show (if PySem.W.kitMeta n = true then _ else _) = _
  rw [if_pos hm, h]
theorem kit_in {K : PySem.W.Frag} {C : Addr} {t : Value} {b : Bool} (h0 : (t == Value.ref C) = false) (h1 : PySem.W.isClsIn K C = true) (h2 : PySem.W.typeIn K (.ref C) = some (.type "type")) (h : PySem.W.subIn K t (.ref C) = some b) : PySem.W.kitOne K t (.ref C) = some b := by
  unfold PySem.W.kitOne PySem.W.kitCls
  rw [if_neg (by rw [h0]; exact Bool.false_ne_true)]
  show (if ((PySem.W.clsIn K C).isSome && PySem.W.typeIn K (.ref C) == some (.type "type")) = true then _ else _) = _
  have e : (PySem.W.clsIn K C).isSome = true := h1
  rw [if_pos (by rw [e, h2]; rfl), h]
/-- is x of the kind d: what the value alone tells -/
def Kd.has (d : Kd) : V → Bool
  | .int _ => d == .int
  | .bl _ => d == .int || d == .bl
  | .str _ => d == .str
  | _ => false
def Kd.hasO (d : Kd) : HO → Bool
  | .lst _ => d == .lst
  | .tup _ => d == .tup
  | .dK _ => d == .dct
  | .dT _ => d == .dct
  | _ => false
/-- an object whose class is known -/
def KnO (K : PySem.W.Frag) : HO → Prop
  | .lst _ => True
  | .tup _ => True
  | .dK _ => True
  | .dT _ => True
  | .ins C _ _ => Cls K C ∧ IsC K C
  | _ => False
def Kn (K : PySem.W.Frag) (H : Hp) : V → Prop
  | .non => True
  | .bl _ => True
  | .int _ => True
  | .str _ => True
  | .ref a => ∃ o, Obs K H a o ∧ KnO K o
  | _ => False
/-- the class of a value as the library tells it -/
def isO (K : PySem.W.Frag) (x : V) (H : Hp) (R : (Kd → Bool) → Option Addr → Prop) : Prop := match x with
  | .non => R (fun _ => false) none
  | .bl b => R (fun d => d.has (.bl b)) none
  | .int i => R (fun d => d.has (.int i)) none
  | .str z => R (fun d => d.has (.str z)) none
  | .ref a => ∃ o, Obs K H a o ∧ match o with
    | .lst _ => R (fun d => d == .lst) none
    | .tup _ => R (fun d => d == .tup) none
    | .dK _ => R (fun d => d == .dct) none
    | .dT _ => R (fun d => d == .dct) none
    | .ins C _ _ => Cls K C ∧ IsC K C ∧ R (fun _ => false) (some C)
    | _ => False
  | _ => False
theorem tyx_lst {K : PySem.W.Frag} {H : Hp} {a : Addr} {xs : List V} (h : SqL K H a xs) : TyX K H (.ref a) (.type "list") := by
  rcases h with (h | ⟨o, h⟩) | ⟨o, its, n, h1, h2, _⟩
  · exact .base (.lst h)
  · exact .base (.frz h)
  · exact .kList h1 h2
theorem tyx_tup {K : PySem.W.Frag} {H : Hp} {a : Addr} {xs : List V} (h : SqT K H a xs) : TyX K H (.ref a) (.type "tuple") := by
  rcases h with (h | ⟨o, h⟩) | ⟨o, its, n, h1, h2, _⟩
  · exact .base (.tup h)
  · exact .fTuple h
  · exact .kTuple h1 h2
theorem kdk : ∀ (t : String) (d : Kd), t ∈ ["NoneType", "int", "bool", "str", "list", "tuple", "dict"] → kitB t d.name = some (t == d.name || (t == "bool" && d == .int)) := by
  intro t d ht
  simp only [List.mem_cons, List.not_mem_nil, or_false] at ht
  rcases ht with rfl | rfl | rfl | rfl | rfl | rfl | rfl <;> cases d <;> decide +kernel
/-- the type t of x, and what each asked class says of it -/
theorem isO_ty {K : PySem.W.Frag} {x : V} {H : Hp} {R : (Kd → Bool) → Option Addr → Prop} (h : isO K x H R) : ∃ t f c, TyX K H x t ∧ R f c ∧ (∀ d : Kd, PySem.W.kitOne K t (.type d.name) = some (f d)) ∧
    ((c = none ∧ ∃ n, t = .type n ∧ n ∈ ["NoneType", "int", "bool", "str", "list", "tuple", "dict"]) ∨ ∃ C, c = some C ∧ t = .ref C ∧ IsC K C) := by
  have kk : ∀ n, n ∈ ["NoneType", "int", "bool", "str", "list", "tuple", "dict"] → ∀ f : Kd → Bool, (∀ d : Kd, (n == d.name || (n == "bool" && d == .int)) = f d) → ∀ d : Kd, PySem.W.kitOne K (.type n) (.type d.name) = some (f d) := fun n hn f hf d => by
    have e := kdk n d hn
    rw [hf d] at e
    exact kit_ty e
  cases x with
  | non => exact ⟨_, _, _, .base .non, h, kk "NoneType" (by decide) _ (fun d => by cases d <;> decide), .inl ⟨rfl, _, rfl, by decide⟩⟩
  | bl b => exact ⟨_, _, _, .base (.bl b), h, kk "bool" (by decide) _ (fun d => by cases d <;> rfl), .inl ⟨rfl, _, rfl, by decide⟩⟩
  | int i => exact ⟨_, _, _, .base (.int i), h, kk "int" (by decide) _ (fun d => by cases d <;> rfl), .inl ⟨rfl, _, rfl, by decide⟩⟩
  | str z => exact ⟨_, _, _, .base (.str z), h, kk "str" (by decide) _ (fun d => by cases d <;> rfl), .inl ⟨rfl, _, rfl, by decide⟩⟩
  | byt _ => exact h.elim
  | flt _ => exact h.elim
  | ty _ => exact h.elim
  | ref a =>
    obtain ⟨o, ho, h⟩ := h
    cases o with
    | lst xs => exact ⟨_, _, _, tyx_lst ho, h, kk "list" (by decide) _ (fun d => by cases d <;> rfl), .inl ⟨rfl, _, rfl, by decide⟩⟩
    | tup xs => exact ⟨_, _, _, tyx_tup ho, h, kk "tuple" (by decide) _ (fun d => by cases d <;> rfl), .inl ⟨rfl, _, rfl, by decide⟩⟩
    | dK kvs => exact ⟨_, _, _, .base (.dK ho), h, kk "dict" (by decide) _ (fun d => by cases d <;> rfl), .inl ⟨rfl, _, rfl, by decide⟩⟩
    | dT kvs => exact ⟨_, _, _, .base (.dT ho), h, kk "dict" (by decide) _ (fun d => by cases d <;> rfl), .inl ⟨rfl, _, rfl, by decide⟩⟩
    | ins C dx fs =>
      obtain ⟨c, ic, h⟩ := h
      exact ⟨_, _, _, .base (.ins ho c ic.ha ic.hn ic.htk ic.hm), h, ic.out, .inr ⟨C, rfl, rfl, ic⟩⟩
    | _ => exact h.elim
/-- isinstance(x, T) -/
def rIsiB (d : Kd) (K : PySem.W.Frag) : List V → Hp → VK → Prop := fun xs H Q => ∃ x, xs = [x, .ty d.name] ∧ isO K x H fun f _ => Q (.bl (f d)) H
/-- isinstance(x, (T, U)), the tuple just laid -/
def rIsiBs (ds : List Kd) (K : PySem.W.Frag) : List V → Hp → VK → Prop := fun xs H Q => ∃ x tp, xs = [x, .ref tp] ∧ H tp = some (.tup (ds.map fun d => .ty d.name)) ∧ isO K x H fun f _ => Q (.bl (ds.any f)) H
/-- isinstance(x, C), C of the text -/
def rIsiC (C : Addr) (K : PySem.W.Frag) : List V → Hp → VK → Prop := fun xs H Q => ∃ x, xs = [x, .ref C] ∧ isO K x H fun _ c => match c with
  | none => Q (.bl false) H
  | some D => ∃ b, PySem.W.kitOne K (.ref D) (.ref C) = some b ∧ Q (.bl b) H
section
variable {X : Cx}
theorem call_isiB (d : Kd) {K : PySem.W.Frag} (hK : X.K = K := by rfl) : CallR X (.builtin "isinstance") (rIsiB d K) := by
  subst hK
  intro pins s σ H xs us Q I r h
  obtain ⟨x, rfl, h⟩ := h
  obtain ⟨t, f, c, ty, q, k, _⟩ := isO_ty h
  exact call_isi pins s σ H _ us Q I r ⟨x, _, t, _, _, rfl, .ty _, ty, k d, q⟩
theorem kitAny_kds {K : PySem.W.Frag} {t : Value} {f : Kd → Bool} (k : ∀ d : Kd, PySem.W.kitOne K t (.type d.name) = some (f d)) : ∀ ds : List Kd, PySem.W.kitAny K t (ds.map fun d => .type d.name) = some (ds.any f)
  | [] => rfl
  | d :: ds => kitAny_cons (k d) (fun e => by rw [kitAny_kds k ds, List.any_cons, e]; rfl) (fun e => by rw [List.any_cons, e]; rfl)
theorem clsV_kds : ∀ ds : List Kd, Paired ClsV (ds.map fun d => V.ty d.name) (ds.map fun d => Value.type d.name)
  | [] => .nil
  | _ :: ds => .cons (.ty _) (clsV_kds ds)
theorem call_isiBs (ds : List Kd) {K : PySem.W.Frag} (hK : X.K = K := by rfl) : CallR X (.builtin "isinstance") (rIsiBs ds K) := by
  subst hK
  intro pins s σ H xs us Q I r h
  obtain ⟨x, tp, rfl, ht, h⟩ := h
  obtain ⟨t, f, c, ty, q, k, _⟩ := isO_ty h
  exact call_isiT pins s σ H _ us Q I r ⟨x, tp, _, t, _, _, rfl, ht, clsV_kds ds, ty, kitAny_kds k ds, q⟩
theorem call_isiC {C : Addr} {K : PySem.W.Frag} (ic : IsC K C) (hK : X.K = K := by rfl) : CallR X (.builtin "isinstance") (rIsiC C K) := by
  subst hK
  intro pins s σ H xs us Q I r h
  obtain ⟨x, rfl, h⟩ := h
  obtain ⟨t, f, c, ty, q, k, e⟩ := isO_ty h
  rcases e with ⟨rfl, n, rfl, hn⟩ | ⟨D, rfl, rfl, _⟩
  · exact call_isi pins s σ H _ us Q I r ⟨x, _, _, _, _, rfl, .own _, ty, ic.inn n hn, q⟩
  · obtain ⟨b, e, q⟩ := q
    exact call_isi pins s σ H _ us Q I r ⟨x, _, _, _, _, rfl, .own _, ty, e, q⟩
/-! ### rules of the layer, the written part named -/
theorem call_maxU (hc : X.calm = true) : CallR X (.builtin "max") (rMaxU) := call_max2 hc
theorem call_minU (hc : X.calm = true) : CallR X (.builtin "min") (rMinU) := call_min2 hc
theorem cr_allK {K : PySem.W.Frag} (hc : X.calm = true) (hK : X.K = K := by rfl) : CallR X (.builtin "all") (rAll K) := by
  subst hK
  exact cr_all hc
theorem cr_anyK {K : PySem.W.Frag} (hc : X.calm = true) (hK : X.K = K := by rfl) : CallR X (.builtin "any") (rAny K) := by
  subst hK
  exact cr_any hc
theorem cr_sumK {K : PySem.W.Frag} (hc : X.calm = true) (hK : X.K = K := by rfl) : CallR X (.builtin "sum") (rSum K) := by
  subst hK
  exact cr_sum hc
theorem cr_maxK {K : PySem.W.Frag} (hc : X.calm = true) (hK : X.K = K := by rfl) : CallR X (.builtin "max") (rMax K) := by
  subst hK
  exact cr_max hc
theorem cr_minK {K : PySem.W.Frag} (hc : X.calm = true) (hK : X.K = K := by rfl) : CallR X (.builtin "min") (rMin K) := by
  subst hK
  exact cr_min hc
theorem pi_listK {tg l : Expr} {tl : TE} {K : PySem.W.Frag} (hl : PE X l tl) (hK : X.K = K := by rfl) : PI X tg l (iList K tl) := by
  subst hK
  exact pi_list hl
theorem pi_tupK {tg l : Expr} {tl : TE} {K : PySem.W.Frag} (hl : PE X l tl) (hK : X.K = K := by rfl) : PI X tg l (iTup K tl) := by
  subst hK
  exact pi_tup hl
theorem pi_strK {tg l : Expr} {tl : TE} (hl : PE X l tl) : PI X tg l (iStr tl) := pi_str hl
theorem pg_tupK {es : List Expr} {k : Nat} {t : TGs} {n : Nat} {pos : Pos} {K : PySem.W.Frag} (hc : X.calm = true) (h : PGs X es t) (hK : X.K = K := by rfl)
    (hn : (assignEach es X.env).length = n := by rfl) (hst : (assignEach es X.env).findIdx? (·.1) = none := by rfl) : PG X (.Tuple es k pos) (gTup K n t) := by
  subst hK
  exact pg_tup hc h hn hst
theorem pe_fldK {e : Expr} {f : Str} {pos : Pos} {ta : TE} {K : PySem.W.Frag} (he : PE X e ta) (hK : X.K = K := by rfl) (hb : attributeBase e f X.env (eval e X.env) = eval e X.env := by rfl) : PE X (.Attribute e f pos) (tFld K ta f) := by
  subst hK
  exact pe_fld he hb
theorem ps_fldK {o value : Expr} {f : Str} {pos pos' : Pos} {ta tv : TE} {K : PySem.W.Frag} (ha : PE X o ta) (hv : PE X value tv) (hK : X.K = K := by rfl) (hs : swapsWith value (some (.Attribute o f pos')) pos.line X.env = pure false := by rfl) : PS X (.Assign [.Attribute o f pos'] value pos) (sFld K ta tv f) := by
  subst hK
  exact ps_fld ha hv hs
/-! ### names of the module, calls with defaults -/
theorem pe_globE {x : Str} {v : V} {pos : Pos} (hg : Gl X x) (hm : ∃ u, X.mg x = some u ∧ RelV v u) (hd : (x == ("__debug__" : Str)) = false := by decide) : PE X (.Name x pos) (tC v) := by
  obtain ⟨u, hm, r⟩ := hm
  exact pe_glob hg hm r hd
theorem pe_callD {CX : CXT} {k : Nat} {f : Addr} {fd : FuncData} {ps : List Str} {sp : Sp} {dvs : List V} {E : XK} {x : Str} {p pos : Pos} {e : Expr} {es : List Expr} {t : TA}
    (F : FnOk X.prog X.w X.K X.mg X.base CX k f fd ps sp) (hr : Room k X.A) (hg : Gl X x) (hm : X.mg x = some (.ref f)) (hk : PySem.W.keepIn X.K (.ref f) = true) (hb : ∃ ds, Vals dvs ds ∧ Binds X.K fd ps ds) (hx : Passes CX X E)
    (ha : PA X (e :: es) t) (hdb : (x == ("__debug__" : Str)) = false := by decide) (he : starEach (e :: es) X.env = (false, eval e X.env) :: starEach es X.env := by rfl) (hpl : (backTo pos (starEach es X.env)).any (·.1) = false := by rfl) :
    PE X (.Call (.Name x p) (e :: es) [] pos) (tCall sp dvs E t) := by
  obtain ⟨ds, hd, hb⟩ := hb
  exact pe_call F hr hg hm hk hb hd hx ha hdb he hpl
theorem pe_callNE {CX : CXT} {k n : Nat} {f : Addr} {fd : FuncData} {ps ks : List Str} {sp : Sp} {E : XK} {x : Str} {p pos : Pos} {e : Expr} {es : List Expr} {kws : List Keyword} {t tk : TA} {gV : List V → List V → List V}
    (F : FnOk X.prog X.w X.K X.mg X.base CX k f fd ps sp) (hr : Room k X.A) (hg : Gl X x) (hm : X.mg x = some (.ref f)) (hk : PySem.W.keepIn X.K (.ref f) = true) (hb : ∃ g, KBn X.K fd ps n ks g gV) (hx : Passes CX X E)
    (ha : PA X (e :: es) t) (hkw : PK X kws tk) (hall : (backToKw pos (keywordEach kws X.env)).all (·.1.isSome) = true := by rfl) (hks : (backToKw pos (keywordEach kws X.env)).filterMap (·.1) = ks := by rfl)
    (hdb : (x == ("__debug__" : Str)) = false := by decide) (he : starEach (e :: es) X.env = (false, eval e X.env) :: starEach es X.env := by rfl)
    (hpl : ((backTo pos (starEach (e :: es) X.env)).any (·.1) || (backToKw pos (keywordEach kws X.env)).any (·.1.isNone)) = false := by rfl) :
    PE X (.Call (.Name x p) (e :: es) kws pos) (tCallN n ks.length sp gV E t tk) := by
  obtain ⟨g, hb⟩ := hb
  exact pe_callN F hr hg hm hk hb hx ha hkw hall hks hdb he hpl
end
/-! ### what the top has left -/
theorem fund_mk {K : PySem.W.Frag} {x qual : Str} {st : Stmt} {f : Addr} {dvs : List V} {oc dV : Value} {od an : Option Addr} {osl : Array (Option Value)} {kV doc pm cdv ct : Value}
    (l : K.lookup f = some ⟨oc, od, .func (PySem.W.fnOf x qual (defArgs st) (defBody st) (defScope st) dV kV doc pm an cdv ct), osl⟩) (c : PySem.W.codeIn K cdv qual = true) (k : PySem.W.keepIn K (.ref f) = true) (d : DflV K dV dvs) :
    FunD K x qual (defArgs st) (defBody st) (defScope st) dvs [] f (PySem.W.fnOf x qual (defArgs st) (defBody st) (defScope st) dV kV doc pm an cdv ct) :=
  ⟨⟨oc, od, dV, kV, doc, pm, an, cdv, ct, osl, rfl, l, c, d, .inl rfl⟩, k⟩
theorem dfl_mk {K : PySem.W.Frag} {dV : Value} {T : Addr} {o : Obj} {its : List Value} {n : Nat} {dvs : List V} (e : dV = .ref T) (l : K.lookup T = some o) (hd : o.data = .seq its.toArray n) (r : Vals dvs its) (hn : dvs ≠ []) : DflV K dV dvs := .inr ⟨hn, T, o, its, n, e, l, hd, r⟩
section
variable {K : PySem.W.Frag} {x qual : Str} {st : Stmt} {dvs : List V} {f : Addr} {fd : FuncData} {ps : List Str}
/-- all parameters are written, no defaults stand -/
theorem fund_all0 (F : FunD K x qual (defArgs st) (defBody st) (defScope st) [] [] f fd)
    (h : ∀ (kV doc pm : Value) (an : Option Addr) (cdv ct : Value) (us : List Value), us.length = ps.length → bindArgs (PySem.W.fnOf x qual (defArgs st) (defBody st) (defScope st) .none kV doc pm an cdv ct) ⟨us, []⟩ = pure (ps.zip us)) : Binds K fd ps [] := F.bindsN h
/-- all parameters are written, and defaults stand -/
theorem fund_allD (F : FunD K x qual (defArgs st) (defBody st) (defScope st) dvs [] f fd) (hd : dvs ≠ [])
    (h : ∀ (T : Addr) (kV doc pm : Value) (an : Option Addr) (cdv ct : Value) (us its : List Value), us.length = ps.length → its.length = dvs.length →
      ∃ k, bindArgs (PySem.W.fnOf x qual (defArgs st) (defBody st) (defScope st) (.ref T) kV doc pm an cdv ct) ⟨us, []⟩ = seqItems? (.ref T) >>= k ∧ k (some its.toArray) = pure (ps.zip us)) : Binds K fd ps [] := by
  obtain ⟨ds, r, b⟩ := F.binds1 (ps := ps) ps.length dvs.length hd (by omega) (fun T kV doc pm an cdv ct us its h1 h2 => by
    obtain ⟨k, e1, e2⟩ := h T kV doc pm an cdv ct us its h1 h2
    refine ⟨k, e1, ?_⟩
    rw [e2, List.drop_eq_nil_of_le (Nat.le_of_eq h2), List.append_nil])
  have e : ds = [] := by
    have := r.length
    rw [List.drop_length] at this
    exact List.eq_nil_of_length_eq_zero this.symm
  rw [e] at b
  exact b
theorem Vals.pick {xs : List V} {us : List Value} (r : Vals xs us) : ∀ ix : List Nat, Vals (ix.filterMap fun i => xs[i]?) (ix.filterMap fun i => us[i]?)
  | [] => .nil
  | i :: ix => by
    rw [List.filterMap_cons, List.filterMap_cons]
    cases e : xs[i]? with
    | none =>
      rw [Vals.none_of r e]
      exact Vals.pick r ix
    | some y =>
      obtain ⟨u, e2, r2⟩ := Vals.get r e
      rw [e2]
      exact .cons r2 (Vals.pick r ix)
/-- keywords: the parameters picked from the written values, the keywords' values, the defaults -/
theorem fund_kw (F : FunD K x qual (defArgs st) (defBody st) (defScope st) dvs [] f fd) (n : Nat) (ks : List Str) (ix : List Nat) (hd : dvs ≠ [])
    (h : ∀ (T : Addr) (kV doc pm : Value) (an : Option Addr) (cdv ct : Value) (us ws its : List Value), us.length = n → ws.length = ks.length → its.length = dvs.length →
      ∃ k, bindArgs (PySem.W.fnOf x qual (defArgs st) (defBody st) (defScope st) (.ref T) kV doc pm an cdv ct) ⟨us, ks.zip ws⟩ = seqItems? (.ref T) >>= k ∧ k (some its.toArray) = pure (ps.zip (ix.filterMap fun i => (us ++ (ws ++ its))[i]?))) :
    ∃ g, KBn K fd ps n ks g (fun vs zs => ix.filterMap fun i => (vs ++ (zs ++ dvs))[i]?) := by
  obtain ⟨oc, od, dV, kV, doc, pm, an, cdv, ct, osl, rfl, lk, hcd, hD, hK⟩ := F.ex
  rcases hD with ⟨e, _⟩ | ⟨_, T, o, its, m, rfl, lT, oT, rT⟩
  · exact absurd e hd
  · refine ⟨fun us ws => ix.filterMap fun i => (us ++ (ws ++ its))[i]?, ⟨fun s us ws X l1 l2 => ?_, fun r1 r2 => Vals.pick (r1.append (r2.append rT)) ix⟩⟩
    obtain ⟨k, e1, e2⟩ := h T kV doc pm an cdv ct us ws its l1 l2 rT.length.symm
    refine BindsTo.of_looks fun M => ?_
    rw [e1]
    exact looks_items X lT oT (.of_pure e2)
theorem fund_kw0 (F : FunD K x qual (defArgs st) (defBody st) (defScope st) [] [] f fd) (n : Nat) (ks : List Str) (ix : List Nat)
    (h : ∀ (kV doc pm : Value) (an : Option Addr) (cdv ct : Value) (us ws : List Value), us.length = n → ws.length = ks.length →
      bindArgs (PySem.W.fnOf x qual (defArgs st) (defBody st) (defScope st) .none kV doc pm an cdv ct) ⟨us, ks.zip ws⟩ = pure (ps.zip (ix.filterMap fun i => (us ++ ws)[i]?))) :
    ∃ g, KBn K fd ps n ks g (fun vs zs => ix.filterMap fun i => (vs ++ zs)[i]?) := by
  obtain ⟨oc, od, dV, kV, doc, pm, an, cdv, ct, osl, rfl, lk, hcd, hD, hK⟩ := F.ex
  rcases hD with ⟨_, rfl⟩ | ⟨e, _⟩
  · refine ⟨fun us ws => ix.filterMap fun i => (us ++ ws)[i]?, ⟨fun s us ws X l1 l2 => ?_, fun r1 r2 => Vals.pick (r1.append r2) ix⟩⟩
    exact .of_eq (h kV doc pm an cdv ct us ws l1 l2)
  · exact absurd rfl e
end
/-! ### the heap -/
theorem get_upd {H : Hp} {a p : Addr} {o u : HO} (hp : H p = none) (h : H a = some o) : upd H p u a = some o := by
  rw [upd_ne (ne_of_none h hp)]
  exact h
theorem get_same {H H' : Hp} {a : Addr} {o : HO} (s : Same H H') (h : H a = some o) : H' a = some o := s a o h
theorem same_upd {H H' : Hp} {p : Addr} {u : HO} (s : Same H H') (hp : H' p = none) : Same H (upd H' p u) := fun _ _ e => get_upd hp (s _ _ e)
/-! ### comprehensions whose element gives a value of the item alone (none: it is left out) -/
theorem take_succ_get {α : Type} {xs : List α} {i : Nat} {x : α} (h : xs[i]? = some x) : xs.take (i + 1) = xs.take i ++ [x] := by
  rw [List.take_succ, h]
  rfl
theorem lc_fm {J : It} {G : Hp → Prop} {g : TG} {tt : TT} {te : TE} {vs : List Nat} {σ : St} {H1 : Hp} {D : Addr} {Qd : Hp → Prop} (xs : List V) (f : V → Option V) (w : Walk J xs.length G (YAt xs)) (hl : xs.length < sizeLine)
    (hG : ∀ H, Same H1 H → G H) (hD : H1 D = none)
    (hs : ∀ x ∈ xs, ∀ H (Q : VK) (R : Hp → Prop), Same H1 H → (∀ H', Same H H' → match f x with | some y => Q y H' | none => R H') → g x (wipe σ vs) H fun σ2 H2 => wipe σ2 vs = wipe σ vs ∧ tt σ2 H2 fun b H3 => if b = true then te σ2 H3 Q else R H3)
    (hd : ∀ H, Same H1 H → H D = some (.lst (xs.filterMap f)) → Qd H) :
    ∃ W : Nat → Nat → Hp → Prop, (∃ m, W 0 m (upd H1 D (.lst []))) ∧ ∀ i m H, W i m H →
      (J.stop i H ∧ Qd H) ∨ (J.go i H ∧ ∃ Nx : Hp → Prop, (∀ H', Nx H' → ∃ m', m' < m ∧ W (i + 1) m' H') ∧ ∀ x H', J.yld i H x H' → g x (wipe σ vs) H' fun σ2 H2 => wipe σ2 vs = wipe σ vs ∧ tt σ2 H2 fun b H3 =>
        if b = true then te σ2 H3 fun y H4 => ∃ acc, H4 D = some (.lst acc) ∧ acc.length < sizeLine ∧ Nx (upd H4 D (.lst (acc ++ [y]))) else Nx H3) := by
  refine lc_it w (fun i H => Same H1 H ∧ H D = some (.lst ((xs.take i).filterMap f))) ⟨same_upd (Same.refl H1) hD, upd_same⟩ (fun i H _ h => hG H h.1) ?_ (fun H h => ?_)
  · rintro i x H H' hi ⟨s1, e1⟩ ⟨rfl, hx⟩
    refine hs x (List.mem_of_getElem? hx) H' _ _ s1 fun H4 s4 => ?_
    have e4 := s4 _ _ e1
    have s14 := s1.trans s4
    cases ef : f x with
    | none =>
      refine ⟨s14, ?_⟩
      rw [take_succ_get hx, List.filterMap_append, List.filterMap_cons, ef]
      simpa using e4
    | some y =>
      refine ⟨_, e4, ?_, fun b o hb => ?_, ?_⟩
      · refine Nat.lt_of_le_of_lt (List.length_filterMap_le _ _) (Nat.lt_of_le_of_lt ?_ hl)
        rw [List.length_take]
        exact Nat.min_le_right _ _
      · rw [upd_ne (ne_of_none hb hD)]
        exact s14 _ _ hb
      · rw [upd_same, take_succ_get hx, List.filterMap_append, List.filterMap_cons, ef]
        rfl
  · rw [List.take_length] at h
    exact hd H h.1 h.2
theorem lc_map {J : It} {G : Hp → Prop} {g : TG} {tt : TT} {te : TE} {vs : List Nat} {σ : St} {H1 : Hp} {D : Addr} {Qd : Hp → Prop} (xs : List V) (f : V → V) (w : Walk J xs.length G (YAt xs)) (hl : xs.length < sizeLine)
    (hG : ∀ H, Same H1 H → G H) (hD : H1 D = none)
    (hs : ∀ x ∈ xs, ∀ H (Q : VK) (R : Hp → Prop), Same H1 H → (∀ H', Same H H' → Q (f x) H') → g x (wipe σ vs) H fun σ2 H2 => wipe σ2 vs = wipe σ vs ∧ tt σ2 H2 fun b H3 => if b = true then te σ2 H3 Q else R H3)
    (hd : ∀ H, Same H1 H → H D = some (.lst (xs.map f)) → Qd H) :
    ∃ W : Nat → Nat → Hp → Prop, (∃ m, W 0 m (upd H1 D (.lst []))) ∧ ∀ i m H, W i m H →
      (J.stop i H ∧ Qd H) ∨ (J.go i H ∧ ∃ Nx : Hp → Prop, (∀ H', Nx H' → ∃ m', m' < m ∧ W (i + 1) m' H') ∧ ∀ x H', J.yld i H x H' → g x (wipe σ vs) H' fun σ2 H2 => wipe σ2 vs = wipe σ vs ∧ tt σ2 H2 fun b H3 =>
        if b = true then te σ2 H3 fun y H4 => ∃ acc, H4 D = some (.lst acc) ∧ acc.length < sizeLine ∧ Nx (upd H4 D (.lst (acc ++ [y]))) else Nx H3) :=
  lc_fm xs (fun x => some (f x)) w hl hG hD (fun x hx H Q R s h => hs x hx H Q R s h) (fun H s e => hd H s (by rw [e, List.filterMap_eq_map']))
/-- the signs of a text as texts of one sign -/
def signs (z : Str) : List V := z.cps.toList.map fun c => .str ⟨#[c]⟩
theorem walk_signs {z : Str} : Walk (Its z) (signs z).length (fun _ => True) (YAt (signs z)) := by
  have e : (signs z).length = z.cps.size := by
    unfold signs
    rw [List.length_map]
    rfl
  rw [e]
  refine walk_str.mono (fun _ h => h) fun i H x H' _ _ ⟨h1, c, h2, h3⟩ => ⟨h1, ?_⟩
  unfold signs
  rw [List.getElem?_map, Array.getElem?_toList, h2, h3]
  rfl
/-- a for, item by item -/
def forW (G : Hp → Prop) (g : TG) (tb : TS) (D : Ends) : List V → St → Hp → Prop
  | [], σ, H => G H ∧ D.nx σ H
  | x :: xs, σ, H => G H ∧ g x σ H fun σ2 H2 => tb { D with nx := forW G g tb D xs, ct := forW G g tb D xs, bk := D.nx } σ2 H2
theorem forW_G {G : Hp → Prop} {g : TG} {tb : TS} {D : Ends} : ∀ {xs : List V} {σ : St} {H : Hp}, forW G g tb D xs σ H → G H
  | [], _, _, h => h.1
  | _ :: _, _, _, h => h.1
theorem for_W {J : It} {G : Hp → Prop} {g : TG} {tb : TS} {D : Ends} {σ : St} {H : Hp} (xs : List V) (w : Walk J xs.length G (YAt xs)) (h : forW G g tb D xs σ H) :
    ∃ W : Nat → Nat → St → Hp → Prop, (∃ m, W 0 m σ H) ∧ ∀ i m σ H, W i m σ H →
      (J.stop i H ∧ D.nx σ H) ∨ (J.go i H ∧ ∃ N : St → Hp → Prop, (∀ σ' H', N σ' H' → ∃ m', m' < m ∧ W (i + 1) m' σ' H') ∧ ∀ x H', J.yld i H x H' → g x σ H' fun σ2 H2 => tb { D with nx := N, ct := N, bk := D.nx } σ2 H2) := by
  refine ⟨fun i m σ H => i ≤ xs.length ∧ m = xs.length - i ∧ forW G g tb D (xs.drop i) σ H, ⟨_, Nat.zero_le _, rfl, h⟩, ?_⟩
  rintro i m σ H ⟨hi, rfl, h⟩
  by_cases c : i = xs.length
  · subst c
    rw [List.drop_length] at h
    exact .inl ⟨w.stops H h.1, h.2⟩
  · have hi' : i < xs.length := by omega
    refine .inr ⟨w.goes i H hi' (forW_G h), forW G g tb D (xs.drop (i + 1)), fun σ' H' q => ⟨xs.length - (i + 1), by omega, by omega, rfl, q⟩, fun x H' hy => ?_⟩
    obtain ⟨rfl, hx⟩ := w.yields i H x H' hi' (forW_G h) hy
    rw [List.drop_eq_getElem_cons hi'] at h
    obtain ⟨_, rfl⟩ := List.getElem?_eq_some_iff.mp hx
    exact h.2
/-! ### a def of which nothing raised leaves -/
theorem fund_ok0 {P : Program} {w : World} {K : PySem.W.Frag} {mg : Str → Option Value} {base : Heap} {x qual : Str} {params : Arguments} {body : List Stmt} {scope : Scope} {dvs : List V} {f : Addr} {fd : FuncData} {N ps : List Str} {k : Nat} {sp : Sp}
    (F : FunD K x qual params body scope dvs [] f fd) (S : FnScope N ps scope) (len : ∀ vs H Q E, sp vs H Q E → vs.length = ps.length)
    (hbody : ∀ (cdv : Value) (A : Around) (outer : List Env) (s : Shared) (H : Hp) (vs : List V) (Q : VK) (E : XK), Room k (A.deeper (PyProof.Rows.envOfC qual scope s.heap.objs.size f cdv)) → sp vs H Q E →
      ∃ t, PSs (cxOf CX0 P w K mg base N qual scope f cdv A outer s H E).nox body t ∧ t { nx := fun _ H' => Q .non H', rt := Q } (start N vs) H) : FnOk P w K mg base CX0 (k + 1) f fd ps sp :=
  F.ok S len fun cdv A outer s H vs Q E hr h => let ⟨t, h1, h2⟩ := hbody cdv A outer s H vs Q E hr h; ⟨t, h1.nox, h2⟩
/-! ### one step of a reading -/
section
variable {D : Ends} {σ : St} {H : Hp} {Q : VK} {K : PySem.W.Frag} {t u : TS} {ta tb te to tl : TE} {tc td : TT} {TQ : Bool → Hp → Prop} {A : TA} {AQ : List V → Hp → Prop} {g : TG} {gs : TGs} {GQ : St → Hp → Prop} {r r' : R2} {v x y : V} {i : Nat}
theorem i_seq (h : t { D with nx := u D } σ H) : tSeq t u D σ H := h
theorem i_ifS (h : tc σ H fun b H1 => if b = true then t D σ H1 else u D σ H1) : tIfS tc t u D σ H := h
theorem i_ret (h : te σ H D.rt) : tRet te D σ H := h
theorem i_retN (h : D.rt .non H) : tRetN D σ H := h
theorem i_next (h : D.nx σ H) : tNext D σ H := h
theorem i_brk (h : D.bk σ H) : tBreak D σ H := h
theorem i_cont (h : D.ct σ H) : tCont D σ H := h
theorem i_asg (h : te σ H fun x H1 => g x σ H1 D.nx) : tAsg te g D σ H := h
theorem i_drop (h : te σ H fun _ H1 => D.nx σ H1) : tDrop te D σ H := h
theorem i_name (h : GQ (σ.set i (some v)) H) : gName i v σ H GQ := h
theorem i_sub {ti : TE} {ts : TSet} (h : to σ H fun o H1 => ti σ H1 fun i H2 => ts o i v H2 fun H3 => GQ σ H3) : gSub to ti ts v σ H GQ := h
theorem i_tupT {n : Nat} {a : Addr} {xs : List V} (h1 : SqT K H a xs) (h2 : xs.length = n) (h3 : gs xs σ H GQ) : gTup K n gs (.ref a) σ H GQ := ⟨a, xs, rfl, h1, h2, h3⟩
theorem i_gnil (h : GQ σ H) : gNil [] σ H GQ := ⟨rfl, h⟩
theorem i_gcons {vs : List V} (h : g v σ H fun σ' H' => gs vs σ' H' GQ) : gCons g gs (v :: vs) σ H GQ := ⟨v, vs, rfl, h⟩
theorem i_setL {p : Addr} {xs : List V} {k : Int} {j : Nat} {HQ : Hp → Prop} (h1 : H p = some (.lst xs)) (h2 : ixN xs.length k = some j) (h3 : HQ (upd H p (.lst (xs.set j v)))) : rSetL (.ref p) (.int k) v H HQ := ⟨p, xs, k, j, rfl, rfl, h1, h2, h3⟩
theorem i_test (h : te σ H fun x H' => ∃ k, x = .bl k ∧ TQ k H') : tTest te σ H TQ := h
theorem i_tB (h : te σ H fun x H' => ∃ k, x = .bl k ∧ TQ k H') : tB te σ H TQ := h
theorem i_bl {b : Bool} {R : Bool → Prop} (h : R b) : ∃ k, V.bl b = .bl k ∧ R k := ⟨b, rfl, h⟩
theorem i_not (h : tc σ H fun c H1 => TQ (!c) H1) : tNot tc σ H TQ := h
theorem i_and (h : tc σ H fun c H1 => if c = true then td σ H1 TQ else TQ false H1) : tAnd tc td σ H TQ := h
theorem i_or (h : tc σ H fun c H1 => if c = true then TQ true H1 else td σ H1 TQ) : tOr tc td σ H TQ := h
theorem i_andV (h : ta σ H fun x H1 => ∃ c, x = .bl c ∧ if c = true then tb σ H1 Q else Q (.bl false) H1) : tAndV ta tb σ H Q := h
theorem i_orV (h : ta σ H fun x H1 => ∃ c, x = .bl c ∧ if c = true then Q (.bl true) H1 else tb σ H1 Q) : tOrV ta tb σ H Q := h
theorem i_notV (h : ta σ H fun x H1 => ∃ c, x = .bl c ∧ Q (.bl (!c)) H1) : tNotV ta σ H Q := h
theorem i_if (h : tc σ H fun c H1 => if c = true then ta σ H1 Q else tb σ H1 Q) : tIf tc ta tb σ H Q := h
theorem i_var (h1 : σ[i]? = some (some v)) (h2 : Q v H) : tVar i σ H Q := ⟨v, h1, h2⟩
theorem i_c (h : Q v H) : tC v σ H Q := h
theorem i_op (h : ta σ H fun x H1 => tb σ H1 fun y H2 => r x y H2 Q) : tOp r ta tb σ H Q := h
theorem i_un {r1 : V → Hp → VK → Prop} (h : ta σ H fun x H1 => r1 x H1 Q) : tUn r1 ta σ H Q := h
theorem i_rU {f : Int → V} {n : Int} (h : Q (f n) H) : rU f (.int n) H Q := ⟨n, rfl, h⟩
theorem i_rI {C : Int → Int → Prop} {f : Int → Int → V} {n m : Int} (h1 : C n m) (h2 : Q (f n m) H) : rI C f (.int n) (.int m) H Q := ⟨n, m, rfl, rfl, h1, h2⟩
theorem i_rI0 {f : Int → Int → V} {n m : Int} (h2 : Q (f n m) H) : rI0 f (.int n) (.int m) H Q := ⟨n, m, rfl, rfl, h2⟩
theorem i_chain (h : ta σ H fun x H1 => tb σ H1 fun y H2 => r x y H2 fun z H3 => ∃ k, z = .bl k ∧ (if k = true then te σ H3 fun w' H4 => r' y w' H4 Q else Q (.bl false) H3)) : tChain r r' ta tb te σ H Q := h
theorem i_addI {n m : Int} (h : Q (.int (n + m)) H) : rAddU K (.int n) (.int m) H Q := h
theorem i_addS {n m : Str} (h1 : n.length + m.length ≤ sizeLine) (h : Q (.str (n ++ m)) H) : rAddU K (.str n) (.str m) H Q := ⟨h1, h⟩
theorem i_addL {p q : Addr} {xs ys : List V} (h1 : H p = some (.lst xs)) (h2 : H q = some (.lst ys)) (h3 : xs.length + ys.length ≤ sizeLine) (h : ∀ b, H b = none → Q (.ref b) (upd H b (.lst (xs ++ ys)))) : rAddU K (.ref p) (.ref q) H Q := .inl ⟨xs, ys, h1, h2, h3, h⟩
theorem i_addT {p q : Addr} {xs ys : List V} (h1 : SqT K H p xs) (h2 : SqT K H q ys) (h0 : xs ≠ []) (h3 : xs.length + ys.length ≤ sizeLine) (e : ys = [] → Q (.ref p) H) (h : ys ≠ [] → ∀ b, H b = none → Q (.ref b) (upd H b (.tup (xs ++ ys)))) : rAddU K (.ref p) (.ref q) H Q :=
  .inr ⟨p, q, xs, ys, rfl, rfl, h1, h2, h0, h3, e, h⟩
theorem i_mulI {n m : Int} (h1 : CMulW n m) (h : Q (.int (n * m)) H) : rMulU (.int n) (.int m) H Q := ⟨h1, h⟩
theorem i_eqS {b : Bool} (h1 : eqS x y = some b) (h : Q (.bl b) H) : rEqU K x y H Q := by
  unfold rEqU
  rw [h1]
  exact h
theorem i_neS {b : Bool} (h1 : eqS x y = some b) (h : Q (.bl (!b)) H) : rNeU K x y H Q := by
  unfold rNeU
  rw [h1]
  exact h
theorem i_eqD {a' b' : PyData} (h0 : eqS x y = none) (h1 : Dp K H x a') (h2 : Dp K H y b') (h3 : SeqAt.shaped a' = true) (h4 : SeqAt.shaped b' = true) (h : Q (.bl (PyData.eqv a' b')) H) : rEqU K x y H Q := by
  unfold rEqU
  rw [h0]
  exact .inl ⟨a', b', h1, h2, h3, h4, h⟩
theorem i_eqG {p q : Addr} {xs ys : List V} {n : Nat} {b : Bool} (h1 : (SqL K H p xs ∧ SqL K H q ys) ∨ (SqT K H p xs ∧ SqT K H q ys)) (hn : n < 60) (t : EqVs K H n xs ys b) (h : Q (.bl b) H) : rEqU K (.ref p) (.ref q) H Q := .inr ⟨p, q, xs, ys, n, b, rfl, rfl, h1, hn, t, h⟩
theorem i_neG {p q : Addr} {xs ys : List V} {n : Nat} {b : Bool} (h1 : (SqL K H p xs ∧ SqL K H q ys) ∨ (SqT K H p xs ∧ SqT K H q ys)) (hn : n < 60) (t : EqVs K H n xs ys b) (h : Q (.bl (!b)) H) : rNeU K (.ref p) (.ref q) H Q := .inr ⟨p, q, xs, ys, n, b, rfl, rfl, h1, hn, t, h⟩
theorem i_neD {a' b' : PyData} (h0 : eqS x y = none) (h1 : Dp K H x a') (h2 : Dp K H y b') (h3 : SeqAt.shaped a' = true) (h4 : SeqAt.shaped b' = true) (h : Q (.bl (!PyData.eqv a' b')) H) : rNeU K x y H Q := by
  unfold rNeU
  rw [h0]
  exact .inl ⟨a', b', h1, h2, h3, h4, h⟩
theorem i_isB {a' b' : Bool} (h : Q (.bl (decide (a' = b'))) H) : rIsU (.bl a') (.bl b') H Q := h
theorem i_isN (h : Q (.bl (decide (x = .non))) H) : rIsU x .non H Q := by cases x <;> exact h
theorem i_isnB {a' b' : Bool} (h : Q (.bl (!decide (a' = b'))) H) : rIsnU (.bl a') (.bl b') H Q := h
theorem i_isnN (h : Q (.bl (!decide (x = .non))) H) : rIsnU x .non H Q := by cases x <;> exact h
theorem i_inS {c : Nat} {z : Str} (h : Q (.bl (decide (c ∈ z.cps.toList))) H) : rInU K (.str ⟨#[c]⟩) (.str z) H Q := ⟨c, rfl, h⟩
theorem i_ixL {p : Addr} {xs : List V} {n : Int} {w' : V} (h1 : SqL K H p xs) (h2 : atI xs n = some w') (h : Q w' H) : rIxU K (.ref p) (.int n) H Q := ⟨xs, w', .inl h1, h2, h⟩
theorem i_ixT {p : Addr} {xs : List V} {n : Int} {w' : V} (h1 : SqT K H p xs) (h2 : atI xs n = some w') (h : Q w' H) : rIxU K (.ref p) (.int n) H Q := ⟨xs, w', .inr h1, h2, h⟩
theorem i_ixS {z : Str} {n : Int} {c : Nat} (h0 : z.length ≤ sizeLine) (h2 : atI z.cps.toList n = some c) (h : Q (.str ⟨#[c]⟩) H) : rIxU K (.str z) (.int n) H Q := ⟨h0, c, h2, h⟩
theorem i_sl {rs : V → Option Int → Option Int → Hp → VK → Prop} {tl th : TO} (h : te σ H fun x H1 => tl σ H1 fun l H2 => th σ H2 fun u H3 => rs x l u H3 Q) : tSl rs te tl th σ H Q := h
theorem i_slS {z : Str} {lo hi : Option Int} (h0 : z.length ≤ sizeLine) (h : Q (.str (cutS z lo hi)) H) : rSlU K (.str z) lo hi H Q := ⟨h0, h⟩
theorem i_slL {p : Addr} {xs : List V} {lo hi : Option Int} (h0 : SqL K H p xs) (h : ∀ b, H b = none → Q (.ref b) (upd H b (.lst (cutV xs lo hi)))) : rSlU K (.ref p) lo hi H Q := .inl ⟨p, xs, rfl, h0, h⟩
theorem i_po0 {OQ : Option Int → Hp → Prop} (h : OQ none H) : tNoPart σ H OQ := h
theorem i_po1 {OQ : Option Int → Hp → Prop} (h : te σ H fun x H1 => ∃ i, x = .int i ∧ OQ (some i) H1) : tPart te σ H OQ := h
theorem i_poI {R : Int → Prop} {n : Int} (h : R n) : ∃ i, V.int n = .int i ∧ R i := ⟨n, rfl, h⟩
theorem i_lst (h : A σ H fun xs H1 => xs.length ≤ sizeLine ∧ ∀ p, H1 p = none → Q (.ref p) (upd H1 p (.lst xs))) : tLst A σ H Q := h
theorem i_tup (h : A σ H fun xs H1 => xs.length ≤ sizeLine ∧ ∀ p, H1 p = none → Q (.ref p) (upd H1 p (.tup xs))) : tTup A σ H Q := h
theorem i_new {n : Nat} {R : Addr → Prop} (h1 : n ≤ 1000) (h : ∀ p, H p = none → R p) : n ≤ sizeLine ∧ ∀ p, H p = none → R p := ⟨Nat.le_of_lt (small1000 h1), h⟩
theorem i_nil (h : AQ [] H) : tNil σ H AQ := h
theorem i_cons (h : te σ H fun x H1 => A σ H1 fun xs H2 => AQ (x :: xs) H2) : tCons te A σ H AQ := h
theorem i_cB {rb : List V → Hp → VK → Prop} (h : A σ H fun vs H1 => rb vs H1 Q) : tCB rb A σ H Q := h
theorem i_call {sp : Sp} {dvs : List V} {E : XK} (h : A σ H fun vs H1 => sp (vs ++ dvs) H1 Q E) : tCall sp dvs E A σ H Q := h
theorem i_callN {n m : Nat} {sp : Sp} {gV : List V → List V → List V} {E : XK} {B : TA} (h : A σ H fun vs H1 => B σ H1 fun zs H2 => vs.length = n ∧ zs.length = m ∧ sp (gV vs zs) H2 Q E) : tCallN n m sp gV E A B σ H Q := h
theorem i_lenS {z : Str} (h0 : z.length ≤ sizeLine) (h : Q (.int z.length) H) : rLenU K [.str z] H Q := ⟨_, _, rfl, ⟨h0, rfl⟩, h⟩
theorem i_lenL {p : Addr} {xs : List V} (h0 : SqL K H p xs) (h : Q (.int xs.length) H) : rLenU K [.ref p] H Q := ⟨_, _, rfl, .inl ⟨xs, h0, rfl⟩, h⟩
theorem i_lenT {p : Addr} {xs : List V} (h0 : SqT K H p xs) (h : Q (.int xs.length) H) : rLenU K [.ref p] H Q := ⟨_, _, rfl, .inr ⟨xs, h0, rfl⟩, h⟩
theorem i_isiB {d : Kd} (h1 : y = .ty d.name) (h : isO K x H fun f _ => Q (.bl (f d)) H) : rIsiB d K [x, y] H Q := ⟨x, by rw [h1], h⟩
theorem i_isiBs {ds : List Kd} {p : Addr} (h0 : H p = some (.tup (ds.map fun d => .ty d.name))) (h : isO K x H fun f _ => Q (.bl (ds.any f)) H) : rIsiBs ds K [x, .ref p] H Q := ⟨x, p, rfl, h0, h⟩
theorem i_all {p : Addr} {bs : List Bool} (h0 : SqL K H p (bs.map V.bl)) (h : Q (.bl (bs.all id)) H) : rAll K [.ref p] H Q := ⟨p, bs, rfl, h0, h⟩
theorem i_isoN {R : (Kd → Bool) → Option Addr → Prop} (h : R (fun _ => false) none) : isO K .non H R := h
theorem i_isoB {R : (Kd → Bool) → Option Addr → Prop} {b : Bool} (h : R (fun d => d == .int || d == .bl) none) : isO K (.bl b) H R := h
theorem i_isoI {R : (Kd → Bool) → Option Addr → Prop} {n : Int} (h : R (fun d => d == .int) none) : isO K (.int n) H R := h
theorem i_isoS {R : (Kd → Bool) → Option Addr → Prop} {z : Str} (h : R (fun d => d == .str) none) : isO K (.str z) H R := h
theorem i_isoL {R : (Kd → Bool) → Option Addr → Prop} {p : Addr} {xs : List V} (h0 : SqL K H p xs) (h : R (fun d => d == .lst) none) : isO K (.ref p) H R := ⟨.lst xs, h0, h⟩
theorem i_isoT {R : (Kd → Bool) → Option Addr → Prop} {p : Addr} {xs : List V} (h0 : SqT K H p xs) (h : R (fun d => d == .tup) none) : isO K (.ref p) H R := ⟨.tup xs, h0, h⟩
/-- of an object: it is none of int, bool, str -/
theorem i_isoR {R : (Kd → Bool) → Option Addr → Prop} {p : Addr} (kn : Kn K H (.ref p)) (h : ∀ f c, f .int = false → f .bl = false → f .str = false → R f c) : isO K (.ref p) H R := by
  obtain ⟨o, ho, k⟩ := kn
  refine ⟨o, ho, ?_⟩
  cases o <;> first | exact h _ _ rfl rfl rfl | exact ⟨k.1, k.2, h _ _ rfl rfl rfl⟩ | exact k.elim
theorem i_dec {p : Prop} [Decidable p] {A' B' : Prop} (h1 : p → A') (h2 : ¬ p → B') : if decide p = true then A' else B' := by
  by_cases h : p
  · rw [if_pos (decide_eq_true h)]
    exact h1 h
  · rw [if_neg (by rw [decide_eq_false h]; exact Bool.false_ne_true)]
    exact h2 h
theorem i_decT {p : Prop} [Decidable p] {A' B' : Prop} (h : p) (h1 : A') : if decide p = true then A' else B' := i_dec (fun _ => h1) (fun z => absurd h z)
theorem i_decF {p : Prop} [Decidable p] {A' B' : Prop} (h : ¬ p) (h1 : B') : if decide p = true then A' else B' := i_dec (fun z => absurd z h) (fun _ => h1)
theorem i_ifN {b : Bool} {A' B' : Prop} (h : if b = true then B' else A') : if (!b) = true then A' else B' := by cases b <;> exact h
theorem i_ifAnd {b c : Bool} {A' B' : Prop} (h : if b = true then (if c = true then A' else B') else B') : if (b && c) = true then A' else B' := by cases b <;> exact h
theorem i_isIf {c A' B' : Prop} [Decidable c] (h : if c then A' else B') : if c then A' else B' := h
theorem i_tT {b : Bool} {A' B' : Prop} (h : b = true) (h1 : A') : if b = true then A' else B' := by rw [h]; exact h1
theorem i_tF {b : Bool} {A' B' : Prop} (h : b = false) (h1 : B') : if b = true then A' else B' := by rw [h]; exact h1
theorem i_boo {b : Bool} {A' B' : Prop} (h1 : b = true → A') (h2 : b = false → B') : if b = true then A' else B' := by cases b <;> first | exact h1 rfl | exact h2 rfl
end
/-! ### loops and comprehensions, up to the loop's own question -/
section
variable {D : Ends} {σ : St} {H : Hp} {Q : VK} {K : PySem.W.Frag} {tb : TS} {te : TE} {wi : TI} {g : TG} {A : TA} {R : It → Hp → Prop}
theorem i_for (h : wi σ H fun J H1 => ∃ W : Nat → Nat → St → Hp → Prop, (∃ m, W 0 m σ H1) ∧ ∀ i m σ H, W i m σ H →
  (J.stop i H ∧ D.nx σ H) ∨ (J.go i H ∧ ∃ N : St → Hp → Prop, (∀ σ' H', N σ' H' → ∃ m', m' < m ∧ W (i + 1) m' σ' H') ∧ ∀ x H', J.yld i H x H' → g x σ H' fun σ2 H2 => tb { D with nx := N, ct := N, bk := D.nx } σ2 H2)) : tFor wi g tb D σ H := h
theorem i_lc {tt : TT} {vs : List Nat} (h : wi σ H fun J H1 => ∀ D, H1 D = none → ∃ W : Nat → Nat → Hp → Prop, (∃ m, W 0 m (upd H1 D (.lst []))) ∧ ∀ i m H, W i m H →
  (J.stop i H ∧ Q (.ref D) H) ∨ (J.go i H ∧ ∃ Nx : Hp → Prop, (∀ H', Nx H' → ∃ m', m' < m ∧ W (i + 1) m' H') ∧ ∀ x H', J.yld i H x H' → g x (wipe σ vs) H' fun σ2 H2 => wipe σ2 vs = wipe σ vs ∧ tt σ2 H2 fun b H3 =>
    if b = true then te σ2 H3 fun y H4 => ∃ acc, H4 D = some (.lst acc) ∧ acc.length < sizeLine ∧ Nx (upd H4 D (.lst (acc ++ [y]))) else Nx H3)) : tLc wi g tt te vs σ H Q := h
theorem i_iStr (h : te σ H fun v H1 => ∃ x, v = .str x ∧ R (Its x) H1) : iStr te σ H R := h
theorem i_itS {z : Str} {R : Str → Prop} (h : R z) : ∃ x, V.str z = .str x ∧ R x := ⟨z, rfl, h⟩
theorem i_iList (h : te σ H fun x H1 => ∃ a, x = .ref a ∧ (∃ xs, SqL K H1 a xs) ∧ R (Itl K a) H1) : iList K te σ H R := h
theorem i_iTup (h : te σ H fun x H1 => ∃ a, x = .ref a ∧ (∃ xs, SqT K H1 a xs) ∧ R (Itt K a) H1) : iTup K te σ H R := h
theorem i_itL {a : Addr} {xs : List V} {R : Addr → Prop} (h0 : SqL K H a xs) (h : R a) : ∃ b, V.ref a = .ref b ∧ (∃ xs, SqL K H b xs) ∧ R b := ⟨a, rfl, ⟨xs, h0⟩, h⟩
theorem i_itT {a : Addr} {xs : List V} {R : Addr → Prop} (h0 : SqT K H a xs) (h : R a) : ∃ b, V.ref a = .ref b ∧ (∃ xs, SqT K H b xs) ∧ R b := ⟨a, rfl, ⟨xs, h0⟩, h⟩
theorem i_iR1 (h : A σ H fun vs H1 => ∃ j : Int, vs = [.int j] ∧ -(2 ^ 62) ≤ j ∧ j < 2 ^ 62 ∧ R (Itr 0 j.toNat) H1) : iRng1 A σ H R := h
theorem i_r1 {j : Int} {R : Int → Prop} (h0 : -(2 ^ 62) ≤ j ∧ j < 2 ^ 62) (h : R j) : ∃ i, [V.int j] = [.int i] ∧ -(2 ^ 62) ≤ i ∧ i < 2 ^ 62 ∧ R i := ⟨j, rfl, h0.1, h0.2, h⟩
theorem i_forC {G : Hp → Prop} {x : V} {xs : List V} (h1 : G H) (h2 : g x σ H fun σ2 H2 => tb { D with nx := forW G g tb D xs, ct := forW G g tb D xs, bk := D.nx } σ2 H2) : forW G g tb D (x :: xs) σ H := ⟨h1, h2⟩
theorem i_forN {G : Hp → Prop} (h1 : G H) (h2 : D.nx σ H) : forW G g tb D [] σ H := ⟨h1, h2⟩
end
theorem cast_bl {Q : VK} {H : Hp} {b c : Bool} (k : Q (.bl b) H) (e : b = c) : Q (.bl c) H := e ▸ k
theorem cast_v {Q : VK} {H : Hp} {b c : V} (k : Q b H) (e : b = c) : Q c H := e ▸ k
theorem atI_in {α : Type} {xs : List α} {r : Int} (h0 : 0 ≤ r) (h1 : r < xs.length) : ∃ v, v ∈ xs ∧ xs[r.toNat]? = some v ∧ atI xs r = some v := by
  obtain ⟨n, rfl⟩ : ∃ n : Nat, r = n := ⟨r.toNat, by omega⟩
  have h : n < xs.length := by omega
  exact ⟨xs[n], List.getElem_mem h, by simp [h], atI_nat (by simp [h])⟩
/-- an object's class stays known -/
theorem Rd.same {H H' : Hp} {a : Addr} {u : HO} (s : Same H H') (r : Rd H a u) : Rd H' a u := by
  rcases r with h | ⟨o, h⟩
  · exact .inl (s _ _ h)
  · exact .inr ⟨o, s _ _ h⟩
theorem SqT.same {K : PySem.W.Frag} {H H' : Hp} {a : Addr} {xs : List V} (s : Same H H') (h : SqT K H a xs) : SqT K H' a xs := by
  rcases h with h | h
  · exact .inl (Rd.same s h)
  · exact .inr h
theorem Obs.same {K : PySem.W.Frag} {H H' : Hp} {a : Addr} {o : HO} (s : Same H H') (h : Obs K H a o) : Obs K H' a o := by
  cases o with
  | lst xs => exact Same.seq s h
  | tup xs => exact SqT.same s h
  | _ => exact s _ _ h
theorem Kn.same {K : PySem.W.Frag} {H H' : Hp} {x : V} (s : Same H H') (h : Kn K H x) : Kn K H' x := by
  cases x <;> first | exact h | skip
  obtain ⟨o, ho, k⟩ := h
  exact ⟨o, ho.same s, k⟩
theorem Kn.of {K : PySem.W.Frag} {H : Hp} {a : Addr} {o : HO} (h : H a = some o) (k : KnO K o) : Kn K H (.ref a) := ⟨o, .of h, k⟩
theorem i_yes {σ : St} {H : Hp} {TQ : Bool → Hp → Prop} (h : TQ true H) : tYes σ H TQ := h
theorem i_wipe {σ σ' : St} {vs : List Nat} {R : Prop} (h1 : wipe σ vs = wipe σ' vs) (h : R) : wipe σ vs = wipe σ' vs ∧ R := ⟨h1, h⟩
/-- is x one sign of z -/
def sgIn (z : Str) : V → Bool
  | .str y => match y.cps.toList with
    | [c] => decide (c ∈ z.cps.toList)
    | _ => false
  | _ => false
theorem signs_all (z u : Str) : ((signs u).map fun x => sgIn z x).all id = u.cps.toList.all fun c => decide (c ∈ z.cps.toList) := by
  unfold signs
  rw [List.map_map, List.all_map]
  rfl
theorem mulW {i j : Int} (hi : i.natAbs < 2 ^ 400) (hj : j.natAbs < 2 ^ 400) : CMulW i j := wide_mul hi hj (by decide) (by decide) (by decide)
theorem mulW64 {i j : Int} (hi : i.natAbs < 18446744073709551616) (hj : j.natAbs < 18446744073709551616) : CMulW i j := wide_mul (a := 64) (b := 64) hi hj (by decide) (by decide) (by decide)
theorem cpow {i j : Int} (h0 : 0 ≤ j) (h1 : j ≤ 1000000) (hi : i.natAbs < 18446744073709551616) : CPow i j := ⟨h0, h1, hi⟩
/-- all but what stands at p is kept -/
def SameBut (p : Addr) (H H' : Hp) : Prop := ∀ b o, b ≠ p → H b = some o → H' b = some o
theorem SameBut.refl (p : Addr) (H : Hp) : SameBut p H H := fun _ _ _ h => h
theorem SameBut.trans {p : Addr} {H H1 H2 : Hp} (a : SameBut p H H1) (b : SameBut p H1 H2) : SameBut p H H2 := fun c o n h => b c o n (a c o n h)
theorem SameBut.of {p : Addr} {H H' : Hp} (s : Same H H') : SameBut p H H' := fun b o _ h => s b o h
theorem SameBut.upd (p : Addr) (H : Hp) (o : HO) : SameBut p H (upd H p o) := fun b u n h => by
  rw [upd_ne n]
  exact h
theorem SameBut.new {p q : Addr} {H H' : Hp} {o : HO} (s : SameBut p H H') (h : H' q = none) : SameBut p H (L2.upd H' q o) := fun b u n e => get_upd h (s b u n e)
theorem SameBut.at {p : Addr} {H H' : Hp} {o : HO} (s : SameBut p H H') : SameBut p H (L2.upd H' p o) := s.trans (SameBut.upd p H' o)
/-- what was new ahead is not lost -/
theorem SameBut.same {p : Addr} {H H' : Hp} (s : SameBut p H H') (h : H p = none) : Same H H' := fun b o e => s b o (ne_of_none e h) e
theorem get_but {p : Addr} {H H' : Hp} {a : Addr} {o : HO} (s : SameBut p H H') (n : a ≠ p) (h : H a = some o) : H' a = some o := s a o n h
theorem get_ne {H : Hp} {a p : Addr} {o u : HO} (n : a ≠ p) (h : H a = some o) : upd H p u a = some o := by
  rw [upd_ne n]
  exact h
theorem str_pos {t : Str} (h : ¬ t = "") : 0 < t.length := by
  rcases Nat.eq_zero_or_pos t.length with e | e
  · refine absurd ?_ h
    cases t with
    | mk c =>
      have : c = #[] := Array.eq_empty_of_size_eq_zero e
      rw [this]
      rfl
  · exact e
theorem str_len (t : Str) : t.cps.toList.length = t.length := rfl
theorem len_app (a b : Str) : (a ++ b).length = a.length + b.length := by
  show (a.cps ++ b.cps).size = _
  rw [Array.size_append]
  rfl
theorem line_le {n : Nat} (h : n ≤ 1000) : n ≤ sizeLine := Nat.le_of_lt (small1000 h)
theorem pool_next (z X : Int) (q : Nat) (h0 : 0 ≤ z) (h1 : z.natAbs < q) : 0 ≤ z * 2147483629 + X % 2147483629 ∧ (z * 2147483629 + X % 2147483629).natAbs < q * 2147483648 := by omega
theorem i_maxU {m n : Int} {H : Hp} {Q : VK} (h : Q (.int (maxP m n)) H) : rMaxU [.int m, .int n] H Q := ⟨m, n, rfl, h⟩
theorem i_minU {m n : Int} {H : Hp} {Q : VK} (h : Q (.int (minP m n)) H) : rMinU [.int m, .int n] H Q := ⟨m, n, rfl, h⟩
theorem bT {b : Bool} (e : b = true) : ¬ b = false := by rw [e]; decide
theorem bF {b : Bool} (e : ¬ b = true) : b = false := by cases b <;> first | rfl | exact absurd rfl e
theorem i_lens {m n k l : Nat} {R : Prop} (h1 : m = n) (h2 : k = l) (h : R) : m = n ∧ k = l ∧ R := ⟨h1, h2, h⟩
theorem i_eqDv {K : PySem.W.Frag} {H : Hp} {Q : VK} {x y : V} {a' b' : PyData} {c : Bool} (h0 : eqS x y = none) (h1 : Dp K H x a') (h2 : Dp K H y b') (h3 : SeqAt.shaped a' = true) (h4 : SeqAt.shaped b' = true) (hv : PyData.eqv a' b' = c) (h : Q (.bl c) H) : rEqU K x y H Q := i_eqD h0 h1 h2 h3 h4 (by rw [hv]; exact h)
theorem i_neDv {K : PySem.W.Frag} {H : Hp} {Q : VK} {x y : V} {a' b' : PyData} {c : Bool} (h0 : eqS x y = none) (h1 : Dp K H x a') (h2 : Dp K H y b') (h3 : SeqAt.shaped a' = true) (h4 : SeqAt.shaped b' = true) (hv : PyData.eqv a' b' = c) (h : Q (.bl (!c)) H) : rNeU K x y H Q := i_neD h0 h1 h2 h3 h4 (by rw [hv]; exact h)
/-! ### == of lists and tuples of numbers, truths, None -/
def isNB : V → Bool
  | .non => true
  | .bl _ => true
  | .int _ => true
  | _ => false
def datNB : V → PyData
  | .bl b => .bool b
  | .int i => .int i
  | _ => .none
def eqNB : V → V → Bool
  | .bl a, .bl b => a == b
  | .bl a, .int j => (if a then 1 else 0) == j
  | .int i, .bl b => i == (if b then 1 else 0)
  | .int i, .int j => i == j
  | .non, .non => true
  | _, _ => false
def eqLF : List V → List V → Bool
  | [], [] => true
  | x :: xs, y :: ys => eqNB x y && eqLF xs ys
  | _, _ => false
theorem dp_NB {K : PySem.W.Frag} {H : Hp} {x : V} (f : isNB x = true) : Dp K H x (datNB x) := by
  cases x with
  | non => exact .non
  | bl b => exact .bl b
  | int i => exact .int i
  | _ => cases f
theorem dps_NB {K : PySem.W.Frag} {H : Hp} : ∀ {xs : List V}, xs.all isNB = true → DpAll K H xs (xs.map datNB)
  | [], _ => .nil
  | x :: xs, f => by
    rw [List.all_cons, Bool.and_eq_true] at f
    exact .cons (dp_NB f.1) (dps_NB f.2)
theorem eqv_NB {x y : V} (f : isNB x = true) (g : isNB y = true) : PyData.eqv (datNB x) (datNB y) = eqNB x y := by
  cases x <;> first | (cases f; done) | skip
  all_goals cases y <;> first | (cases g; done) | rfl
theorem eqv_NBs : ∀ {xs ys : List V}, xs.all isNB = true → ys.all isNB = true → PyData.eqvAll (xs.map datNB) (ys.map datNB) = eqLF xs ys
  | [], [], _, _ => rfl
  | [], _ :: _, _, _ => rfl
  | _ :: _, [], _, _ => rfl
  | x :: xs, y :: ys, f, g => by
    rw [List.all_cons, Bool.and_eq_true] at f g
    show (PyData.eqv (datNB x) (datNB y) && PyData.eqvAll (xs.map datNB) (ys.map datNB)) = _
    rw [eqv_NB f.1 g.1, eqv_NBs f.2 g.2]
    rfl
theorem lay_NBs : ∀ {xs : List V}, PyData.canLayAll0 (xs.map datNB) = true
  | [] => rfl
  | x :: xs => by
    show (PyData.canLay0 (datNB x) && PyData.canLayAll0 (xs.map datNB)) = true
    rw [lay_NBs (xs := xs), Bool.and_true]
    cases x <;> rfl
theorem dep_NBs : ∀ {xs : List V}, PyData.depthAll (xs.map datNB) ≤ 1
  | [] => Nat.zero_le _
  | x :: xs => by
    have h := dep_NBs (xs := xs)
    show max (PyData.depth (datNB x)) (PyData.depthAll (xs.map datNB)) ≤ 1
    have : PyData.depth (datNB x) ≤ 1 := by cases x <;> exact Nat.zero_le 1
    omega
theorem shp_NBl {xs : List V} : SeqAt.shaped (.list (xs.map datNB)) = true := by
  show (PyData.canLayAll0 (xs.map datNB) && decide (PyData.depth (.list (xs.map datNB)) ≤ 64)) = true
  rw [lay_NBs, Bool.true_and]
  have h := dep_NBs (xs := xs)
  refine decide_eq_true ?_
  show PyData.depthAll (xs.map datNB) + 1 ≤ 64
  omega
theorem shp_NBt {xs : List V} : SeqAt.shaped (.tuple (xs.map datNB)) = true := by
  show (PyData.canLayAll0 (xs.map datNB) && decide (PyData.depth (.tuple (xs.map datNB)) ≤ 64)) = true
  rw [lay_NBs, Bool.true_and]
  have h := dep_NBs (xs := xs)
  refine decide_eq_true ?_
  show PyData.depthAll (xs.map datNB) + 1 ≤ 64
  omega
section
variable {K : PySem.W.Frag} {H : Hp} {Q : VK} {p q : Addr} {xs ys : List V}
theorem i_eqLF (h1 : SqL K H p xs) (h2 : SqL K H q ys) (f1 : xs.all isNB = true) (f2 : ys.all isNB = true) (h : Q (.bl (eqLF xs ys)) H) : rEqU K (.ref p) (.ref q) H Q :=
  i_eqDv rfl (.lst h1 (dps_NB f1)) (.lst h2 (dps_NB f2)) shp_NBl shp_NBl (eqv_NBs f1 f2) h
theorem i_neLF (h1 : SqL K H p xs) (h2 : SqL K H q ys) (f1 : xs.all isNB = true) (f2 : ys.all isNB = true) (h : Q (.bl (!eqLF xs ys)) H) : rNeU K (.ref p) (.ref q) H Q :=
  i_neDv rfl (.lst h1 (dps_NB f1)) (.lst h2 (dps_NB f2)) shp_NBl shp_NBl (eqv_NBs f1 f2) h
theorem i_eqTF (h1 : SqT K H p xs) (h2 : SqT K H q ys) (f1 : xs.all isNB = true) (f2 : ys.all isNB = true) (h : Q (.bl (eqLF xs ys)) H) : rEqU K (.ref p) (.ref q) H Q :=
  i_eqDv rfl (.tup h1 (dps_NB f1)) (.tup h2 (dps_NB f2)) shp_NBt shp_NBt (eqv_NBs f1 f2) h
theorem i_neTF (h1 : SqT K H p xs) (h2 : SqT K H q ys) (f1 : xs.all isNB = true) (f2 : ys.all isNB = true) (h : Q (.bl (!eqLF xs ys)) H) : rNeU K (.ref p) (.ref q) H Q :=
  i_neDv rfl (.tup h1 (dps_NB f1)) (.tup h2 (dps_NB f2)) shp_NBt shp_NBt (eqv_NBs f1 f2) h
end
theorem lc_mapL {K : PySem.W.Frag} {a : Addr} {xs : List V} {g : TG} {tt : TT} {te : TE} {vs : List Nat} {σ : St} {H1 : Hp} {D : Addr} {Qd : Hp → Prop} (f : V → V) (h0 : SqL K H1 a xs) (hD : H1 D = none) (hl : xs.length ≤ 1000)
    (hs : ∀ x ∈ xs, ∀ H (Q : VK) (R : Hp → Prop), Same H1 H → (∀ H', Same H H' → Q (f x) H') → g x (wipe σ vs) H fun σ2 H2 => wipe σ2 vs = wipe σ vs ∧ tt σ2 H2 fun b H3 => if b = true then te σ2 H3 Q else R H3)
    (hd : ∀ H, Same H1 H → H D = some (.lst (xs.map f)) → Qd H) :
    ∃ W : Nat → Nat → Hp → Prop, (∃ m, W 0 m (upd H1 D (.lst []))) ∧ ∀ i m H, W i m H →
      ((Itl K a).stop i H ∧ Qd H) ∨ ((Itl K a).go i H ∧ ∃ Nx : Hp → Prop, (∀ H', Nx H' → ∃ m', m' < m ∧ W (i + 1) m' H') ∧ ∀ x H', (Itl K a).yld i H x H' → g x (wipe σ vs) H' fun σ2 H2 => wipe σ2 vs = wipe σ vs ∧ tt σ2 H2 fun b H3 =>
        if b = true then te σ2 H3 fun y H4 => ∃ acc, H4 D = some (.lst acc) ∧ acc.length < sizeLine ∧ Nx (upd H4 D (.lst (acc ++ [y]))) else Nx H3) :=
  lc_map xs f walk_list (small1000 hl) (fun _ s => Same.seq s h0) hD hs hd
theorem lc_mapT {K : PySem.W.Frag} {a : Addr} {xs : List V} {g : TG} {tt : TT} {te : TE} {vs : List Nat} {σ : St} {H1 : Hp} {D : Addr} {Qd : Hp → Prop} (f : V → V) (h0 : SqT K H1 a xs) (hD : H1 D = none) (hl : xs.length ≤ 1000)
    (hs : ∀ x ∈ xs, ∀ H (Q : VK) (R : Hp → Prop), Same H1 H → (∀ H', Same H H' → Q (f x) H') → g x (wipe σ vs) H fun σ2 H2 => wipe σ2 vs = wipe σ vs ∧ tt σ2 H2 fun b H3 => if b = true then te σ2 H3 Q else R H3)
    (hd : ∀ H, Same H1 H → H D = some (.lst (xs.map f)) → Qd H) :
    ∃ W : Nat → Nat → Hp → Prop, (∃ m, W 0 m (upd H1 D (.lst []))) ∧ ∀ i m H, W i m H →
      ((Itt K a).stop i H ∧ Qd H) ∨ ((Itt K a).go i H ∧ ∃ Nx : Hp → Prop, (∀ H', Nx H' → ∃ m', m' < m ∧ W (i + 1) m' H') ∧ ∀ x H', (Itt K a).yld i H x H' → g x (wipe σ vs) H' fun σ2 H2 => wipe σ2 vs = wipe σ vs ∧ tt σ2 H2 fun b H3 =>
        if b = true then te σ2 H3 fun y H4 => ∃ acc, H4 D = some (.lst acc) ∧ acc.length < sizeLine ∧ Nx (upd H4 D (.lst (acc ++ [y]))) else Nx H3) :=
  lc_map xs f walk_tup (small1000 hl) (fun _ s => SqT.same s h0) hD hs hd
/-! ### a list or a tuple walked -/
def iSeq (K : PySem.W.Frag) (tl : TE) : TI := fun σ H R => tl σ H fun x H1 => ∃ a, x = .ref a ∧ (((∃ xs, SqL K H1 a xs) ∧ R (Itl K a) H1) ∨ ((∃ xs, SqT K H1 a xs) ∧ R (Itt K a) H1))
theorem pi_seqK {X : Cx} {tg l : Expr} {tl : TE} {K : PySem.W.Frag} (hl : PE X l tl) (hK : X.K = K := by rfl) : PI X tg l (iSeq K tl) := by
  subst hK
  refine ⟨fun pins s σ H R I h => thn (hl.run pins s σ H _ I h) fun v s1 ⟨x, H1, I1, r1, a, ea, q1⟩ => ?_⟩
  subst ea
  cases r1
  rcases q1 with ⟨⟨xs, hq⟩, q⟩ | ⟨⟨xs, hq⟩, q⟩
  · obtain ⟨its, _, pl, _⟩ := I1.list hq
    exact wpAny_pyIter_list pl.isList (pi_one (tk := s1.toks) I1 _ (turn_list a _) ⟨_, Heap.get?_push_size _ rfl, rfl, rfl⟩ q)
  · obtain ⟨its, _, pt, _⟩ := I1.tuple hq
    exact wpAny_pyIter_tuple (show s1.heap.IsTuple a its.toArray from pt) (pi_one (tk := s1.toks) I1 _ (turn_tuple a _) ⟨_, Heap.get?_push_size _ rfl, rfl, rfl⟩ q)
section
variable {D : Ends} {σ : St} {H : Hp} {Q : VK} {K : PySem.W.Frag} {te : TE} {A : TA} {R : It → Hp → Prop}
theorem i_iSeq (h : te σ H fun x H1 => ∃ a, x = .ref a ∧ (((∃ xs, SqL K H1 a xs) ∧ R (Itl K a) H1) ∨ ((∃ xs, SqT K H1 a xs) ∧ R (Itt K a) H1))) : iSeq K te σ H R := h
theorem i_sqL {a : Addr} {xs : List V} {R R' : Addr → Prop} {L : Addr → Prop} (h0 : SqL K H a xs) (h : R a) : ∃ b, V.ref a = .ref b ∧ (((∃ xs, SqL K H b xs) ∧ R b) ∨ (L b ∧ R' b)) := ⟨a, rfl, .inl ⟨⟨xs, h0⟩, h⟩⟩
theorem i_sqT {a : Addr} {xs : List V} {R R' : Addr → Prop} {L : Addr → Prop} (h0 : SqT K H a xs) (h : R' a) : ∃ b, V.ref a = .ref b ∧ ((L b ∧ R b) ∨ ((∃ xs, SqT K H b xs) ∧ R' b)) := ⟨a, rfl, .inr ⟨⟨xs, h0⟩, h⟩⟩
theorem i_fld {f : Str} (h : te σ H fun x H1 => ∃ a C dx fs v, x = .ref a ∧ H1 a = some (.ins C dx fs) ∧ Cls K C ∧ NoAttr K C f ∧ fs.lookup f = some v ∧ Q v H1) : tFld K te f σ H Q := h
theorem i_sfld {tv : TE} {f : Str} (h : tv σ H fun y H1 => te σ H1 fun x H2 => ∃ a C dx fs, x = .ref a ∧ H2 a = some (.ins C dx fs) ∧ Cls K C ∧ NoAttr K C f ∧ fs.length < 1000 ∧ D.nx σ (upd H2 a (.ins C dx (putF f y fs)))) : sFld K te tv f D σ H := h
theorem i_fldR {a C dx : Addr} {fs : List (Str × V)} {f : Str} {v : V} {R : V → Prop} (h1 : H a = some (.ins C dx fs)) (h2 : Cls K C) (h3 : NoAttr K C f) (h4 : fs.lookup f = some v) (h : R v) :
    ∃ b C dx fs v, V.ref a = .ref b ∧ H b = some (.ins C dx fs) ∧ Cls K C ∧ NoAttr K C f ∧ fs.lookup f = some v ∧ R v := ⟨a, C, dx, fs, v, rfl, h1, h2, h3, h4, h⟩
theorem i_sfldR {a C dx : Addr} {fs : List (Str × V)} {f : Str} {R : Addr → Addr → Addr → List (Str × V) → Prop} (h1 : H a = some (.ins C dx fs)) (h2 : Cls K C) (h3 : NoAttr K C f) (h4 : fs.length < 1000) (h : R a C dx fs) :
    ∃ b C dx fs, V.ref a = .ref b ∧ H b = some (.ins C dx fs) ∧ Cls K C ∧ NoAttr K C f ∧ fs.length < 1000 ∧ R b C dx fs := ⟨a, C, dx, fs, rfl, h1, h2, h3, h4, h⟩
theorem i_make {C : Addr} {sp : Sp} {dvs : List V} {E : XK} (h : A σ H fun vs H1 => ∀ x dx, H1 x = none → H1 dx = none → dx ≠ x → sp (.ref x :: (vs ++ dvs)) (upd (upd H1 dx (.own x)) x (.ins C dx [])) (fun v H2 => v = .non ∧ Q (.ref x) H2) E) : tMake C sp dvs E A σ H Q := h
theorem i_meth {C : Addr} {m : Str} {sp : Sp} {dvs : List V} {E : XK} (h : te σ H fun x H1 => ∃ a dx fs, x = .ref a ∧ H1 a = some (.ins C dx fs) ∧ fs.lookup m = none ∧ A σ H1 fun vs H2 => sp (x :: (vs ++ dvs)) H2 Q E) : tMeth C m sp dvs E te A σ H Q := h
theorem i_methR {a C dx : Addr} {fs : List (Str × V)} {m : Str} {R : Prop} (h1 : H a = some (.ins C dx fs)) (h2 : fs.lookup m = none) (h : R) : ∃ b dx fs, V.ref a = .ref b ∧ H b = some (.ins C dx fs) ∧ fs.lookup m = none ∧ R := ⟨a, dx, fs, rfl, h1, h2, h⟩
end
def rTupOf (K : PySem.W.Frag) : List V → Hp → VK → Prop := fun xs H Q => ∃ p ys, xs = [.ref p] ∧ ((SqL K H p ys ∧ ∀ l, H l = none → Q (.ref l) (upd H l (.tup ys))) ∨ (SqT K H p ys ∧ Q (.ref p) H))
def rLstOf (K : PySem.W.Frag) : List V → Hp → VK → Prop := fun xs H Q => ∃ p ys, xs = [.ref p] ∧ (SqL K H p ys ∨ SqT K H p ys) ∧ ∀ l, H l = none → Q (.ref l) (upd H l (.lst ys))
theorem call_tupOf {X : Cx} {K : PySem.W.Frag} (hK : X.K = K := by rfl) : CallR X (.type "tuple") (rTupOf K) := by
  subst hK
  exact call_tuple_of
theorem call_lstOf {X : Cx} {K : PySem.W.Frag} (hK : X.K = K := by rfl) : CallR X (.type "list") (rLstOf K) := by
  subst hK
  exact call_list_of
section
variable {H : Hp} {Q : VK} {K : PySem.W.Frag} {p : Addr} {xs : List V}
theorem i_tupOfL (h0 : SqL K H p xs) (h : ∀ l, H l = none → Q (.ref l) (upd H l (.tup xs))) : rTupOf K [.ref p] H Q := ⟨p, xs, rfl, .inl ⟨h0, h⟩⟩
theorem i_tupOfT (h0 : SqT K H p xs) (h : Q (.ref p) H) : rTupOf K [.ref p] H Q := ⟨p, xs, rfl, .inr ⟨h0, h⟩⟩
theorem i_lstOfL (h0 : SqL K H p xs) (h : ∀ l, H l = none → Q (.ref l) (upd H l (.lst xs))) : rLstOf K [.ref p] H Q := ⟨p, xs, rfl, .inl h0, h⟩
theorem i_lstOfT (h0 : SqT K H p xs) (h : ∀ l, H l = none → Q (.ref l) (upd H l (.lst xs))) : rLstOf K [.ref p] H Q := ⟨p, xs, rfl, .inr h0, h⟩
end
section
variable {σ : St} {H : Hp} {Q : VK} {K : PySem.W.Frag}
theorem i_dnew (h : ∀ p, H p = none → Q (.ref p) (upd H p (.dK []))) : tDNewK σ H Q := h
theorem i_dnewT (h : ∀ p, H p = none → Q (.ref p) (upd H p (.dT []))) : tDNewT σ H Q := h
theorem i_all1 {R : Addr → Prop} (h : ∀ p, H p = none → R p) : ∀ p, H p = none → R p := h
theorem i_disp {trs : List (TE × TE)} (h : ∀ p, H p = none → tPairs trs σ (upd H p (.dK [])) fun ps H2 => H2 p = some (.dK []) ∧ ∃ kvs : List (Key × V), ps = kvs.map (fun kv => (kV kv.1, kv.2)) ∧ kvs.length ≤ 15 ∧ Q (.ref p) (upd H2 p (.dK (mergeK [] kvs)))) : tDisp trs σ H Q := h
end
theorem upd_same' {H : Hp} {a : Addr} {o o' : HO} (e : o = o') : upd H a o a = some o' := by rw [← e]; exact upd_same
theorem SqL.up {K : PySem.W.Frag} {H : Hp} {p q : Addr} {o : HO} {xs : List V} (hq : H q = none) (h : SqL K H p xs) : SqL K (upd H q o) p xs := Same.seq (same_upd (Same.refl _) hq) h
theorem SqT.up {K : PySem.W.Frag} {H : Hp} {p q : Addr} {o : HO} {xs : List V} (hq : H q = none) (h : SqT K H p xs) : SqT K (upd H q o) p xs := SqT.same (same_upd (Same.refl _) hq) h
theorem Rd.ne {H : Hp} {p q : Addr} {o u : HO} (n : p ≠ q) (h : Rd H p u) : Rd (upd H q o) p u := by
  rcases h with h | ⟨b, h⟩
  · exact .inl (get_ne n h)
  · exact .inr ⟨b, get_ne n h⟩
theorem SqL.un {K : PySem.W.Frag} {H : Hp} {p q : Addr} {o : HO} {xs : List V} (n : p ≠ q) (h : SqL K H p xs) : SqL K (upd H q o) p xs := by
  rcases h with h | h
  · exact .inl (Rd.ne n h)
  · exact .inr h
theorem SqT.un {K : PySem.W.Frag} {H : Hp} {p q : Addr} {o : HO} {xs : List V} (n : p ≠ q) (h : SqT K H p xs) : SqT K (upd H q o) p xs := by
  rcases h with h | h
  · exact .inl (Rd.ne n h)
  · exact .inr h
theorem Rd.but {H H' : Hp} {p q : Addr} {u : HO} (s : SameBut q H H') (n : p ≠ q) (h : Rd H p u) : Rd H' p u := by
  rcases h with h | ⟨b, h⟩
  · exact .inl (s _ _ n h)
  · exact .inr ⟨b, s _ _ n h⟩
theorem SqL.but {K : PySem.W.Frag} {H H' : Hp} {p q : Addr} {xs : List V} (s : SameBut q H H') (n : p ≠ q) (h : SqL K H p xs) : SqL K H' p xs := by
  rcases h with h | h
  · exact .inl (Rd.but s n h)
  · exact .inr h
theorem SqT.but {K : PySem.W.Frag} {H H' : Hp} {p q : Addr} {xs : List V} (s : SameBut q H H') (n : p ≠ q) (h : SqT K H p xs) : SqT K H' p xs := by
  rcases h with h | h
  · exact .inl (Rd.but s n h)
  · exact .inr h
theorem SqL.sm {K : PySem.W.Frag} {H H' : Hp} {p : Addr} {xs : List V} (s : Same H H') (h : SqL K H p xs) : SqL K H' p xs := Same.seq s h
theorem Kn.up {K : PySem.W.Frag} {H : Hp} {x : V} {q : Addr} {o : HO} (hq : H q = none) (h : Kn K H x) : Kn K (upd H q o) x := h.same (same_upd (Same.refl _) hq)
theorem i_tp0 {σ : St} {H : Hp} {R : List (V × V) → Hp → Prop} (h : R [] H) : tPairs [] σ H R := h
theorem i_tp1 {σ : St} {H : Hp} {R : List (V × V) → Hp → Prop} {tk tv : TE} {r : List (TE × TE)} (h : tk σ H fun x H1 => tv σ H1 fun y H2 => tPairs r σ H2 fun ps H3 => R ((x, y) :: ps) H3) : tPairs ((tk, tv) :: r) σ H R := h
theorem i_call0 {sp : Sp} {σ : St} {H : Hp} {Q : VK} {E : XK} {A : TA} (h : A σ H fun vs H1 => sp vs H1 Q E) : tCall sp [] E A σ H Q := by
  unfold tCall
  simp only [List.append_nil]
  exact h
theorem i_mk {H : Hp} {R : Addr → Addr → Prop} (h : ∀ x dx, H dx = none → upd H dx (.own x) x = none → H x = none → dx ≠ x → R x dx) : ∀ x dx, H x = none → H dx = none → dx ≠ x → R x dx := fun x dx h1 h2 n =>
  h x dx h2 (by rw [upd_ne (Ne.symm n)]; exact h1) h1 n
theorem Rd.uk {H : Hp} {p q : Addr} {o u v : HO} (hq : H q = some v) (h1 : v ≠ u) (h2 : ∀ b, v ≠ .frz b u) (h : Rd H p u) : Rd (upd H q o) p u := by
  rcases h with h | ⟨b, h⟩
  · exact .inl (get_ne (ne_of h hq (Ne.symm h1)) h)
  · exact .inr ⟨b, get_ne (ne_of h hq (Ne.symm (h2 b))) h⟩
theorem SqT.uk {K : PySem.W.Frag} {H : Hp} {p q : Addr} {o v : HO} {xs : List V} (hq : H q = some v) (h1 : ∀ ys, v ≠ .tup ys) (h2 : ∀ b u, v ≠ .frz b u) (h : SqT K H p xs) : SqT K (upd H q o) p xs := by
  rcases h with h | h
  · exact .inl (Rd.uk hq (h1 _) (fun b => h2 b _) h)
  · exact .inr h
theorem SqL.uk {K : PySem.W.Frag} {H : Hp} {p q : Addr} {o v : HO} {xs : List V} (hq : H q = some v) (h1 : ∀ ys, v ≠ .lst ys) (h2 : ∀ b u, v ≠ .frz b u) (h : SqL K H p xs) : SqL K (upd H q o) p xs := by
  rcases h with h | h
  · exact .inl (Rd.uk hq (h1 _) (fun b => h2 b _) h)
  · exact .inr h
/-! ### one look for all kinds -/
theorem get_o {H : Hp} {a : Addr} {o o' : HO} (h : H a = some o) (e : o = o') : H a = some o' := by rw [← e]; exact h
def seqOf : HO → Option (List V)
  | .lst xs => some xs
  | .tup xs => some xs
  | _ => none
theorem seqOf_sq {K : PySem.W.Frag} {H : Hp} {a : Addr} {o : HO} {xs : List V} (h : H a = some o) (e : seqOf o = some xs) : SqL K H a xs ∨ SqT K H a xs := by
  cases o <;> first | (cases e; done) | skip
  · cases Option.some.inj e
    exact .inl (.of h)
  · cases Option.some.inj e
    exact .inr (.of h)
section
variable {H : Hp} {Q : VK} {K : PySem.W.Frag} {p : Addr} {o : HO} {xs : List V}
theorem i_ixG {n : Int} {w' : V} (h : H p = some o) (e : seqOf o = some xs) (h2 : atI xs n = some w') (q : Q w' H) : rIxU K (.ref p) (.int n) H Q := ⟨xs, w', seqOf_sq h e, h2, q⟩
theorem i_lenG (h : H p = some o) (e : seqOf o = some xs) (q : Q (.int xs.length) H) : rLenU K [.ref p] H Q := by
  rcases seqOf_sq (K := K) h e with h | h
  · exact i_lenL h q
  · exact i_lenT h q
theorem i_isoG {R : (Kd → Bool) → Option Addr → Prop} {f : Kd → Bool} (h : H p = some o) (e : (match o with | .lst _ => some fun d => d == Kd.lst | .tup _ => some fun d => d == Kd.tup | .dK _ => some fun d => d == Kd.dct | .dT _ => some fun d => d == Kd.dct | _ => none) = some f) (q : R f none) : isO K (.ref p) H R := by
  refine ⟨o, .of h, ?_⟩
  cases o <;> first | (cases e; done) | (cases Option.some.inj e; exact q)
theorem i_isoC {R : (Kd → Bool) → Option Addr → Prop} {C dx : Addr} {fs : List (Str × V)} (h : H p = some (.ins C dx fs)) (c : Cls K C) (i : IsC K C) (q : R (fun _ => false) (some C)) : isO K (.ref p) H R := ⟨_, .of h, c, i, q⟩
theorem SqL.of' (h : H p = some o) (e : o = .lst xs) : SqL K H p xs := .of (get_o h e)
theorem SqT.of' (h : H p = some o) (e : o = .tup xs) : SqT K H p xs := .of (get_o h e)
end
/-- a for over a list whose body changes nothing that stood ahead of the loop -/
theorem for_pred {K : PySem.W.Frag} {a : Addr} {xs : List V} {g : TG} {tb : TS} {D : Ends} {σ : St} {H : Hp} (S : St → Prop) (Pr : Hp → V → Prop) (hL : SqL K H a xs) (hp : ∀ y ∈ xs, Pr H y) (h0 : S σ)
    (hs : ∀ y σ H', Pr H y → S σ → Same H H' → g y σ H' fun σ2 H2 => tb { D with nx := fun σ H' => S σ ∧ Same H H', ct := fun σ H' => S σ ∧ Same H H', bk := D.nx } σ2 H2) (hd : ∀ σ H', S σ → Same H H' → D.nx σ H') :
    ∃ W : Nat → Nat → St → Hp → Prop, (∃ m, W 0 m σ H) ∧ ∀ i m σ H, W i m σ H →
      ((Itl K a).stop i H ∧ D.nx σ H) ∨ ((Itl K a).go i H ∧ ∃ N : St → Hp → Prop, (∀ σ' H', N σ' H' → ∃ m', m' < m ∧ W (i + 1) m' σ' H') ∧ ∀ x H', (Itl K a).yld i H x H' → g x σ H' fun σ2 H2 => tb { D with nx := N, ct := N, bk := D.nx } σ2 H2) :=
  for_list (xs := xs) (fun _ σ H' => S σ ∧ Same H H') ⟨h0, Same.refl _⟩ (fun _ _ _ _ h => Same.seq h.2 hL) (fun _ y σ H' hi h => hs y σ H' (hp y (List.mem_of_getElem? hi)) h.1 h.2) (fun σ H' h => hd σ H' h.1 h.2)
theorem Kn.ofG {K : PySem.W.Frag} {H : Hp} {a : Addr} {o : HO} (h : H a = some o) (k : KnO K o) : Kn K H (.ref a) := .of h k
end My
/-! try: body / except clauses of one class or of a tuple of classes, with a name or without / else. -/
namespace My
open PySem PySem.Spec L2
open PyProof.Rows hiding St
/-- what a clause asks for: a class, or a tuple of two to four classes -/
inductive ClT (X : Cx) : Expr → List Value → Prop
  | one {x : Str} {p : Pos} {c : Value} (h : Names X x c) : ClT X (.Name x p) [c]
  | two {x1 x2 : Str} {p1 p2 p : Pos} {c1 c2 : Value} {k : Nat} (h1 : Names X x1 c1) (h2 : Names X x2 c2) : ClT X (.Tuple [.Name x1 p1, .Name x2 p2] k p) [c1, c2]
  | three {x1 x2 x3 : Str} {p1 p2 p3 p : Pos} {c1 c2 c3 : Value} {k : Nat} (h1 : Names X x1 c1) (h2 : Names X x2 c2) (h3 : Names X x3 c3) : ClT X (.Tuple [.Name x1 p1, .Name x2 p2, .Name x3 p3] k p) [c1, c2, c3]
  | four {x1 x2 x3 x4 : Str} {p1 p2 p3 p4 p : Pos} {c1 c2 c3 c4 : Value} {k : Nat} (h1 : Names X x1 c1) (h2 : Names X x2 c2) (h3 : Names X x3 c3) (h4 : Names X x4 c4) :
      ClT X (.Tuple [.Name x1 p1, .Name x2 p2, .Name x3 p3, .Name x4 p4] k p) [c1, c2, c3, c4]
/-- one clause: its classes, the slot of its name, its suite -/
structure Clause where
  cs : List Value
  nm : Option Nat
  ts : Addr → Value → Option Addr → TS
def unD (i : Nat) (D : Ends) : Ends := { nx := fun σ' H' => D.nx (σ'.set i none) H', rt := D.rt, bk := fun σ' H' => D.bk (σ'.set i none) H', ct := fun σ' H' => D.ct (σ'.set i none) H' }
def Clause.go (q : Clause) (a : Addr) (cls : Value) (d : Option Addr) : TS := fun D σ H => match q.nm with
  | none => q.ts a cls d D σ H
  | some i => q.ts a cls d (unD i D) (σ.set i (some (.ref a))) H
/-- what the clauses wish of an exception of the body, one behind the other -/
def wCl (K : PySem.W.Frag) (Wout : WX) (D : Ends) : List Clause → WX
  | [] => Wout
  | q :: r => fun cls d σ H => ∃ b, PySem.W.exmAny K cls q.cs = some b ∧ (b = true → ∀ a, H a = none → q.go a cls d D σ H) ∧ (b = false → wCl K Wout D r cls d σ H)
abbrev SuOk (X : Cx) (su : List Stmt) (ts : Addr → Value → Option Addr → TS) : Prop :=
  ∀ (a : Addr) (oe : Obj) (cls : Value) (d : Option Addr) (pn : List (Addr × Obj)), Zc cls d oe → (∃ vs, oe.data = .fields vs) → PSs (X.suite a ((a, oe) :: pn)) su (ts a cls d)
inductive ClsOk (X : Cx) : List ExceptHandler → List Clause → Prop
  | nil : ClsOk X [] []
  | bare {e : Expr} {cs : List Value} {ts : Addr → Value → Option Addr → TS} {b₀ : Stmt} {su : List Stmt} {p : Pos} {hd : List ExceptHandler} {l : List Clause} (hc : ClT X e cs) (hs : SuOk X (b₀ :: su) ts) (r : ClsOk X hd l) :
      ClsOk X (.ExceptHandler (some e) none (b₀ :: su) p :: hd) (⟨cs, none, ts⟩ :: l)
  | named {e : Expr} {cs : List Value} {ts : Addr → Value → Option Addr → TS} {b₀ : Stmt} {su : List Stmt} {p : Pos} {hd : List ExceptHandler} {l : List Clause} {i : Nat} {n : Str} (hi : X.N[i]? = some n) (hl : X.env.kindOf n = some .local) (hc : ClT X e cs) (hs : SuOk X (b₀ :: su) ts) (r : ClsOk X hd l) :
      ClsOk X (.ExceptHandler (some e) (some n) (b₀ :: su) p :: hd) (⟨cs, some i, ts⟩ :: l)
theorem exm1 {K : PySem.W.Frag} {cls c : Value} {b : Bool} (h : PySem.W.exmAny K cls [c] = some b) : PySem.W.exmOne K cls c = some b := by
  obtain ⟨b1, d1, x1, y1, z1⟩ := PySem.W.exmAny_cons h
  cases (show some false = some d1 from y1)
  rw [z1, x1, Bool.or_false]
section
variable {X : Cx}
theorem names_ld {pins : List (Addr × Obj)} {σ : St} {H : Hp} {s : Shared} {x : Str} {c : Value} {p : Pos} {a : Addr} {pn : List (Addr × Obj)} {Q : Value → Shared → Prop} {E : Value → Shared → Prop} (h : Names X x c) (I : Inv (X.suite a pn) pins σ H s) (q : Q c s) :
    wpAny (model X.prog X.w) (X.A.mark (some (.ref a))) (eval (.Name x p) X.env) Q E s := by
  obtain ⟨g, nd, hm | ⟨hm, hv, nn⟩⟩ := h
  · exact ld_glob (X := X.suite a pn) I g hm q nd
  · exact ld_blt (X := X.suite a pn) I g hm hv q nn nd
theorem ClT.test {e : Expr} {cs : List Value} {pins : List (Addr × Obj)} {σ : St} {H : Hp} {s : Shared} {a : Addr} {pn : List (Addr × Obj)} {cls : Value} {b : Bool} {Q : Bool → Shared → Prop} {E : Value → Shared → Prop} (h : ClT X e cs)
    (I : Inv (X.suite a pn) pins σ H s) (L : PySem.W.Looks (model X.prog X.w) s.heap (typeOf (.ref a)) cls) (hb : PySem.W.exmAny X.K cls cs = some b) (q : ∀ h', (∀ y o, s.heap.get? y = some o → h'.get? y = some o) → Q b { s with heap := h' }) :
    wpAny (model X.prog X.w) (X.A.mark (some (.ref a))) (eval e X.env) (fun c s1 => wpAny (model X.prog X.w) (X.A.mark (some (.ref a))) (excMatches (.ref a) c) Q E s1) E s := by
  have kp : ∀ (o : Obj) y z, s.heap.get? y = some z → (s.heap.push o).get? y = some z := fun o _ _ z => Heap.get?_push_of_some _ z
  have kI : X.K.In s.heap := I.kIn
  cases h with
  | one n => exact names_ld n I ((PySem.W.exm_one kI L (exm1 hb)).here (q _ fun _ _ z => z))
  | two n1 n2 =>
    refine wpAny_Tuple (wpAny_items_cons (names_ld n1 I (wpAny_items_cons (names_ld n2 I (wpAny_items_nil ⟨by size_fits, ?_⟩)))))
    exact (PySem.W.exm_tup2 (kI.keeps (kp _)) (L.keeps (kp _)) (Heap.get?_push_size s.heap rfl) hb).here (q _ (kp _))
  | three n1 n2 n3 =>
    refine wpAny_Tuple (wpAny_items_cons (names_ld n1 I (wpAny_items_cons (names_ld n2 I (wpAny_items_cons (names_ld n3 I (wpAny_items_nil ⟨by size_fits, ?_⟩)))))))
    exact (PySem.W.exm_tup3 (kI.keeps (kp _)) (L.keeps (kp _)) (Heap.get?_push_size s.heap rfl) hb).here (q _ (kp _))
  | four n1 n2 n3 n4 =>
    refine wpAny_Tuple (wpAny_items_cons (names_ld n1 I (wpAny_items_cons (names_ld n2 I (wpAny_items_cons (names_ld n3 I (wpAny_items_cons (names_ld n4 I (wpAny_items_nil ⟨by size_fits, ?_⟩)))))))))
    exact (PySem.W.exm_tup4 (kI.keeps (kp _)) (L.keeps (kp _)) (Heap.get?_push_size s.heap rfl) hb).here (q _ (kp _))
theorem fly_keeps {B h h' : Heap} {l : List Env} {a : Addr} {Z : Obj → Prop} (f : HandSPX.FlyingZ B l a Z h) (k : ∀ y o, h.get? y = some o → h'.get? y = some o) : HandSPX.FlyingZ B l a Z h' := by
  obtain ⟨f1, f2, f3, oe, vs, T, oT, ts, he, hz, hd, h1, hn, hne, hT, hdT, h3⟩ := f
  exact ⟨fun y o q => k _ _ (f1 y o q), f2, f3.of_keeps fun y o q _ => ⟨o, k _ _ q, rfl⟩, oe, vs, T, oT, ts, k _ _ he, hz, hd, h1, hn, hne, k _ _ hT, hdT, h3⟩
theorem fly_out {B h : Heap} {l : List Env} {a : Addr} {Z : Obj → Prop} (f : HandSPX.FlyingZ B l a Z h) : a ∉ frs l := fun m => by
  obtain ⟨oe, vs, e1, _, e2⟩ := f.there
  obtain ⟨_, o, e3, no⟩ := f.2.2.1.mem m
  rw [e1] at e3
  cases e3
  exact no _ e2
variable {body orelse : List Stmt} {h₀ : ExceptHandler} {hds : List ExceptHandler} {l : List Clause} {pos : Pos} {tb : WX → TS} {u : TS} {Wout : WX}
theorem handle_cl {pins : List (Addr × Obj)} {σ : St} {H : Hp} {sI s : Shared} {B : Heap} {a : Addr} {cls : Value} {d : Option Addr} {D : Ends} {hs : List ExceptHandler} {l : List Clause} (hst : X.stack = X.env :: X.outer) (hf : X.env.frame = some X.env.locals) (hN : X.N.Nodup) (tk : Takes X Wout)
    (hk : ClsOk X hs l) (J : Inv X pins σ H sI) (nb : ∀ b o, sI.heap.get? b = some o → b ∉ frs X.stack → B.get? b = some o) (os : s.os = sI.os) (ag : AllBare s.gens) (na : H a = none) :
    ∀ h, HandSPX.FlyingZ B (X.env :: X.outer) a (Zc cls d) h → sI.heap.UpToSlots h → wCl X.K Wout D l cls d σ H → wpAny (model X.prog X.w) X.A (handleBy (.ref a) X.env hs) (SP X pins D) X.xe { s with heap := h } := by
  have ok := J.ok
  have nLF : ∀ {h}, HandSPX.FlyingZ B (X.env :: X.outer) a (Zc cls d) h → a ≠ X.env.locals ∧ a ∉ X.fs := fun f => by
    have nf := fly_out f
    refine ⟨fun z => nf (List.mem_filterMap.mpr ⟨X.env, List.mem_cons_self, by rw [hf, z]⟩), fun m => ?_⟩
    obtain ⟨e, he, q⟩ := List.mem_filterMap.mp m
    exact nf (List.mem_filterMap.mpr ⟨e, List.mem_cons_of_mem _ he, q⟩)
  have su : ∀ {h}, HandSPX.FlyingZ B (X.env :: X.outer) a (Zc cls d) h → sI.heap.UpToSlots h → ∃ oe, Zc cls d oe ∧ (∃ vs, oe.data = .fields vs) ∧ h.get? a = some oe ∧ ∀ t, Inv (X.suite a ((a, oe) :: (X.pn ++ pins))) [] σ H { s with heap := h, toks := t } := fun {h} f up => by
    obtain ⟨oe, vs, e1, e2, e3⟩ := f.there
    exact ⟨oe, e2, ⟨vs, e3⟩, e1, fun t => ((J.landed (s' := { s with heap := h, toks := t }) nb f.1 up os ag).suite e1 e3 na (nLF f).1 (nLF f).2)⟩
  induction hk with
  | nil =>
    intro h f up w
    refine wpAny_handleBy_nil ?_
    obtain ⟨-, -, -, oe, vs, T, -, -, he, -, hd, h1, -⟩ := id f
    unfold PySem.passOn
    refine wpAny_bind (wpAny_field he hd h1 ?_)
    rw [if_neg (show ¬ ((Value.ref T == Value.none) = true) from by simp)]
    have fin : wpAny (model X.prog X.w) X.A (setFlight (.ref a) X.env.frame) (fun _ s4 => wpAny (model X.prog X.w) X.A (throw (.ref a) : Sem Flow) (SP X pins D) X.xe s4) X.xe { s with heap := h } := by
      rw [hf]
      refine HandSPX.setFlight_upZ f fun h4 f4 up4 => wpAny_throw (tk _ _ ⟨a, B, sI, pins, σ, H, cls, d, rfl, J, nb, up.trans up4, .inr (.inr ?_), na, os, ag, w⟩)
      rw [hst]
      exact f4
    first
      | exact wpAny_bind (wpAny_pure (wpAny_bind fin))
      | exact wpAny_bind fin
  | @bare e cs ts b₀ su' p hd l hc hs r ih =>
    intro h f up w
    obtain ⟨b, hb, hy, hn⟩ := w
    obtain ⟨oe, z1, z2, z3, S⟩ := su f up
    refine wpAny_handleBy_cons (codeAny_handlers_test (hc.test (S s.toks) (fun A Q E s k q => wpAny_typeOf_ref (k _ _ z3) (by rw [z1.1]; exact q)) hb fun h2 k => ?_)) (fun q => by cases q)
    have f2 := fly_keeps f k
    have up2 := up.trans (Heap.UpToSlots.of_keeps k)
    cases b with
    | true =>
      refine codeAny_handlers_suite (HandSPX.lands_againZ f2 fun h4 f4 up4 => ?_)
      obtain ⟨oe4, y1, y2, y3, S4⟩ := su f4 (up2.trans up4)
      refine wpAny_mono ((hs a oe4 cls d _ y1 y2).run [] _ _ H _ (S4 s.toks) (hy rfl a na)) (fun fl s6 hq => ?_) (fun _ _ z => False.elim z)
      cases fl with
      | next => exact hq.imp fun _ q => q.imp fun _ q => ⟨q.1.unsuite ok, q.2⟩
      | brk => exact hq.imp fun _ q => q.imp fun _ q => ⟨q.1.unsuite ok, q.2⟩
      | cont => exact hq.imp fun _ q => q.imp fun _ q => ⟨q.1.unsuite ok, q.2⟩
      | ret v => exact hq.imp fun _ q => q.imp fun _ q => q.imp fun _ q => ⟨q.1.unsuite ok, q.2⟩
    | false => exact ih h2 f2 up2 (hn rfl)
  | @named e cs ts b₀ su' p hd l i n hi hl hc hs r ih =>
    intro h f up w
    obtain ⟨b, hb, hy, hn⟩ := w
    obtain ⟨oe, z1, z2, z3, S⟩ := su f up
    refine wpAny_handleBy_cons (codeAny_handlers_test (hc.test (S s.toks) (fun A Q E s k q => wpAny_typeOf_ref (k _ _ z3) (by rw [z1.1]; exact q)) hb fun h2 k => ?_)) (fun q => by cases q)
    have f2 := fly_keeps f k
    have up2 := up.trans (Heap.UpToSlots.of_keeps k)
    cases b with
    | true =>
      refine codeAny_handlers_suite_as (HandSPX.lands_againZ f2 fun h4 f4 up4 => ?_)
      obtain ⟨oe4, y1, y2, y3, S4⟩ := su f4 (up2.trans up4)
      refine store_ok (X := X.suite a ((a, oe4) :: (X.pn ++ pins))) (v := .ref a) (S4 s.toks) hN hi (.inl hl) rfl (fun s5 S5 => ?_) (.inr hl)
      refine wpAny_mono ((hs a oe4 cls d _ y1 y2).run [] s5 _ H _ S5 (hy rfl a na)) (fun fl s6 hq => ?_) (fun _ _ z => False.elim z)
      cases fl with
      | next =>
        obtain ⟨σ6, H6, S6, q6⟩ := hq
        exact gone_ok (S6.unsuite ok) hN hi hl fun s7 J7 => ⟨_, _, J7, q6⟩
      | brk =>
        obtain ⟨σ6, H6, S6, q6⟩ := hq
        exact gone_ok (S6.unsuite ok) hN hi hl fun s7 J7 => ⟨_, _, J7, q6⟩
      | cont =>
        obtain ⟨σ6, H6, S6, q6⟩ := hq
        exact gone_ok (S6.unsuite ok) hN hi hl fun s7 J7 => ⟨_, _, J7, q6⟩
      | ret v =>
        obtain ⟨v6, σ6, H6, S6, r6, q6⟩ := hq
        exact gone_ok (S6.unsuite ok) hN hi hl fun s7 J7 => ⟨_, _, _, J7, r6, q6⟩
    | false => exact ih h2 f2 up2 (hn rfl)
theorem ps_tryC (hst : X.stack = X.env :: X.outer) (hf : X.env.frame = some X.env.locals) (hN : X.N.Nodup) (tk : Takes X Wout)
    (hb : ∀ (W : WX) (pn : List (Addr × Obj)) (xe : Value → Shared → Prop), Takes (X.tr pn xe) W → PassesOwn (model X.prog X.w) X.A X.env xe → PSs (X.tr pn xe) body (tb W))
    (hh : ClsOk X (h₀ :: hds) l) (ho : PSs X orelse u) : PS X (.Try body (h₀ :: hds) orelse [] pos) (fun D σ H => tb (wCl X.K Wout D l) { D with nx := u D } σ H) := by
  refine ⟨fun pins s σ H D I h => wpAny_Try_except ?_⟩
  have ok := I.ok
  refine wpAny_mono ((hb (wCl X.K Wout D l) (X.pn ++ pins) _ (fun v s' xx => ?_) PassesOwn.looking).run [] s σ H { D with nx := u D } (I.toTry _) h) (fun f s1 hq => ?_) (fun e s1 he => he)
  · obtain ⟨a, B, sI, pins', σ', H', cls, d, rfl, J, nb, up, sky, na, os, ag, w⟩ := xx
    refine Sky.land Zc.steady (by rw [ok.frames, hst]) hf (by rw [← hst]; exact sky) fun h3 f3 up3 => ?_
    exact handle_cl hst hf hN tk hh (J.ofTry ok) nb os ag na h3 f3 (up.trans up3) w
  · cases f with
    | next =>
      obtain ⟨σ', H', J, q⟩ := hq
      exact ho.run pins s1 σ' H' D (J.ofTry ok) q
    | brk => exact hq.imp fun _ q => q.imp fun _ q => ⟨q.1.ofTry ok, q.2⟩
    | cont => exact hq.imp fun _ q => q.imp fun _ q => ⟨q.1.ofTry ok, q.2⟩
    | ret v => exact hq.imp fun _ q => q.imp fun _ q => q.imp fun _ q => ⟨q.1.ofTry ok, q.2⟩
end
end My
/-! Errors of the text: made, raised, caught. -/
namespace My
open PySem L2
section
variable {X : Cx} {CX : CXT} {k : Nat} {f C : Addr} {fd : FuncData} {ps : List Str} {sp : Sp} {dvs : List V} {ds : List Value} {E : St → XK} {x m : Str} {p pos apos : Pos} {e o : Expr} {es : List Expr} {ta : TE} {t : TA}
/-- o.m(e, ..), what is raised wished for at the caller's slots -/
def tMethS (C : Addr) (m : Str) (sp : Sp) (dvs : List V) (E : St → XK) (ta : TE) (t : TA) : TE := fun σ H Q => ta σ H fun x H1 => ∃ a dx fs, x = .ref a ∧ H1 a = some (.ins C dx fs) ∧ fs.lookup m = none ∧ t σ H1 fun vs H2 => sp (x :: (vs ++ dvs)) H2 Q (E σ)
theorem pe_methS {pl : Sem Bool} (he : PE X o ta) (c : Cls X.K C) (hm : Meth X.K C m f) (F : FnOk X.prog X.w X.K X.mg X.base CX k f fd ps sp) (hr : Room k X.A) (hb : Binds X.K fd ps ds) (hd : Vals dvs ds) (hx : ∀ σ, PassesAt CX X σ (E σ)) (ha : PA X (e :: es) t)
    (hst : starEach (e :: es) X.env = (false, eval e X.env) :: starEach es X.env := by rfl) (hpl : (backTo pos (starEach es X.env)).any (·.1) = false := by rfl)
    (ht : eval (.Call (.Attribute o m apos) (e :: es) [] pos) X.env = (do let ov ← eval o X.env; standAt apos.atName; let (f, first) ← holding [ov] (getMethod ov m pl); callWith pos f first (backTo pos (starEach (e :: es) X.env)) (backToKw pos (keywordEach [] X.env))) := by rfl) : PE X (.Call (.Attribute o m apos) (e :: es) [] pos) (tMethS C m sp dvs E ta t) := by
  refine ⟨fun pins s σ H Q I h => PySem.W.methodCall_KW (pl := pl) (thn (he.run pins s σ H _ I h) fun u s1 ⟨y, H1, I1, ry, a, dx, fs, ey, ea, l, q⟩ => ?_) ht⟩
  subst ey
  cases (show u = Value.ref a from ry)
  refine getmeth_ok I1 ea c hm l (PySem.W.callWith_K (first := [.ref a]) (h₀ := X.base) I.ok.mod.kin hm.kp (thn (ha.run pos pins s1 σ H1 _ I1 q) fun us s2 ⟨vs, H2, I2, r, q2⟩ => ⟨I2.kIn, ?_⟩) hst hpl)
  exact run_fnSD (us := .ref a :: us) (vs := .ref a :: vs) F hr hb hd (hx σ) I2 (.cons rfl r) q2
theorem pe_meth0S {pl : Sem Bool} (he : PE X o ta) (c : Cls X.K C) (hm : Meth X.K C m f) (F : FnOk X.prog X.w X.K X.mg X.base CX k f fd ps sp) (hr : Room k X.A) (hb : Binds X.K fd ps ds) (hd : Vals dvs ds) (hx : ∀ σ, PassesAt CX X σ (E σ))
    (ht : eval (.Call (.Attribute o m apos) [] [] pos) X.env = (do let ov ← eval o X.env; standAt apos.atName; let (f, first) ← holding [ov] (getMethod ov m pl); callWith pos f first (backTo pos (starEach [] X.env)) (backToKw pos (keywordEach [] X.env))) := by rfl) : PE X (.Call (.Attribute o m apos) [] [] pos) (tMethS C m sp dvs E ta tNil) := by
  refine ⟨fun pins s σ H Q I h => PySem.W.methodCall_KW (pl := pl) (thn (he.run pins s σ H _ I h) fun u s1 ⟨y, H1, I1, ry, a, dx, fs, ey, ea, l, q⟩ => ?_) ht⟩
  subst ey
  cases (show u = Value.ref a from ry)
  refine getmeth_ok I1 ea c hm l (PySem.W.callWith_K0 (first := [.ref a]) I1.kIn hm.kp ?_)
  exact run_fnSD (us := [.ref a]) (vs := [.ref a]) F hr hb hd (hx σ) I1 (.cons rfl .nil) q
def tMakeS (C : Addr) (sp : Sp) (dvs : List V) (E : St → XK) (t : TA) : TE := fun σ H Q => t σ H fun vs H1 => ∀ x dx, H1 x = none → H1 dx = none → dx ≠ x →
  sp (.ref x :: (vs ++ dvs)) (upd (upd H1 dx (.own x)) x (.ins C dx [])) (fun v H2 => v = .non ∧ Q (.ref x) H2) (E σ)
theorem run_makeS {pins : List (Addr × Obj)} {σ : St} {H : Hp} {s : Shared} {Q : VK} {us : List Value} {vs : List V} (M : Mk X.K C f) (F : FnOk X.prog X.w X.K X.mg X.base CX k f fd ps sp) (hr : Room (k + 1) X.A) (hb : Binds X.K fd ps ds) (hd : Vals dvs ds) (hx : PassesAt CX X σ (E σ))
    (I : Inv X pins σ H s) (rv : Vals vs us) (h : ∀ x dx, H x = none → H dx = none → dx ≠ x → sp (.ref x :: (vs ++ dvs)) (upd (upd H dx (.own x)) x (.ins C dx [])) (fun v H2 => v = .non ∧ Q (.ref x) H2) (E σ)) : wpAny (model X.prog X.w) X.A (call (.ref C) us) (EP X pins σ Q) X.xe s := by
  have q0 := h (s.heap.objs.size + 1) s.heap.objs.size (I.hok.fresh (Nat.le_succ _)) (I.hok.fresh (Nat.le_refl _)) (Nat.ne_of_lt (Nat.lt_succ_self _))
  have J := Inv.made (C := C) I
  have rr : Vals (V.ref (s.heap.objs.size + 1) :: (vs ++ dvs)) (Value.ref (s.heap.objs.size + 1) :: (us ++ ds)) := .cons rfl (rv.append hd)
  have len : (Value.ref (s.heap.objs.size + 1) :: us ++ ds).length = ps.length := (rr.length.symm.trans (F.len _ _ _ _ q0))
  have run := F.run _ X.stack _ _ ⟨Value.ref (s.heap.objs.size + 1) :: us, []⟩ (Value.ref (s.heap.objs.size + 1) :: (us ++ ds)) _ _ (E σ) (hr.make C us []) (J.env0.make C us []) (hb _ (Value.ref (s.heap.objs.size + 1) :: us) J.kIn len) rr q0
  refine wpAny_call (make_map (f := f) I.kIn M.makes M.init (beq_iff_eq.mp M.fn) (codeAny_mono run fun r s' z => ?_))
  match r, z with
  | .error e, z => exact hx pins _ _ e s' J z
  | .ok (.ret u), z =>
    obtain ⟨v, H', J', r', rfl, q'⟩ := J.after z
    exact ⟨r', ⟨V.ref (s.heap.objs.size + 1), H', J', rfl, q'⟩⟩
  | .ok .next, z => exact z.elim
  | .ok .brk, z => exact z.elim
  | .ok .cont, z => exact z.elim
/-- C(e, ..), C's own __init__ may raise -/
theorem pe_makeS (M : Mk X.K C f) (F : FnOk X.prog X.w X.K X.mg X.base CX k f fd ps sp) (hr : Room (k + 1) X.A) (hg : Gl X x) (hm : X.mg x = some (.ref C)) (hb : Binds X.K fd ps ds) (hd : Vals dvs ds) (hx : ∀ σ, PassesAt CX X σ (E σ)) (ha : PA X (e :: es) t)
    (hdb : (x == ("__debug__" : Str)) = false := by decide) (he : starEach (e :: es) X.env = (false, eval e X.env) :: starEach es X.env := by rfl) (hpl : (backTo pos (starEach es X.env)).any (·.1) = false := by rfl) : PE X (.Call (.Name x p) (e :: es) [] pos) (tMakeS C sp dvs E t) :=
  ⟨fun pins s σ H Q I h => wpAny_Call_Name_kw (ld_glob I hg hm (PySem.W.callWith_K (h₀ := X.base) I.ok.mod.kin M.kp (thn (ha.run pos pins s σ H _ I h) fun us s1 ⟨vs, H1, I1, rv, q⟩ => ⟨I1.kIn, run_makeS M F hr hb hd (hx _) I1 rv q⟩) he hpl) hdb)⟩
/-- an argument list's reading by what follows it -/
def taM (t : TA) : TA := fun σ H Q => ∃ R : List V → Hp → Prop, t σ H R ∧ ∀ vs H1, R vs H1 → Q vs H1
theorem pa_M (h : PA X es t) : PA X es (taM t) := ⟨fun pos pins s σ H Q I ⟨R, h1, h2⟩ => thn (h.run pos pins s σ H R I h1) fun us s1 ⟨vs, H1, I1, r, q⟩ => ⟨vs, H1, I1, r, h2 vs H1 q⟩⟩
/-! ### an error class of the text: class C(HallError): def __init__(self, f): HallError.__init__(self, '..'); self.f = f -/
/-- what its __init__ does -/
def spExI (C : Addr) (f : Str) : Sp := fun vs H Q _ => ∃ (a : Addr) (v : V), vs = [.ref a, v] ∧ H a = some (exo a C none) ∧ ∀ d, H d = none → d ≠ a → Q .non (upd (upd H d (exd d [(f, v)])) a (exo a C (some d)))
def tExc (C : Addr) (f : Str) (t : TA) : St → Hp → XK → Prop := fun σ H Q => t σ H fun vs H1 => ∃ v, vs = [v] ∧ ∀ d, H1 d = none → Q (.ref C) (some d) (upd H1 d (.xd [(f, v)]))
theorem pmk_exc {fI : Addr} {fl : Str} (T : OexC X.K C) (iC : PySem.W.findIn X.K (.ref C) "__init__" = some (some (.ref fI))) (tI : PySem.W.typeIn X.K (.ref fI) = some (.type "function"))
    (F1 : FnOk X.prog X.w X.K X.mg X.base CX0 k fI fd ps (spExI C fl)) (hr : Room (k + 1) X.A) (hb : Binds X.K fd ps []) (hg : Gl X x) (hm : X.mg x = some (.ref C)) (ha : PA X (e :: es) t)
    (hdb : (x == ("__debug__" : Str)) = false := by decide) (he : starEach (e :: es) X.env = (false, eval e X.env) :: starEach es X.env := by rfl) (hpl : (backTo pos (starEach es X.env)).any (·.1) = false := by rfl) : PMk X (.Call (.Name x p) (e :: es) [] pos) (tExc C fl t) := by
  intro pins s σ H Q I h
  refine pmk_oex T iC tI F1 hr hb .nil (fun _ _ _ _ _ _ _ z => z.elim) hg hm (pa_M ha) hdb he hpl pins s σ H Q I ⟨_, h, fun vs H1 hv => ?_⟩
  obtain ⟨v, rfl, hq⟩ := hv
  refine ⟨(by show 1 ≤ 1000; decide), fun a na => ⟨a, v, rfl, upd_same, fun d hd nd => ⟨rfl, d, [(fl, v)], upd_same, ?_, ?_, ?_⟩⟩⟩
  · rw [upd_ne nd, upd_same]
  · rw [upd_ne nd] at hd
    exact hd
  · have hd' : H1 d = none := by
      rw [upd_ne nd] at hd
      exact hd
    have e1 : upd (del (upd (upd (upd H1 a (exo a C none)) d (exd d [(fl, v)])) a (exo a C (some d))) a) d (.xd [(fl, v)]) = upd H1 d (.xd [(fl, v)]) := by
      funext b
      by_cases h1 : b = d
      · rw [h1, upd_same, upd_same]
      · rw [upd_ne h1, upd_ne h1]
        by_cases h2 : b = a
        · rw [h2, del_same, na]
        · rw [del_ne h2, upd_ne h2, upd_ne h1, upd_ne h2]
    rw [e1]
    exact hq d hd'
/-- HallError.__init__(self, '..'), HallError a class of the text over ValueError -/
theorem pe_hinit {H0 : Addr} {pl : Sem Bool} {p1 p2 : Pos} (hg : Gl X x) (hm : X.mg x = some (.ref H0)) (hs : PySem.W.specialIn X.K (.ref H0) "__getattribute__" = some (some (.builtin "type.__getattribute__"))) (hrd : PySem.W.readsIn X.K H0 (.type "type") = true)
    (hf : PySem.W.findCls X.K (.ref H0) (.type "type") "__init__" = some (.val (.builtin "ValueError.__init__"))) (ha : PA X (e :: es) t) (hdb : (x == ("__debug__" : Str)) = false := by decide)
    (hc : eval (.Call (.Attribute (.Name x p1) "__init__" p2) (e :: es) [] pos) X.env = (do let ov ← eval (.Name x p1) X.env; standAt p2.atName; let (f, first) ← holding [ov] (getMethod ov "__init__" pl); callWith pos f first (backTo pos (starEach (e :: es) X.env)) (backToKw pos (keywordEach [] X.env))) := by rfl)
    (he : starEach (e :: es) X.env = (false, eval e X.env) :: starEach es X.env := by rfl) (hpl : (backTo pos (starEach es X.env)).any (·.1) = false := by rfl) : PE X (.Call (.Attribute (.Name x p1) "__init__" p2) (e :: es) [] pos) (tVeI X.K t) := by
  refine ⟨fun pins s σ H Q I h => PySem.W.methodCall_KW (ld_glob I hg hm ?_ hdb) hc⟩
  refine PySem.W.method_cls I.kIn hs (PySem.W.cls_value I.kIn hrd hf (by decide +kernel) ?_)
  show wpAny _ _ (callWith pos (Value.builtin "ValueError.__init__") [] (backTo pos (starEach (e :: es) X.env)) []) _ _ _
  refine PyProof.Rows.callWith_method1 (thn (ha.run pos pins _ σ H _ (I.tok _) h) fun us s1 ⟨vs, H1, I1, r1, a, C, ws, ev, hl, T, ea, q⟩ => ?_) he hpl
  subst ev
  cases r1 with
  | @cons _ u0 _ ur ra rw' =>
    cases (show u0 = Value.ref a from ra)
    refine oinit_ok T I1 ea ?_ fun s' J => ⟨.non, H1, J, rfl, q⟩
    rw [← Paired.length rw']
    exact line_le hl
/-! ### in an except suite: e.f, isinstance(e, C), isinstance(e, (C, D)) -/
end
/-- what the text says of an error class -/
structure XcC (K : PySem.W.Frag) (D : Addr) : Prop where
  ga : PySem.W.findIn K (.ref D) "__getattribute__" = some (some (.builtin "BaseException.__getattribute__"))
  gg : PySem.W.findIn K (.ref D) "__getattr__" = some none
  ex : PySem.W.subIn K (.ref D) (.type "BaseException") = some true
  hd : PySem.W.hasDictIn K D = true
  ha : PySem.W.findIn K (.ref D) "__class__" = some (some (.builtin "object.__class__"))
  hn : PySem.W.specialIn K (.builtin "object.__class__") "__get__" = some (some (.builtin "getset_descriptor.__get__"))
  ht : PySem.W.takesIn K (.builtin "object.__class__") = some true
  hm : PySem.W.mroIn K D (.type "object") = some true
  ty : PySem.W.typeIn K (.ref D) = some (.type "type")
/-- the own dict of the caught one -/
def XdAt (H : Hp) (d : Option Addr) : Prop := d = none ∨ ∃ dd fs, d = some dd ∧ H dd = some (.xd fs)
/-- e.f, e the caught error -/
def tXfA (K : PySem.W.Frag) (a : Addr) (cls : Value) (d : Option Addr) (f : Str) (te : TE) : TE := fun σ H Q => te σ H fun x H1 => x = .ref a ∧ ∃ (C dd : Addr) (fs : List (Str × V)) (v : V), cls = .ref C ∧ XcC K C ∧ PySem.W.findIn K (.ref C) f = some none ∧ d = some dd ∧ H1 dd = some (.xd fs) ∧ fs.lookup f = some v ∧ Q v H1
section
variable {X : Cx} {a : Addr} {oe : Obj} {cls : Value} {d : Option Addr} {pn : List (Addr × Obj)}
theorem pe_xfA {e : Expr} {te : TE} {pos : Pos} {n : Str} {K : PySem.W.Frag} (hz : Zc cls d oe) (hf : ∃ vs, oe.data = .fields vs) (he : PE (X.suite a ((a, oe) :: pn)) e te) (hb : attributeBase e n X.env (eval e X.env) = eval e X.env := by rfl) (hK : X.K = K := by rfl) :
    PE (X.suite a ((a, oe) :: pn)) (.Attribute e n pos) (tXfA K a cls d n te) := by
  subst hK
  refine ⟨fun pins s σ H Q I h => attr_of hb (thn (he.run pins s σ H _ I h) fun u s1 hh => ?_)⟩
  obtain ⟨x, H1, I1, rx, rfl, C, dd, fs, v, rfl, T, no, rfl, xa, l, q⟩ := hh
  obtain rfl : u = Value.ref a := rx
  obtain ⟨pa, _⟩ := I1.pin (a, oe) (List.mem_append_left _ List.mem_cons_self)
  obtain ⟨vs, hv⟩ := hf
  obtain ⟨mA, ns, rl⟩ := (show ObjOk X.prog X.w H1 s1.heap dd (.xd fs) from I1.hok dd _ xa)
  obtain ⟨od, ho, hl⟩ := lookIn_ns ns
  obtain ⟨u, hu, ru⟩ := RelO.some_of (v := v) (o := mA n) (by rw [← l]; exact rl n)
  exact HandSPX.exc_get I1.kIn (od := some od) ⟨pa, hz.1, by unfold PySem.W.notCls; rw [hv] <;> rfl, by rw [hz.2]; exact ho⟩ T.ga T.gg T.ex (PySem.W.findObj_own T.hd no rfl (by rw [hl, hu])) (handed_of ru) ⟨v, H1, I1.tok _, ru, q⟩
/-- isinstance(e, C) -/
def rIsX (K : PySem.W.Frag) (a : Addr) (cls : Value) (d : Option Addr) : List V → Hp → VK → Prop := fun xs H Q => ∃ (D : Addr) (c : V) (cv : Value) (b : Bool), xs = [.ref a, c] ∧ cls = .ref D ∧ XcC K D ∧ XdAt H d ∧ ClsV c cv ∧ PySem.W.kitOne K (.ref D) cv = some b ∧ Q (.bl b) H
/-- isinstance(e, (C, D)), the tuple just laid -/
def rIsXs (K : PySem.W.Frag) (a : Addr) (cls : Value) (d : Option Addr) : List V → Hp → VK → Prop := fun xs H Q => ∃ (D tp : Addr) (cs : List V) (cvs : List Value) (b : Bool), xs = [.ref a, .ref tp] ∧ H tp = some (.tup cs) ∧ cls = .ref D ∧ XcC K D ∧ XdAt H d ∧ Paired ClsV cs cvs ∧ PySem.W.kitAny K (.ref D) cvs = some b ∧ Q (.bl b) H
theorem xc_kit {K : PySem.W.Frag} {D x : Addr} {ox : Obj} {od : Option Obj} (T : XcC K D) : PySem.W.KitX K (.ref x) (.ref D) (fun h => PySem.W.InstAt h x ox D od) := by
  have hc : (PySem.W.clsIn K D).isSome = true := by
    obtain ⟨cd, hc, _⟩ := PySem.W.any_some T.hd
    rw [hc]
    rfl
  exact PySem.W.kitx_exc hc T.ga T.gg T.ex T.ha T.hn T.ht T.hm
theorem xc_at {pins : List (Addr × Obj)} {σ : St} {H : Hp} {s : Shared} {D : Addr} (hz : Zc (.ref D) d oe) (hf : ∃ vs, oe.data = .fields vs) (I : Inv (X.suite a ((a, oe) :: pn)) pins σ H s) (xd : XdAt H d) : ∃ od, PySem.W.InstAt s.heap a oe D od := by
  obtain ⟨pa, _⟩ := I.pin (a, oe) (List.mem_append_left _ List.mem_cons_self)
  obtain ⟨vs, hv⟩ := hf
  have nc : PySem.W.notCls oe = true := by unfold PySem.W.notCls; rw [hv] <;> rfl
  rcases xd with rfl | ⟨dd, fs, rfl, xa⟩
  · exact ⟨none, pa, hz.1, nc, by rw [hz.2]; trivial⟩
  · obtain ⟨mA, ns, rl⟩ := (show ObjOk X.prog X.w H s.heap dd (.xd fs) from I.hok dd _ xa)
    obtain ⟨od, ho, hl⟩ := lookIn_ns ns
    exact ⟨some od, pa, hz.1, nc, by rw [hz.2]; exact ho⟩
theorem call_isX {K : PySem.W.Frag} (hz : Zc cls d oe) (hf : ∃ vs, oe.data = .fields vs) (hK : X.K = K := by rfl) : CallR (X.suite a ((a, oe) :: pn)) (.builtin "isinstance") (rIsX K a cls d) := by
  subst hK
  intro pins s σ H xs us Q I r h
  obtain ⟨D, c, cv, b, rfl, rfl, T, xd, k, e, q⟩ := h
  obtain ⟨u1, u2, rfl, r1, r2⟩ := vals2 r
  cases (show u1 = Value.ref a from r1)
  cases k.eq r2
  obtain ⟨od, J⟩ := xc_at hz hf I xd
  exact PySem.W.kia_one (xc_kit T) I.kIn J e (fun z => nomatch z) fun tk => ⟨.bl b, H, I.tok tk, rfl, q⟩
theorem call_isXs {K : PySem.W.Frag} (hz : Zc cls d oe) (hf : ∃ vs, oe.data = .fields vs) (hK : X.K = K := by rfl) : CallR (X.suite a ((a, oe) :: pn)) (.builtin "isinstance") (rIsXs K a cls d) := by
  subst hK
  intro pins s σ H xs us Q I r h
  obtain ⟨D, tp, cs, cvs, b, rfl, ht, rfl, T, xd, k, e, q⟩ := h
  obtain ⟨u1, u2, rfl, r1, r2⟩ := vals2 r
  cases (show u1 = Value.ref a from r1)
  cases (show u2 = Value.ref tp from r2)
  obtain ⟨od, J⟩ := xc_at hz hf I xd
  obtain ⟨_, its, rv, ⟨oc, odd, dt, sl⟩, h1, h2, n, h3⟩ := (show ObjOk X.prog X.w H s.heap tp (.tup cs) from I.hok tp _ ht)
  cases ClsV.all k rv
  simp only at h2 h3
  subst h2 h3
  exact PySem.W.kia_tup (xc_kit T) I.kIn J h1 e (fun z => nomatch z) fun tk => ⟨.bl b, H, I.tok tk, rfl, q⟩
end
theorem kit_self {K : PySem.W.Frag} {C : Addr} : PySem.W.kitOne K (.ref C) (.ref C) = some true := by
  unfold PySem.W.kitOne
  rw [if_pos (by simp)]
/-- does the class cls lie under D, an own error class -/
theorem exm_own {K : PySem.W.Frag} {C D : Addr} {b : Bool} (T : XcC K D) (h : PySem.W.subIn K (.ref C) (.ref D) = some b) : PySem.W.exmOne K (.ref C) (.ref D) = some b := PySem.W.exm_ref T.ex T.hd T.ty h
theorem any_nil {K : PySem.W.Frag} {c : Value} : PySem.W.exmAny K c [] = some false := rfl
theorem any_cons {K : PySem.W.Frag} {c e : Value} {r : List Value} {b1 b2 : Bool} (h1 : PySem.W.exmOne K c e = some b1) (h2 : PySem.W.exmAny K c r = some b2) : PySem.W.exmAny K c (e :: r) = some (b1 || b2) := by
  unfold PySem.W.exmAny
  rw [h1, h2]
theorem kany_nil {K : PySem.W.Frag} {c : Value} : PySem.W.kitAny K c [] = some false := rfl
theorem kany_cons {K : PySem.W.Frag} {c e : Value} {r : List Value} {b1 b2 : Bool} (h1 : PySem.W.kitOne K c e = some b1) (h2 : PySem.W.kitAny K c r = some b2) : PySem.W.kitAny K c (e :: r) = some (b1 || b2) := by
  unfold PySem.W.kitAny
  rw [h1]
  cases b1
  · exact h2
  · rfl
/-! ### statements, in the forms that the printed texts use -/
def tRaise (t : St → Hp → XK → Prop) (W : WX) : TS := fun _ σ H => t σ H fun cls d H' => W cls d σ H'
def tTry (K : PySem.W.Frag) (tb : WX → TS) (Wout : WX) (l : List Clause) (u : TS) : TS := fun D σ H => tb (wCl K Wout D l) { D with nx := u D } σ H
section
variable {X : Cx}
theorem ps_raiseM {W : WX} {e : Expr} {t : St → Hp → XK → Prop} {pos : Pos} (hc : X.calm = true) (tk : Takes X W) (he : PMk X e t) : PS X (.Raise (some e) none pos) (tRaise t W) := ps_raise hc tk he
theorem ps_tryM {body orelse : List Stmt} {h₀ : ExceptHandler} {hds : List ExceptHandler} {l : List Clause} {pos : Pos} {tb : WX → TS} {u : TS} {Wout : WX} (hst : X.stack = X.env :: X.outer) (hf : X.env.frame = some X.env.locals) (hN : X.N.Nodup) (tk : Takes X Wout)
    (hb : ∀ (W : WX) (pn : List (Addr × Obj)) (xe : Value → Shared → Prop), Takes (X.tr pn xe) W → PassesOwn (model X.prog X.w) X.A X.env xe → PSs (X.tr pn xe) body (tb W)) (hh : ClsOk X (h₀ :: hds) l) (ho : PSs X orelse u) : PS X (.Try body (h₀ :: hds) orelse [] pos) (tTry X.K tb Wout l u) :=
  ps_tryC hst hf hN tk hb hh ho
end
/-- a def that may raise -/
theorem fund_okX {P : Program} {w : World} {K : PySem.W.Frag} {mg : Str → Option Value} {base : Heap} {x qual : Str} {params : Arguments} {body : List Stmt} {scope : Scope} {dvs : List V} {f : Addr} {fd : FuncData} {N ps : List Str} {k : Nat} {sp : Sp}
    (F : FunD K x qual params body scope dvs [] f fd) (S : FnScope N ps scope) (len : ∀ vs H Q E, sp vs H Q E → vs.length = ps.length)
    (hbody : ∀ (cdv : Value) (A : Around) (outer : List Env) (s : Shared) (H : Hp) (vs : List V) (Q : VK) (E : XK), Room k (A.deeper (PyProof.Rows.envOfC qual scope s.heap.objs.size f cdv)) →
      Takes (cxOf (L2.CX P w) P w K mg base N qual scope f cdv A outer s H E) (fun cls d _ H' => E cls d H') →
      PassesOwn (model P w) (cxOf (L2.CX P w) P w K mg base N qual scope f cdv A outer s H E).A (cxOf (L2.CX P w) P w K mg base N qual scope f cdv A outer s H E).env (cxOf (L2.CX P w) P w K mg base N qual scope f cdv A outer s H E).xe → sp vs H Q E →
      ∃ t, PSs (cxOf (L2.CX P w) P w K mg base N qual scope f cdv A outer s H E) body t ∧ t { nx := fun _ H' => Q .non H', rt := Q } (start N vs) H) : FnOk P w K mg base (L2.CX P w) (k + 1) f fd ps sp :=
  F.ok S len fun cdv A outer s H vs Q E hr h => hbody cdv A outer s H vs Q E hr (takes_of rfl rfl rfl rfl) (passes_of rfl) h
section
variable {D : Ends} {σ : St} {H : Hp} {Q : VK} {K : PySem.W.Frag} {A : TA} {te ta : TE} {C : Addr} {m f : Str} {sp : Sp} {dvs : List V} {E : St → XK}
theorem i_raise {t : St → Hp → XK → Prop} {W : WX} (h : t σ H fun cls d H' => W cls d σ H') : tRaise t W D σ H := h
theorem i_exc {XQ : XK} (h : A σ H fun vs H1 => ∃ v, vs = [v] ∧ ∀ d, H1 d = none → XQ (.ref C) (some d) (upd H1 d (.xd [(f, v)]))) : tExc C f A σ H XQ := h
theorem i_excV {v : V} {R : V → Prop} (h : R v) : ∃ x, [v] = [x] ∧ R x := ⟨v, rfl, h⟩
theorem i_try {tb : WX → TS} {Wout : WX} {l : List Clause} {u : TS} (h : tb (wCl K Wout D l) { D with nx := u D } σ H) : tTry K tb Wout l u D σ H := h
theorem i_methS (h : te σ H fun x H1 => ∃ a dx fs, x = .ref a ∧ H1 a = some (.ins C dx fs) ∧ fs.lookup m = none ∧ A σ H1 fun vs H2 => sp (x :: (vs ++ dvs)) H2 Q (E σ)) : tMethS C m sp dvs E te A σ H Q := h
theorem i_callS (h : A σ H fun vs H1 => sp (vs ++ dvs) H1 Q (E σ)) : tCallSD sp dvs E A σ H Q := h
theorem i_makeS (h : A σ H fun vs H1 => ∀ x dx, H1 x = none → H1 dx = none → dx ≠ x → sp (.ref x :: (vs ++ dvs)) (upd (upd H1 dx (.own x)) x (.ins C dx [])) (fun v H2 => v = .non ∧ Q (.ref x) H2) (E σ)) : tMakeS C sp dvs E A σ H Q := h
/-- the clause takes it -/
theorem i_clT {Wout : WX} {q : Clause} {r : List Clause} {cls : Value} {d : Option Addr} (hb : PySem.W.exmAny K cls q.cs = some true) (h : ∀ ea, H ea = none → q.go ea cls d D σ H) : wCl K Wout D (q :: r) cls d σ H := ⟨true, hb, fun _ => h, fun z => by cases z⟩
/-- it doesn't -/
theorem i_clF {Wout : WX} {q : Clause} {r : List Clause} {cls : Value} {d : Option Addr} (hb : PySem.W.exmAny K cls q.cs = some false) (h : wCl K Wout D r cls d σ H) : wCl K Wout D (q :: r) cls d σ H := ⟨false, hb, (fun z => by cases z), fun _ => h⟩
theorem i_goN {cs : List Value} {i : Nat} {ts : Addr → Value → Option Addr → TS} {a : Addr} {cls : Value} {d : Option Addr} (h : ts a cls d (unD i D) (σ.set i (some (.ref a))) H) : Clause.go ⟨cs, some i, ts⟩ a cls d D σ H := h
theorem i_go0 {cs : List Value} {ts : Addr → Value → Option Addr → TS} {a : Addr} {cls : Value} {d : Option Addr} (h : ts a cls d D σ H) : Clause.go ⟨cs, none, ts⟩ a cls d D σ H := h
theorem i_xf {a dd : Addr} {fs : List (Str × V)} {v : V} {R : V → Prop} {C' : Addr} (T : XcC K C') (no : PySem.W.findIn K (.ref C') f = some none) (h1 : H dd = some (.xd fs)) (h2 : fs.lookup f = some v) (h : R v) :
    V.ref a = .ref a ∧ ∃ (C e : Addr) (fs : List (Str × V)) (v : V), Value.ref C' = .ref C ∧ XcC K C ∧ PySem.W.findIn K (.ref C) f = some none ∧ some dd = some e ∧ H e = some (.xd fs) ∧ fs.lookup f = some v ∧ R v := ⟨rfl, C', dd, fs, v, rfl, T, no, rfl, h1, h2, h⟩
theorem i_xfA {a : Addr} {d : Option Addr} {cls : Value} (h : te σ H fun x H1 => x = .ref a ∧ ∃ (C dd : Addr) (fs : List (Str × V)) (v : V), cls = .ref C ∧ XcC K C ∧ PySem.W.findIn K (.ref C) f = some none ∧ d = some dd ∧ H1 dd = some (.xd fs) ∧ fs.lookup f = some v ∧ Q v H1) : tXfA K a cls d f te σ H Q := h
theorem i_isX {a D' : Addr} {c : V} {cv cls : Value} {d : Option Addr} {b : Bool} (hc : cls = .ref D') (T : XcC K D') (xd : XdAt H d) (k : ClsV c cv) (e : PySem.W.kitOne K (.ref D') cv = some b) (h : Q (.bl b) H) : rIsX K a cls d [.ref a, c] H Q := ⟨D', c, cv, b, rfl, hc, T, xd, k, e, h⟩
theorem i_isXs {a D' tp : Addr} {cs : List V} {cvs : List Value} {cls : Value} {d : Option Addr} {b : Bool} (ht : H tp = some (.tup cs)) (hc : cls = .ref D') (T : XcC K D') (xd : XdAt H d) (k : Paired ClsV cs cvs) (e : PySem.W.kitAny K (.ref D') cvs = some b) (h : Q (.bl b) H) : rIsXs K a cls d [.ref a, .ref tp] H Q :=
  ⟨D', tp, cs, cvs, b, rfl, ht, hc, T, xd, k, e, h⟩
end
/-- an own error class's __init__, read -/
theorem exc_read {K : PySem.W.Frag} {C : Addr} {f : Str} {vs : List V} {H : Hp} {Q : VK} {E : XK} {N : List Str} {z : Str} (hN : N.length = 2) (T : OexC K C) (no : PySem.W.findIn K (.ref C) f = some none) (h : spExI C f vs H Q E) :
    tSeq (tDrop (tVeI K (tCons (tVar 0) (tCons (tC (.str z)) tNil)))) (tOst K f (tVar 0) (tVar 1)) { nx := fun _ H' => Q .non H', rt := Q } (start N vs) H := by
  obtain ⟨a, v, rfl, ha, k⟩ := h
  refine i_seq (i_drop ?_)
  show tVeI K _ _ _ _
  refine ⟨_, rfl, ?_⟩
  refine i_c (i_nil ⟨a, C, [.str z], rfl, Nat.le_of_ble_eq_true rfl, T, ha, ?_⟩)
  exact ⟨v, rfl, .ref a, rfl, a, C, rfl, T, no, .inl ⟨ha, fun d hd nd => k d hd nd⟩⟩
/-! ### isinstance(x, C), C of the text -/
section
variable {K : PySem.W.Frag} {H : Hp} {Q : VK} {x : V} {C : Addr}
theorem i_isiC (h : isO K x H fun _ c => match c with | none => Q (.bl false) H | some D => ∃ b, PySem.W.kitOne K (.ref D) (.ref C) = some b ∧ Q (.bl b) H) : rIsiC C K [x, .ref C] H Q := ⟨x, rfl, h⟩
theorem i_kit {c d : Value} {b : Bool} {R : Bool → Prop} (h1 : PySem.W.kitOne K c d = some b) (h : R b) : ∃ b, PySem.W.kitOne K c d = some b ∧ R b := ⟨b, h1, h⟩
end
end My
/-! comprehensions over zip -/
namespace My
open PySem L2 RZ
theorem walk_zipT {K : PySem.W.Frag} {a b : Addr} {xs ys : List V} {n : Nat} (hn : n = min xs.length ys.length) : Walk (ItzT K a b) n (fun H => SqT K H a xs ∧ SqT K H b ys) (YPair (fun i => xs[i]?) (fun i => ys[i]?)) := by
  subst hn
  refine ⟨fun i _ hi q => ?_, fun _ q => ⟨xs, ys, q.1, q.2, by omega⟩, fun i H v H' _ q ⟨T, x, z, y1, y2, y3, y4, y5⟩ => ⟨T, x, z, y1, y2, y3, y4 xs q.1, y5 ys q.2⟩⟩
  have l1 : i < xs.length := by omega
  have l2 : i < ys.length := by omega
  exact ⟨xs, ys, xs[i], ys[i], q.1, q.2, List.getElem?_eq_getElem l1, List.getElem?_eq_getElem l2⟩
theorem zw_take {α β γ : Type} (f : α → β → γ) {xs : List α} {ys : List β} {i : Nat} {x : α} {y : β} (hx : xs[i]? = some x) (hy : ys[i]? = some y) : (List.zipWith f xs ys).take (i + 1) = (List.zipWith f xs ys).take i ++ [f x y] := by
  rw [List.take_succ, List.getElem?_zipWith, hx, hy]
  rfl
/-- [.. for x, y in zip(xs, ys)] -/
theorem lc_zip {J : It} {G : Hp → Prop} {g : TG} {tt : TT} {te : TE} {vs : List Nat} {σ : St} {H1 : Hp} {D : Addr} {Qd : Hp → Prop} {n : Nat} (xs ys : List V) (f : V → V → V) (w : Walk J n G (YPair (fun i => xs[i]?) (fun i => ys[i]?))) (hn : n = min xs.length ys.length) (hl : n ≤ 1000)
    (hG : ∀ H, Same H1 H → G H) (hD : H1 D = none)
    (hs : ∀ (i : Nat) x y, xs[i]? = some x → ys[i]? = some y → ∀ H T (Q : VK) (R : Hp → Prop), Same H1 H → H T = some (.tup [x, y]) → (∀ H', Same H H' → Q (f x y) H') → g (.ref T) (wipe σ vs) H fun σ2 H2 => wipe σ2 vs = wipe σ vs ∧ tt σ2 H2 fun b H3 => if b = true then te σ2 H3 Q else R H3)
    (hd : ∀ H, Same H1 H → H D = some (.lst (List.zipWith f xs ys)) → Qd H) :
    ∃ W : Nat → Nat → Hp → Prop, (∃ m, W 0 m (upd H1 D (.lst []))) ∧ ∀ i m H, W i m H →
      (J.stop i H ∧ Qd H) ∨ (J.go i H ∧ ∃ Nx : Hp → Prop, (∀ H', Nx H' → ∃ m', m' < m ∧ W (i + 1) m' H') ∧ ∀ x H', J.yld i H x H' → g x (wipe σ vs) H' fun σ2 H2 => wipe σ2 vs = wipe σ vs ∧ tt σ2 H2 fun b H3 =>
        if b = true then te σ2 H3 fun y H4 => ∃ acc, H4 D = some (.lst acc) ∧ acc.length < sizeLine ∧ Nx (upd H4 D (.lst (acc ++ [y]))) else Nx H3) := by
  refine lc_it w (fun i H => Same H1 H ∧ H D = some (.lst ((List.zipWith f xs ys).take i))) ⟨same_upd (Same.refl H1) hD, upd_same⟩ (fun i H _ h => hG H h.1) ?_ (fun H h => hd H h.1 (h.2.trans ?_))
  · rintro i v H H' hi ⟨s1, e1⟩ ⟨T, x, y, rfl, nT, rfl, hx, hy⟩
    have s2 : Same H (upd H T (.tup [x, y])) := same_upd (Same.refl H) nT
    refine hs i x y hx hy _ T _ _ (s1.trans s2) upd_same fun H4 s4 => ?_
    have e4 := s4 _ _ (s2 _ _ e1)
    refine ⟨_, e4, ?_, fun b o q => ?_, ?_⟩
    · refine small1000 ?_
      rw [List.length_take]
      omega
    · by_cases z : b = D
      · subst z
        rw [hD] at q
        cases q
      · rw [upd_ne z]
        exact s4 _ _ (s2 _ _ (s1 _ _ q))
    · rw [upd_same, zw_take f hx hy]
  · rw [List.take_of_length_le (by rw [List.length_zipWith, hn]; exact Nat.le_refl _)]
theorem lc_zipT {K : PySem.W.Frag} {a b : Addr} {xs ys : List V} {g : TG} {tt : TT} {te : TE} {vs : List Nat} {σ : St} {H1 : Hp} {D : Addr} {Qd : Hp → Prop} (f : V → V → V) (h1 : SqT K H1 a xs) (h2 : SqT K H1 b ys) (hD : H1 D = none) (hl : min xs.length ys.length ≤ 1000)
    (hs : ∀ (i : Nat) x y, xs[i]? = some x → ys[i]? = some y → ∀ H T (Q : VK) (R : Hp → Prop), Same H1 H → H T = some (.tup [x, y]) → (∀ H', Same H H' → Q (f x y) H') → g (.ref T) (wipe σ vs) H fun σ2 H2 => wipe σ2 vs = wipe σ vs ∧ tt σ2 H2 fun b H3 => if b = true then te σ2 H3 Q else R H3)
    (hd : ∀ H, Same H1 H → H D = some (.lst (List.zipWith f xs ys)) → Qd H) :
    ∃ W : Nat → Nat → Hp → Prop, (∃ m, W 0 m (upd H1 D (.lst []))) ∧ ∀ i m H, W i m H →
      ((ItzT K a b).stop i H ∧ Qd H) ∨ ((ItzT K a b).go i H ∧ ∃ Nx : Hp → Prop, (∀ H', Nx H' → ∃ m', m' < m ∧ W (i + 1) m' H') ∧ ∀ x H', (ItzT K a b).yld i H x H' → g x (wipe σ vs) H' fun σ2 H2 => wipe σ2 vs = wipe σ vs ∧ tt σ2 H2 fun b H3 =>
        if b = true then te σ2 H3 fun y H4 => ∃ acc, H4 D = some (.lst acc) ∧ acc.length < sizeLine ∧ Nx (upd H4 D (.lst (acc ++ [y]))) else Nx H3) :=
  lc_zip xs ys f (walk_zipT rfl) rfl hl (fun _ s => ⟨SqT.same s h1, SqT.same s h2⟩) hD hs hd
theorem i_zipT {K : PySem.W.Frag} {σ : St} {H : Hp} {A : TA} {R : It → Hp → Prop} (h : A σ H fun vs H1 => ∃ a b xs ys, vs = [.ref a, .ref b] ∧ ((SqL K H1 a xs ∧ SqL K H1 b ys ∧ R (Itz K a b) H1) ∨ (SqT K H1 a xs ∧ SqT K H1 b ys ∧ R (ItzT K a b) H1))) : iZipA K A σ H R := h
theorem i_zipTT {K : PySem.W.Frag} {H : Hp} {a b : Addr} {xs ys : List V} {R1 R2 : Addr → Addr → Prop} (h1 : SqT K H a xs) (h2 : SqT K H b ys) (h : R2 a b) : ∃ a' b' xs ys, [V.ref a, V.ref b] = [.ref a', .ref b'] ∧ ((SqL K H a' xs ∧ SqL K H b' ys ∧ R1 a' b') ∨ (SqT K H a' xs ∧ SqT K H b' ys ∧ R2 a' b')) :=
  ⟨a, b, xs, ys, rfl, .inr ⟨h1, h2, h⟩⟩
theorem i_zipLL {K : PySem.W.Frag} {H : Hp} {a b : Addr} {xs ys : List V} {R1 R2 : Addr → Addr → Prop} (h1 : SqL K H a xs) (h2 : SqL K H b ys) (h : R1 a b) : ∃ a' b' xs ys, [V.ref a, V.ref b] = [.ref a', .ref b'] ∧ ((SqL K H a' xs ∧ SqL K H b' ys ∧ R1 a' b') ∨ (SqT K H a' xs ∧ SqT K H b' ys ∧ R2 a' b')) :=
  ⟨a, b, xs, ys, rfl, .inl ⟨h1, h2, h⟩⟩
theorem pi_zipK {X : Cx} {e e2 : Expr} {ta : TA} {p pos tpos : Pos} {elts : List Expr} {kk : Nat} {K : PySem.W.Frag} (hg : Gl X "zip") (hm : X.mg "zip" = none) (ha : PA X [e, e2] ta)
    (hs : starEach [e, e2] X.env = (false, eval e X.env) :: starEach [e2] X.env := by rfl) (hpl : (backTo pos (starEach [e2] X.env)).any (·.1) = false := by rfl) (hK : X.K = K := by rfl) :
    PI X (.Tuple elts kk tpos) (.Call (.Name "zip" p) [e, e2] [] pos) (iZipA K ta) := by
  subst hK
  exact pi_zipA hg hm ha hs hpl
def vI : V → Int
  | .int i => i
  | _ => 0
theorem zw_int (f : Int → Int → Int) (ns ms : List Int) : List.zipWith (fun x y => V.int (f (vI x) (vI y))) (ns.map V.int) (ms.map V.int) = (List.zipWith f ns ms).map V.int := by
  induction ns generalizing ms with
  | nil => rfl
  | cons n ns ih => cases ms with
    | nil => rfl
    | cons m ms => exact congrArg _ (ih ms)
theorem zw_bl (f : Int → Int → Bool) (ns ms : List Int) : List.zipWith (fun x y => V.bl (f (vI x) (vI y))) (ns.map V.int) (ms.map V.int) = (List.zipWith f ns ms).map V.bl := by
  induction ns generalizing ms with
  | nil => rfl
  | cons n ns ih => cases ms with
    | nil => rfl
    | cons m ms => exact congrArg _ (ih ms)
theorem map_int_at {ns : List Int} {i : Nat} {x : V} (h : (ns.map V.int)[i]? = some x) : ∃ n, n ∈ ns ∧ x = .int n ∧ ns[i]? = some n := by
  rw [List.getElem?_map, Option.map_eq_some_iff] at h
  obtain ⟨n, h1, rfl⟩ := h
  exact ⟨n, List.mem_of_getElem? h1, rfl, h1⟩
/-- [.. for k in range(n)], each item drawn of the pool at p -/
theorem lc_pool {J : It} {G : Hp → Prop} {g : TG} {tt : TT} {te : TE} {vs : List Nat} {σ : St} {H1 : Hp} {D p : Addr} {m0 : Int} {Qd : Hp → Prop} {n : Nat} {f : Nat → V} (Pr : V → Prop) (w : Walk J n G (YFn f)) (hl : n ≤ 1000) (hG : ∀ H, G H) (hp : H1 p = some (.lst [.int m0])) (hD : H1 D = none)
    (hs : ∀ i, i < n → ∀ H m (Q : VK) (R : Hp → Prop), SameBut p H1 H → H p = some (.lst [.int m]) → (∀ y H' m', SameBut p H H' → H' p = some (.lst [.int m']) → Pr y → Q y H') → g (f i) (wipe σ vs) H fun σ2 H2 => wipe σ2 vs = wipe σ vs ∧ tt σ2 H2 fun b H3 => if b = true then te σ2 H3 Q else R H3)
    (hd : ∀ H m ys, SameBut p H1 H → H p = some (.lst [.int m]) → H D = some (.lst ys) → ys.length = n → (∀ y ∈ ys, Pr y) → Qd H) :
    ∃ W : Nat → Nat → Hp → Prop, (∃ m, W 0 m (upd H1 D (.lst []))) ∧ ∀ i m H, W i m H →
      (J.stop i H ∧ Qd H) ∨ (J.go i H ∧ ∃ Nx : Hp → Prop, (∀ H', Nx H' → ∃ m', m' < m ∧ W (i + 1) m' H') ∧ ∀ x H', J.yld i H x H' → g x (wipe σ vs) H' fun σ2 H2 => wipe σ2 vs = wipe σ vs ∧ tt σ2 H2 fun b H3 =>
        if b = true then te σ2 H3 fun y H4 => ∃ acc, H4 D = some (.lst acc) ∧ acc.length < sizeLine ∧ Nx (upd H4 D (.lst (acc ++ [y]))) else Nx H3) := by
  have np : p ≠ D := ne_of_none hp hD
  have sb : ∀ {H o}, SameBut p H1 H → SameBut p H1 (upd H D o) := fun {H o} s b u nb e => by
    rw [upd_ne (ne_of_none e hD)]
    exact s b u nb e
  refine lc_it w (fun i H => SameBut p H1 H ∧ (∃ m, H p = some (.lst [.int m])) ∧ ∃ ys, H D = some (.lst ys) ∧ ys.length = i ∧ ∀ y ∈ ys, Pr y) ⟨sb (SameBut.refl p H1), ⟨m0, by rw [upd_ne np]; exact hp⟩, [], upd_same, rfl, fun _ h => nomatch h⟩ (fun i H _ _ => hG H) ?_ ?_
  · rintro i v H H' hi ⟨s1, ⟨m, e1⟩, ys, e2, e3, e4⟩ ⟨rfl, rfl⟩
    refine hs i hi H' m _ _ s1 e1 fun y H4 m' s2 e5 hy => ⟨ys, s2 _ _ (Ne.symm np) e2, small1000 (by omega), sb (s1.trans s2), ⟨m', by rw [upd_ne np]; exact e5⟩, ys ++ [y], upd_same, by rw [List.length_append, e3]; rfl, fun z hz => ?_⟩
    rcases List.mem_append.mp hz with h | h
    · exact e4 z h
    · rw [List.mem_singleton.mp h]
      exact hy
  · rintro H ⟨s1, ⟨m, e1⟩, ys, e2, e3, e4⟩
    exact hd H m ys s1 e1 e2 e3 e4
/-! ### xs.append(y) -/
def tApp (K : PySem.W.Frag) (to : TE) (A : TA) : TE := tBM K "list" rAppend to A
theorem pe_appK {X : Cx} {K : PySem.W.Frag} {e : Expr} {to : TE} {t : TA} (h : PE X e (tBM X.K "list" rAppend to t)) (hK : X.K = K := by rfl) : PE X e (tApp K to t) := by
  subst hK
  exact h
section
variable {K : PySem.W.Frag} {σ : St} {H : Hp} {Q : VK} {to : TE} {A : TA} {l : Addr} {xs : List V} {y : V}
theorem i_app (h : to σ H fun x H1 => tyV K "list" x H1 ∧ A σ H1 fun vs H2 => rAppend x vs H2 Q) : tApp K to A σ H Q := h
theorem i_tyL {R : Prop} (h0 : SqL K H l xs) (h : R) : tyV K "list" (.ref l) H ∧ R := ⟨.inl ⟨rfl, xs, h0⟩, h⟩
theorem i_rapp (h1 : H l = some (.lst xs)) (h2 : xs.length < sizeLine) (h : Q .non (upd H l (.lst (xs ++ [y])))) : rAppend (.ref l) [y] H Q := ⟨l, xs, y, rfl, rfl, h1, h2, h⟩
end
/-- [.. for k in range(n)], nothing older changed -/
theorem lc_rng {g : TG} {tt : TT} {te : TE} {vs : List Nat} {σ : St} {H1 : Hp} {D : Addr} {Qd : Hp → Prop} {n : Nat} (f : Nat → V) (hl : n ≤ 1000) (hD : H1 D = none)
    (hs : ∀ i, i < n → ∀ H (Q : VK) (R : Hp → Prop), Same H1 H → (∀ H', Same H H' → Q (f i) H') → g (.int (0 + i)) (wipe σ vs) H fun σ2 H2 => wipe σ2 vs = wipe σ vs ∧ tt σ2 H2 fun b H3 => if b = true then te σ2 H3 Q else R H3)
    (hd : ∀ H, Same H1 H → H D = some (.lst ((List.range n).map f)) → Qd H) :
    ∃ W : Nat → Nat → Hp → Prop, (∃ m, W 0 m (upd H1 D (.lst []))) ∧ ∀ i m H, W i m H →
      ((Itr 0 n).stop i H ∧ Qd H) ∨ ((Itr 0 n).go i H ∧ ∃ Nx : Hp → Prop, (∀ H', Nx H' → ∃ m', m' < m ∧ W (i + 1) m' H') ∧ ∀ x H', (Itr 0 n).yld i H x H' → g x (wipe σ vs) H' fun σ2 H2 => wipe σ2 vs = wipe σ vs ∧ tt σ2 H2 fun b H3 =>
        if b = true then te σ2 H3 fun y H4 => ∃ acc, H4 D = some (.lst acc) ∧ acc.length < sizeLine ∧ Nx (upd H4 D (.lst (acc ++ [y]))) else Nx H3) := by
  refine lc_it walk_range (fun i H => Same H1 H ∧ H D = some (.lst ((List.range i).map f))) ⟨same_upd (Same.refl H1) hD, upd_same⟩ (fun i H _ _ => trivial) ?_ (fun H h => hd H h.1 h.2)
  rintro i v H H' hi ⟨s1, e1⟩ ⟨rfl, rfl⟩
  refine hs i hi H' _ _ s1 fun H4 s4 => ⟨_, s4 _ _ e1, small1000 (by rw [List.length_map, List.length_range]; omega), fun b o q => ?_, ?_⟩
  · rw [upd_ne (ne_of_none q hD)]
    exact s4 _ _ (s1 _ _ q)
  · rw [upd_same, List.range_succ, List.map_append]
    rfl
theorem atI_D {ns : List Int} {i : Nat} (h : i < ns.length) : atI (ns.map V.int) (0 + (i : Int)) = some (.int (ns.getD i 0)) := by
  rw [Int.zero_add]
  refine atI_nat ?_
  rw [List.getElem?_map, List.getD_eq_getElem?_getD, List.getElem?_eq_getElem h]
  rfl
theorem rng_zip {α : Type} (f : Int → Int → α) {ns ms : List Int} (e : ms.length = ns.length) : (List.range ns.length).map (fun i => f (ns.getD i 0) (ms.getD i 0)) = List.zipWith f ns ms := by
  refine List.ext_getElem (by simp [e]) fun i h1 h2 => ?_
  simp only [List.length_map, List.length_range] at h1
  simp [List.getD_eq_getElem?_getD, List.getElem?_eq_getElem h1, List.getElem?_eq_getElem (show i < ms.length by omega)]
theorem i_intB {H : Hp} {Q : VK} {k : Bool} (h : Q (.int (if k then 1 else 0)) H) : rIntU [.bl k] H Q := h
theorem i_intI {H : Hp} {Q : VK} {i : Int} (h : Q (.int i) H) : rIntU [.int i] H Q := h
/-! ### comprehensions whose items are told by a word that holds of later heaps, too -/
theorem Rd.butO {H H' : Hp} {p D : Addr} {o u : HO} (hD : H D = some o) (n1 : o ≠ u) (n2 : ∀ b, o ≠ .frz b u) (s : SameBut D H H') (h : Rd H p u) : Rd H' p u := by
  rcases h with h | ⟨b, h⟩
  · exact .inl (s _ _ (ne_of h hD (Ne.symm n1)) h)
  · exact .inr ⟨b, s _ _ (ne_of h hD (Ne.symm (n2 b))) h⟩
theorem SqT.butL {K : PySem.W.Frag} {H H' : Hp} {p D : Addr} {acc xs : List V} (hD : H D = some (.lst acc)) (s : SameBut D H H') (h : SqT K H p xs) : SqT K H' p xs := by
  rcases h with h | h
  · exact .inl (Rd.butO hD (by intro z; cases z) (by intro b z; cases z) s h)
  · exact .inr h
/-- [.. for x in xs if ..]: each item keeps Pr, whatever is done later at the list itself -/
theorem lc_pr {J : It} {G : Hp → Prop} {g : TG} {tt : TT} {te : TE} {vs : List Nat} {σ : St} {H1 : Hp} {D : Addr} {Qd : Hp → Prop} {n : Nat} (at_ : Nat → V → Prop) (Pr : Hp → V → Prop) (w : Walk J n G fun i H x H' => H' = H ∧ at_ i x) (hl : n < sizeLine)
    (mono : ∀ H H' y, (∀ acc, H D = some (.lst acc) → SameBut D H H' → Pr H y → Pr H' y)) (hG : ∀ H, Same H1 H → G H) (hD : H1 D = none)
    (hs : ∀ i x, i < n → at_ i x → ∀ H (Q : VK) (R : Hp → Prop), Same H1 H → (∃ acc, H D = some (.lst acc)) → (∀ y H', Same H H' → Pr H' y → Q y H') → (∀ H', Same H H' → R H') → g x (wipe σ vs) H fun σ2 H2 => wipe σ2 vs = wipe σ vs ∧ tt σ2 H2 fun b H3 => if b = true then te σ2 H3 Q else R H3)
    (hd : ∀ H ys, Same H1 H → H D = some (.lst ys) → ys.length ≤ n → (∀ y ∈ ys, Pr H y) → Qd H) :
    ∃ W : Nat → Nat → Hp → Prop, (∃ m, W 0 m (upd H1 D (.lst []))) ∧ ∀ i m H, W i m H →
      (J.stop i H ∧ Qd H) ∨ (J.go i H ∧ ∃ Nx : Hp → Prop, (∀ H', Nx H' → ∃ m', m' < m ∧ W (i + 1) m' H') ∧ ∀ x H', J.yld i H x H' → g x (wipe σ vs) H' fun σ2 H2 => wipe σ2 vs = wipe σ vs ∧ tt σ2 H2 fun b H3 =>
        if b = true then te σ2 H3 fun y H4 => ∃ acc, H4 D = some (.lst acc) ∧ acc.length < sizeLine ∧ Nx (upd H4 D (.lst (acc ++ [y]))) else Nx H3) := by
  have sb : ∀ {H o}, Same H1 H → Same H1 (upd H D o) := fun {H o} s b u e => by
    rw [upd_ne (ne_of_none e hD)]
    exact s b u e
  refine lc_it w (fun i H => Same H1 H ∧ ∃ ys, H D = some (.lst ys) ∧ ys.length ≤ i ∧ ∀ y ∈ ys, Pr H y) ⟨sb (Same.refl H1), [], upd_same, Nat.le_refl _, fun _ h => nomatch h⟩ (fun i H _ h => hG H h.1) ?_ ?_
  · rintro i v H H' hi ⟨s1, ys, e2, e3, e4⟩ ⟨rfl, hx⟩
    refine hs i v hi hx H' _ _ s1 ⟨ys, e2⟩ (fun y H4 s4 hy => ?_) (fun H4 s4 => ?_)
    · have e5 := s4 _ _ e2
      have sD : SameBut D H4 (upd H4 D (.lst (ys ++ [y]))) := SameBut.upd _ _ _
      refine ⟨ys, e5, Nat.lt_of_le_of_lt (by omega) hl, sb (s1.trans s4), _, upd_same, by rw [List.length_append]; show ys.length + 1 ≤ i + 1; omega, fun z hz => ?_⟩
      rcases List.mem_append.mp hz with h | h
      · exact mono _ _ _ _ e5 sD (mono _ _ _ _ e2 (SameBut.of s4) (e4 z h))
      · rw [List.mem_singleton.mp h]
        exact mono _ _ _ _ e5 sD hy
    · exact ⟨s1.trans s4, ys, s4 _ _ e2, by omega, fun z hz => mono _ _ _ _ e2 (SameBut.of s4) (e4 z hz)⟩
  · rintro H ⟨s1, ys, e2, e3, e4⟩
    exact hd H ys s1 e2 e3 e4
/-- [.. for x in xs]: of each item the one at its place -/
theorem lc_rel {J : It} {G : Hp → Prop} {g : TG} {tt : TT} {te : TE} {vs : List Nat} {σ : St} {H1 : Hp} {D : Addr} {Qd : Hp → Prop} {n : Nat} (at_ : Nat → V → Prop) (Rl : Nat → Hp → V → Prop) (w : Walk J n G fun i H x H' => H' = H ∧ at_ i x) (hl : n < sizeLine)
    (mono : ∀ i H H' y, (∀ acc, H D = some (.lst acc) → SameBut D H H' → Rl i H y → Rl i H' y)) (hG : ∀ H, Same H1 H → G H) (hD : H1 D = none)
    (hs : ∀ i x, i < n → at_ i x → ∀ H (Q : VK) (R : Hp → Prop), Same H1 H → (∃ acc, H D = some (.lst acc)) → (∀ y H', Same H H' → Rl i H' y → Q y H') → g x (wipe σ vs) H fun σ2 H2 => wipe σ2 vs = wipe σ vs ∧ tt σ2 H2 fun b H3 => if b = true then te σ2 H3 Q else R H3)
    (hd : ∀ H (ys : List V), Same H1 H → H D = some (.lst ys) → ys.length = n → (∀ (i : Nat) (y : V), ys[i]? = some y → Rl i H y) → Qd H) :
    ∃ W : Nat → Nat → Hp → Prop, (∃ m, W 0 m (upd H1 D (.lst []))) ∧ ∀ i m H, W i m H →
      (J.stop i H ∧ Qd H) ∨ (J.go i H ∧ ∃ Nx : Hp → Prop, (∀ H', Nx H' → ∃ m', m' < m ∧ W (i + 1) m' H') ∧ ∀ x H', J.yld i H x H' → g x (wipe σ vs) H' fun σ2 H2 => wipe σ2 vs = wipe σ vs ∧ tt σ2 H2 fun b H3 =>
        if b = true then te σ2 H3 fun y H4 => ∃ acc, H4 D = some (.lst acc) ∧ acc.length < sizeLine ∧ Nx (upd H4 D (.lst (acc ++ [y]))) else Nx H3) := by
  have sb : ∀ {H o}, Same H1 H → Same H1 (upd H D o) := fun {H o} s b u e => by
    rw [upd_ne (ne_of_none e hD)]
    exact s b u e
  refine lc_it w (fun i H => Same H1 H ∧ ∃ ys, H D = some (.lst ys) ∧ ys.length = i ∧ ∀ j y, ys[j]? = some y → Rl j H y) ⟨sb (Same.refl H1), [], upd_same, rfl, fun j y h => by simp at h⟩ (fun i H _ h => hG H h.1) ?_ ?_
  · rintro i v H H' hi ⟨s1, ys, e2, e3, e4⟩ ⟨rfl, hx⟩
    refine hs i v hi hx H' _ _ s1 ⟨ys, e2⟩ (fun y H4 s4 hy => ?_)
    have e5 := s4 _ _ e2
    have sD : SameBut D H4 (upd H4 D (.lst (ys ++ [y]))) := SameBut.upd _ _ _
    refine ⟨ys, e5, Nat.lt_of_le_of_lt (by omega) hl, sb (s1.trans s4), _, upd_same, by rw [List.length_append, e3]; rfl, fun j z hz => ?_⟩
    by_cases c : j < ys.length
    · rw [List.getElem?_append_left c] at hz
      exact mono _ _ _ _ _ e5 sD (mono _ _ _ _ _ e2 (SameBut.of s4) (e4 j z hz))
    · rw [List.getElem?_append_right (by omega)] at hz
      have hj : j - ys.length = 0 := by
        have := (List.getElem?_eq_some_iff.mp hz).1
        simp at this
        omega
      rw [hj] at hz
      obtain rfl := Option.some.inj hz
      have : j = i := by omega
      subst this
      exact mono _ _ _ _ _ e5 sD hy
  · rintro H ⟨s1, ys, e2, e3, e4⟩
    exact hd H ys s1 e2 e3 e4
theorem EqV.selfI {K : PySem.W.Frag} {x : V} {H : Hp} {R : (Kd → Bool) → Option Addr → Prop} {n : Nat} (h : isO K x H R) : EqV K H n x x true := by
  cases x with
  | non => exact .flat rfl
  | bl b => exact .flat (by simp [eqF])
  | int i => exact .flat (by simp [eqF])
  | str z => exact .flat (by simp [eqF])
  | ref p => exact .one
  | _ => exact h.elim
theorem lc_prL {K : PySem.W.Frag} {a : Addr} {xs : List V} {g : TG} {tt : TT} {te : TE} {vs : List Nat} {σ : St} {H1 : Hp} {D : Addr} {Qd : Hp → Prop} (Pr : Hp → V → Prop) (h0 : SqL K H1 a xs) (hD : H1 D = none) (hl : xs.length ≤ 1000)
    (mono : ∀ H H' y, (∀ acc, H D = some (.lst acc) → SameBut D H H' → Pr H y → Pr H' y))
    (hs : ∀ x ∈ xs, ∀ H (Q : VK) (R : Hp → Prop), Same H1 H → (∃ acc, H D = some (.lst acc)) → (∀ y H', Same H H' → Pr H' y → Q y H') → (∀ H', Same H H' → R H') → g x (wipe σ vs) H fun σ2 H2 => wipe σ2 vs = wipe σ vs ∧ tt σ2 H2 fun b H3 => if b = true then te σ2 H3 Q else R H3)
    (hd : ∀ H ys, Same H1 H → H D = some (.lst ys) → ys.length ≤ xs.length → (∀ y ∈ ys, Pr H y) → Qd H) :
    ∃ W : Nat → Nat → Hp → Prop, (∃ m, W 0 m (upd H1 D (.lst []))) ∧ ∀ i m H, W i m H →
      ((Itl K a).stop i H ∧ Qd H) ∨ ((Itl K a).go i H ∧ ∃ Nx : Hp → Prop, (∀ H', Nx H' → ∃ m', m' < m ∧ W (i + 1) m' H') ∧ ∀ x H', (Itl K a).yld i H x H' → g x (wipe σ vs) H' fun σ2 H2 => wipe σ2 vs = wipe σ vs ∧ tt σ2 H2 fun b H3 =>
        if b = true then te σ2 H3 fun y H4 => ∃ acc, H4 D = some (.lst acc) ∧ acc.length < sizeLine ∧ Nx (upd H4 D (.lst (acc ++ [y]))) else Nx H3) :=
  lc_pr (fun i x => xs[i]? = some x) Pr walk_list (small1000 hl) mono (fun _ s => Same.seq s h0) hD (fun _ x _ hx => hs x (List.mem_of_getElem? hx)) hd
theorem lc_relL {K : PySem.W.Frag} {a : Addr} {xs : List V} {g : TG} {tt : TT} {te : TE} {vs : List Nat} {σ : St} {H1 : Hp} {D : Addr} {Qd : Hp → Prop} (Rl : Hp → V → V → Prop) (h0 : SqL K H1 a xs) (hD : H1 D = none) (hl : xs.length ≤ 1000)
    (mono : ∀ x H H' y, (∀ acc, H D = some (.lst acc) → SameBut D H H' → Rl H x y → Rl H' x y))
    (hs : ∀ x ∈ xs, ∀ H (Q : VK) (R : Hp → Prop), Same H1 H → (∃ acc, H D = some (.lst acc)) → (∀ y H', Same H H' → Rl H' x y → Q y H') → g x (wipe σ vs) H fun σ2 H2 => wipe σ2 vs = wipe σ vs ∧ tt σ2 H2 fun b H3 => if b = true then te σ2 H3 Q else R H3)
    (hd : ∀ H (ys : List V), Same H1 H → H D = some (.lst ys) → ys.length = xs.length → (∀ (i : Nat) (x y : V), xs[i]? = some x → ys[i]? = some y → Rl H x y) → Qd H) :
    ∃ W : Nat → Nat → Hp → Prop, (∃ m, W 0 m (upd H1 D (.lst []))) ∧ ∀ i m H, W i m H →
      ((Itl K a).stop i H ∧ Qd H) ∨ ((Itl K a).go i H ∧ ∃ Nx : Hp → Prop, (∀ H', Nx H' → ∃ m', m' < m ∧ W (i + 1) m' H') ∧ ∀ x H', (Itl K a).yld i H x H' → g x (wipe σ vs) H' fun σ2 H2 => wipe σ2 vs = wipe σ vs ∧ tt σ2 H2 fun b H3 =>
        if b = true then te σ2 H3 fun y H4 => ∃ acc, H4 D = some (.lst acc) ∧ acc.length < sizeLine ∧ Nx (upd H4 D (.lst (acc ++ [y]))) else Nx H3) :=
  lc_rel (fun i x => xs[i]? = some x) (fun i H y => ∀ x, xs[i]? = some x → Rl H x y) walk_list (small1000 hl) (fun i H H' y acc e s h x hx => mono x H H' y acc e s (h x hx)) (fun _ s => Same.seq s h0) hD
    (fun i x _ hx H Q R s e k => hs x (List.mem_of_getElem? hx) H Q R s e fun y H' s' r => k y H' s' fun x' hx' => by rw [hx] at hx'; cases hx'; exact r) (fun H ys s e l h => hd H ys s e l fun i x y hx hy => h i y hy x hx)
/-- for k in range(n): nothing older than the loop is changed -/
theorem for_rngS {n : Nat} {g : TG} {tb : TS} {D : Ends} {σ : St} {H : Hp} (S : St → Prop) (h0 : S σ)
    (hs : ∀ (i : Nat) σ H', i < n → S σ → Same H H' → g (.int (0 + i)) σ H' fun σ2 H2 => tb { D with nx := fun σ H' => S σ ∧ Same H H', ct := fun σ H' => S σ ∧ Same H H', bk := D.nx } σ2 H2) (hd : ∀ σ H', S σ → Same H H' → D.nx σ H') :
    ∃ W : Nat → Nat → St → Hp → Prop, (∃ m, W 0 m σ H) ∧ ∀ i m σ H, W i m σ H →
      ((Itr 0 n).stop i H ∧ D.nx σ H) ∨ ((Itr 0 n).go i H ∧ ∃ N : St → Hp → Prop, (∀ σ' H', N σ' H' → ∃ m', m' < m ∧ W (i + 1) m' σ' H') ∧ ∀ x H', (Itr 0 n).yld i H x H' → g x σ H' fun σ2 H2 => tb { D with nx := N, ct := N, bk := D.nx } σ2 H2) :=
  for_range (lo := 0) (fun _ σ H' => S σ ∧ Same H H') ⟨h0, Same.refl _⟩ (fun i σ H' hi h => hs i σ H' hi h.1 h.2) (fun σ H' h => hd σ H' h.1 h.2)
theorem i_rep1 {H : Hp} {Q : VK} {p : Addr} {z m : Int} (h1 : H p = some (.lst [.int z])) (h2 : -1000 ≤ m ∧ m ≤ 1000) (h : ∀ q, H q = none → Q (.ref q) (upd H q (.lst ((List.replicate m.toNat z).map V.int)))) : rMulU (.ref p) (.int m) H Q := by
  refine ⟨p, m, _, rfl, rfl, h1, by omega, by omega, line_le (by simp only [List.length_cons, List.length_nil]; omega), fun q hq => ?_⟩
  have e : (List.replicate m.toNat [V.int z]).flatten = (List.replicate m.toNat z).map V.int := by
    generalize m.toNat = k
    induction k with
    | zero => rfl
    | succ k ih => rw [List.replicate_succ, List.flatten_cons, ih]; rfl
  rw [e]
  exact h q hq
theorem nn_rep {z : Int} {k : Nat} (h : 0 ≤ z) : ∀ n ∈ List.replicate k z, 0 ≤ n := fun n hn => by rw [List.eq_of_mem_replicate hn]; exact h
theorem lc_rel2L {K : PySem.W.Frag} {a : Addr} {xs : List V} {g : TG} {tt : TT} {te : TE} {vs : List Nat} {σ : St} {H1 : Hp} {D : Addr} {Qd : Hp → Prop} (Rl : Nat → Hp → V → Prop) (h0 : SqL K H1 a xs) (hD : H1 D = none) (hl : xs.length ≤ 1000)
    (mono : ∀ i H H' y, (∀ acc, H D = some (.lst acc) → SameBut D H H' → Rl i H y → Rl i H' y))
    (hs : ∀ i x, xs[i]? = some x → ∀ H (Q : VK) (R : Hp → Prop), Same H1 H → (∃ acc, H D = some (.lst acc)) → (∀ y H', Same H H' → Rl i H' y → Q y H') → g x (wipe σ vs) H fun σ2 H2 => wipe σ2 vs = wipe σ vs ∧ tt σ2 H2 fun b H3 => if b = true then te σ2 H3 Q else R H3)
    (hd : ∀ H (ys : List V), Same H1 H → H D = some (.lst ys) → ys.length = xs.length → (∀ (i : Nat) (y : V), ys[i]? = some y → Rl i H y) → Qd H) :
    ∃ W : Nat → Nat → Hp → Prop, (∃ m, W 0 m (upd H1 D (.lst []))) ∧ ∀ i m H, W i m H →
      ((Itl K a).stop i H ∧ Qd H) ∨ ((Itl K a).go i H ∧ ∃ Nx : Hp → Prop, (∀ H', Nx H' → ∃ m', m' < m ∧ W (i + 1) m' H') ∧ ∀ x H', (Itl K a).yld i H x H' → g x (wipe σ vs) H' fun σ2 H2 => wipe σ2 vs = wipe σ vs ∧ tt σ2 H2 fun b H3 =>
        if b = true then te σ2 H3 fun y H4 => ∃ acc, H4 D = some (.lst acc) ∧ acc.length < sizeLine ∧ Nx (upd H4 D (.lst (acc ++ [y]))) else Nx H3) :=
  lc_rel (fun i x => xs[i]? = some x) Rl walk_list (small1000 hl) mono (fun _ s => Same.seq s h0) hD (fun i x _ hx => hs i x hx) hd
theorem lc_rel2T {K : PySem.W.Frag} {a : Addr} {xs : List V} {g : TG} {tt : TT} {te : TE} {vs : List Nat} {σ : St} {H1 : Hp} {D : Addr} {Qd : Hp → Prop} (Rl : Nat → Hp → V → Prop) (h0 : SqT K H1 a xs) (hD : H1 D = none) (hl : xs.length ≤ 1000)
    (mono : ∀ i H H' y, (∀ acc, H D = some (.lst acc) → SameBut D H H' → Rl i H y → Rl i H' y))
    (hs : ∀ i x, xs[i]? = some x → ∀ H (Q : VK) (R : Hp → Prop), Same H1 H → (∃ acc, H D = some (.lst acc)) → (∀ y H', Same H H' → Rl i H' y → Q y H') → g x (wipe σ vs) H fun σ2 H2 => wipe σ2 vs = wipe σ vs ∧ tt σ2 H2 fun b H3 => if b = true then te σ2 H3 Q else R H3)
    (hd : ∀ H (ys : List V), Same H1 H → H D = some (.lst ys) → ys.length = xs.length → (∀ (i : Nat) (y : V), ys[i]? = some y → Rl i H y) → Qd H) :
    ∃ W : Nat → Nat → Hp → Prop, (∃ m, W 0 m (upd H1 D (.lst []))) ∧ ∀ i m H, W i m H →
      ((Itt K a).stop i H ∧ Qd H) ∨ ((Itt K a).go i H ∧ ∃ Nx : Hp → Prop, (∀ H', Nx H' → ∃ m', m' < m ∧ W (i + 1) m' H') ∧ ∀ x H', (Itt K a).yld i H x H' → g x (wipe σ vs) H' fun σ2 H2 => wipe σ2 vs = wipe σ vs ∧ tt σ2 H2 fun b H3 =>
        if b = true then te σ2 H3 fun y H4 => ∃ acc, H4 D = some (.lst acc) ∧ acc.length < sizeLine ∧ Nx (upd H4 D (.lst (acc ++ [y]))) else Nx H3) :=
  lc_rel (fun i x => xs[i]? = some x) Rl walk_tup (small1000 hl) mono (fun _ s => SqT.same s h0) hD (fun i x _ hx => hs i x hx) hd
def flatV : V → Bool
  | .non => true
  | .bl _ => true
  | .int _ => true
  | .str _ => true
  | _ => false
theorem EqV.selfB {K : PySem.W.Frag} {x : V} {H : Hp} {n : Nat} (h : flatV x = true) : EqV K H n x x true := by
  cases x <;> first | (cases h; done) | exact .flat (by simp [eqF])
def plainO : HO → Bool
  | .lst _ => true
  | .tup _ => true
  | .dK _ => true
  | .dT _ => true
  | _ => false
theorem EqVs.selfs {K : PySem.W.Frag} {H : Hp} {n : Nat} : ∀ {xs : List V}, (∀ x ∈ xs, EqV K H n x x true) → EqVs K H n xs xs true
  | [], _ => .nil
  | x :: xs, h => .cons (b := true) (c := true) (h x List.mem_cons_self) (EqVs.selfs fun y hy => h y (List.mem_cons_of_mem _ hy))
theorem isO_mono {K : PySem.W.Frag} {x : V} {H : Hp} {R R' : (Kd → Bool) → Option Addr → Prop} (h : isO K x H R) (m : ∀ f c, R f c → R' f c) : isO K x H R' := by
  cases x with
  | ref a =>
    obtain ⟨o, ho, h⟩ := h
    refine ⟨o, ho, ?_⟩
    cases o <;> first | exact m _ _ h | exact h.elim | exact ⟨h.1, h.2.1, m _ _ h.2.2⟩
  | _ => first | exact m _ _ h | exact h.elim
/-- no instance of a class of the text -/
def NoC (K : PySem.W.Frag) (H : Hp) (x : V) : Prop := isO K x H fun _ c => c = none
def NoSeq (K : PySem.W.Frag) (H : Hp) (x : V) : Prop := isO K x H fun f _ => f .lst = false ∧ f .tup = false
theorem isO_same {K : PySem.W.Frag} {x : V} {H H' : Hp} {R : (Kd → Bool) → Option Addr → Prop} (s : Same H H') (h : isO K x H R) : isO K x H' R := by
  cases x with
  | ref a =>
    obtain ⟨o, ho, h⟩ := h
    exact ⟨o, ho.same s, h⟩
  | _ => exact h
theorem NoC.same {K : PySem.W.Frag} {H H' : Hp} {x : V} (s : Same H H') (h : NoC K H x) : NoC K H' x := isO_same s h
theorem NoC.ofG {K : PySem.W.Frag} {H : Hp} {p : Addr} {o : HO} (h : H p = some o) (e : plainO o = true) : NoC K H (.ref p) := by
  refine ⟨o, .of h, ?_⟩
  cases o <;> first | (cases e; done) | rfl
theorem NoC.non {K : PySem.W.Frag} {H : Hp} : NoC K H .non := rfl
theorem NoC.bl {K : PySem.W.Frag} {H : Hp} {b : Bool} : NoC K H (.bl b) := rfl
theorem NoC.int {K : PySem.W.Frag} {H : Hp} {b : Int} : NoC K H (.int b) := rfl
theorem NoC.str {K : PySem.W.Frag} {H : Hp} {b : Str} : NoC K H (.str b) := rfl
theorem EqV.noc {K : PySem.W.Frag} {x : V} {H : Hp} {n : Nat} (h : NoC K H x) : EqV K H n x x true := EqV.selfI h
/-! what is new later is new now -/
theorem none_upd {H : Hp} {p D : Addr} {o : HO} (h : upd H p o D = none) : H D = none := by
  by_cases e : D = p
  · subst e
    rw [upd_same] at h
    cases h
  · rw [upd_ne e] at h
    exact h
theorem none_same {H H' : Hp} {D : Addr} (s : Same H H') (h : H' D = none) : H D = none := by
  cases e : H D with
  | none => rfl
  | some o =>
    have := s _ _ e
    rw [h] at this
    cases this
theorem none_but {H H' : Hp} {p D : Addr} {o : HO} (s : SameBut p H H') (hp : H' p = some o) (h : H' D = none) : H D = none := by
  cases e : H D with
  | none => rfl
  | some o =>
    by_cases c : D = p
    · subst c
      rw [h] at hp
      cases hp
    · have := s _ _ c e
      rw [h] at this
      cases this
section
open PySem.Spec
open PyProof.Rows hiding St
/-! ### xs[::-1] -/
def tRev (K : PySem.W.Frag) (te : TE) (th : TO) : TE := fun σ H Q => te σ H fun x H1 => th σ H1 fun o H2 => o = some (-1) ∧ ∃ a xs, x = .ref a ∧ SqL K H2 a xs ∧ ∀ p, H2 p = none → Q (.ref p) (upd H2 p (.lst xs.reverse))
theorem pe_rev {X : Cx} {e : Expr} {st : Option Expr} {te : TE} {th : TO} {pos p2 : Pos} {K : PySem.W.Frag} (he : PE X e te) (hu : PO X st th) (hs : ∀ a sl : Addr, subscripted (.Slice none none st p2) false (.ref a) (.ref sl) = operate [.ref a, .ref sl] (getItem (.ref a) (.ref sl)) := by intro _ _; rfl) (hK : X.K = K := by rfl) : PE X (.Subscript e (.Slice none none st p2) pos) (tRev K te th) := by
  subst hK
  refine ⟨fun pins s σ H Q I h => ?_⟩
  refine Subscript_ (thn (he.run pins s σ H _ I h) fun v s1 ⟨x, H1, I1, r1, q1⟩ => ?_)
  refine wpAny_Slice ?_
  rw [evalPart_none]
  refine wpAny_pure ?_
  refine wpAny_pure ?_
  refine thn (hu.run pins s1 σ H1 _ I1 q1) fun vu s3 ⟨u, H3, I3, pu, eu, a, xs, ex, hx, q⟩ => ?_
  subst eu
  subst ex
  cases r1
  have I4 : Inv X pins σ H3 { s3 with heap := s3.heap.push { cls := .type "slice", data := .fields #[.none, .none, vu] } } := I3.kept (t' := s3.toks) fun b ob q => Heap.get?_push_of_some _ q
  obtain ⟨its, r, ht, hz⟩ := I4.list hx
  have hlen := r.length
  refine tail_any (ops := [.ref a, .ref s3.heap.objs.size]) ht.isList.typeIs slot_list_getitem.lookup ?_ (hs _ _)
  refine wpAny_getItem_list_slice ht.isList (Heap.IsSliceOf.new ..) .none .none pu (by decide) ?_ (by rw [List.size_toArray] <;> omega)
  rw [PySem.W.krv_pick]
  refine ⟨.ref _, _, I4.laid (t' := s3.toks) (o := .lst xs.reverse) (fun b ob q => Heap.get?_push_of_some _ q) (Nat.le_refl _) ?_, rfl, q _ (I4.hok.fresh (Nat.le_refl _))⟩
  exact ⟨by rw [List.length_reverse]; exact hz, _, 0, r.reverse, Heap.get?_push_size _ rfl⟩
end
theorem i_rev {K : PySem.W.Frag} {te : TE} {th : TO} {σ : St} {H : Hp} {Q : VK} (h : te σ H fun x H1 => th σ H1 fun o H2 => o = some (-1) ∧ ∃ a xs, x = .ref a ∧ SqL K H2 a xs ∧ ∀ p, H2 p = none → Q (.ref p) (upd H2 p (.lst xs.reverse))) : tRev K te th σ H Q := h
theorem i_revL {K : PySem.W.Frag} {H : Hp} {a : Addr} {xs : List V} {n : Int} {R : Addr → List V → Prop} (e : n = -1) (h1 : SqL K H a xs) (h : R a xs) : some n = some (-1) ∧ ∃ b xs, V.ref a = .ref b ∧ SqL K H b xs ∧ R b xs := ⟨by rw [e], a, xs, rfl, h1, h⟩
theorem NoSeq.same {K : PySem.W.Frag} {H H' : Hp} {x : V} (s : Same H H') (h : NoSeq K H x) : NoSeq K H' x := isO_same s h
theorem NoSeq.flat {K : PySem.W.Frag} {H : Hp} {x : V} (h : flatV x = true) : NoSeq K H x := by
  cases x <;> first | (cases h; done) | exact ⟨rfl, rfl⟩
theorem NoSeq.dict {K : PySem.W.Frag} {H : Hp} {p : Addr} {kvs : List (Key × V)} (h : H p = some (.dK kvs)) : NoSeq K H (.ref p) := ⟨_, .of h, rfl, rfl⟩
theorem NoSeq.inst {K : PySem.W.Frag} {H : Hp} {p C dx : Addr} {fs : List (Str × V)} (h : H p = some (.ins C dx fs)) (c : Cls K C) (i : IsC K C) : NoSeq K H (.ref p) := ⟨_, .of h, c, i, rfl, rfl⟩
theorem NoC.flat {K : PySem.W.Frag} {H : Hp} {x : V} (h : flatV x = true) : NoC K H x := by
  cases x <;> first | (cases h; done) | rfl
theorem NoC.sqL {K : PySem.W.Frag} {H : Hp} {p : Addr} {xs : List V} (h : SqL K H p xs) : NoC K H (.ref p) := ⟨.lst xs, h, rfl⟩
theorem NoC.sqT {K : PySem.W.Frag} {H : Hp} {p : Addr} {xs : List V} (h : SqT K H p xs) : NoC K H (.ref p) := ⟨.tup xs, h, rfl⟩
theorem i_isiBsN {K : PySem.W.Frag} {H : Hp} {Q : VK} {x : V} {p : Addr} (h0 : H p = some (.tup ([Kd.lst, Kd.tup].map fun d => .ty d.name))) (hn : NoSeq K H x) (h : Q (.bl false) H) : rIsiBs [.lst, .tup] K [x, .ref p] H Q := by
  refine ⟨x, p, rfl, h0, isO_mono hn fun f c e => ?_⟩
  have ea : [Kd.lst, Kd.tup].any f = false := by simp [e.1, e.2]
  rw [ea]
  exact h
theorem i_isiLN {K : PySem.W.Frag} {H : Hp} {Q : VK} {x : V} (hn : NoSeq K H x) (h : Q (.bl false) H) : rIsiB .lst K [x, .ty "list"] H Q := ⟨x, rfl, isO_mono hn fun f c e => by rw [e.1]; exact h⟩
theorem i_isiTN {K : PySem.W.Frag} {H : Hp} {Q : VK} {x : V} (hn : NoSeq K H x) (h : Q (.bl false) H) : rIsiB .tup K [x, .ty "tuple"] H Q := ⟨x, rfl, isO_mono hn fun f c e => by rw [e.2]; exact h⟩
theorem i_isiCN {K : PySem.W.Frag} {H : Hp} {Q : VK} {x : V} {C : Addr} (hn : NoC K H x) (h : Q (.bl false) H) : rIsiC C K [x, .ref C] H Q := ⟨x, rfl, isO_mono hn fun f c e => by subst e; exact h⟩
/-- for x in a tuple: nothing older than the loop is changed -/
theorem for_seqI {K : PySem.W.Frag} {a : Addr} {xs : List V} {g : TG} {tb : TS} {D : Ends} {σ : St} {H : Hp} (Pv : Nat → St → Hp → Prop) (hT : SqT K H a xs) (h0 : Pv 0 σ H)
    (hs : ∀ (i : Nat) x σ H', xs[i]? = some x → Same H H' → Pv i σ H' → g x σ H' fun σ2 H2 => tb { D with nx := fun σ H' => Same H H' ∧ Pv (i + 1) σ H', ct := fun σ H' => Same H H' ∧ Pv (i + 1) σ H', bk := D.nx } σ2 H2) (hd : ∀ σ H', Same H H' → Pv xs.length σ H' → D.nx σ H') :
    ∃ W : Nat → Nat → St → Hp → Prop, (∃ m, W 0 m σ H) ∧ ∀ i m σ H, W i m σ H →
      ((Itt K a).stop i H ∧ D.nx σ H) ∨ ((Itt K a).go i H ∧ ∃ N : St → Hp → Prop, (∀ σ' H', N σ' H' → ∃ m', m' < m ∧ W (i + 1) m' σ' H') ∧ ∀ x H', (Itt K a).yld i H x H' → g x σ H' fun σ2 H2 => tb { D with nx := N, ct := N, bk := D.nx } σ2 H2) :=
  for_tup (xs := xs) (fun i σ H' => Same H H' ∧ Pv i σ H') ⟨Same.refl _, h0⟩ (fun _ _ _ _ h => SqT.same h.1 hT) (fun i y σ H' hi h => hs i y σ H' hi h.1 h.2) (fun σ H' h => hd σ H' h.1 h.2)
theorem for_seqL {K : PySem.W.Frag} {a : Addr} {xs : List V} {g : TG} {tb : TS} {D : Ends} {σ : St} {H : Hp} (Pv : Nat → St → Hp → Prop) (hT : SqL K H a xs) (h0 : Pv 0 σ H)
    (hs : ∀ (i : Nat) x σ H', xs[i]? = some x → Same H H' → Pv i σ H' → g x σ H' fun σ2 H2 => tb { D with nx := fun σ H' => Same H H' ∧ Pv (i + 1) σ H', ct := fun σ H' => Same H H' ∧ Pv (i + 1) σ H', bk := D.nx } σ2 H2) (hd : ∀ σ H', Same H H' → Pv xs.length σ H' → D.nx σ H') :
    ∃ W : Nat → Nat → St → Hp → Prop, (∃ m, W 0 m σ H) ∧ ∀ i m σ H, W i m σ H →
      ((Itl K a).stop i H ∧ D.nx σ H) ∨ ((Itl K a).go i H ∧ ∃ N : St → Hp → Prop, (∀ σ' H', N σ' H' → ∃ m', m' < m ∧ W (i + 1) m' σ' H') ∧ ∀ x H', (Itl K a).yld i H x H' → g x σ H' fun σ2 H2 => tb { D with nx := N, ct := N, bk := D.nx } σ2 H2) :=
  for_list (xs := xs) (fun i σ H' => Same H H' ∧ Pv i σ H') ⟨Same.refl _, h0⟩ (fun _ _ _ _ h => Same.seq h.1 hT) (fun i y σ H' hi h => hs i y σ H' hi h.1 h.2) (fun σ H' h => hd σ H' h.1 h.2)
theorem i_nn {R : Prop} (h : R) : V.non = V.non ∧ R := ⟨rfl, h⟩
/-- a tuple of these ints -/
def TpAt (K : PySem.W.Frag) (H : Hp) (y : V) (ns : List Int) : Prop := ∃ t, y = .ref t ∧ SqT K H t (ns.map V.int)
theorem EqVs.ints {K : PySem.W.Frag} {H : Hp} {n : Nat} (ns : List Int) : EqVs K H n (ns.map V.int) (ns.map V.int) true := EqVs.selfs fun x hx => by
  obtain ⟨i, _, rfl⟩ := List.mem_map.mp hx
  exact .selfB rfl
theorem EqV.tp {K : PySem.W.Frag} {H : Hp} {n : Nat} {x y : V} {ns : List Int} (h1 : TpAt K H x ns) (h2 : TpAt K H y ns) : EqV K H (n + 1) x y true := by
  obtain ⟨t, rfl, h1⟩ := h1
  obtain ⟨u, rfl, h2⟩ := h2
  by_cases e : t = u
  · subst e
    exact .one
  · exact .tups e h1 h2 (.ints ns)
theorem EqVs.of_at {K : PySem.W.Frag} {H : Hp} {n : Nat} : ∀ {xs ys : List V}, xs.length = ys.length → (∀ (i : Nat) x y, xs[i]? = some x → ys[i]? = some y → EqV K H n x y true) → EqVs K H n xs ys true
  | [], [], _, _ => .nil
  | [], _ :: _, l, _ => by cases l
  | _ :: _, [], l, _ => by cases l
  | x :: xs, y :: ys, l, h => .cons (b := true) (c := true) (h 0 x y rfl rfl) (EqVs.of_at (Nat.succ.inj l) fun i u v h1 h2 => h (i + 1) u v h1 h2)
theorem line_lt {n : Nat} (h : n ≤ 16000000) : n < sizeLine := Nat.lt_of_le_of_lt h (by decide)
theorem EqV.selfA {K : PySem.W.Frag} {x : V} {H : Hp} {n : Nat} (h : Kn K H x) : EqV K H n x x true := by
  cases x <;> first | exact h.elim | exact .selfB rfl | exact .one
theorem lc_noneT {K : PySem.W.Frag} {a : Addr} {xs : List V} {g : TG} {tt : TT} {te : TE} {vs : List Nat} {σ : St} {H1 : Hp} {D : Addr} {Qd : Hp → Prop} (h0 : SqT K H1 a xs) (hl : xs.length ≤ 1000) (hD : H1 D = none)
    (hs : ∀ x ∈ xs, ∀ H (Q : VK) (R : Hp → Prop), Same H1 H → (∀ H', Same H H' → R H') → g x (wipe σ vs) H fun σ2 H2 => wipe σ2 vs = wipe σ vs ∧ tt σ2 H2 fun b H3 => if b = true then te σ2 H3 Q else R H3)
    (hd : ∀ H, Same H1 H → H D = some (.lst []) → Qd H) :
    ∃ W : Nat → Nat → Hp → Prop, (∃ m, W 0 m (upd H1 D (.lst []))) ∧ ∀ i m H, W i m H →
      ((Itt K a).stop i H ∧ Qd H) ∨ ((Itt K a).go i H ∧ ∃ Nx : Hp → Prop, (∀ H', Nx H' → ∃ m', m' < m ∧ W (i + 1) m' H') ∧ ∀ x H', (Itt K a).yld i H x H' → g x (wipe σ vs) H' fun σ2 H2 => wipe σ2 vs = wipe σ vs ∧ tt σ2 H2 fun b H3 =>
        if b = true then te σ2 H3 fun y H4 => ∃ acc, H4 D = some (.lst acc) ∧ acc.length < sizeLine ∧ Nx (upd H4 D (.lst (acc ++ [y]))) else Nx H3) :=
  lc_fm xs (fun _ => none) walk_tup (small1000 hl) (fun _ s => SqT.same s h0) hD hs (fun H s e => hd H s (by rw [e]; simp))
theorem for_predH {K : PySem.W.Frag} {a : Addr} {xs : List V} {g : TG} {tb : TS} {D : Ends} {σ : St} {H : Hp} (S : St → Hp → Prop) (Pr : Hp → V → Prop) (hL : SqL K H a xs) (hp : ∀ y ∈ xs, Pr H y) (h0 : S σ H)
    (hs : ∀ y σ H', Pr H y → S σ H' → Same H H' → g y σ H' fun σ2 H2 => tb { D with nx := fun σ H' => S σ H' ∧ Same H H', ct := fun σ H' => S σ H' ∧ Same H H', bk := D.nx } σ2 H2) (hd : ∀ σ H', S σ H' → Same H H' → D.nx σ H') :
    ∃ W : Nat → Nat → St → Hp → Prop, (∃ m, W 0 m σ H) ∧ ∀ i m σ H, W i m σ H →
      ((Itl K a).stop i H ∧ D.nx σ H) ∨ ((Itl K a).go i H ∧ ∃ N : St → Hp → Prop, (∀ σ' H', N σ' H' → ∃ m', m' < m ∧ W (i + 1) m' σ' H') ∧ ∀ x H', (Itl K a).yld i H x H' → g x σ H' fun σ2 H2 => tb { D with nx := N, ct := N, bk := D.nx } σ2 H2) :=
  for_list (xs := xs) (fun _ σ H' => S σ H' ∧ Same H H') ⟨h0, Same.refl _⟩ (fun _ _ _ _ h => Same.seq h.2 hL) (fun _ y σ H' hi h => hs y σ H' (hp y (List.mem_of_getElem? hi)) h.1 h.2) (fun σ H' h => hd σ H' h.1 h.2)
theorem EqV.nos {K : PySem.W.Frag} {x : V} {H : Hp} {n : Nat} (h : NoSeq K H x) : EqV K H n x x true := EqV.selfI h
end My
namespace My
open PySem L2
set_option hygiene false in
local macro_rules | `(tactic| wtm_at "cls") => `(tactic| first | assumption | exact T.c_Counts | exact T.i_Counts | exact T.n_Counts_kept_numbers)
set_option hygiene false in
local macro_rules | `(tactic| wtm_at "xk") => `(tactic| first | exact kit_self | fail)
def top (i : Nat) : Stmt := PySem.Challenge.pw_causehall_k05_all_joined.main.body.getD i (.Pass ⟨0, 0, 0, 0⟩)
abbrev s_NoNumber_init : Stmt := inClass (top 3) 0
abbrev s_NoCounts_init : Stmt := inClass (top 5) 0
abbrev s_Unlike_init : Stmt := inClass (top 6) 0
abbrev s_is_whole : Stmt := top 10
abbrev s_are_members : Stmt := top 11
abbrev s_are_numbers : Stmt := top 13
abbrev s_Counts_init : Stmt := inClass (top 14) 0
abbrev s_Counts_told : Stmt := inClass (top 14) 5
abbrev s_Counts_need_like : Stmt := inClass (top 14) 7
abbrev s_Counts_joined : Stmt := inClass (top 14) 10
abbrev s_are_rows : Stmt := top 15
abbrev s_all_joined : Stmt := top 16
abbrev s__law_cell_at : Stmt := top 18
abbrev s__law_pool : Stmt := top 19
abbrev s__law_take : Stmt := top 20
abbrev s__law_numbers : Stmt := top 21
abbrev s__law_rows : Stmt := top 22
abbrev s__law_first : Stmt := top 23
abbrev s__law_right : Stmt := top 24
abbrev s_law : Stmt := top 25
/-- where the defs and the classes of the text stand -/
structure Ad where
  HallError : Addr
  NoNumber : Addr
  NoMember : Addr
  NoCounts : Addr
  Unlike : Addr
  Counts : Addr
  NoNumber_init : Addr
  d_NoNumber_init : FuncData
  NoCounts_init : Addr
  d_NoCounts_init : FuncData
  Unlike_init : Addr
  d_Unlike_init : FuncData
  is_whole : Addr
  d_is_whole : FuncData
  are_members : Addr
  d_are_members : FuncData
  are_numbers : Addr
  d_are_numbers : FuncData
  Counts_init : Addr
  d_Counts_init : FuncData
  Counts_told : Addr
  d_Counts_told : FuncData
  Counts_need_like : Addr
  d_Counts_need_like : FuncData
  Counts_joined : Addr
  d_Counts_joined : FuncData
  are_rows : Addr
  d_are_rows : FuncData
  all_joined : Addr
  d_all_joined : FuncData
  _law_cell_at : Addr
  d__law_cell_at : FuncData
  _law_pool : Addr
  d__law_pool : FuncData
  _law_take : Addr
  d__law_take : FuncData
  _law_numbers : Addr
  d__law_numbers : FuncData
  _law_rows : Addr
  d__law_rows : FuncData
  _law_first : Addr
  d__law_first : FuncData
  _law_right : Addr
  d__law_right : FuncData
  law : Addr
  d_law : FuncData
/-- what the top has left of them -/
structure Txt (K : PySem.W.Frag) (mg : Str → Option Value) (a : Ad) : Prop where
  m_HallError : mg "HallError" = some (.ref a.HallError)
  e_HallError : XcC K a.HallError
  hs_HallError : PySem.W.specialIn K (.ref a.HallError) "__getattribute__" = some (some (.builtin "type.__getattribute__"))
  hq_HallError : PySem.W.readsIn K a.HallError (.type "type") = true
  hf_HallError : PySem.W.findCls K (.ref a.HallError) (.type "type") "__init__" = some (.val (.builtin "ValueError.__init__"))
  m_NoNumber : mg "NoNumber" = some (.ref a.NoNumber)
  n_NoNumber_found : NoAttr K a.NoNumber "found"
  e_NoNumber : XcC K a.NoNumber
  o_NoNumber : OexC K a.NoNumber
  oi_NoNumber : PySem.W.findIn K (.ref a.NoNumber) "__init__" = some (some (.ref a.NoNumber_init))
  ot_NoNumber : PySem.W.typeIn K (.ref a.NoNumber_init) = some (.type "function")
  u_NoNumber_HallError : PySem.W.subIn K (.ref a.NoNumber) (.ref a.HallError) = some true
  u_NoNumber_NoNumber : PySem.W.subIn K (.ref a.NoNumber) (.ref a.NoNumber) = some true
  u_NoNumber_NoMember : PySem.W.subIn K (.ref a.NoNumber) (.ref a.NoMember) = some false
  u_NoNumber_NoCounts : PySem.W.subIn K (.ref a.NoNumber) (.ref a.NoCounts) = some false
  u_NoNumber_Unlike : PySem.W.subIn K (.ref a.NoNumber) (.ref a.Unlike) = some false
  x_NoNumber_HallError : PySem.W.kitOne K (.ref a.NoNumber) (.ref a.HallError) = some true
  x_NoNumber_NoMember : PySem.W.kitOne K (.ref a.NoNumber) (.ref a.NoMember) = some false
  x_NoNumber_NoCounts : PySem.W.kitOne K (.ref a.NoNumber) (.ref a.NoCounts) = some false
  x_NoNumber_Unlike : PySem.W.kitOne K (.ref a.NoNumber) (.ref a.Unlike) = some false
  e_NoMember : XcC K a.NoMember
  m_NoCounts : mg "NoCounts" = some (.ref a.NoCounts)
  n_NoCounts_found : NoAttr K a.NoCounts "found"
  e_NoCounts : XcC K a.NoCounts
  o_NoCounts : OexC K a.NoCounts
  oi_NoCounts : PySem.W.findIn K (.ref a.NoCounts) "__init__" = some (some (.ref a.NoCounts_init))
  ot_NoCounts : PySem.W.typeIn K (.ref a.NoCounts_init) = some (.type "function")
  u_NoCounts_HallError : PySem.W.subIn K (.ref a.NoCounts) (.ref a.HallError) = some true
  u_NoCounts_NoNumber : PySem.W.subIn K (.ref a.NoCounts) (.ref a.NoNumber) = some false
  u_NoCounts_NoMember : PySem.W.subIn K (.ref a.NoCounts) (.ref a.NoMember) = some false
  u_NoCounts_NoCounts : PySem.W.subIn K (.ref a.NoCounts) (.ref a.NoCounts) = some true
  u_NoCounts_Unlike : PySem.W.subIn K (.ref a.NoCounts) (.ref a.Unlike) = some false
  x_NoCounts_HallError : PySem.W.kitOne K (.ref a.NoCounts) (.ref a.HallError) = some true
  x_NoCounts_NoNumber : PySem.W.kitOne K (.ref a.NoCounts) (.ref a.NoNumber) = some false
  x_NoCounts_NoMember : PySem.W.kitOne K (.ref a.NoCounts) (.ref a.NoMember) = some false
  x_NoCounts_Unlike : PySem.W.kitOne K (.ref a.NoCounts) (.ref a.Unlike) = some false
  m_Unlike : mg "Unlike" = some (.ref a.Unlike)
  n_Unlike_found : NoAttr K a.Unlike "found"
  e_Unlike : XcC K a.Unlike
  o_Unlike : OexC K a.Unlike
  oi_Unlike : PySem.W.findIn K (.ref a.Unlike) "__init__" = some (some (.ref a.Unlike_init))
  ot_Unlike : PySem.W.typeIn K (.ref a.Unlike_init) = some (.type "function")
  u_Unlike_HallError : PySem.W.subIn K (.ref a.Unlike) (.ref a.HallError) = some true
  u_Unlike_NoNumber : PySem.W.subIn K (.ref a.Unlike) (.ref a.NoNumber) = some false
  u_Unlike_NoMember : PySem.W.subIn K (.ref a.Unlike) (.ref a.NoMember) = some false
  u_Unlike_NoCounts : PySem.W.subIn K (.ref a.Unlike) (.ref a.NoCounts) = some false
  u_Unlike_Unlike : PySem.W.subIn K (.ref a.Unlike) (.ref a.Unlike) = some true
  x_Unlike_HallError : PySem.W.kitOne K (.ref a.Unlike) (.ref a.HallError) = some true
  x_Unlike_NoNumber : PySem.W.kitOne K (.ref a.Unlike) (.ref a.NoNumber) = some false
  x_Unlike_NoMember : PySem.W.kitOne K (.ref a.Unlike) (.ref a.NoMember) = some false
  x_Unlike_NoCounts : PySem.W.kitOne K (.ref a.Unlike) (.ref a.NoCounts) = some false
  m_Counts : mg "Counts" = some (.ref a.Counts)
  c_Counts : Cls K a.Counts
  i_Counts : IsC K a.Counts
  mk_Counts : Mk K a.Counts a.Counts_init
  n_Counts_kept_numbers : NoAttr K a.Counts "kept_numbers"
  F_NoNumber_init : FunD K "__init__" "NoNumber.__init__" (defArgs s_NoNumber_init) (defBody s_NoNumber_init) (defScope s_NoNumber_init) [] [] a.NoNumber_init a.d_NoNumber_init
  B_NoNumber_init : Binds K a.d_NoNumber_init ["self", "found"] []
  F_NoCounts_init : FunD K "__init__" "NoCounts.__init__" (defArgs s_NoCounts_init) (defBody s_NoCounts_init) (defScope s_NoCounts_init) [] [] a.NoCounts_init a.d_NoCounts_init
  B_NoCounts_init : Binds K a.d_NoCounts_init ["self", "found"] []
  F_Unlike_init : FunD K "__init__" "Unlike.__init__" (defArgs s_Unlike_init) (defBody s_Unlike_init) (defScope s_Unlike_init) [] [] a.Unlike_init a.d_Unlike_init
  B_Unlike_init : Binds K a.d_Unlike_init ["self", "found"] []
  F_is_whole : FunD K "is_whole" "is_whole" (defArgs s_is_whole) (defBody s_is_whole) (defScope s_is_whole) [V.non] [] a.is_whole a.d_is_whole
  B_is_whole : Binds K a.d_is_whole ["thing", "low", "high"] []
  m_is_whole : mg "is_whole" = some (.ref a.is_whole)
  B1_is_whole : ∃ ds, Vals [V.non] ds ∧ Binds K a.d_is_whole ["thing", "low", "high"] ds
  F_are_members : FunD K "are_members" "are_members" (defArgs s_are_members) (defBody s_are_members) (defScope s_are_members) [] [] a.are_members a.d_are_members
  B_are_members : Binds K a.d_are_members ["thing"] []
  m_are_members : mg "are_members" = some (.ref a.are_members)
  F_are_numbers : FunD K "are_numbers" "are_numbers" (defArgs s_are_numbers) (defBody s_are_numbers) (defScope s_are_numbers) [] [] a.are_numbers a.d_are_numbers
  B_are_numbers : Binds K a.d_are_numbers ["thing"] []
  m_are_numbers : mg "are_numbers" = some (.ref a.are_numbers)
  F_Counts_init : FunD K "__init__" "Counts.__init__" (defArgs s_Counts_init) (defBody s_Counts_init) (defScope s_Counts_init) [] [] a.Counts_init a.d_Counts_init
  B_Counts_init : Binds K a.d_Counts_init ["self", "numbers"] []
  F_Counts_told : FunD K "told" "Counts.told" (defArgs s_Counts_told) (defBody s_Counts_told) (defScope s_Counts_told) [] [] a.Counts_told a.d_Counts_told
  B_Counts_told : Binds K a.d_Counts_told ["self"] []
  M_Counts_told : Meth K a.Counts "told" a.Counts_told
  F_Counts_need_like : FunD K "need_like" "Counts.need_like" (defArgs s_Counts_need_like) (defBody s_Counts_need_like) (defScope s_Counts_need_like) [] [] a.Counts_need_like a.d_Counts_need_like
  B_Counts_need_like : Binds K a.d_Counts_need_like ["self", "other"] []
  M_Counts_need_like : Meth K a.Counts "need_like" a.Counts_need_like
  F_Counts_joined : FunD K "joined" "Counts.joined" (defArgs s_Counts_joined) (defBody s_Counts_joined) (defScope s_Counts_joined) [] [] a.Counts_joined a.d_Counts_joined
  B_Counts_joined : Binds K a.d_Counts_joined ["self", "other"] []
  M_Counts_joined : Meth K a.Counts "joined" a.Counts_joined
  F_are_rows : FunD K "are_rows" "are_rows" (defArgs s_are_rows) (defBody s_are_rows) (defScope s_are_rows) [] [] a.are_rows a.d_are_rows
  B_are_rows : Binds K a.d_are_rows ["thing", "members"] []
  m_are_rows : mg "are_rows" = some (.ref a.are_rows)
  F_all_joined : FunD K "all_joined" "all_joined" (defArgs s_all_joined) (defBody s_all_joined) (defScope s_all_joined) [] [] a.all_joined a.d_all_joined
  B_all_joined : Binds K a.d_all_joined ["members", "rows"] []
  m_all_joined : mg "all_joined" = some (.ref a.all_joined)
  F__law_cell_at : FunD K "_law_cell_at" "_law_cell_at" (defArgs s__law_cell_at) (defBody s__law_cell_at) (defScope s__law_cell_at) [] [] a._law_cell_at a.d__law_cell_at
  B__law_cell_at : Binds K a.d__law_cell_at ["script", "k"] []
  m__law_cell_at : mg "_law_cell_at" = some (.ref a._law_cell_at)
  F__law_pool : FunD K "_law_pool" "_law_pool" (defArgs s__law_pool) (defBody s__law_pool) (defScope s__law_pool) [] [] a._law_pool a.d__law_pool
  B__law_pool : Binds K a.d__law_pool ["cell"] []
  m__law_pool : mg "_law_pool" = some (.ref a._law_pool)
  F__law_take : FunD K "_law_take" "_law_take" (defArgs s__law_take) (defBody s__law_take) (defScope s__law_take) [] [] a._law_take a.d__law_take
  B__law_take : Binds K a.d__law_take ["pool", "size"] []
  m__law_take : mg "_law_take" = some (.ref a._law_take)
  F__law_numbers : FunD K "_law_numbers" "_law_numbers" (defArgs s__law_numbers) (defBody s__law_numbers) (defScope s__law_numbers) [] [] a._law_numbers a.d__law_numbers
  B__law_numbers : Binds K a.d__law_numbers ["pool", "members"] []
  m__law_numbers : mg "_law_numbers" = some (.ref a._law_numbers)
  F__law_rows : FunD K "_law_rows" "_law_rows" (defArgs s__law_rows) (defBody s__law_rows) (defScope s__law_rows) [] [] a._law_rows a.d__law_rows
  B__law_rows : Binds K a.d__law_rows ["script", "members", "count"] []
  m__law_rows : mg "_law_rows" = some (.ref a._law_rows)
  F__law_first : FunD K "_law_first" "_law_first" (defArgs s__law_first) (defBody s__law_first) (defScope s__law_first) [] [] a._law_first a.d__law_first
  B__law_first : Binds K a.d__law_first ["members", "rows"] []
  m__law_first : mg "_law_first" = some (.ref a._law_first)
  F__law_right : FunD K "_law_right" "_law_right" (defArgs s__law_right) (defBody s__law_right) (defScope s__law_right) [] [] a._law_right a.d__law_right
  B__law_right : Binds K a.d__law_right ["members", "rows", "handed"] []
  m__law_right : mg "_law_right" = some (.ref a._law_right)
  F_law : FunD K "law" "law" (defArgs s_law) (defBody s_law) (defScope s_law) [] [] a.law a.d_law
  g_LEAST_MEMBERS : ∃ u, mg "LEAST_MEMBERS" = some u ∧ RelV (V.int 2) u
  g_MOST_MEMBERS : ∃ u, mg "MOST_MEMBERS" = some u ∧ RelV (V.int 5) u
  b_all : mg "all" = none
  b_bool : mg "bool" = none
  b_int : mg "int" = none
  b_isinstance : mg "isinstance" = none
  b_len : mg "len" = none
  b_list : mg "list" = none
  b_max : mg "max" = none
  b_min : mg "min" = none
  b_range : mg "range" = none
  b_tuple : mg "tuple" = none
  b_zip : mg "zip" = none
theorem sc_NoNumber_init : FnScope ["self", "found"] ["self", "found"] (defScope s_NoNumber_init) := ⟨rfl, rfl, rfl, by decide +kernel, rfl, by decide +kernel, by decide +kernel⟩
theorem sc_NoCounts_init : FnScope ["self", "found"] ["self", "found"] (defScope s_NoCounts_init) := ⟨rfl, rfl, rfl, by decide +kernel, rfl, by decide +kernel, by decide +kernel⟩
theorem sc_Unlike_init : FnScope ["self", "found"] ["self", "found"] (defScope s_Unlike_init) := ⟨rfl, rfl, rfl, by decide +kernel, rfl, by decide +kernel, by decide +kernel⟩
theorem sc_is_whole : FnScope ["thing", "low", "high"] ["thing", "low", "high"] (defScope s_is_whole) := ⟨rfl, rfl, rfl, by decide +kernel, rfl, by decide +kernel, by decide +kernel⟩
theorem sc_are_members : FnScope ["thing"] ["thing"] (defScope s_are_members) := ⟨rfl, rfl, rfl, by decide +kernel, rfl, by decide +kernel, by decide +kernel⟩
theorem sc_are_numbers : FnScope ["thing", "number"] ["thing"] (defScope s_are_numbers) := ⟨rfl, rfl, rfl, by decide +kernel, rfl, by decide +kernel, by decide +kernel⟩
theorem sc_Counts_init : FnScope ["self", "numbers"] ["self", "numbers"] (defScope s_Counts_init) := ⟨rfl, rfl, rfl, by decide +kernel, rfl, by decide +kernel, by decide +kernel⟩
theorem sc_Counts_told : FnScope ["self"] ["self"] (defScope s_Counts_told) := ⟨rfl, rfl, rfl, by decide +kernel, rfl, by decide +kernel, by decide +kernel⟩
theorem sc_Counts_need_like : FnScope ["self", "other"] ["self", "other"] (defScope s_Counts_need_like) := ⟨rfl, rfl, rfl, by decide +kernel, rfl, by decide +kernel, by decide +kernel⟩
theorem sc_Counts_joined : FnScope ["self", "other", "mine", "theirs"] ["self", "other"] (defScope s_Counts_joined) := ⟨rfl, rfl, rfl, by decide +kernel, rfl, by decide +kernel, by decide +kernel⟩
theorem sc_are_rows : FnScope ["thing", "members", "row"] ["thing", "members"] (defScope s_are_rows) := ⟨rfl, rfl, rfl, by decide +kernel, rfl, by decide +kernel, by decide +kernel⟩
theorem sc_all_joined : FnScope ["members", "rows", "whole", "row"] ["members", "rows"] (defScope s_all_joined) := ⟨rfl, rfl, rfl, by decide +kernel, rfl, by decide +kernel, by decide +kernel⟩
theorem sc__law_cell_at : FnScope ["script", "k"] ["script", "k"] (defScope s__law_cell_at) := ⟨rfl, rfl, rfl, by decide +kernel, rfl, by decide +kernel, by decide +kernel⟩
theorem sc__law_pool : FnScope ["cell", "number", "k", "mix"] ["cell"] (defScope s__law_pool) := ⟨rfl, rfl, rfl, by decide +kernel, rfl, by decide +kernel, by decide +kernel⟩
theorem sc__law_take : FnScope ["pool", "size", "found"] ["pool", "size"] (defScope s__law_take) := ⟨rfl, rfl, rfl, by decide +kernel, rfl, by decide +kernel, by decide +kernel⟩
theorem sc__law_numbers : FnScope ["pool", "members", "size", "k"] ["pool", "members"] (defScope s__law_numbers) := ⟨rfl, rfl, rfl, by decide +kernel, rfl, by decide +kernel, by decide +kernel⟩
theorem sc__law_rows : FnScope ["script", "members", "count", "rows", "k", "cell"] ["script", "members", "count"] (defScope s__law_rows) := ⟨rfl, rfl, rfl, by decide +kernel, rfl, by decide +kernel, by decide +kernel⟩
theorem sc__law_first : FnScope ["members", "rows", "e"] ["members", "rows"] (defScope s__law_first) := ⟨rfl, rfl, rfl, by decide +kernel, rfl, by decide +kernel, by decide +kernel⟩
theorem sc__law_right : FnScope ["members", "rows", "handed", "told", "due", "row", "k", "counts"] ["members", "rows", "handed"] (defScope s__law_right) := ⟨rfl, rfl, rfl, by decide +kernel, rfl, by decide +kernel, by decide +kernel⟩
theorem sc_law : FnScope ["script", "members", "count", "rows", "some", "row", "other", "at", "thing", "spoilt", "flat", "number", "handed"] ["script"] (defScope s_law) := ⟨rfl, rfl, rfl, by decide +kernel, rfl, by decide +kernel, by decide +kernel⟩
/-- is x a whole number from lo on, up to hi -/
def isWh (lo : Int) (hi : V) : V → Bool
  | .int n => decide (lo ≤ n) && (match hi with | .int h => decide (n ≤ h) | _ => true)
  | _ => false
def spWhole (K : PySem.W.Frag) : Sp := fun vs H Q _ => ∃ x lo hi, vs = [x, .int lo, hi] ∧ Kn K H x ∧ (hi = .non ∨ ∃ h, hi = .int h) ∧ Q (.bl (isWh lo hi x)) H
def spTake : Sp := fun vs H Q _ => ∃ p m n, vs = [.ref p, .int n] ∧ H p = some (.lst [.int m]) ∧ 0 < n ∧ n.natAbs.log2 < 9000 ∧ ∀ r m' : Int, 0 ≤ r → r < n → Q (.int r) (upd H p (.lst [.int m']))
def spPool : Sp := fun vs H Q _ => ∃ n, vs = [.int n] ∧ ∀ p m, H p = none → Q (.ref p) (upd H p (.lst [.int m]))
section
variable {K : PySem.W.Frag} {H : Hp} {Q : VK} {E : XK} {x : V} {z : Str}
theorem take_use {vs : List V} {p : Addr} {m n : Int} (h1 : H p = some (.lst [.int m])) (h2 : 0 < n) (h3 : n.natAbs.log2 < 9000) (h : ∀ r m' : Int, 0 ≤ r → r < n → Q (.int r) (upd H p (.lst [.int m']))) (he : vs = [.ref p, .int n] := by rfl) : spTake vs H Q E := ⟨p, m, n, he, h1, h2, h3, h⟩
theorem whole_use {vs : List V} {lo : Int} {hi : V} (h1 : Kn K H x) (h2 : hi = .non ∨ ∃ h, hi = .int h) (h : Q (.bl (isWh lo hi x)) H) (he : vs = [x, .int lo, hi] := by rfl) : spWhole K vs H Q E := ⟨x, lo, hi, he, h1, h2, h⟩
theorem wholeN_use {vs : List V} {lo n : Int} (h : Q (.bl (decide (lo ≤ n))) H) (he : vs = [.int n, .int lo, .non] := by rfl) : spWhole K vs H Q E := ⟨_, lo, _, he, trivial, .inl rfl, cast_bl h (by simp [isWh])⟩
theorem wholeH_use {vs : List V} {lo n hi : Int} (h : Q (.bl (decide (lo ≤ n) && decide (n ≤ hi))) H) (he : vs = [.int n, .int lo, .int hi] := by rfl) : spWhole K vs H Q E := ⟨_, lo, _, he, trivial, .inr ⟨hi, rfl⟩, h⟩
theorem pool_use {vs : List V} {n : Int} (h : ∀ p m, H p = none → Q (.ref p) (upd H p (.lst [.int m]))) (he : vs = [.int n] := by rfl) : spPool vs H Q E := ⟨n, he, h⟩
end
/-! steps by the reading's head alone -/
set_option hygiene false in
local macro_rules | `(tactic| wtm_at "h") => `(tactic| with_reducible first
  | refine i_seq ?_ | refine i_asg ?_ | refine i_op ?_ | refine i_name ?_ | refine i_c ?_ | refine i_ifS ?_ | refine i_ret ?_ | refine i_cons ?_ | refine i_nil ?_ | refine i_test ?_ | refine i_tB ?_ | refine i_bl ?_
  | refine i_not ?_ | refine i_and ?_ | refine i_or ?_ | refine i_andV ?_ | refine i_orV ?_ | refine i_notV ?_ | refine i_if ?_ | refine i_next ?_ | refine i_drop ?_ | refine i_retN ?_ | refine i_brk ?_ | refine i_cont ?_
  | refine i_sub ?_ | refine i_gnil ?_ | refine i_gcons ?_ | refine i_un ?_ | refine i_rU ?_ | refine i_rI0 ?_ | refine i_chain ?_ | refine i_addI ?_ | refine i_isB ?_ | refine i_isN ?_ | refine i_isnB ?_ | refine i_isnN ?_ | refine i_inS ?_
  | refine i_for ?_ | refine i_lc ?_ | refine i_iStr ?_ | refine i_itS ?_ | refine i_iList ?_ | refine i_iTup ?_ | refine i_iR1 ?_ | refine i_yes ?_ | refine i_mk (fun x dx ndx nx1 nx nex => ?_) | refine i_disp (fun q hq => ?_) | refine i_tp0 ?_ | refine i_tp1 ?_ | refine i_dnew (fun q hq => ?_) | refine i_dnewT (fun q hq => ?_) | refine i_iSeq ?_ | refine i_fld ?_ | refine i_sfld ?_ | refine i_make ?_ | refine i_meth ?_ | refine i_maxU ?_ | refine i_minU ?_ | refine i_sl ?_ | refine i_po0 ?_ | refine i_po1 ?_ | refine i_poI ?_ | refine i_lst ?_ | refine i_tup ?_ | refine i_cB ?_ | refine i_call ?_ | refine i_callN ?_ | refine i_isoN ?_ | refine i_isoB ?_ | refine i_isoI ?_ | refine i_isoS ?_ | refine i_ifN ?_ | refine i_ifAnd ?_ | fail)
/-! what stands at an address -/
local macro_rules | `(tactic| wtm_at "as") => `(tactic| with_reducible assumption)
local macro_rules | `(tactic| wtm_at "getg") => `(tactic| first
  | wtm_at "as"
  | ((with_reducible refine' upd_same' ?g0); (case g0 => exact rfl))
  | ((with_reducible refine' get_upd ?g1 ?g2); (case g1 => wtm_at "as"); (case g2 => wtm_at "getg"))
  | ((fail_if_success ((with_reducible refine' get_upd ?g1 ?g2); (case g1 => wtm_at "as"))); (with_reducible refine' get_ne ?g1 ?g2); (case g2 => wtm_at "getg"); (case g1 => wtm_at "ne"))
  | ((with_reducible refine' get_same ?g1 ?g2); (case g1 => wtm_at "as"); (case g2 => wtm_at "getg"))
  | ((with_reducible refine' get_but ?g1 ?g3 ?g2); (case g1 => wtm_at "as"); (case g2 => wtm_at "getg"); (case g3 => wtm_at "ne")) | fail)
local macro_rules | `(tactic| wtm_at "get") => `(tactic| ((with_reducible refine' get_o ?gg ?ge); (case gg => wtm_at "getg"); (case ge => exact rfl)))
local macro_rules | `(tactic| wtm_at "ne") => `(tactic| first
  | wtm_at "as"
  | ((with_reducible refine' Ne.symm ?n0); (case n0 => wtm_at "as"))
  | ((with_reducible refine' ne_of_none ?n1 ?n2); (case n2 => wtm_at "as"); (case n1 => wtm_at "getg"))
  | ((with_reducible refine' Ne.symm (ne_of_none ?n1 ?n2)); (case n2 => wtm_at "as"); (case n1 => wtm_at "getg"))
  | ((with_reducible refine' ne_of ?n1 ?n2 ?n3); (case n1 => wtm_at "as"); (case n2 => wtm_at "as"); (case n3 => (intro z; cases z)))
  | ((with_reducible refine' ne_of ?n1 ?n2 ?n3); (case n1 => wtm_at "as"); (case n2 => wtm_at "getg"); (case n3 => (intro z; cases z)))
  | ((with_reducible refine' Ne.symm (ne_of ?n1 ?n2 ?n3)); (case n1 => wtm_at "as"); (case n2 => wtm_at "getg"); (case n3 => (intro z; cases z))) | fail)
local macro_rules | `(tactic| wtm_at "sqf") => `(tactic| first
  | wtm_at "as"
  | ((with_reducible refine' SqL.up ?s1 ?s2); (case s1 => wtm_at "as"); (case s2 => wtm_at "sqf"))
  | ((with_reducible refine' SqT.up ?s1 ?s2); (case s1 => wtm_at "as"); (case s2 => wtm_at "sqf"))
  | ((with_reducible refine' SqL.sm ?s1 ?s2); (case s1 => wtm_at "as"); (case s2 => wtm_at "sqf"))
  | ((with_reducible refine' SqT.same ?s1 ?s2); (case s1 => wtm_at "as"); (case s2 => wtm_at "sqf"))
  | ((fail_if_success ((with_reducible refine' SqL.up ?s1 ?s2); (case s1 => wtm_at "as"))); (with_reducible refine' SqL.un ?s1 ?s2); (case s2 => wtm_at "sqf"); (case s1 => wtm_at "ne"))
  | ((fail_if_success ((with_reducible refine' SqT.up ?s1 ?s2); (case s1 => wtm_at "as"))); (with_reducible refine' SqT.un ?s1 ?s2); (case s2 => wtm_at "sqf"); (case s1 => wtm_at "ne"))
  | ((fail_if_success ((with_reducible refine' SqL.up ?s1 ?s2); (case s1 => wtm_at "as"))); (with_reducible refine' SqL.uk ?s1 ?s3 ?s4 ?s2); (case s2 => wtm_at "sqf"); (case s1 => wtm_at "getg"); (case s3 => (intro ys z; cases z)); (case s4 => (intro b u z; cases z)))
  | ((fail_if_success ((with_reducible refine' SqT.up ?s1 ?s2); (case s1 => wtm_at "as"))); (with_reducible refine' SqT.uk ?s1 ?s3 ?s4 ?s2); (case s2 => wtm_at "sqf"); (case s1 => wtm_at "getg"); (case s3 => (intro ys z; cases z)); (case s4 => (intro b u z; cases z)))
  | ((with_reducible refine' SqL.but ?s1 ?s3 ?s2); (case s1 => wtm_at "as"); (case s2 => wtm_at "sqf"); (case s3 => wtm_at "ne"))
  | ((with_reducible refine' SqT.but ?s1 ?s3 ?s2); (case s1 => wtm_at "as"); (case s2 => wtm_at "sqf"); (case s3 => wtm_at "ne")) | fail)
local macro_rules | `(tactic| wtm_at "sq") => `(tactic| first
  | wtm_at "as"
  | ((with_reducible refine' SqL.of' ?s0 ?s1); (case s0 => wtm_at "getg"); (case s1 => exact rfl))
  | ((with_reducible refine' SqT.of' ?s0 ?s1); (case s0 => wtm_at "getg"); (case s1 => exact rfl))
  | wtm_at "sqf" | fail)
local macro_rules | `(tactic| wtm_at "same") => `(tactic| (intro b o e; wtm_at "get"))
local macro_rules | `(tactic| wtm_at "but") => `(tactic| (intro b o n e; wtm_at "get"))
/-! data -/
local macro_rules | `(tactic| wtm_at "dp") => `(tactic| first | exact Dp.bl _ | exact Dp.int _ | exact Dp.str _ | exact Dp.non | (refine Dp.lst (by wtm_at "sq") ?_; wtm_at "dps") | (refine Dp.tup (by wtm_at "sq") ?_; wtm_at "dps") | fail)
local macro_rules | `(tactic| wtm_at "dps") => `(tactic| first | exact DpAll.nil | (refine DpAll.cons ?hd ?tl; (case hd => wtm_at "dp"); (case tl => wtm_at "dps")) | fail)
/-! steps that ask something besides -/
set_option hygiene false in
local macro_rules | `(tactic| wtm_at "a") => `(tactic| first
  | (with_reducible refine' i_var ?h1 ?_); (case h1 => rfl)
  | (with_reducible refine' i_ixG ?h1 ?h0 ?h2 ?_); (case h1 => wtm_at "getg"); (case h0 => rfl); (case h2 => rfl)
  | (with_reducible refine' i_ixL ?h1 ?h2 ?_); (case h1 => wtm_at "sqf"); (case h2 => rfl)
  | (with_reducible refine' i_ixT ?h1 ?h2 ?_); (case h1 => wtm_at "sqf"); (case h2 => rfl)
  | (with_reducible refine' i_rI ?h1 ?_); (case h1 => first | assumption | decide | omega | exact ⟨by omega, by assumption⟩ | exact ⟨by decide, by decide⟩ | exact cpow (by omega) (by omega) (by omega))
  | (with_reducible refine' i_setL ?h1 ?h2 ?_); (case h1 => wtm_at "get"); (case h2 => rfl)
  | (with_reducible refine' i_eqS ?h1 ?_); (case h1 => rfl)
  | (with_reducible refine' i_neS ?h1 ?_); (case h1 => rfl)
  | (with_reducible refine' i_new ?h1 (fun q hq => ?_)); (case h1 => first | decide | exact Nat.le_of_ble_eq_true rfl | omega)
  | (with_reducible refine' i_sqL ?h1 ?_); (case h1 => wtm_at "sq")
  | (with_reducible refine' i_sqT ?h1 ?_); (case h1 => wtm_at "sq")
  | (with_reducible refine' i_fldR ?h1 ?h2 ?h3 ?h4 ?_); (case h1 => wtm_at "get"); (case h2 => wtm_at "cls"); (case h3 => wtm_at "cls"); (case h4 => first | assumption | rfl)
  | (with_reducible refine' i_sfldR ?h1 ?h2 ?h3 ?h4 ?_); (case h1 => wtm_at "get"); (case h2 => wtm_at "cls"); (case h3 => wtm_at "cls"); (case h4 => first | exact Nat.le_of_ble_eq_true rfl | assumption)
  | (with_reducible refine' i_methR ?h1 ?h2 ?_); (case h1 => wtm_at "get"); (case h2 => first | assumption | rfl)
  | (with_reducible refine' i_tupOfL ?h1 (fun q hq => ?_)); (case h1 => wtm_at "sq")
  | (with_reducible refine' i_tupOfT ?h1 ?_); (case h1 => wtm_at "sq")
  | (with_reducible refine' i_lstOfL ?h1 (fun q hq => ?_)); (case h1 => wtm_at "sq")
  | (with_reducible refine' i_lstOfT ?h1 (fun q hq => ?_)); (case h1 => wtm_at "sq")
  | (with_reducible refine' i_slL ?h1 (fun q hq => ?_)); (case h1 => wtm_at "sq")
  | (with_reducible refine' i_lens ?h1 ?h2 ?_); (case h1 => rfl); (case h2 => rfl)
  | (with_reducible refine' i_itL ?h1 ?_); (case h1 => wtm_at "sq")
  | (with_reducible refine' i_itT ?h1 ?_); (case h1 => wtm_at "sq")
  | (with_reducible refine' i_r1 ?h1 ?_); (case h1 => omega)
  | (with_reducible refine' i_mulI ?h1 ?_); (case h1 => first | assumption | exact mulW64 (by omega) (by omega))
  | (with_reducible refine' i_wipe ?h1 ?_); (case h1 => rfl)
  | (with_reducible refine' i_all ?h1 ?_); (case h1 => wtm_at "sq")
  | (with_reducible refine' i_addS ?h1 ?_); (case h1 => first | assumption | exact line_le (by omega))
  | (with_reducible refine' i_addL ?h1 ?h2 ?h3 (fun q hq => ?_)); (case h1 => wtm_at "get"); (case h2 => wtm_at "get"); (case h3 => first | assumption | exact line_le (by omega) | exact Nat.le_of_lt (line_lt (by simp only [List.length_append, List.length_cons, List.length_nil]; omega)) | decide)
  | (with_reducible refine' i_lenG ?h1 ?h0 ?_); (case h1 => wtm_at "getg"); (case h0 => rfl)
  | (with_reducible refine' i_lenL ?h1 ?_); (case h1 => wtm_at "sqf")
  | (with_reducible refine' i_lenT ?h1 ?_); (case h1 => wtm_at "sqf")
  | (with_reducible refine' i_lenS ?h1 ?_); (case h1 => first | assumption | exact line_le (by omega))
  | (with_reducible refine' i_slS ?h1 ?_); (case h1 => first | assumption | exact line_le (by omega))
  | (with_reducible refine' i_eqLF ?h1 ?h2 ?f1 ?f2 ?_); (case h1 => wtm_at "sq"); (case h2 => wtm_at "sq"); (case f1 => rfl); (case f2 => rfl)
  | (with_reducible refine' i_isiBs ?h1 ?_); (case h1 => wtm_at "get")
  | (with_reducible refine' i_rI ?h1 ?_); (case h1 => exact wide_div (b := 400) (by omega) (by first | decide +kernel | omega) (by decide) (by decide))
  | (with_reducible refine' i_isiB ?h1 ?_); (case h1 => rfl)
  | (with_reducible refine' i_isoG ?h1 ?h0 ?_); (case h1 => wtm_at "getg"); (case h0 => rfl)
  | (with_reducible refine' i_isoC ?h1 ?h2 ?h3 ?_); (case h1 => wtm_at "get"); (case h2 => wtm_at "cls"); (case h3 => wtm_at "cls")
  | (with_reducible refine' i_isoL ?h1 ?_); (case h1 => wtm_at "sqf")
  | (with_reducible refine' i_isoT ?h1 ?_); (case h1 => wtm_at "sqf")
  | wtm_at "if" | fail)
local macro_rules | `(tactic| wtm_at "if") => `(tactic| ((with_reducible refine i_isIf ?_); first
  | (with_reducible refine iteT ?_) | (with_reducible refine iteF ?_) | refine i_tT (by wtm_at "as") ?_ | refine i_tF (by wtm_at "as") ?_ | refine iteT ?_ | refine iteF ?_
  | refine i_decT (by first | assumption | with_reducible rfl | omega) ?_ | refine i_decF (by first | assumption | omega) ?_ | fail))
local macro_rules | `(tactic| wtm_at "go") => `(tactic| repeat' (first | wtm_at "h" | wtm_at "a" | wtm_at "u" | fail))
local macro_rules | `(tactic| wtm_at "gs") => `(tactic| repeat' (first | wtm_at "h" | wtm_at "a" | wtm_at "u" | with_reducible refine i_dec (fun _ => ?_) (fun _ => ?_) | fail))
local macro_rules | `(tactic| wtm_at "kn") => `(tactic| first | wtm_at "as" | exact trivial | ((with_reducible refine' Kn.same ?k1 ?k2); (case k1 => wtm_at "as"); (case k2 => wtm_at "kn")) | ((with_reducible refine' Kn.up ?k1 ?k2); (case k1 => wtm_at "as"); (case k2 => wtm_at "kn")))
set_option hygiene false in
local macro_rules | `(tactic| wtm_at "u") => `(tactic| first
  | ((with_reducible refine' pool_use (fun q m hq => ?_) ?he); (case he => rfl))
  | ((with_reducible refine' wholeN_use ?_ ?he); (case he => rfl))
  | ((with_reducible refine' wholeH_use ?_ ?he); (case he => rfl))
  | ((with_reducible refine' whole_use ?h1 ?h2 ?_ ?he); (case he => rfl); (case h1 => wtm_at "kn"); (case h2 => first | exact .inl rfl | exact .inr ⟨_, rfl⟩ | assumption)) | fail)
set_option hygiene false in
local macro_rules | `(tactic| wtm_at "u") => `(tactic| ((with_reducible refine' take_use ?h1 ?h2 ?h3 (fun r m' hr0 hr1 => ?_) ?he); (case he => rfl); (case h1 => wtm_at "get"); (case h2 => first | decide | assumption); (case h3 => first | decide +kernel | assumption | fail)))
section
variable {P : Program} {w : World} {K : PySem.W.Frag} {mg : Str → Option Value} {base : Heap} {a : Ad}
theorem ok__law_take (T : Txt K mg a) : FnOk P w K mg base CX0 1 a._law_take a.d__law_take ["pool", "size"] (spTake) := by
  refine fund_ok0 T.F__law_take sc__law_take (fun vs H Q E h => ?_) (fun cdv A outer s H vs Q E hr h => ?_)
  · obtain ⟨p, m, n, rfl, hp, h0, h9, k⟩ := h
    rfl
  · obtain ⟨p, m, n, rfl, hp, h0, h9, k⟩ := h
    refine ⟨_, (pss_cons (ps_set (i := 2) sc__law_take.nd rfl (by first | exact Or.inl rfl | exact Or.inr rfl) (pe_op op_modU (pe_ix (ix_U (K := K)) (pv 0) pe_int (fun _ _ => rfl)) (pv 1)))
    (pss_cons (ps_asg (pe_op op_fdivU (pe_ix (ix_U (K := K)) (pv 0) pe_int (fun _ _ => rfl)) (pv 1)) (pg_sub (pv 0) pe_int set_list))
    (pss_one (ps_ret (pv 2))))), ?_⟩
    dsimp only [L2.start, List.map_cons, List.map_nil, List.map, List.length_cons, List.length_nil, Nat.reduceAdd, Nat.reduceSub, List.replicate, List.cons_append, List.nil_append]
    wtm_at "go"
    exact k _ _ (Int.emod_nonneg _ (by omega)) (Int.emod_lt_of_pos _ h0)
theorem ok_is_whole (T : Txt K mg a) : FnOk P w K mg base CX0 1 a.is_whole a.d_is_whole ["thing", "low", "high"] (spWhole K) := by
  refine fund_ok0 T.F_is_whole sc_is_whole (fun vs H Q E h => ?_) (fun cdv A outer s H vs Q E hr h => ?_)
  · obtain ⟨x, lo, hi, rfl, kn, kh, k⟩ := h
    rfl
  · obtain ⟨x, lo, hi, rfl, kn, kh, k⟩ := h
    refine ⟨_, (pss_cons (ps_if (PW.pt (pw_or (pt_not (pt_val (pe_callB (call_isiB .int (K := K)) (by rfl) T.b_isinstance (by decide +kernel) (pa_cons (pv 0) (pa_cons (pe_bltn (v := .ty "int") (u := .type "int") (by rfl) T.b_int (by decide +kernel) rfl) pa_nil))))) (pw_or (pt_val (pe_callB (call_isiB .bl (K := K)) (by rfl) T.b_isinstance (by decide +kernel) (pa_cons (pv 0) (pa_cons (pe_bltn (v := .ty "bool") (u := .type "bool") (by rfl) T.b_bool (by decide +kernel) rfl) pa_nil)))) (pw_or1 (pt_cmpR op_ltU (pv 0) (pv 1) (nomark _)))))) (pss_one (ps_ret pe_bl)) pss_nil)
    (pss_one (ps_ret (pe_or (pe_cmpR op_isU (pv 2) pe_non (nomark _)) (pe_one (pe_cmpR op_leU (pv 0) (pv 2) (nomark _))))))), ?_⟩
    dsimp only [L2.start, List.map_cons, List.map_nil, List.map, List.length_cons, List.length_nil, Nat.reduceAdd, Nat.reduceSub, List.replicate, List.cons_append, List.nil_append]
    cases x <;> first | exact kn.elim | skip
    case ref =>
      wtm_at "go"
      refine i_isoR kn fun f c e1 e2 e3 => ?_
      wtm_at "go"
      exact k
    case int =>
      rcases kh with rfl | ⟨h, rfl⟩
      all_goals wtm_at "gs"
      all_goals refine cast_bl k ?_
      all_goals simp only [isWh]
      all_goals simp_all
      all_goals omega
    all_goals wtm_at "gs"
    all_goals exact k
theorem ok__law_pool (T : Txt K mg a) : FnOk P w K mg base CX0 1 a._law_pool a.d__law_pool ["cell"] (spPool) := by
  refine fund_ok0 T.F__law_pool sc__law_pool (fun vs H Q E h => ?_) (fun cdv A outer s H vs Q E hr h => ?_)
  · obtain ⟨n, rfl, k⟩ := h
    rfl
  · obtain ⟨n, rfl, k⟩ := h
    refine ⟨_, (pss_cons (ps_if (pt_cmpR op_geU (pv 0) (pe_op op_powU pe_int pe_int) (nomark _)) (pss_one (ps_ret (pe_lst (pa_cons (pv 0) pa_nil)))) pss_nil)
    (pss_cons (ps_set (i := 1) sc__law_pool.nd rfl (by first | exact Or.inl rfl | exact Or.inr rfl) pe_int)
    (pss_cons (ps_for PassesOwn.never rfl (pi_range1 (by rfl) T.b_range (pa_cons pe_int pa_nil)) (pg_name (i := 2) sc__law_pool.nd rfl (by first | exact Or.inl rfl | exact Or.inr rfl))
    (pss_cons (ps_set (i := 3) sc__law_pool.nd rfl (by first | exact Or.inl rfl | exact Or.inr rfl) (pe_op op_modU (pe_op op_powU (pe_op (op_addU (K := K)) (pe_op (op_addU (K := K)) (pe_op op_mulU (pe_op op_modU (pv 0) pe_int) pe_int) (pe_op op_mulU pe_int (pv 2))) pe_int) pe_int) pe_int))
    (pss_one (ps_set (i := 1) sc__law_pool.nd rfl (by first | exact Or.inl rfl | exact Or.inr rfl) (pe_op (op_addU (K := K)) (pe_op op_mulU (pv 1) pe_int) (pe_op op_modU (pe_op op_powU (pe_op (op_addU (K := K)) (pe_op op_mulU (pv 3) pe_int) (pv 2)) pe_int) pe_int))))))
    (pss_one (ps_ret (pe_lst (pa_cons (pv 1) pa_nil))))))), ?_⟩
    dsimp only [L2.start, List.map_cons, List.map_nil, List.map, List.length_cons, List.length_nil, Nat.reduceAdd, Nat.reduceSub, List.replicate, List.cons_append, List.nil_append]
    wtm_at "gs"
    · exact k _ _ (by assumption)
    refine for_range (lo := 0) (n := 9) (fun i σ H' => H' = H ∧ ∃ (z : Int) (v1 v2 : Option V), σ = [some (.int n), some (.int z), v1, v2] ∧ 0 ≤ z ∧ z.natAbs < 2 ^ (31 * i)) ⟨rfl, 0, none, none, rfl, by decide, by decide⟩ ?_ ?_
    · rintro i σ _ hi ⟨rfl, z, v1, v2, rfl, h0, h1⟩
      have hq : 2 ^ (31 * (i + 1)) = 2 ^ (31 * i) * 2147483648 := by rw [Nat.mul_add, Nat.pow_add]
      have hp : 2 ^ (31 * i) ≤ 2 ^ 400 := Nat.pow_le_pow_right (by decide) (by omega)
      generalize 2 ^ (31 * i) = q at *
      wtm_at "gs"
      refine i_mulI (mulW (Nat.lt_of_lt_of_le h1 hp) (by decide)) ?_
      wtm_at "gs"
      rw [hq]
      exact ⟨rfl, _, _, _, rfl, pool_next _ _ _ h0 h1⟩
    · rintro σ _ ⟨rfl, z, v1, v2, rfl, h0, h1⟩
      wtm_at "gs"
      exact k _ _ (by assumption)
end

/-! errors: steps -/
theorem exm_eq {K : PySem.W.Frag} {c : Value} {l : List Value} {b d : Bool} (h : PySem.W.exmAny K c l = some b) (e : b = d) : PySem.W.exmAny K c l = some d := e ▸ h
theorem xdAt_of {H : Hp} {dd : Addr} {fs : List (Str × V)} (h : H dd = some (.xd fs)) : XdAt H (some dd) := .inr ⟨dd, fs, rfl, h⟩
theorem kit_eq {K : PySem.W.Frag} {c : Value} {l : List Value} {b d : Bool} (h : PySem.W.kitAny K c l = some b) (e : b = d) : PySem.W.kitAny K c l = some d := e ▸ h
local macro_rules | `(tactic| wtm_at "exm") => `(tactic| first | exact any_nil | ((with_reducible refine' any_cons ?x1 ?x2); (case x1 => wtm_at "exm1"); (case x2 => wtm_at "exm")) | fail)
local macro_rules | `(tactic| wtm_at "kit") => `(tactic| first | exact kany_nil | ((with_reducible refine' kany_cons ?x1 ?x2); (case x1 => wtm_at "xk"); (case x2 => wtm_at "kit")) | fail)
local macro_rules | `(tactic| wtm_at "xd") => `(tactic| ((with_reducible refine' xdAt_of ?xd); (case xd => wtm_at "getg")))
local macro_rules | `(tactic| wtm_at "clv") => `(tactic| first | exact .nil | exact .ty _ | exact .own _ | (refine' .cons ?v1 ?v2; (case v1 => wtm_at "clv"); (case v2 => wtm_at "clv")) | fail)
set_option hygiene false in
local macro_rules | `(tactic| wtm_at "u") => `(tactic| with_reducible first
  | refine i_nn ?_ | refine i_rev ?_ | refine i_raise ?_ | refine i_exc ?_ | refine i_try ?_ | refine i_methS ?_ | refine i_callS ?_ | refine i_makeS ?_ | refine i_goN ?_ | refine i_go0 ?_ | refine i_xfA ?_ | refine i_zipT ?_ | refine i_excV (fun ed hed => ?_) | refine i_maxU ?_ | refine i_minU ?_ | refine i_isiC ?_ | refine i_app ?_ | refine i_intB ?_ | refine i_intI ?_ | fail)
set_option hygiene false in
local macro_rules | `(tactic| wtm_at "u") => `(tactic| first
  | ((with_reducible refine' i_clT (exm_eq ?hb ?hc) (fun ea hea => ?_)); (case hb => wtm_at "exm"); (case hc => exact rfl))
  | ((with_reducible refine' i_clF (exm_eq ?hb ?hc) ?_); (case hb => wtm_at "exm"); (case hc => exact rfl))
  | ((with_reducible refine' i_xf ?T ?no ?h1 ?h2 ?_); (case T => wtm_at "xc"); (case no => wtm_at "xn"); (case h1 => wtm_at "getg"); (case h2 => exact rfl))
  | ((with_reducible refine' i_isX rfl ?T ?xd ?k ?e ?_); (case T => wtm_at "xc"); (case xd => wtm_at "xd"); (case k => wtm_at "clv"); (case e => wtm_at "xk"))
  | ((with_reducible refine' i_isXs ?ht rfl ?T ?xd ?k (kit_eq ?e ?eb) ?_); (case ht => wtm_at "getg"); (case T => wtm_at "xc"); (case xd => wtm_at "xd"); (case k => wtm_at "clv"); (case e => wtm_at "kit"); (case eb => exact rfl))
  | ((with_reducible refine' i_tupT ?h1 ?h2 ?_); (case h1 => wtm_at "sq"); (case h2 => exact rfl))
  | ((with_reducible refine' i_ixL ?h1 ?h2 ?_); (case h1 => wtm_at "sq"); (case h2 => wtm_at "as"))
  | ((with_reducible refine' i_ixT ?h1 ?h2 ?_); (case h1 => wtm_at "sq"); (case h2 => wtm_at "as"))
  | ((with_reducible refine' i_revL ?e ?h1 ?_); (case e => rfl); (case h1 => wtm_at "sq"); intro q hq)
  | ((with_reducible refine' i_rep1 ?h1 ?h2 (fun q hq => ?_)); (case h1 => wtm_at "get"); (case h2 => first | wtm_at "as" | omega | (simp only [List.length_map]; omega)))
  | ((with_reducible refine' i_tyL ?h1 ?_); (case h1 => wtm_at "sq"))
  | ((with_reducible refine' i_rapp ?h1 ?h2 ?_); (case h1 => wtm_at "get"); (case h2 => first | assumption | exact line_lt (by first | omega | (simp only [List.length_append, List.length_map, List.length_cons, List.length_nil]; omega))))
  | ((with_reducible refine' i_kit ?e ?_); (case e => wtm_at "xk"))
  | ((with_reducible refine' i_zipTT ?h1 ?h2 ?_); (case h1 => wtm_at "sq"); (case h2 => wtm_at "sq"))
  | ((with_reducible refine' i_zipLL ?h1 ?h2 ?_); (case h1 => wtm_at "sq"); (case h2 => wtm_at "sq")) | fail)
local macro_rules | `(tactic| wtm_at "rz") => `(tactic| first | assumption | wtm_at "same" | wtm_at "get" | fail)
local macro_rules | `(tactic| wtm_at "nn") => `(tactic| first | wtm_at "as" | exact nn_rep (by first | decide | omega) | fail)
local macro_rules | `(tactic| wtm_at "lenle") => `(tactic| first | wtm_at "as" | omega | (simp only [List.length_replicate, List.length_map, List.length_cons, List.length_nil]; omega))
local macro_rules | `(tactic| wtm_at "noc") => `(tactic| first | wtm_at "as" | ((with_reducible refine' NoC.same ?s ?h); (case h => wtm_at "as"); (case s => wtm_at "same")) | exact NoC.flat rfl | exact NoC.ofG (by wtm_at "getg") rfl | exact NoC.sqL (by wtm_at "sq") | exact NoC.sqT (by wtm_at "sq") | fail)
local macro_rules | `(tactic| wtm_at "nos") => `(tactic| first | wtm_at "as" | ((with_reducible refine' NoSeq.same ?s ?h); (case h => wtm_at "as"); (case s => wtm_at "same")) | exact NoSeq.flat rfl | exact NoSeq.dict (by wtm_at "get") | fail)
set_option hygiene false in
local macro_rules | `(tactic| wtm_at "a") => `(tactic| first
  | ((with_reducible refine' i_isiBsN ?h0 ?hn ?_); (case hn => wtm_at "nos"); (case h0 => wtm_at "get"))
  | ((with_reducible refine' i_isiLN ?hn ?_); (case hn => wtm_at "nos"))
  | ((with_reducible refine' i_isiTN ?hn ?_); (case hn => wtm_at "nos"))
  | ((with_reducible refine' i_isiCN ?hn ?_); (case hn => wtm_at "noc")) | fail)
local macro_rules | `(tactic| wtm_at "eqv") => `(tactic| first | exact EqV.one | exact EqV.selfB rfl | ((with_reducible refine' EqV.noc ?n); (case n => wtm_at "noc")) | ((with_reducible refine' EqV.selfA ?n); (case n => wtm_at "kn")) | ((with_reducible refine' EqV.nos ?n); (case n => wtm_at "nos")) | exact EqV.flat rfl | fail)
local macro_rules | `(tactic| wtm_at "eqvs") => `(tactic| first | exact EqVs.nil | ((with_reducible refine' EqVs.cons ?e1 ?e2); (case e1 => wtm_at "eqv"); (case e2 => wtm_at "eqvs")) | exact EqVs.nilc | exact EqVs.cnil | fail)
set_option hygiene false in
local macro_rules | `(tactic| wtm_at "u") => `(tactic| first
  | ((with_reducible refine' i_neG (n := 3) ?h1 ?hn ?t ?_); (case h1 => first | exact .inl ⟨by wtm_at "sq", by wtm_at "sq"⟩ | exact .inr ⟨by wtm_at "sq", by wtm_at "sq"⟩); (case t => wtm_at "eqvs"); (case hn => decide))
  | ((with_reducible refine' i_eqG (n := 3) ?h1 ?hn ?t ?_); (case h1 => first | exact .inl ⟨by wtm_at "sq", by wtm_at "sq"⟩ | exact .inr ⟨by wtm_at "sq", by wtm_at "sq"⟩); (case t => wtm_at "eqvs"); (case hn => decide)) | fail)
set_option hygiene false in
local macro_rules | `(tactic| wtm_at "exm1") => `(tactic| first | exact exm_own T.e_HallError T.u_NoCounts_HallError | exact exm_own T.e_NoNumber T.u_NoCounts_NoNumber | exact exm_own T.e_NoMember T.u_NoCounts_NoMember | exact exm_own T.e_NoCounts T.u_NoCounts_NoCounts | exact exm_own T.e_Unlike T.u_NoCounts_Unlike | exact exm_own T.e_HallError T.u_NoNumber_HallError | exact exm_own T.e_NoNumber T.u_NoNumber_NoNumber | exact exm_own T.e_NoMember T.u_NoNumber_NoMember | exact exm_own T.e_NoCounts T.u_NoNumber_NoCounts | exact exm_own T.e_Unlike T.u_NoNumber_Unlike | exact exm_own T.e_HallError T.u_Unlike_HallError | exact exm_own T.e_NoNumber T.u_Unlike_NoNumber | exact exm_own T.e_NoMember T.u_Unlike_NoMember | exact exm_own T.e_NoCounts T.u_Unlike_NoCounts | exact exm_own T.e_Unlike T.u_Unlike_Unlike | fail)
set_option hygiene false in
local macro_rules | `(tactic| wtm_at "xk") => `(tactic| first | exact kit_self | exact T.x_NoCounts_HallError | exact T.x_NoCounts_NoNumber | exact T.x_NoCounts_NoMember | exact T.x_NoCounts_Unlike | exact T.x_NoNumber_HallError | exact T.x_NoNumber_NoMember | exact T.x_NoNumber_NoCounts | exact T.x_NoNumber_Unlike | exact T.x_Unlike_HallError | exact T.x_Unlike_NoNumber | exact T.x_Unlike_NoMember | exact T.x_Unlike_NoCounts | fail)
set_option hygiene false in
local macro_rules | `(tactic| wtm_at "xc") => `(tactic| first | exact T.e_NoCounts | exact T.e_NoNumber | exact T.e_Unlike | fail)
set_option hygiene false in
local macro_rules | `(tactic| wtm_at "xn") => `(tactic| first | exact T.n_NoCounts_found | exact T.n_NoNumber_found | exact T.n_Unlike_found | fail)
/-- raised: an error of the class C with found = v -/
def Rz (C : Addr) (v : V) (H : Hp) (E : XK) : Prop := ∀ H' d, Same H H' → H' d = some (.xd [("found", v)]) → E (.ref C) (some d) H'
/-- what Counts can be made of -/
def areL (xs : List V) : Bool := decide (2 ≤ xs.length) && (decide (xs.length ≤ 5) && xs.all (isWh 0 .non))
def spAre (K : PySem.W.Frag) : Sp := fun vs H Q _ => ∃ x, vs = [x] ∧ ((∃ p xs, x = .ref p ∧ (SqL K H p xs ∨ SqT K H p xs) ∧ (∀ y ∈ xs, Kn K H y) ∧ xs.length ≤ 1000 ∧ ∀ H', Same H H' → Q (.bl (areL xs)) H') ∨ (NoSeq K H x ∧ ∀ H', Same H H' → Q (.bl false) H'))
/-- at c: Counts of ns -/
def CtAt (K : PySem.W.Frag) (a : Ad) (H : Hp) (c : Addr) (ns : List Int) : Prop := ∃ dx t, H c = some (.ins a.Counts dx [("kept_numbers", .ref t)]) ∧ SqT K H t (ns.map V.int) ∧ (∀ n ∈ ns, 0 ≤ n) ∧ 2 ≤ ns.length ∧ ns.length ≤ 5
theorem CtAt.same {K : PySem.W.Frag} {a : Ad} {H H' : Hp} {c : Addr} {ns : List Int} (s : Same H H') (h : CtAt K a H c ns) : CtAt K a H' c ns := by
  obtain ⟨dx, t, h1, h2, h3⟩ := h
  exact ⟨dx, t, s _ _ h1, SqT.same s h2, h3⟩
theorem CtAt.butL {K : PySem.W.Frag} {a : Ad} {H H' : Hp} {c D : Addr} {ns : List Int} {acc : List V} (hD : H D = some (.lst acc)) (s : SameBut D H H') (h : CtAt K a H c ns) : CtAt K a H' c ns := by
  obtain ⟨dx, t, h1, h2, h3⟩ := h
  exact ⟨dx, t, s _ _ (ne_of h1 hD (by intro z; cases z)) h1, SqT.butL hD s h2, h3⟩
theorem areL_ns {xs : List V} (h : areL xs = true) : ∃ ns : List Int, xs = ns.map V.int ∧ (∀ n ∈ ns, 0 ≤ n) ∧ 2 ≤ ns.length ∧ ns.length ≤ 5 := by
  simp only [areL, Bool.and_eq_true, decide_eq_true_eq] at h
  obtain ⟨h1, h2, h3⟩ := h
  have key : ∀ l : List V, l.all (isWh 0 .non) = true → ∃ ns : List Int, l = ns.map V.int ∧ ∀ n ∈ ns, 0 ≤ n := by
    intro l
    induction l with
    | nil => exact fun _ => ⟨[], rfl, fun _ h => nomatch h⟩
    | cons x l ih =>
      intro h
      rw [List.all_cons, Bool.and_eq_true] at h
      obtain ⟨ns, e, k⟩ := ih h.2
      cases x <;> first | (exact absurd h.1 Bool.false_ne_true) | skip
      rename_i n
      refine ⟨n :: ns, by rw [e]; rfl, fun m hm => ?_⟩
      rcases List.mem_cons.mp hm with rfl | hm
      · have := h.1
        simp only [isWh, Bool.and_true, decide_eq_true_eq] at this
        exact this
      · exact k _ hm
  obtain ⟨ns, e, k⟩ := key xs h3
  subst e
  rw [List.length_map] at h1 h2
  exact ⟨ns, rfl, k, h1, h2⟩
theorem areL_of {ns : List Int} (h0 : ∀ n ∈ ns, 0 ≤ n) (h1 : 2 ≤ ns.length) (h2 : ns.length ≤ 5) : areL (ns.map V.int) = true := by
  simp only [areL, Bool.and_eq_true, decide_eq_true_eq, List.length_map]
  refine ⟨h1, h2, List.all_eq_true.mpr fun x hx => ?_⟩
  obtain ⟨n, hn, rfl⟩ := List.mem_map.mp hx
  simp only [isWh, Bool.and_true, decide_eq_true_eq]
  exact h0 n hn
theorem zw_ge {f : Int → Int → Int} (h : ∀ i j, 0 ≤ i → 0 ≤ j → 0 ≤ f i j) : ∀ {ns ms : List Int}, (∀ n ∈ ns, 0 ≤ n) → (∀ m ∈ ms, 0 ≤ m) → ∀ n ∈ List.zipWith f ns ms, 0 ≤ n
  | [], _, _, _, _, hn => by cases hn
  | _ :: _, [], _, _, _, hn => by cases hn
  | n :: ns, m :: ms, h1, h2, k, hk => by
    rcases List.mem_cons.mp hk with rfl | hk
    · exact h _ _ (h1 _ List.mem_cons_self) (h2 _ List.mem_cons_self)
    · exact zw_ge h (fun x hx => h1 x (List.mem_cons_of_mem _ hx)) (fun x hx => h2 x (List.mem_cons_of_mem _ hx)) k hk
def spCI (K : PySem.W.Frag) (a : Ad) : Sp := fun vs H Q E => ∃ x dx v, vs = [.ref x, v] ∧ H x = some (.ins a.Counts dx []) ∧
  ((∃ p xs, v = .ref p ∧ p ≠ x ∧ (SqL K H p xs ∨ SqT K H p xs) ∧ (∀ y ∈ xs, Kn K H y) ∧ xs.length ≤ 1000 ∧ (areL xs = true → ∀ H', SameBut x H H' → ∀ ns, xs = ns.map V.int → CtAt K a H' x ns → Q .non H') ∧ (areL xs = false → Rz a.NoCounts v H E)) ∨ (NoSeq K H v ∧ Rz a.NoCounts v H E))
def spTold (K : PySem.W.Frag) (a : Ad) : Sp := fun vs H Q _ => ∃ c ns, vs = [.ref c] ∧ CtAt K a H c ns ∧ ∀ t, SqT K H t (ns.map V.int) → Q (.ref t) H
/-- asked with another thing: what is due -/
def Lk (K : PySem.W.Frag) (a : Ad) (ns : List Int) (o : V) (H : Hp) (E : XK) (ok : List Int → Prop) : Prop :=
  (∃ c2 ms, o = .ref c2 ∧ CtAt K a H c2 ms ∧ ((ms.length = ns.length ∧ ok ms) ∨ (ms.length ≠ ns.length ∧ Rz a.Unlike o H E))) ∨ (NoC K H o ∧ Rz a.NoCounts o H E)
def spLk (K : PySem.W.Frag) (a : Ad) (ok : List Int → List Int → Hp → VK → Prop) : Sp := fun vs H Q E => ∃ c ns o, vs = [.ref c, o] ∧ CtAt K a H c ns ∧ Lk K a ns o H E fun ms => ok ns ms H Q
abbrev spLike (K : PySem.W.Frag) (a : Ad) : Sp := spLk K a fun _ _ H Q => Q .non H
abbrev spJoin (K : PySem.W.Frag) (a : Ad) (f : Int → Int → Int) : Sp := spLk K a fun ns ms H Q => ∀ H' r, Same H H' → CtAt K a H' r (List.zipWith f ns ms) → Q (.ref r) H'
def covs (ns ms : List Int) : Bool := (List.zipWith (fun n m : Int => decide (m ≤ n)) ns ms).all id
abbrev spCov (K : PySem.W.Frag) (a : Ad) : Sp := spLk K a fun ns ms H Q => ∀ H', Same H H' → Q (.bl (covs ns ms)) H'
theorem covs_self : ∀ ns : List Int, covs ns ns = true
  | [] => rfl
  | n :: ns => by
    show (decide (n ≤ n) && covs ns ns) = true
    rw [covs_self ns, decide_eq_true (Int.le_refl n)]
    rfl
theorem covs_anti : ∀ {ns ms : List Int}, ms.length = ns.length → covs ns ms = true → covs ms ns = true → ns = ms
  | [], [], _, _, _ => rfl
  | [], _ :: _, e, _, _ => by cases e
  | _ :: _, [], e, _, _ => by cases e
  | n :: ns, m :: ms, e, h1, h2 => by
    have h1 : (decide (m ≤ n) && covs ns ms) = true := h1
    have h2 : (decide (n ≤ m) && covs ms ns) = true := h2
    rw [Bool.and_eq_true, decide_eq_true_eq] at h1 h2
    rw [covs_anti (Nat.succ.inj e) h1.2 h2.2, Int.le_antisymm h2.1 h1.1]
def stands (ns ms : List Int) : Str := if ns = ms then "same" else if covs ns ms then "behind" else if covs ms ns then "ahead" else "beside"
abbrev spStands (K : PySem.W.Frag) (a : Ad) : Sp := spLk K a fun ns ms H Q => ∀ H', Same H H' → Q (.str (stands ns ms)) H'
section
variable {K : PySem.W.Frag} {H : Hp} {Q : VK} {E : XK} {x : V} {a : Ad}
theorem are_use {vs : List V} {p : Addr} {xs : List V} (h1 : SqL K H p xs ∨ SqT K H p xs) (h2 : ∀ y ∈ xs, Kn K H y) (h3 : xs.length ≤ 1000) (h : ∀ H', Same H H' → Q (.bl (areL xs)) H') (he : vs = [.ref p] := by rfl) : spAre K vs H Q E := ⟨_, he, .inl ⟨p, xs, rfl, h1, h2, h3, h⟩⟩
theorem areN_use {vs : List V} (h1 : NoSeq K H x) (h : ∀ H', Same H H' → Q (.bl false) H') (he : vs = [x] := by rfl) : spAre K vs H Q E := ⟨x, he, .inr ⟨h1, h⟩⟩
theorem told_use {vs : List V} {c : Addr} {ns : List Int} (h1 : CtAt K a H c ns) (h : ∀ t, SqT K H t (ns.map V.int) → Q (.ref t) H) (he : vs = [.ref c] := by rfl) : spTold K a vs H Q E := ⟨c, ns, he, h1, h⟩
theorem like_ok {vs : List V} {c c2 : Addr} {ns ms : List Int} (h1 : CtAt K a H c ns) (h2 : CtAt K a H c2 ms) (h3 : ms.length = ns.length) (h : Q .non H) (he : vs = [.ref c, .ref c2] := by rfl) : spLike K a vs H Q E := ⟨c, ns, _, he, h1, .inl ⟨c2, ms, rfl, h2, .inl ⟨h3, h⟩⟩⟩
theorem lk_un {ok : List Int → List Int → Hp → VK → Prop} {vs : List V} {c c2 : Addr} {ns ms : List Int} (h1 : CtAt K a H c ns) (h2 : CtAt K a H c2 ms) (h3 : ms.length ≠ ns.length) (h : ∀ H' d, Same H H' → H' d = some (.xd [("found", .ref c2)]) → E (.ref a.Unlike) (some d) H') (he : vs = [.ref c, .ref c2] := by rfl) : spLk K a ok vs H Q E :=
  ⟨c, ns, _, he, h1, .inl ⟨c2, ms, rfl, h2, .inr ⟨h3, h⟩⟩⟩
theorem lk_no {ok : List Int → List Int → Hp → VK → Prop} {vs : List V} {c : Addr} {o : V} {ns : List Int} (h1 : CtAt K a H c ns) (h2 : NoC K H o) (h : ∀ H' d, Same H H' → H' d = some (.xd [("found", o)]) → E (.ref a.NoCounts) (some d) H') (he : vs = [.ref c, o] := by rfl) : spLk K a ok vs H Q E := ⟨c, ns, o, he, h1, .inr ⟨h2, h⟩⟩
theorem join_ok {f : Int → Int → Int} {vs : List V} {c c2 : Addr} {ns ms : List Int} (h1 : CtAt K a H c ns) (h2 : CtAt K a H c2 ms) (h3 : ms.length = ns.length) (h : ∀ H' r, Same H H' → CtAt K a H' r (List.zipWith f ns ms) → Q (.ref r) H') (he : vs = [.ref c, .ref c2] := by rfl) : spJoin K a f vs H Q E := ⟨c, ns, _, he, h1, .inl ⟨c2, ms, rfl, h2, .inl ⟨h3, h⟩⟩⟩
theorem stands_ok {vs : List V} {c c2 : Addr} {ns ms : List Int} (h1 : CtAt K a H c ns) (h2 : CtAt K a H c2 ms) (h3 : ms.length = ns.length) (h : ∀ H', Same H H' → Q (.str (stands ns ms)) H') (he : vs = [.ref c, .ref c2] := by rfl) : spStands K a vs H Q E := ⟨c, ns, _, he, h1, .inl ⟨c2, ms, rfl, h2, .inl ⟨h3, h⟩⟩⟩
theorem cov_ok {vs : List V} {c c2 : Addr} {ns ms : List Int} (h1 : CtAt K a H c ns) (h2 : CtAt K a H c2 ms) (h3 : ms.length = ns.length) (h : ∀ H', Same H H' → Q (.bl (covs ns ms)) H') (he : vs = [.ref c, .ref c2] := by rfl) : spCov K a vs H Q E := ⟨c, ns, _, he, h1, .inl ⟨c2, ms, rfl, h2, .inl ⟨h3, h⟩⟩⟩
theorem eqLF_ns : ∀ ns ms : List Int, eqLF (ns.map V.int) (ms.map V.int) = decide (ns = ms)
  | [], [] => rfl
  | [], _ :: _ => rfl
  | _ :: _, [] => rfl
  | n :: ns, m :: ms => by
    show ((n == m) && eqLF _ _) = _
    rw [eqLF_ns ns ms]
    by_cases h : n = m
    · subst h
      by_cases h2 : ns = ms <;> simp [h2]
    · simp [h]
theorem nb_ns (ns : List Int) : (ns.map V.int).all isNB = true := by
  rw [List.all_map]
  exact List.all_eq_true.mpr fun _ _ => rfl
theorem i_eqTN {p q : Addr} {ns ms : List Int} (h1 : SqT K H p (ns.map V.int)) (h2 : SqT K H q (ms.map V.int)) (h : Q (.bl (decide (ns = ms))) H) : rEqU K (.ref p) (.ref q) H Q := i_eqTF h1 h2 (nb_ns ns) (nb_ns ms) (by rw [eqLF_ns]; exact h)
theorem i_neTN {p q : Addr} {ns ms : List Int} (h1 : SqT K H p (ns.map V.int)) (h2 : SqT K H q (ms.map V.int)) (h : Q (.bl (!decide (ns = ms))) H) : rNeU K (.ref p) (.ref q) H Q := i_neTF h1 h2 (nb_ns ns) (nb_ns ms) (by rw [eqLF_ns]; exact h)
theorem i_isoCt {c : Addr} {ns : List Int} {R : (Kd → Bool) → Option Addr → Prop} (h : CtAt K a H c ns) (k : Cls K a.Counts) (i : IsC K a.Counts) (q : R (fun _ => false) (some a.Counts)) : isO K (.ref c) H R := by
  obtain ⟨dx, t, h1, _⟩ := h
  exact i_isoC h1 k i q
theorem i_methCt {c : Addr} {ns : List Int} {m : Str} {R : Prop} (h1 : CtAt K a H c ns) (h2 : (("kept_numbers" : Str) == m) = false) (h : R) : ∃ b dx fs, V.ref c = .ref b ∧ H b = some (.ins a.Counts dx fs) ∧ fs.lookup m = none ∧ R := by
  obtain ⟨dx, t, g, _⟩ := h1
  refine ⟨c, dx, _, rfl, g, ?_, h⟩
  have : (m == ("kept_numbers" : Str)) = false := by rw [BEq.comm]; exact h2
  simp [List.lookup, this]
theorem ci_use {vs : List V} {x dx p : Addr} {xs : List V} {ns : List Int} (h0 : H x = some (.ins a.Counts dx [])) (h1 : p ≠ x) (h2 : SqL K H p xs ∨ SqT K H p xs) (h3 : xs = ns.map V.int) (h4 : ∀ n ∈ ns, 0 ≤ n) (h5 : 2 ≤ ns.length) (h6 : ns.length ≤ 5) (h : ∀ H', SameBut x H H' → CtAt K a H' x ns → Q .non H') (he : vs = [.ref x, .ref p] := by rfl) : spCI K a vs H Q E := by
  subst h3
  refine ⟨x, dx, _, he, h0, .inl ⟨p, _, rfl, h1, h2, fun y hy => ?_, by rw [List.length_map]; omega, fun _ H' s ms e => ?_, fun e => absurd e (by rw [areL_of h4 h5 h6]; decide)⟩⟩
  · obtain ⟨n, _, rfl⟩ := List.mem_map.mp hy
    exact trivial
  · have : ns = ms := List.map_inj_right (fun _ _ h => by cases h; rfl) |>.mp e
    subst this
    exact h H' s
end
local macro_rules | `(tactic| wtm_at "ct") => `(tactic| first | wtm_at "as" | ((with_reducible refine' CtAt.same ?c1 ?c2); (case c2 => wtm_at "as"); (case c1 => wtm_at "same")) | fail)
set_option hygiene false in
local macro_rules | `(tactic| wtm_at "u") => `(tactic| first
  | ((with_reducible refine' are_use ?h1 ?h2 ?h3 (fun HH sm => ?_) ?he); (case he => rfl); (case h1 => first | wtm_at "as" | exact .inl (by wtm_at "sq") | exact .inr (by wtm_at "sq")); (case h2 => wtm_at "as"); (case h3 => first | wtm_at "as" | exact Nat.le_of_ble_eq_true rfl))
  | ((with_reducible refine' areN_use ?h1 (fun HH sm => ?_) ?he); (case he => rfl); (case h1 => wtm_at "as"))
  | ((with_reducible refine' like_ok ?h1 ?h2 ?h3 ?_ ?he); (case he => rfl); (case h1 => wtm_at "ct"); (case h2 => wtm_at "ct"); (case h3 => wtm_at "as"))
  | ((with_reducible refine' lk_un ?h1 ?h2 ?h3 (fun HH ed sm hed => ?_) ?he); (case he => rfl); (case h1 => wtm_at "ct"); (case h2 => wtm_at "ct"); (case h3 => wtm_at "as"))
  | ((with_reducible refine' lk_no ?h1 ?h2 (fun HH ed sm hed => ?_) ?he); (case he => rfl); (case h1 => wtm_at "ct"); (case h2 => wtm_at "as"))
  | ((with_reducible refine' cov_ok ?h1 ?h2 ?h3 (fun HH sm => ?_) ?he); (case he => rfl); (case h1 => wtm_at "ct"); (case h2 => wtm_at "ct"); (case h3 => first | wtm_at "as" | exact Eq.symm (by wtm_at "as")))
  | ((with_reducible refine' join_ok ?h1 ?h2 ?h3 (fun HH r sm hct => ?_) ?he); (case he => rfl); (case h1 => wtm_at "ct"); (case h2 => wtm_at "ct"); (case h3 => first | wtm_at "as" | exact Eq.symm (by wtm_at "as")))
  | ((with_reducible refine' stands_ok ?h1 ?h2 ?h3 (fun HH sm => ?_) ?he); (case he => rfl); (case h1 => wtm_at "ct"); (case h2 => wtm_at "ct"); (case h3 => first | wtm_at "as" | exact Eq.symm (by wtm_at "as")))
  | ((with_reducible refine' i_isoCt ?h1 ?h2 ?h3 ?_); (case h1 => wtm_at "ct"); (case h2 => wtm_at "cls"); (case h3 => wtm_at "cls"))
  | ((with_reducible refine' i_methCt ?h1 ?h2 ?_); (case h1 => wtm_at "ct"); (case h2 => exact rfl))
  | ((with_reducible refine' i_eqTN ?h1 ?h2 ?_); (case h1 => wtm_at "sq"); (case h2 => wtm_at "sq"))
  | ((with_reducible refine' i_neTN ?h1 ?h2 ?_); (case h1 => wtm_at "sq"); (case h2 => wtm_at "sq"))
  | ((with_reducible refine' ci_use ?h0 ?h1 ?h2 rfl ?h4 ?h5 ?h6 (fun HH sm hct => ?_) ?he); (case he => rfl); (case h0 => wtm_at "getg"); (case h1 => wtm_at "ne"); (case h2 => first | exact .inl (by wtm_at "sq") | exact .inr (by wtm_at "sq")); (case h4 => wtm_at "nn"); (case h5 => wtm_at "lenle"); (case h6 => wtm_at "lenle"))
  | ((with_reducible refine' told_use ?h1 (fun kt hkt => ?_) ?he); (case he => rfl); (case h1 => wtm_at "ct")) | fail)
section
variable {P : Program} {w : World} {K : PySem.W.Frag} {mg : Str → Option Value} {base : Heap} {a : Ad}
theorem ok_NoCounts_init (T : Txt K mg a) : FnOk P w K mg base CX0 1 a.NoCounts_init a.d_NoCounts_init ["self", "found"] (spExI a.NoCounts "found") := by
  refine fund_ok0 T.F_NoCounts_init sc_NoCounts_init (fun vs H Q E h => ?_) (fun cdv A outer s H vs Q E hr h => ?_)
  · obtain ⟨b, v, rfl, h⟩ := h
    rfl
  · exact ⟨_, pss_cons (ps_expr (pe_hinit (by rfl) T.m_HallError T.hs_HallError T.hq_HallError T.hf_HallError (pa_cons (pv 0) (pa_cons pe_str pa_nil)))) (pss_one (ps_ost (pv 0) (pv 1))), exc_read rfl T.o_NoCounts T.n_NoCounts_found h⟩
theorem ok_Unlike_init (T : Txt K mg a) : FnOk P w K mg base CX0 1 a.Unlike_init a.d_Unlike_init ["self", "found"] (spExI a.Unlike "found") := by
  refine fund_ok0 T.F_Unlike_init sc_Unlike_init (fun vs H Q E h => ?_) (fun cdv A outer s H vs Q E hr h => ?_)
  · obtain ⟨b, v, rfl, h⟩ := h
    rfl
  · exact ⟨_, pss_cons (ps_expr (pe_hinit (by rfl) T.m_HallError T.hs_HallError T.hq_HallError T.hf_HallError (pa_cons (pv 0) (pa_cons pe_str pa_nil)))) (pss_one (ps_ost (pv 0) (pv 1))), exc_read rfl T.o_Unlike T.n_Unlike_found h⟩
theorem ok_are_numbers (T : Txt K mg a) : FnOk P w K mg base CX0 2 a.are_numbers a.d_are_numbers ["thing"] (spAre K) := by
  refine fund_ok0 T.F_are_numbers sc_are_numbers (fun vs H Q E h => ?_) (fun cdv A outer s H vs Q E hr h => ?_)
  · obtain ⟨x, rfl, h⟩ := h
    rfl
  · obtain ⟨x, rfl, h⟩ := h
    refine ⟨_, (pss_cons (ps_if (PW.pt (pw_or (pt_not (pt_val (pe_callB (call_isiBs [.lst, .tup] (K := K)) (by rfl) T.b_isinstance (by decide +kernel) (pa_cons (pv 0) (pa_cons (pe_tup (pa_cons (pe_bltn (v := .ty "list") (u := .type "list") (by rfl) T.b_list (by decide +kernel) rfl) (pa_cons (pe_bltn (v := .ty "tuple") (u := .type "tuple") (by rfl) T.b_tuple (by decide +kernel) rfl) pa_nil))) pa_nil))))) (pw_or1 (pt_not (pt_chain op_leU op_leU (pe_globE rfl T.g_LEAST_MEMBERS) (pe_callB (call_lenU (K := K)) (by rfl) T.b_len (by decide +kernel) (pa_cons (pv 0) pa_nil)) (pe_globE rfl T.g_MOST_MEMBERS)))))) (pss_one (ps_ret pe_bl)) pss_nil)
    (pss_one (ps_ret (pe_callB (cr_allK (K := K) rfl) (by rfl) T.b_all (by decide +kernel) (pa_cons (pe_lc (own := [("number", 1)]) rfl sc_are_numbers.nd (pi_seqK (K := K) (pv 0)) (blkOk_by (own := [("number", 1)]) (N := ["thing", "number"]) (sc := defScope s_are_numbers) (by decide +kernel)) (fun _ _ _ _ _ => (pg_name (i := 1) sc_are_numbers.nd rfl (by first | exact Or.inl rfl | exact Or.inr rfl))) (fun _ _ _ _ _ => pts_nil) (fun _ _ _ _ _ => (pe_callD (ok_is_whole (K := K) T) (hr.mono (by decide)) (by rfl) T.m_is_whole T.F_is_whole.kp T.B1_is_whole pass0 (pa_cons (pv 1) (pa_cons pe_int pa_nil))))) pa_nil))))), ?_⟩
    dsimp only [L2.start, List.map_cons, List.map_nil, List.map, List.length_cons, List.length_nil, Nat.reduceAdd, Nat.reduceSub, List.replicate, List.cons_append, List.nil_append]
    rcases h with ⟨p, xs, rfl, hs, kn, hl, k⟩ | ⟨hn, k⟩
    case inr =>
      wtm_at "gs"
      exact k _ (by wtm_at "same")
    have hl' : xs.length ≤ sizeLine := line_le hl
    have fin : ∀ b : Bool, 2 ≤ xs.length → xs.length ≤ 5 → b = xs.all (isWh 0 .non) → b = areL xs := fun b h1 h2 e => by
      show _ = (decide (2 ≤ xs.length) && (decide (xs.length ≤ 5) && _))
      rw [decide_eq_true h1, decide_eq_true h2, e]
      rfl
    have out : ¬ (2 ≤ xs.length ∧ xs.length ≤ 5) → areL xs = false := fun h => by
      unfold areL
      by_cases h1 : 2 ≤ xs.length
      · rw [decide_eq_false (show ¬ xs.length ≤ 5 by omega)]
        simp
      · rw [decide_eq_false h1]
        rfl
    rcases hs with hs | hs
    all_goals
      wtm_at "gs"
      · intro D hD
        first
          | refine' lc_mapL (fun y => .bl (isWh 0 .non y)) ?h0 hD hl (fun x hx H1 Q1 R1 s1 h1 => ?hs) (fun H1 s1 e1 => ?hd)
          | refine' lc_mapT (fun y => .bl (isWh 0 .non y)) ?h0 hD hl (fun x hx H1 Q1 R1 s1 h1 => ?hs) (fun H1 s1 e1 => ?hd)
        case h0 => wtm_at "sq"
        case hs =>
          have kx : Kn K H1 x := ((kn x hx).same (same_upd (Same.refl _) hq)).same s1
          wtm_at "gs"
          exact h1 _ (Same.refl _)
        case hd =>
          have e1 : H1 D = some (.lst ((xs.map (isWh 0 .non)).map V.bl)) := by rw [e1, List.map_map]; rfl
          wtm_at "gs"
          refine cast_bl (k _ (by wtm_at "same")) (fin _ (by omega) (by omega) ?_).symm
          rw [List.all_map]
          rfl
      · exact cast_bl (k _ (by wtm_at "same")) (out (by omega))
      · exact cast_bl (k _ (by wtm_at "same")) (out (by omega))
theorem ok_Counts_init (T : Txt K mg a) : FnOk P w K mg base (L2.CX P w) 3 a.Counts_init a.d_Counts_init ["self", "numbers"] (spCI K a) := by
  refine fund_okX T.F_Counts_init sc_Counts_init (fun vs H Q E h => ?_) (fun cdv A outer s H vs Q E hr tk hp h => ?_)
  · obtain ⟨x, dx, v, rfl, hx, h⟩ := h
    rfl
  · obtain ⟨x, dx, v, rfl, hx, h⟩ := h
    refine ⟨_, (pss_cons (ps_if (pt_not (pt_val (pe_call (ok_are_numbers (K := K) T) (hr.mono (by decide)) (by rfl) T.m_are_numbers T.F_are_numbers.kp T.B_are_numbers .nil pass0 (pa_cons (pv 1) pa_nil)))) (pss_one (ps_raiseM rfl tk (pmk_exc T.o_NoCounts T.oi_NoCounts T.ot_NoCounts (ok_NoCounts_init (K := K) T) (hr.mono (by decide)) T.B_NoCounts_init (by rfl) T.m_NoCounts (pa_cons (pv 1) pa_nil)))) pss_nil)
    (pss_one (ps_fldK (K := K) (pv 0) (pe_callTy (call_tupOf (K := K)) (by rfl) T.b_tuple (by decide +kernel) (pa_cons (pv 1) pa_nil))))), ?_⟩
    clear tk hp
    dsimp only [L2.start, List.map_cons, List.map_nil, List.map, List.length_cons, List.length_nil, Nat.reduceAdd, Nat.reduceSub, List.replicate, List.cons_append, List.nil_append]
    rcases h with ⟨p, xs, rfl, np, hs, kn, hl, ky, kz⟩ | ⟨hn, kz⟩
    case inr =>
      wtm_at "gs"
      exact kz _ _ (by wtm_at "rz") (by wtm_at "rz")
    cases ha : areL xs with
    | false =>
      wtm_at "gs"
      exact kz ha _ _ (by wtm_at "rz") (by wtm_at "rz")
    | true =>
      obtain ⟨ns, rfl, p0, p1, p2⟩ := areL_ns ha
      rcases hs with hs | hs
      all_goals
        wtm_at "gs"
        exact ky ha _ (by wtm_at "but") _ rfl ⟨_, _, upd_same' rfl, by wtm_at "sq", p0, p1, p2⟩
theorem ok_Counts_told (T : Txt K mg a) : FnOk P w K mg base CX0 1 a.Counts_told a.d_Counts_told ["self"] (spTold K a) := by
  refine fund_ok0 T.F_Counts_told sc_Counts_told (fun vs H Q E h => ?_) (fun cdv A outer s H vs Q E hr h => ?_)
  · obtain ⟨c, ns, rfl, hc, k⟩ := h
    rfl
  · obtain ⟨c, ns, rfl, hc, k⟩ := h
    refine ⟨_, (pss_one (ps_ret (pe_fldK (K := K) (pv 0)))), ?_⟩
    dsimp only [L2.start, List.map_cons, List.map_nil, List.map, List.length_cons, List.length_nil, Nat.reduceAdd, Nat.reduceSub, List.replicate, List.cons_append, List.nil_append]
    obtain ⟨dx, t, h1, h2, h3⟩ := hc
    wtm_at "gs"
    exact k _ h2
theorem ok_Counts_need_like (T : Txt K mg a) : FnOk P w K mg base (L2.CX P w) 3 a.Counts_need_like a.d_Counts_need_like ["self", "other"] (spLike K a) := by
  refine fund_okX T.F_Counts_need_like sc_Counts_need_like (fun vs H Q E h => ?_) (fun cdv A outer s H vs Q E hr tk hp h => ?_)
  · obtain ⟨c, ns, o, rfl, hc, h⟩ := h
    rfl
  · obtain ⟨c, ns, o, rfl, hc, h⟩ := h
    refine ⟨_, (pss_cons (ps_if (pt_not (pt_val (pe_callB (call_isiC (K := K) T.i_Counts) (by rfl) T.b_isinstance (by decide +kernel) (pa_cons (pv 1) (pa_cons (pe_glob rfl T.m_Counts (show RelV (V.ref a.Counts) _ from rfl)) pa_nil))))) (pss_one (ps_raiseM rfl tk (pmk_exc T.o_NoCounts T.oi_NoCounts T.ot_NoCounts (ok_NoCounts_init (K := K) T) (hr.mono (by decide)) T.B_NoCounts_init (by rfl) T.m_NoCounts (pa_cons (pv 1) pa_nil)))) pss_nil)
    (pss_one (ps_if (pt_cmpR (op_neU hr.units (K := K)) (pe_callB (call_lenU (K := K)) (by rfl) T.b_len (by decide +kernel) (pa_cons (pe_meth0 (pv 1) T.c_Counts T.M_Counts_told (ok_Counts_told (K := K) T) (hr.mono (by decide)) T.B_Counts_told .nil pass0) pa_nil)) (pe_callB (call_lenU (K := K)) (by rfl) T.b_len (by decide +kernel) (pa_cons (pe_fldK (K := K) (pv 0)) pa_nil)) (nomark _)) (pss_one (ps_raiseM rfl tk (pmk_exc T.o_Unlike T.oi_Unlike T.ot_Unlike (ok_Unlike_init (K := K) T) (hr.mono (by decide)) T.B_Unlike_init (by rfl) T.m_Unlike (pa_cons (pv 1) pa_nil)))) pss_nil))), ?_⟩
    clear tk hp
    dsimp only [L2.start, List.map_cons, List.map_nil, List.map, List.length_cons, List.length_nil, Nat.reduceAdd, Nat.reduceSub, List.replicate, List.cons_append, List.nil_append]
    rcases h with ⟨c2, ms, rfl, hc2, hh⟩ | ⟨hn, k⟩
    case inr =>
      wtm_at "gs"
      exact k _ _ (by wtm_at "rz") (by wtm_at "rz")
    obtain ⟨dx, t, h1, h2, h3⟩ := id hc
    obtain ⟨dx2, t2, g1, g2, g3⟩ := id hc2
    have lm : (ms.map V.int).length = ms.length := List.length_map ..
    have ln : (ns.map V.int).length = ns.length := List.length_map ..
    wtm_at "gs"
    all_goals
      rcases hh with ⟨e, k⟩ | ⟨e, k⟩
      all_goals first | exact k | (exfalso; omega) | exact k _ _ (by wtm_at "rz") (by wtm_at "rz")
theorem ok_Counts_joined (T : Txt K mg a) : FnOk P w K mg base (L2.CX P w) 5 a.Counts_joined a.d_Counts_joined ["self", "other"] (spJoin K a maxP) := by
  refine fund_okX T.F_Counts_joined sc_Counts_joined (fun vs H Q E h => ?_) (fun cdv A outer s H vs Q E hr tk hp h => ?_)
  · obtain ⟨c, ns, o, rfl, hc, h⟩ := h
    rfl
  · obtain ⟨c, ns, o, rfl, hc, h⟩ := h
    refine ⟨_, (pss_cons (ps_expr (pe_methS (pv 0) T.c_Counts T.M_Counts_need_like (ok_Counts_need_like (K := K) T) (hr.mono (by decide)) T.B_Counts_need_like .nil (passAt tk) (pa_cons (pv 1) pa_nil)))
    (pss_one (ps_ret (pe_makeS T.mk_Counts (ok_Counts_init (K := K) T) (hr.mono (by decide)) (by rfl) T.m_Counts T.B_Counts_init .nil (passAt tk) (pa_cons (pe_lc (own := [("mine", 2), ("theirs", 3)]) rfl sc_Counts_joined.nd (pi_zipK (K := K) (by rfl) T.b_zip (pa_cons (pe_fldK (K := K) (pv 0)) (pa_cons (pe_meth0 (pv 1) T.c_Counts T.M_Counts_told (ok_Counts_told (K := K) T) (hr.mono (by decide)) T.B_Counts_told .nil pass0) pa_nil))) (blkOk_by (own := [("mine", 2), ("theirs", 3)]) (N := ["self", "other", "mine", "theirs"]) (sc := defScope s_Counts_joined) (by decide +kernel)) (fun _ _ _ _ _ => (pg_tupK (K := K) (n := 2) rfl (pgs_cons (pg_name (i := 2) sc_Counts_joined.nd rfl (by first | exact Or.inl rfl | exact Or.inr rfl)) (pgs_cons (pg_name (i := 3) sc_Counts_joined.nd rfl (by first | exact Or.inl rfl | exact Or.inr rfl)) pgs_nil)))) (fun _ _ _ _ _ => pts_nil) (fun _ _ _ _ _ => (pe_callB (call_maxU rfl) (by rfl) T.b_max (by decide +kernel) (pa_cons (pv 2) (pa_cons (pv 3) pa_nil))))) pa_nil))))), ?_⟩
    clear tk hp
    dsimp only [L2.start, List.map_cons, List.map_nil, List.map, List.length_cons, List.length_nil, Nat.reduceAdd, Nat.reduceSub, List.replicate, List.cons_append, List.nil_append]
    obtain ⟨dx, t, h1, h2, h3⟩ := id hc
    rcases h with ⟨c2, ms, rfl, hc2, hh⟩ | ⟨hn, k⟩
    case inr =>
      wtm_at "gs"
      exact k _ _ (by wtm_at "rz") (by wtm_at "rz")
    rcases hh with ⟨e, k⟩ | ⟨e, k⟩
    case inr =>
      wtm_at "gs"
      exact k _ _ (by wtm_at "rz") (by wtm_at "rz")
    obtain ⟨dx2, t2, g1, g2, g3⟩ := id hc2
    wtm_at "gs"
    intro D hD
    refine' lc_zipT (fun x y => .int (maxP (vI x) (vI y))) ?h0 ?h1 hD ?hl (fun i x y hx hy H1 T1 Q1 R1 s1 ht k1 => ?hs) (fun H1 s1 e1 => ?hd)
    case h0 => wtm_at "sq"
    case h1 => wtm_at "sq"
    case hl =>
      rw [List.length_map, List.length_map]
      omega
    case hs =>
      obtain ⟨n, _, rfl, _⟩ := map_int_at hx
      obtain ⟨m, _, rfl, _⟩ := map_int_at hy
      wtm_at "gs"
      exact k1 _ (by wtm_at "rz")
    case hd =>
      rw [zw_int] at e1
      have ge : ∀ n ∈ List.zipWith maxP ns ms, 0 ≤ n := zw_ge (fun i j h1 h2 => by unfold maxP; split <;> assumption) h3.1 g3.1
      have lz : (List.zipWith maxP ns ms).length = ns.length := by rw [List.length_zipWith]; omega
      wtm_at "gs"
      exact k _ _ (by wtm_at "same") hct
end

/-- a row of n drawn numbers; the pool at p goes on -/
def spNums : Sp := fun vs H Q _ => ∃ p m n, vs = [.ref p, .int n] ∧ H p = some (.lst [.int m]) ∧ 0 ≤ n ∧ n ≤ 1000 ∧ ∀ H' m' r (ns : List Int), SameBut p H H' → H' p = some (.lst [.int m']) → H r = none → H' r = some (.lst (ns.map V.int)) → (ns.length : Int) = n → (∀ x ∈ ns, 0 ≤ x) → Q (.ref r) H'
theorem nums_use {H : Hp} {Q : VK} {E : XK} {vs : List V} {p : Addr} {m n : Int} (h1 : H p = some (.lst [.int m])) (h2 : 0 ≤ n) (h3 : n ≤ 1000)
    (h : ∀ H' m' r (ns : List Int), SameBut p H H' → H' p = some (.lst [.int m']) → H r = none → H' r = some (.lst (ns.map V.int)) → (ns.length : Int) = n → (∀ x ∈ ns, 0 ≤ x) → Q (.ref r) H') (he : vs = [.ref p, .int n] := by rfl) : spNums vs H Q E := ⟨p, m, n, he, h1, h2, h3, h⟩
theorem ints_of : ∀ {ys : List V}, (∀ y ∈ ys, ∃ n : Int, y = .int n ∧ 0 ≤ n) → ∃ ns : List Int, ys = ns.map V.int ∧ ∀ x ∈ ns, 0 ≤ x
  | [], _ => ⟨[], rfl, fun _ h => nomatch h⟩
  | y :: ys, h => by
    obtain ⟨n, rfl, hn⟩ := h y List.mem_cons_self
    obtain ⟨ns, rfl, k⟩ := ints_of fun z hz => h z (List.mem_cons_of_mem _ hz)
    exact ⟨n :: ns, rfl, fun x hx => by
      rcases List.mem_cons.mp hx with rfl | hx
      · exact hn
      · exact k x hx⟩
set_option hygiene false in
local macro_rules | `(tactic| wtm_at "u") => `(tactic| ((with_reducible refine' nums_use ?h1 ?h2 ?h3 (fun HH m' r ns sb hp' nr hr' hl' hge => ?_) ?he); (case he => rfl); (case h1 => wtm_at "get"); (case h2 => first | assumption | omega); (case h3 => first | assumption | omega)))
/-- a row near the row at u -/
def spNear (K : PySem.W.Frag) : Sp := fun vs H Q _ => ∃ (u p : Addr) (m : Int) (ns : List Int), vs = [.ref u, .ref p] ∧ SqL K H u (ns.map V.int) ∧ H p = some (.lst [.int m]) ∧ u ≠ p ∧ ns.length ≤ 100 ∧ ∀ H' m' r (ms : List Int), SameBut p H H' → H' p = some (.lst [.int m']) → H r = none → H' r = some (.lst (ms.map V.int)) → ms.length = ns.length → (∀ x ∈ ms, 0 ≤ x) → Q (.ref r) H'
section
variable {P : Program} {w : World} {K : PySem.W.Frag} {mg : Str → Option Value} {base : Heap} {a : Ad}
theorem ok__law_numbers (T : Txt K mg a) : FnOk P w K mg base CX0 2 a._law_numbers a.d__law_numbers ["pool", "members"] (spNums) := by
  refine fund_ok0 T.F__law_numbers sc__law_numbers (fun vs H Q E h => ?_) (fun cdv A outer s H vs Q E hr h => ?_)
  · obtain ⟨p, m, n, rfl, hp, h0, h9, k⟩ := h
    rfl
  · obtain ⟨p, m, n, rfl, hp, h0, h9, k⟩ := h
    refine ⟨_, (pss_cons (ps_set (i := 2) sc__law_numbers.nd rfl (by first | exact Or.inl rfl | exact Or.inr rfl) (pe_ix (ix_U (K := K)) (pe_lst (pa_cons pe_int (pa_cons pe_int (pa_cons pe_int (pa_cons (pe_op op_powU pe_int pe_int) pa_nil))))) (pe_call (ok__law_take (K := K) T) (hr.mono (by decide)) (by rfl) T.m__law_take T.F__law_take.kp T.B__law_take .nil pass0 (pa_cons (pv 0) (pa_cons pe_int pa_nil))) (fun _ _ => rfl)))
    (pss_one (ps_ret (pe_lc (own := [("k", 3)]) rfl sc__law_numbers.nd (pi_range1 (by rfl) T.b_range (pa_cons (pv 1) pa_nil)) (blkOk_by (own := [("k", 3)]) (N := ["pool", "members", "size", "k"]) (sc := defScope s__law_numbers) (by decide +kernel)) (fun _ _ _ _ _ => (pg_name (i := 3) sc__law_numbers.nd rfl (by first | exact Or.inl rfl | exact Or.inr rfl))) (fun _ _ _ _ _ => pts_nil) (fun _ _ _ _ _ => (pe_call (ok__law_take (K := K) T) (hr.mono (by decide)) (by rfl) T.m__law_take T.F__law_take.kp T.B__law_take .nil pass0 (pa_cons (pv 0) (pa_cons (pv 2) pa_nil)))))))), ?_⟩
    dsimp only [L2.start, List.map_cons, List.map_nil, List.map, List.length_cons, List.length_nil, Nat.reduceAdd, Nat.reduceSub, List.replicate, List.cons_append, List.nil_append]
    wtm_at "gs"
    have key : ∃ s : Int, atI [V.int 2, V.int 4, V.int 30, V.int (10 ^ Int.toNat 30)] r = some (.int s) ∧ 0 < s ∧ s.natAbs.log2 < 9000 := by
      obtain rfl | rfl | rfl | rfl : r = 0 ∨ r = 1 ∨ r = 2 ∨ r = 3 := by omega
      · exact ⟨2, rfl, by decide, by decide +kernel⟩
      · exact ⟨4, rfl, by decide, by decide +kernel⟩
      · exact ⟨30, rfl, by decide, by decide +kernel⟩
      · exact ⟨10 ^ 30, rfl, by decide, by decide +kernel⟩
    obtain ⟨s, hat, hs0, hs9⟩ := key
    refine i_ixL (by wtm_at "sq") hat ?_
    wtm_at "gs"
    intro D hD
    refine' lc_pool (p := p) (fun y => ∃ n : Int, y = .int n ∧ 0 ≤ n) walk_range ?hl (fun _ => trivial) ?hp hD (fun i hi H1 m1 Q1 R1 s1 e1 k1 => ?hs) (fun H1 m1 ys s1 e1 e2 e3 e4 => ?hd)
    case hl => omega
    case hp => wtm_at "get"
    case hs =>
      wtm_at "gs"
      exact k1 _ _ _ (by wtm_at "but") (by wtm_at "get") ⟨_, rfl, hr0⟩
    case hd =>
      obtain ⟨ns, rfl, hns⟩ := ints_of e4
      rw [List.length_map] at e3
      exact k _ _ _ ns (by wtm_at "but") e1 (none_upd (none_upd hD)) e2 (by omega) hns
end

/-! ### rows of Counts joined (all_joined) -/
/-- two lists, place by place -/
def All2 {α β : Type} (R : α → β → Prop) (xs : List α) (ys : List β) : Prop := xs.length = ys.length ∧ ∀ (i : Nat) x y, xs[i]? = some x → ys[i]? = some y → R x y
theorem All2.mono {α β : Type} {R R' : α → β → Prop} {xs : List α} {ys : List β} (h : All2 R xs ys) (m : ∀ x y, R x y → R' x y) : All2 R' xs ys := ⟨h.1, fun i x y h1 h2 => m x y (h.2 i x y h1 h2)⟩
theorem All2.get {α β : Type} {R : α → β → Prop} {xs : List α} {ys : List β} (h : All2 R xs ys) {i : Nat} {x : α} (e : xs[i]? = some x) : ∃ y, ys[i]? = some y ∧ R x y := by
  have hi := (List.getElem?_eq_some_iff.mp e).1
  have hj : i < ys.length := h.1 ▸ hi
  exact ⟨ys[i], List.getElem?_eq_getElem hj, h.2 i x _ e (List.getElem?_eq_getElem hj)⟩
theorem All2.swap {α β : Type} {R : α → β → Prop} {xs : List α} {ys : List β} (h : All2 R xs ys) : All2 (fun y x => R x y) ys xs := ⟨h.1.symm, fun i y x h1 h2 => h.2 i x y h2 h1⟩
theorem All2.nil {α β : Type} {R : α → β → Prop} : All2 R [] [] := ⟨rfl, fun i x y h => by simp at h⟩
theorem All2.cons {α β : Type} {R : α → β → Prop} {x : α} {y : β} {xs : List α} {ys : List β} (h : R x y) (t : All2 R xs ys) : All2 R (x :: xs) (y :: ys) := by
  refine ⟨by rw [List.length_cons, List.length_cons, t.1], fun i u v h1 h2 => ?_⟩
  cases i with
  | zero => cases h1; cases h2; exact h
  | succ i => exact t.2 i u v h1 h2
theorem All2.append {α β : Type} {R : α → β → Prop} {xs xs' : List α} {ys ys' : List β} (h : All2 R xs ys) (t : All2 R xs' ys') : All2 R (xs ++ xs') (ys ++ ys') := by
  refine ⟨by rw [List.length_append, List.length_append, h.1, t.1], fun i u v h1 h2 => ?_⟩
  by_cases c : i < xs.length
  · rw [List.getElem?_append_left c] at h1
    rw [List.getElem?_append_left (h.1 ▸ c)] at h2
    exact h.2 i u v h1 h2
  · rw [List.getElem?_append_right (by omega)] at h1
    rw [List.getElem?_append_right (by have := h.1; omega), ← h.1] at h2
    exact t.2 _ u v h1 h2
theorem All2.take {α β : Type} {R : α → β → Prop} {xs : List α} {ys : List β} (h : All2 R xs ys) (n : Nat) : All2 R (xs.take n) (ys.take n) := by
  refine ⟨by rw [List.length_take, List.length_take, h.1], fun i u v h1 h2 => ?_⟩
  rw [List.getElem?_take] at h1 h2
  split at h1
  · rename_i c
    rw [if_pos c] at h2
    exact h.2 i u v h1 h2
  · cases h1
theorem All2.drop {α β : Type} {R : α → β → Prop} {xs : List α} {ys : List β} (h : All2 R xs ys) (n : Nat) : All2 R (xs.drop n) (ys.drop n) := by
  refine ⟨by rw [List.length_drop, List.length_drop, h.1], fun i u v h1 h2 => ?_⟩
  rw [List.getElem?_drop] at h1 h2
  exact h.2 _ u v h1 h2
theorem All2.rev {α β : Type} {R : α → β → Prop} {xs : List α} {ys : List β} (h : All2 R xs ys) : All2 R xs.reverse ys.reverse := by
  refine ⟨by rw [List.length_reverse, List.length_reverse, h.1], fun i u v h1 h2 => ?_⟩
  have hi := (List.getElem?_eq_some_iff.mp h1).1
  rw [List.length_reverse] at hi
  have e := h.1
  rw [List.getElem?_reverse hi] at h1
  rw [List.getElem?_reverse (by omega), ← e] at h2
  exact h.2 _ u v h1 h2
/-- the greatest of all, member by member -/
def jn (m : Nat) (nss : List (List Int)) : List Int := nss.foldl (fun d r => List.zipWith maxP d r) (List.replicate m 0)
theorem jn_len {m : Nat} : ∀ {nss : List (List Int)}, (∀ r ∈ nss, r.length = m) → (jn m nss).length = m := by
  intro nss
  unfold jn
  have key : ∀ (nss : List (List Int)) (d : List Int), d.length = m → (∀ r ∈ nss, r.length = m) → (nss.foldl (fun d r => List.zipWith maxP d r) d).length = m := by
    intro nss
    induction nss with
    | nil => exact fun d h _ => h
    | cons r nss ih => exact fun d h k => ih _ (by rw [List.length_zipWith, h, k r List.mem_cons_self, Nat.min_self]) fun s hs => k s (List.mem_cons_of_mem _ hs)
  exact key nss _ List.length_replicate
theorem jn_take {m : Nat} {nss : List (List Int)} {i : Nat} {r : List Int} (h : nss[i]? = some r) : jn m (nss.take (i + 1)) = List.zipWith maxP (jn m (nss.take i)) r := by
  unfold jn
  rw [take_succ_get h, List.foldl_append]
  rfl
def CtL (K : PySem.W.Frag) (a : Ad) (H : Hp) (m : Nat) (x : V) (ns : List Int) : Prop := ∃ c, x = .ref c ∧ CtAt K a H c ns ∧ ns.length = m
/-- is x a row for so many members -/
def RowB (K : PySem.W.Frag) (a : Ad) (H : Hp) (m : Nat) (x : V) (b : Bool) : Prop := (∃ c ns, x = .ref c ∧ CtAt K a H c ns ∧ b = decide (ns.length = m)) ∨ (NoC K H x ∧ b = false)
theorem CtL.same {K : PySem.W.Frag} {a : Ad} {H H' : Hp} {m : Nat} {x : V} {ns : List Int} (s : Same H H') (h : CtL K a H m x ns) : CtL K a H' m x ns := by
  obtain ⟨c, e, h1, h2⟩ := h
  exact ⟨c, e, h1.same s, h2⟩
theorem RowB.same {K : PySem.W.Frag} {a : Ad} {H H' : Hp} {m : Nat} {x : V} {b : Bool} (s : Same H H') (h : RowB K a H m x b) : RowB K a H' m x b := by
  rcases h with ⟨c, ns, e, h1, h2⟩ | ⟨h1, h2⟩
  · exact .inl ⟨c, ns, e, h1.same s, h2⟩
  · exact .inr ⟨h1.same s, h2⟩
theorem CtL.row {K : PySem.W.Frag} {a : Ad} {H : Hp} {m : Nat} {x : V} {ns : List Int} (h : CtL K a H m x ns) : RowB K a H m x true := by
  obtain ⟨c, e, h1, h2⟩ := h
  exact .inl ⟨c, ns, e, h1, (decide_eq_true h2).symm⟩
def spMem (K : PySem.W.Frag) : Sp := fun vs H Q _ => ∃ x, vs = [x] ∧ Kn K H x ∧ Q (.bl (isWh 2 (.int 5) x)) H
def spRows (K : PySem.W.Frag) (a : Ad) : Sp := fun vs H Q _ => ∃ (x : V) (m : Nat), vs = [x, .int m] ∧ ((NoSeq K H x ∧ ∀ H', Same H H' → Q (.bl false) H') ∨
  ∃ p xs bs, x = .ref p ∧ (SqL K H p xs ∨ SqT K H p xs) ∧ All2 (RowB K a H m) xs bs ∧ ∀ H', Same H H' → Q (.bl (bs.all id)) H')
def spAllJ (K : PySem.W.Frag) (a : Ad) : Sp := fun vs H Q E => ∃ (mv r : V), vs = [mv, r] ∧ ((Kn K H mv ∧ isWh 2 (.int 5) mv = false ∧ Rz a.NoNumber mv H E) ∨
  ∃ m : Nat, mv = .int m ∧ 2 ≤ m ∧ m ≤ 5 ∧ ((NoSeq K H r ∧ Rz a.NoCounts r H E) ∨
    (∃ p xs bs, r = .ref p ∧ (SqL K H p xs ∨ SqT K H p xs) ∧ All2 (RowB K a H m) xs bs ∧ bs.all id = false ∧ Rz a.NoCounts r H E) ∨
    (∃ p xs nss, r = .ref p ∧ (SqL K H p xs ∨ SqT K H p xs) ∧ All2 (CtL K a H m) xs nss ∧ ∀ H' c, Same H H' → CtAt K a H' c (jn m nss) → Q (.ref c) H')))
theorem mem_use {K : PySem.W.Frag} {H : Hp} {Q : VK} {E : XK} {vs : List V} {x : V} (h1 : Kn K H x) (h : Q (.bl (isWh 2 (.int 5) x)) H) (he : vs = [x] := by rfl) : spMem K vs H Q E := ⟨x, he, h1, h⟩
theorem memI_use {K : PySem.W.Frag} {H : Hp} {Q : VK} {E : XK} {vs : List V} {m : Int} (h0 : 2 ≤ m ∧ m ≤ 5) (h : Q (.bl true) H) (he : vs = [.int m] := by rfl) : spMem K vs H Q E := ⟨_, he, trivial, cast_bl h (by simp [isWh, h0.1, h0.2])⟩
theorem rowsN_use {K : PySem.W.Frag} {a : Ad} {H : Hp} {Q : VK} {E : XK} {vs : List V} {x : V} {m : Nat} (h1 : NoSeq K H x) (h : ∀ H', Same H H' → Q (.bl false) H') (he : vs = [x, .int m] := by rfl) : spRows K a vs H Q E := ⟨x, m, he, .inl ⟨h1, h⟩⟩
theorem rows_use {K : PySem.W.Frag} {a : Ad} {H : Hp} {Q : VK} {E : XK} {vs : List V} {p : Addr} {m : Nat} {xs : List V} {bs : List Bool} (h1 : SqL K H p xs ∨ SqT K H p xs) (h2 : All2 (RowB K a H m) xs bs) (h : ∀ H', Same H H' → Q (.bl (bs.all id)) H') (he : vs = [.ref p, .int m] := by rfl) : spRows K a vs H Q E := ⟨_, m, he, .inr ⟨p, xs, bs, rfl, h1, h2, h⟩⟩
set_option hygiene false in
local macro_rules | `(tactic| wtm_at "u") => `(tactic| first
  | ((with_reducible refine' memI_use ?h0 ?_ ?he); (case he => rfl); (case h0 => first | wtm_at "as" | omega))
  | ((with_reducible refine' mem_use ?h1 ?_ ?he); (case he => rfl); (case h1 => wtm_at "kn"))
  | ((with_reducible refine' rowsN_use ?h1 (fun HH sm => ?_) ?he); (case he => rfl); (case h1 => wtm_at "nos"))
  | ((with_reducible refine' rows_use ?h1 ?h2 (fun HH sm => ?_) ?he); (case he => rfl); (case h1 => first | wtm_at "as" | exact .inl (by wtm_at "sq") | exact .inr (by wtm_at "sq")); (case h2 => wtm_at "as")) | fail)
section
variable {P : Program} {w : World} {K : PySem.W.Frag} {mg : Str → Option Value} {base : Heap} {a : Ad}
theorem ok_NoNumber_init (T : Txt K mg a) : FnOk P w K mg base CX0 1 a.NoNumber_init a.d_NoNumber_init ["self", "found"] (spExI a.NoNumber "found") := by
  refine fund_ok0 T.F_NoNumber_init sc_NoNumber_init (fun vs H Q E h => ?_) (fun cdv A outer s H vs Q E hr h => ?_)
  · obtain ⟨b, v, rfl, h⟩ := h
    rfl
  · exact ⟨_, pss_cons (ps_expr (pe_hinit (by rfl) T.m_HallError T.hs_HallError T.hq_HallError T.hf_HallError (pa_cons (pv 0) (pa_cons pe_str pa_nil)))) (pss_one (ps_ost (pv 0) (pv 1))), exc_read rfl T.o_NoNumber T.n_NoNumber_found h⟩
theorem ok_are_members (T : Txt K mg a) : FnOk P w K mg base CX0 2 a.are_members a.d_are_members ["thing"] (spMem K) := by
  refine fund_ok0 T.F_are_members sc_are_members (fun vs H Q E h => ?_) (fun cdv A outer s H vs Q E hr h => ?_)
  · obtain ⟨x, rfl, kn, k⟩ := h
    rfl
  · obtain ⟨x, rfl, kn, k⟩ := h
    refine ⟨_, (pss_one (ps_ret (pe_call (ok_is_whole (K := K) T) (hr.mono (by decide)) (by rfl) T.m_is_whole T.F_is_whole.kp T.B_is_whole .nil pass0 (pa_cons (pv 0) (pa_cons (pe_globE rfl T.g_LEAST_MEMBERS) (pa_cons (pe_globE rfl T.g_MOST_MEMBERS) pa_nil)))))), ?_⟩
    dsimp only [L2.start, List.map_cons, List.map_nil, List.map, List.length_cons, List.length_nil, Nat.reduceAdd, Nat.reduceSub, List.replicate, List.cons_append, List.nil_append]
    wtm_at "gs"
    exact k
theorem ok_are_rows (T : Txt K mg a) : FnOk P w K mg base CX0 2 a.are_rows a.d_are_rows ["thing", "members"] (spRows K a) := by
  refine fund_ok0 T.F_are_rows sc_are_rows (fun vs H Q E h => ?_) (fun cdv A outer s H vs Q E hr h => ?_)
  · obtain ⟨x, m, rfl, h⟩ := h
    rfl
  · obtain ⟨x, m, rfl, h⟩ := h
    refine ⟨_, (pss_cons (ps_if (pt_not (pt_val (pe_callB (call_isiBs [.lst, .tup] (K := K)) (by rfl) T.b_isinstance (by decide +kernel) (pa_cons (pv 0) (pa_cons (pe_tup (pa_cons (pe_bltn (v := .ty "list") (u := .type "list") (by rfl) T.b_list (by decide +kernel) rfl) (pa_cons (pe_bltn (v := .ty "tuple") (u := .type "tuple") (by rfl) T.b_tuple (by decide +kernel) rfl) pa_nil))) pa_nil))))) (pss_one (ps_ret pe_bl)) pss_nil)
    (pss_cons (ps_for PassesOwn.never rfl (pi_seqK (K := K) (pv 0)) (pg_name (i := 2) sc_are_rows.nd rfl (by first | exact Or.inl rfl | exact Or.inr rfl))
    (pss_one (ps_if (PW.pt (pw_or (pt_not (pt_val (pe_callB (call_isiC (K := K) T.i_Counts) (by rfl) T.b_isinstance (by decide +kernel) (pa_cons (pv 2) (pa_cons (pe_glob rfl T.m_Counts (show RelV (V.ref a.Counts) _ from rfl)) pa_nil))))) (pw_or1 (pt_cmpR (op_neU hr.units (K := K)) (pe_callB (call_lenU (K := K)) (by rfl) T.b_len (by decide +kernel) (pa_cons (pe_meth0 (pv 2) T.c_Counts T.M_Counts_told (ok_Counts_told (K := K) T) (hr.mono (by decide)) T.B_Counts_told .nil pass0) pa_nil)) (pv 1) (nomark _))))) (pss_one (ps_ret pe_bl)) pss_nil)))
    (pss_one (ps_ret pe_bl)))), ?_⟩
    dsimp only [L2.start, List.map_cons, List.map_nil, List.map, List.length_cons, List.length_nil, Nat.reduceAdd, Nat.reduceSub, List.replicate, List.cons_append, List.nil_append]
    rcases h with ⟨hn, k⟩ | ⟨p, xs, bs, rfl, hs, hb, k⟩
    · wtm_at "gs"
      exact k _ (by wtm_at "same")
    · rcases hs with hs | hs
      all_goals wtm_at "gs"
      all_goals
       first
        | refine' for_seqL (fun i σ H' => (∃ v2, σ = [some (.ref p), some (.int m), v2]) ∧ (bs.take i).all id = true) (by wtm_at "sq") ⟨⟨_, rfl⟩, rfl⟩ (fun i x σ H1 hi s1 hP => ?_) (fun σ H1 s1 hP => ?_)
        | refine' for_seqI (fun i σ H' => (∃ v2, σ = [some (.ref p), some (.int m), v2]) ∧ (bs.take i).all id = true) (by wtm_at "sq") ⟨⟨_, rfl⟩, rfl⟩ (fun i x σ H1 hi s1 hP => ?_) (fun σ H1 s1 hP => ?_)
       · obtain ⟨⟨v2, rfl⟩, ha⟩ := hP
         obtain ⟨b, eb, hr⟩ := hb.get hi
         have no : b = false → bs.all id = false := fun e => by
           rw [List.all_eq_false]
           exact ⟨b, List.mem_of_getElem? eb, by rw [e]; decide⟩
         have yes : b = true → (bs.take (i + 1)).all id = true := fun e => by
           rw [take_succ_get eb, List.all_append, ha, e]
           rfl
         have hr := hr.same (show Same H H1 from by wtm_at "same")
         rcases hr with ⟨c, ns, rfl, hc, e⟩ | ⟨hn, e⟩
         · have ln : (ns.map V.int).length = ns.length := List.length_map ..
           wtm_at "gs"
           · rename_i hne
             exact ⟨by wtm_at "same", ⟨_, rfl⟩, yes (e.trans (decide_eq_true (by omega)))⟩
           · rename_i hne
             exact cast_bl (k _ (by wtm_at "same")) (no (e.trans (decide_eq_false (by omega))))
         · wtm_at "gs"
           exact cast_bl (k _ (by wtm_at "same")) (no e)
       · obtain ⟨⟨v2, rfl⟩, ha⟩ := hP
         rw [hb.1, List.take_length] at ha
         wtm_at "gs"
         exact cast_bl (k _ (by wtm_at "same")) ha
theorem ok_all_joined (T : Txt K mg a) : FnOk P w K mg base (L2.CX P w) 6 a.all_joined a.d_all_joined ["members", "rows"] (spAllJ K a) := by
  refine fund_okX T.F_all_joined sc_all_joined (fun vs H Q E h => ?_) (fun cdv A outer s H vs Q E hr tk hp h => ?_)
  · obtain ⟨mv, r, rfl, h⟩ := h
    rfl
  · obtain ⟨mv, r, rfl, h⟩ := h
    refine ⟨_, (pss_cons (ps_if (pt_not (pt_val (pe_call (ok_are_members (K := K) T) (hr.mono (by decide)) (by rfl) T.m_are_members T.F_are_members.kp T.B_are_members .nil pass0 (pa_cons (pv 0) pa_nil)))) (pss_one (ps_raiseM rfl tk (pmk_exc T.o_NoNumber T.oi_NoNumber T.ot_NoNumber (ok_NoNumber_init (K := K) T) (hr.mono (by decide)) T.B_NoNumber_init (by rfl) T.m_NoNumber (pa_cons (pv 0) pa_nil)))) pss_nil)
    (pss_cons (ps_if (pt_not (pt_val (pe_call (ok_are_rows (K := K) T) (hr.mono (by decide)) (by rfl) T.m_are_rows T.F_are_rows.kp T.B_are_rows .nil pass0 (pa_cons (pv 1) (pa_cons (pv 0) pa_nil))))) (pss_one (ps_raiseM rfl tk (pmk_exc T.o_NoCounts T.oi_NoCounts T.ot_NoCounts (ok_NoCounts_init (K := K) T) (hr.mono (by decide)) T.B_NoCounts_init (by rfl) T.m_NoCounts (pa_cons (pv 1) pa_nil)))) pss_nil)
    (pss_cons (ps_set (i := 2) sc_all_joined.nd rfl (by first | exact Or.inl rfl | exact Or.inr rfl) (pe_makeS T.mk_Counts (ok_Counts_init (K := K) T) (hr.mono (by decide)) (by rfl) T.m_Counts T.B_Counts_init .nil (passAt tk) (pa_cons (pe_op op_mulU (pe_lst (pa_cons pe_int pa_nil)) (pv 0)) pa_nil)))
    (pss_cons (ps_for hp rfl (pi_seqK (K := K) (pv 1)) (pg_name (i := 3) sc_all_joined.nd rfl (by first | exact Or.inl rfl | exact Or.inr rfl))
    (pss_one (ps_set (i := 2) sc_all_joined.nd rfl (by first | exact Or.inl rfl | exact Or.inr rfl) (pe_methS (pv 2) T.c_Counts T.M_Counts_joined (ok_Counts_joined (K := K) T) (hr.mono (by decide)) T.B_Counts_joined .nil (passAt tk) (pa_cons (pv 3) pa_nil)))))
    (pss_one (ps_ret (pv 2))))))), ?_⟩
    clear tk hp
    dsimp only [L2.start, List.map_cons, List.map_nil, List.map, List.length_cons, List.length_nil, Nat.reduceAdd, Nat.reduceSub, List.replicate, List.cons_append, List.nil_append]
    rcases h with ⟨kn, no, k⟩ | ⟨m, rfl, m2, m5, h⟩
    · wtm_at "gs"
      exact k _ _ (by wtm_at "rz") (by wtm_at "rz")
    rcases h with ⟨hn, k⟩ | ⟨p, xs, bs, rfl, hs, hb, ha, k⟩ | ⟨p, xs, nss, rfl, hs, hc, k⟩
    · wtm_at "gs"
      exact k _ _ (by wtm_at "rz") (by wtm_at "rz")
    · wtm_at "gs"
      exact k _ _ (by wtm_at "rz") (by wtm_at "rz")
    have hb : All2 (RowB K a H m) xs (xs.map fun _ => true) := ⟨(List.length_map ..).symm, fun i x b h1 h2 => by
      rw [List.getElem?_map, h1] at h2
      cases h2
      obtain ⟨y, _, hy⟩ := hc.get h1
      exact hy.row⟩
    have ha : (xs.map fun _ => true).all id = true := by simp
    wtm_at "gs"
    clear hb ha
    have s0 : Same H HH := by wtm_at "same"
    rcases hs with hs | hs
    all_goals wtm_at "gs"
    all_goals
     first
      | refine' for_seqL (fun i σ H' => ∃ c v3, σ = [some (.int m), some (.ref p), some (.ref c), v3] ∧ CtAt K a H' c (jn m (nss.take i))) (by wtm_at "sq") ⟨_, _, rfl, hct⟩ (fun i x σ H1 hi s1 hP => ?_) (fun σ H1 s1 hP => ?_)
      | refine' for_seqI (fun i σ H' => ∃ c v3, σ = [some (.int m), some (.ref p), some (.ref c), v3] ∧ CtAt K a H' c (jn m (nss.take i))) (by wtm_at "sq") ⟨_, _, rfl, hct⟩ (fun i x σ H1 hi s1 hP => ?_) (fun σ H1 s1 hP => ?_)
     · obtain ⟨c, v3, rfl, hc1⟩ := hP
       obtain ⟨r, er, hr⟩ := hc.get hi
       obtain ⟨c2, rfl, hc2, l2⟩ := hr.same (show Same H H1 from by wtm_at "same")
       have l1 : (jn m (nss.take i)).length = m := jn_len fun r hr => by
         obtain ⟨j, hj, e⟩ := List.getElem_of_mem hr
         obtain ⟨x, hx, _, _, _, l⟩ := (hc.take i).swap.get (show (nss.take i)[j]? = some r by rw [List.getElem?_eq_getElem hj, e])
         exact l
       have l3 : r.length = (jn m (nss.take i)).length := by omega
       wtm_at "gs"
       refine ⟨by wtm_at "same", _, _, rfl, ?_⟩
       rw [jn_take er]
       assumption
     · obtain ⟨c, v3, rfl, hc1⟩ := hP
       rw [hc.1, List.take_length] at hc1
       wtm_at "gs"
       exact k _ _ (by wtm_at "same") hc1
end

theorem allJ_num {K : PySem.W.Frag} {a : Ad} {H : Hp} {Q : VK} {E : XK} {vs : List V} {mv r : V} (h1 : Kn K H mv) (h2 : isWh 2 (.int 5) mv = false) (h : ∀ H' d, Same H H' → H' d = some (.xd [("found", mv)]) → E (.ref a.NoNumber) (some d) H') (he : vs = [mv, r] := by rfl) : spAllJ K a vs H Q E := ⟨mv, r, he, .inl ⟨h1, h2, h⟩⟩
theorem allJ_nos {K : PySem.W.Frag} {a : Ad} {H : Hp} {Q : VK} {E : XK} {vs : List V} {m : Nat} {r : V} (h0 : 2 ≤ m ∧ m ≤ 5) (h1 : NoSeq K H r) (h : ∀ H' d, Same H H' → H' d = some (.xd [("found", r)]) → E (.ref a.NoCounts) (some d) H') (he : vs = [.int m, r] := by rfl) : spAllJ K a vs H Q E := ⟨_, r, he, .inr ⟨m, rfl, h0.1, h0.2, .inl ⟨h1, h⟩⟩⟩
theorem allJ_bad {K : PySem.W.Frag} {a : Ad} {H : Hp} {Q : VK} {E : XK} {vs : List V} {m : Nat} {p : Addr} {xs : List V} {bs : List Bool} (h0 : 2 ≤ m ∧ m ≤ 5) (h1 : SqL K H p xs ∨ SqT K H p xs) (h2 : All2 (RowB K a H m) xs bs) (h3 : bs.all id = false) (h : ∀ H' d, Same H H' → H' d = some (.xd [("found", (.ref p))]) → E (.ref a.NoCounts) (some d) H') (he : vs = [.int m, .ref p] := by rfl) : spAllJ K a vs H Q E :=
  ⟨_, _, he, .inr ⟨m, rfl, h0.1, h0.2, .inr (.inl ⟨p, xs, bs, rfl, h1, h2, h3, h⟩)⟩⟩
theorem allJ_ok {K : PySem.W.Frag} {a : Ad} {H : Hp} {Q : VK} {E : XK} {vs : List V} {m : Nat} {p : Addr} {xs : List V} {nss : List (List Int)} (h0 : 2 ≤ m ∧ m ≤ 5) (h1 : SqL K H p xs ∨ SqT K H p xs) (h2 : All2 (CtL K a H m) xs nss) (h : ∀ H' c, Same H H' → CtAt K a H' c (jn m nss) → Q (.ref c) H') (he : vs = [.int m, .ref p] := by rfl) : spAllJ K a vs H Q E :=
  ⟨_, _, he, .inr ⟨m, rfl, h0.1, h0.2, .inr (.inr ⟨p, xs, nss, rfl, h1, h2, h⟩)⟩⟩
set_option hygiene false in
local macro_rules | `(tactic| wtm_at "u") => `(tactic| first
  | ((with_reducible refine' allJ_num ?h1 ?h2 (fun HH ed sm hed => ?_) ?he); (case he => rfl); (case h1 => wtm_at "kn"); (case h2 => wtm_at "as"))
  | ((with_reducible refine' allJ_nos ?h0 ?h1 (fun HH ed sm hed => ?_) ?he); (case he => rfl); (case h0 => first | wtm_at "as" | omega); (case h1 => wtm_at "nos"))
  | ((with_reducible refine' allJ_bad ?h0 ?h1 ?h2 ?h3 (fun HH ed sm hed => ?_) ?he); (case he => rfl); (case h0 => first | wtm_at "as" | omega); (case h1 => first | wtm_at "as" | exact .inl (by wtm_at "sq") | exact .inr (by wtm_at "sq")); (case h2 => wtm_at "as"); (case h3 => wtm_at "as"))
  | ((with_reducible refine' allJ_ok ?h0 ?h1 ?h2 (fun HH c sm hct => ?_) ?he); (case he => rfl); (case h0 => first | wtm_at "as" | omega); (case h1 => first | wtm_at "as" | exact .inl (by wtm_at "sq") | exact .inr (by wtm_at "sq")); (case h2 => wtm_at "as")) | fail)
def spFst (K : PySem.W.Frag) (a : Ad) : Sp := fun vs H Q _ => ∃ mv r, vs = [mv, r] ∧ (
  (Kn K H mv ∧ isWh 2 (.int 5) mv = false ∧ (NoSeq K H r ∨ ∃ p xs, r = .ref p ∧ (SqL K H p xs ∨ SqT K H p xs)) ∧ ∀ H' p, Same H H' → H' p = some (.tup [.str "number", mv]) → Q (.ref p) H') ∨
  ∃ m : Nat, mv = .int m ∧ (2 ≤ m ∧ m ≤ 5) ∧ (
    (NoSeq K H r ∧ ∀ H' p, Same H H' → H' p = some (.tup [.str "counts", r]) → Q (.ref p) H') ∨
    (∃ p xs bs, r = .ref p ∧ SqT K H p xs ∧ All2 (RowB K a H m) xs bs ∧ bs.all id = false ∧ ∀ H' q, Same H H' → H' q = some (.tup [.str "counts", r]) → Q (.ref q) H') ∨
    (∃ p xs bs, r = .ref p ∧ H p = some (.lst xs) ∧ xs.length ≤ 2000 ∧ All2 (RowB K a H m) xs bs ∧ bs.all id = false ∧ ∀ H' q xs', SameBut p H H' → H' p = some (.lst xs') → H' q = some (.tup [.str "counts", r]) → Q (.ref q) H')))
def spCell (K : PySem.W.Frag) : Sp := fun vs H Q _ => ∃ (p : Addr) (ns : List Int) (i : Int), vs = [.ref p, .int i] ∧ SqL K H p (ns.map V.int) ∧ 0 ≤ i ∧ ∀ n, Q (.int n) H
section
variable {P : Program} {w : World} {K : PySem.W.Frag} {mg : Str → Option Value} {base : Heap} {a : Ad}
theorem ok__law_first (T : Txt K mg a) : FnOk P w K mg base CX0 7 a._law_first a.d__law_first ["members", "rows"] (spFst K a) := by
  refine fund_ok0 T.F__law_first sc__law_first (fun vs H Q E h => ?_) (fun cdv A outer s H vs Q E hr h => ?_)
  · obtain ⟨mv, r, rfl, h⟩ := h
    rfl
  · obtain ⟨mv, r, rfl, h⟩ := h
    refine ⟨_, (pss_cons (ps_tryM rfl rfl sc__law_first.nd takes0 (fun W pn xe tk hp => (pss_one (ps_expr (pe_callSD (ok_all_joined (K := K) T) (hr.mono (by decide)) (by rfl) T.m_all_joined T.F_all_joined.kp T.B_all_joined .nil (passAt tk) (pa_cons (pv 0) (pa_cons (pv 1) pa_nil))))))
    (.named (i := 2) rfl rfl (.two ⟨by rfl, by decide, .inl T.m_NoNumber⟩ ⟨by rfl, by decide, .inl T.m_NoCounts⟩) (fun ea oe cls ed pn hz hf => (pss_cons (ps_if (PW.pt (pw_and (pt_val (pe_callB (call_isiB .lst (K := K)) (by rfl) T.b_isinstance (by decide +kernel) (pa_cons (pv 1) (pa_cons (pe_bltn (v := .ty "list") (u := .type "list") (by rfl) T.b_list (by decide +kernel) rfl) pa_nil)))) (pw_and1 (pt_val (pe_callB (call_isX (K := K) hz hf) (by rfl) T.b_isinstance (by decide +kernel) (pa_cons (pv 2) (pa_cons (pe_glob rfl T.m_NoCounts (show RelV (V.ref a.NoCounts) _ from rfl)) pa_nil))))))) (pss_one (ps_expr (pe_appK (K := K) (pe_bm PySem.F.plainAttrs_list PySem.F.slot_list_append PySem.F.type_list_append mt_append (pv 1) (pa_cons pe_str pa_nil))))) pss_nil)
    (pss_cons (ps_if (PW.pt (pw_or (pt_not (pt_val (pe_callB (call_isX (K := K) hz hf) (by rfl) T.b_isinstance (by decide +kernel) (pa_cons (pv 2) (pa_cons (pe_glob rfl T.m_HallError (show RelV (V.ref a.HallError) _ from rfl)) pa_nil))))) (pw_or1 (PW.pt (pw_and (pt_val (pe_callB (call_isX (K := K) hz hf) (by rfl) T.b_isinstance (by decide +kernel) (pa_cons (pv 2) (pa_cons (pe_glob rfl T.m_NoNumber (show RelV (V.ref a.NoNumber) _ from rfl)) pa_nil)))) (pw_and1 (pt_val (pe_callB (call_isX (K := K) hz hf) (by rfl) T.b_isinstance (by decide +kernel) (pa_cons (pv 2) (pa_cons (pe_glob rfl T.m_NoCounts (show RelV (V.ref a.NoCounts) _ from rfl)) pa_nil)))))))))) (pss_one (ps_ret (pe_tup (pa_cons pe_str (pa_cons (pe_xfA (K := K) hz hf (pv 2)) pa_nil))))) pss_nil)
    (pss_one (ps_ret (pe_tup (pa_cons (pe_ifExp (pt_val (pe_callB (call_isX (K := K) hz hf) (by rfl) T.b_isinstance (by decide +kernel) (pa_cons (pv 2) (pa_cons (pe_glob rfl T.m_NoNumber (show RelV (V.ref a.NoNumber) _ from rfl)) pa_nil)))) pe_str pe_str) (pa_cons (pe_xfA (K := K) hz hf (pv 2)) pa_nil)))))))) .nil) pss_nil)
    (pss_one (ps_ret (pe_tup (pa_cons pe_str (pa_cons pe_non pa_nil)))))), ?_⟩
    dsimp only [L2.start, List.map_cons, List.map_nil, List.map, List.length_cons, List.length_nil, Nat.reduceAdd, Nat.reduceSub, List.replicate, List.cons_append, List.nil_append]
    rcases h with ⟨kn, no, hr, k⟩ | ⟨m, rfl, hm, h⟩
    · rcases hr with hr | ⟨p, xs, rfl, hr | hr⟩
      all_goals wtm_at "gs"
      all_goals exact k _ _ (by wtm_at "rz") (by wtm_at "rz")
    · rcases h with ⟨hr, k⟩ | ⟨p, xs, bs, rfl, hr, hb, ha, k⟩ | ⟨p, xs, bs, rfl, hr, hl, hb, ha, k⟩
      all_goals wtm_at "gs"
      · exact k _ _ (by wtm_at "rz") (by wtm_at "rz")
      · exact k _ _ (by wtm_at "rz") (by wtm_at "rz")
      · exact k _ _ _ (by wtm_at "but") (by wtm_at "get") (by wtm_at "get")
theorem ok__law_cell_at (T : Txt K mg a) : FnOk P w K mg base CX0 1 a._law_cell_at a.d__law_cell_at ["script", "k"] (spCell K) := by
  refine fund_ok0 T.F__law_cell_at sc__law_cell_at (fun vs H Q E h => ?_) (fun cdv A outer s H vs Q E hr h => ?_)
  · obtain ⟨p, ns, i, rfl, hp, h0, k⟩ := h
    rfl
  · obtain ⟨p, ns, i, rfl, hp, h0, k⟩ := h
    refine ⟨_, (pss_cons (ps_if (pt_cmpR op_ltU (pv 1) (pe_callB (call_lenU (K := K)) (by rfl) T.b_len (by decide +kernel) (pa_cons (pv 0) pa_nil)) (nomark _)) (pss_one (ps_ret (pe_ix (ix_U (K := K)) (pv 0) (pv 1) (fun _ _ => rfl)))) pss_nil)
    (pss_one (ps_ret pe_int))), ?_⟩
    dsimp only [L2.start, List.map_cons, List.map_nil, List.map, List.length_cons, List.length_nil, Nat.reduceAdd, Nat.reduceSub, List.replicate, List.cons_append, List.nil_append]
    have ln : (ns.map V.int).length = ns.length := List.length_map ..
    wtm_at "gs"
    · obtain ⟨x, hx, _, hx'⟩ := atI_in (xs := ns.map V.int) (r := i) h0 (by assumption)
      obtain ⟨n, _, rfl⟩ := List.mem_map.mp hx
      wtm_at "gs"
      exact k _
    · exact k _
end
theorem cell_use {K : PySem.W.Frag} {H : Hp} {Q : VK} {E : XK} {vs : List V} {p : Addr} {ns : List Int} {i : Int} (h1 : SqL K H p (ns.map V.int)) (h2 : 0 ≤ i) (h : ∀ n, Q (.int n) H) (he : vs = [.ref p, .int i] := by rfl) : spCell K vs H Q E := ⟨p, ns, i, he, h1, h2, h⟩
set_option hygiene false in
local macro_rules | `(tactic| wtm_at "u") => `(tactic| first
  | ((with_reducible refine' cell_use ?h1 ?h2 (fun cn => ?_) ?he); (case he => rfl); (case h1 => wtm_at "sq"); (case h2 => first | decide | omega)) | fail)
/-- rows of ints, each m long -/
def RwL (H : Hp) (m : Nat) (x : V) (ns : List Int) : Prop := ∃ r, x = .ref r ∧ H r = some (.lst (ns.map V.int)) ∧ ns.length = m ∧ ∀ n ∈ ns, 0 ≤ n
def RwQ (q : Addr) (H : Hp) (m : Nat) (x : V) (ns : List Int) : Prop := ∃ r, x = .ref r ∧ r ≠ q ∧ H r = some (.lst (ns.map V.int)) ∧ ns.length = m ∧ ∀ n ∈ ns, 0 ≤ n
theorem RwQ.but {q : Addr} {H H' : Hp} {m : Nat} {x : V} {ns : List Int} (h : RwQ q H m x ns) (s : SameBut q H H') : RwQ q H' m x ns := by
  obtain ⟨r, h1, h2, h3, h4⟩ := h
  exact ⟨r, h1, h2, s _ _ h2 h3, h4⟩
def spLRows (K : PySem.W.Frag) : Sp := fun vs H Q _ => ∃ (p : Addr) (ns : List Int) (m c : Nat), vs = [.ref p, .int m, .int c] ∧ SqL K H p (ns.map V.int) ∧ m ≤ 5 ∧ c ≤ 500 ∧ ∀ H' q xs nss, Same H H' → H q = none → H' q = some (.lst xs) → All2 (RwL H' m) xs nss → xs.length = c → Q (.ref q) H'
def spRight (K : PySem.W.Frag) (a : Ad) : Sp := fun vs H Q _ => ∃ (m : Nat) (q p : Addr) (xs ys : List V) (nss : List (List Int)), vs = [.int m, .ref q, .ref p] ∧ 2 ≤ m ∧ m ≤ 5 ∧ SqL K H q xs ∧ (SqL K H p ys ∨ SqT K H p ys) ∧ xs.length ≤ 500 ∧ All2 (RwL H m) xs nss ∧ All2 (CtL K a H m) ys nss ∧ ∀ H', Same H H' → Q (.bl true) H'
section
variable {P : Program} {w : World} {K : PySem.W.Frag} {mg : Str → Option Value} {base : Heap} {a : Ad}
theorem ok__law_rows (T : Txt K mg a) : FnOk P w K mg base CX0 3 a._law_rows a.d__law_rows ["script", "members", "count"] (spLRows K) := by
  refine fund_ok0 T.F__law_rows sc__law_rows (fun vs H Q E h => ?_) (fun cdv A outer s H vs Q E hr h => ?_)
  · obtain ⟨p, ns, m, c, rfl, hp, hm, hc, k⟩ := h
    rfl
  · obtain ⟨p, ns, m, c, rfl, hp, hm, hc, k⟩ := h
    refine ⟨_, (pss_cons (ps_set (i := 3) sc__law_rows.nd rfl (by first | exact Or.inl rfl | exact Or.inr rfl) (pe_lst pa_nil))
    (pss_cons (ps_for PassesOwn.never rfl (pi_range1 (by rfl) T.b_range (pa_cons (pv 2) pa_nil)) (pg_name (i := 4) sc__law_rows.nd rfl (by first | exact Or.inl rfl | exact Or.inr rfl))
    (pss_cons (ps_set (i := 5) sc__law_rows.nd rfl (by first | exact Or.inl rfl | exact Or.inr rfl) (pe_ifExp (pt_cmpR op_ltU (pv 4) pe_int (nomark _)) (pe_call (ok__law_cell_at (K := K) T) (hr.mono (by decide)) (by rfl) T.m__law_cell_at T.F__law_cell_at.kp T.B__law_cell_at .nil pass0 (pa_cons (pv 0) (pa_cons (pe_op (op_addU (K := K)) pe_int (pv 4)) pa_nil))) (pe_op (op_addU (K := K)) (pe_op (op_addU (K := K)) (pe_op op_mulU (pe_op op_modU (pe_call (ok__law_cell_at (K := K) T) (hr.mono (by decide)) (by rfl) T.m__law_cell_at T.F__law_cell_at.kp T.B__law_cell_at .nil pass0 (pa_cons (pv 0) (pa_cons (pe_op op_modU (pv 4) pe_int) pa_nil))) pe_int) pe_int) (pe_op op_mulU (pe_op op_mulU (pv 4) (pv 4)) pe_int)) pe_int)))
    (pss_one (ps_expr (pe_appK (K := K) (pe_bm PySem.F.plainAttrs_list PySem.F.slot_list_append PySem.F.type_list_append mt_append (pv 3) (pa_cons (pe_call (ok__law_numbers (K := K) T) (hr.mono (by decide)) (by rfl) T.m__law_numbers T.F__law_numbers.kp T.B__law_numbers .nil pass0 (pa_cons (pe_call (ok__law_pool (K := K) T) (hr.mono (by decide)) (by rfl) T.m__law_pool T.F__law_pool.kp T.B__law_pool .nil pass0 (pa_cons (pv 5) pa_nil)) (pa_cons (pv 1) pa_nil))) pa_nil)))))))
    (pss_one (ps_ret (pv 3))))), ?_⟩
    dsimp only [L2.start, List.map_cons, List.map_nil, List.map, List.length_cons, List.length_nil, Nat.reduceAdd, Nat.reduceSub, List.replicate, List.cons_append, List.nil_append]
    wtm_at "gs"
    revert q
    intro oq hoq
    refine for_range (lo := 0) (n := (c : Int).toNat) (fun i σ H' => ∃ (v4 v5 : Option V) (xs : List V) (nss : List (List Int)), σ = [some (.ref p), some (.int m), some (.int c), some (.ref oq), v4, v5] ∧ Same H H' ∧ H' oq = some (.lst xs) ∧ All2 (RwQ oq H' m) xs nss ∧ xs.length = i)
      ⟨none, none, [], [], rfl, by wtm_at "same", by wtm_at "get", All2.nil, rfl⟩ ?_ ?_
    · rintro i σ H1 hi ⟨v4, v5, xs, nss, rfl, s1, e1, ha, hl⟩
      have hi : i < 500 := by omega
      have kk : ((0 + (i : Int)) * (0 + (i : Int))).natAbs ≤ 500 * 500 := by
        rw [Int.natAbs_mul]
        exact Nat.mul_le_mul (by omega) (by omega)
      have nq : ∀ r, H1 r = none → r ≠ oq := fun r h z => by rw [z, e1] at h; cases h
      wtm_at "gs"
      all_goals
        have nrq : r ≠ oq := nq r (none_upd nr)
        refine ⟨_, _, xs ++ [.ref r], nss ++ [ns], rfl, by wtm_at "same", by wtm_at "get", ?_, by rw [List.length_append, hl]; rfl⟩
        refine All2.append (ha.mono fun x y h => h.but (by wtm_at "but")) (All2.cons ⟨r, rfl, nrq, by wtm_at "get", by omega, hge⟩ All2.nil)
    · rintro σ H1 ⟨v4, v5, xs, nss, rfl, s1, e1, ha, hl⟩
      wtm_at "gs"
      exact k _ _ _ nss s1 hoq e1 (ha.mono fun x y ⟨r, h1, _, h2⟩ => ⟨r, h1, h2⟩) (by omega)
theorem ok__law_right (T : Txt K mg a) : FnOk P w K mg base CX0 7 a._law_right a.d__law_right ["members", "rows", "handed"] (spRight K a) := by
  refine fund_ok0 T.F__law_right sc__law_right (fun vs H Q E h => ?_) (fun cdv A outer s H vs Q E hr h => ?_)
  · obtain ⟨m, rq, p, xs, ys, nss, rfl, m2, m5, hrq, hp, hl, hx, hy, k⟩ := h
    rfl
  · obtain ⟨m, rq, p, xs, ys, nss, rfl, m2, m5, hrq, hp, hl, hx, hy, k⟩ := h
    refine ⟨_, (pss_cons (ps_set (i := 3) sc__law_right.nd rfl (by first | exact Or.inl rfl | exact Or.inr rfl) (pe_callSD (ok_all_joined (K := K) T) (hr.mono (by decide)) (by rfl) T.m_all_joined T.F_all_joined.kp T.B_all_joined .nil (passAt takes0) (pa_cons (pv 0) (pa_cons (pv 2) pa_nil))))
    (pss_cons (ps_set (i := 4) sc__law_right.nd rfl (by first | exact Or.inl rfl | exact Or.inr rfl) (pe_op op_mulU (pe_lst (pa_cons pe_int pa_nil)) (pv 0)))
    (pss_cons (ps_for PassesOwn.never rfl (pi_listK (K := K) (pv 1)) (pg_name (i := 5) sc__law_right.nd rfl (by first | exact Or.inl rfl | exact Or.inr rfl))
    (pss_one (ps_set (i := 4) sc__law_right.nd rfl (by first | exact Or.inl rfl | exact Or.inr rfl) (pe_lc (own := [("k", 6)]) rfl sc__law_right.nd (pi_range1 (by rfl) T.b_range (pa_cons (pv 0) pa_nil)) (blkOk_by (own := [("k", 6)]) (N := ["members", "rows", "handed", "told", "due", "row", "k", "counts"]) (sc := defScope s__law_right) (by decide +kernel)) (fun _ _ _ _ _ => (pg_name (i := 6) sc__law_right.nd rfl (by first | exact Or.inl rfl | exact Or.inr rfl))) (fun _ _ _ _ _ => pts_nil) (fun _ _ _ _ _ => (pe_callB (call_maxU rfl) (by rfl) T.b_max (by decide +kernel) (pa_cons (pe_ix (ix_U (K := K)) (pv 4) (pv 6) (fun _ _ => rfl)) (pa_cons (pe_ix (ix_U (K := K)) (pv 5) (pv 6) (fun _ _ => rfl)) pa_nil))))))))
    (pss_cons (ps_if (PW.pt (pw_or (pt_not (pt_val (pe_callB (call_isiC (K := K) T.i_Counts) (by rfl) T.b_isinstance (by decide +kernel) (pa_cons (pv 3) (pa_cons (pe_glob rfl T.m_Counts (show RelV (V.ref a.Counts) _ from rfl)) pa_nil))))) (pw_or1 (pt_cmpR (op_neU hr.units (K := K)) (pe_meth0 (pv 3) T.c_Counts T.M_Counts_told (ok_Counts_told (K := K) T) (hr.mono (by decide)) T.B_Counts_told .nil pass0) (pe_callTy (call_tupOf (K := K)) (by rfl) T.b_tuple (by decide +kernel) (pa_cons (pv 4) pa_nil)) (nomark _))))) (pss_one (ps_ret pe_bl)) pss_nil)
    (pss_one (ps_ret (pe_cmpR (op_eqU hr.units (K := K)) (pe_lc (own := [("counts", 7)]) rfl sc__law_right.nd (pi_seqK (K := K) (pv 2)) (blkOk_by (own := [("counts", 7)]) (N := ["members", "rows", "handed", "told", "due", "row", "k", "counts"]) (sc := defScope s__law_right) (by decide +kernel)) (fun _ _ _ _ _ => (pg_name (i := 7) sc__law_right.nd rfl (by first | exact Or.inl rfl | exact Or.inr rfl))) (fun _ _ _ _ _ => pts_nil) (fun _ _ _ _ _ => (pe_meth0 (pv 7) T.c_Counts T.M_Counts_told (ok_Counts_told (K := K) T) (hr.mono (by decide)) T.B_Counts_told .nil pass0))) (pe_lc (own := [("row", 5)]) rfl sc__law_right.nd (pi_listK (K := K) (pv 1)) (blkOk_by (own := [("row", 5)]) (N := ["members", "rows", "handed", "told", "due", "row", "k", "counts"]) (sc := defScope s__law_right) (by decide +kernel)) (fun _ _ _ _ _ => (pg_name (i := 5) sc__law_right.nd rfl (by first | exact Or.inl rfl | exact Or.inr rfl))) (fun _ _ _ _ _ => pts_nil) (fun _ _ _ _ _ => (pe_callTy (call_tupOf (K := K)) (by rfl) T.b_tuple (by decide +kernel) (pa_cons (pv 5) pa_nil)))) (nomark _)))))))), ?_⟩
    dsimp only [L2.start, List.map_cons, List.map_nil, List.map, List.length_cons, List.length_nil, Nat.reduceAdd, Nat.reduceSub, List.replicate, List.cons_append, List.nil_append]
    have len : ∀ r ∈ nss, r.length = m := fun r hr => by
      obtain ⟨j, hj, e⟩ := List.getElem_of_mem hr
      obtain ⟨x, _, _, _, _, l, _⟩ := hx.swap.get (show nss[j]? = some r by rw [List.getElem?_eq_getElem hj, e])
      exact l
    have lent : ∀ i, (jn m (nss.take i)).length = m := fun i => jn_len fun r hr => len r (List.mem_of_mem_take hr)
    wtm_at "gs"
    rw [Int.toNat_natCast]
    refine' for_seqL (fun i σ H' => ∃ d v5 v6 v7, σ = [some (.int m), some (.ref rq), some (.ref p), some (.ref c), some (.ref d), v5, v6, v7] ∧ H' d = some (.lst ((jn m (nss.take i)).map V.int))) (by wtm_at "sq") ⟨_, _, _, _, rfl, by wtm_at "get"⟩ (fun i x σ H1 hi s1 hP => ?hs) (fun σ H1 s1 hP => ?hd)
    case hs =>
      obtain ⟨d, v5, v6, v7, rfl, hd⟩ := hP
      obtain ⟨r, er, u, rfl, hu, lr, _⟩ := hx.get hi
      have ld := lent i
      generalize hdd : jn m (nss.take i) = dd at *
      wtm_at "gs"
      rw [Int.toNat_natCast]
      intro D hD
      refine' lc_rng (fun i => .int (maxP (dd.getD i 0) (r.getD i 0))) ?hl2 hD (fun i hi H2 Q2 R2 s2 k2 => ?hs2) (fun H2 s2 e2 => ?hd2)
      case hl2 => omega
      case hs2 =>
        have a1 := atI_D (show i < dd.length by omega)
        have a2 := atI_D (show i < r.length by omega)
        wtm_at "gs"
        exact k2 _ (by wtm_at "rz")
      case hd2 =>
        have e2 : H2 D = some (.lst ((jn m (nss.take (i + 1))).map V.int)) := by
          rw [e2, jn_take er, hdd, List.map_zipWith, ← ld]
          exact congrArg (fun l => some (HO.lst l)) (rng_zip (fun n m : Int => V.int (maxP n m)) (by omega))
        wtm_at "gs"
        exact ⟨by wtm_at "same", _, _, _, _, rfl, by wtm_at "get"⟩
    case hd =>
      obtain ⟨d, v5, v6, v7, rfl, hd⟩ := hP
      rw [show xs.length = nss.length from hx.1, List.take_length] at hd
      have hc1 : CtAt K a H1 c (jn m nss) := by wtm_at "ct"
      have ly : ys.length = xs.length := hy.1.trans hx.1.symm
      have mono : ∀ (D : Addr) (i : Nat) (H H' : Hp) (y : V), ∀ acc, H D = some (.lst acc) → SameBut D H H' → (∀ ns, nss[i]? = some ns → TpAt K H y ns) → ∀ ns, nss[i]? = some ns → TpAt K H' y ns := fun D i H H' y acc hd sb h ns e => by
        obtain ⟨t, rfl, ht⟩ := h ns e
        exact ⟨t, rfl, SqT.butL hd sb ht⟩
      rcases hp with hp | hp
      all_goals wtm_at "gs"
      all_goals
       intro D hD
       first
        | refine' lc_rel2L (fun i H y => ∀ ns, nss[i]? = some ns → TpAt K H y ns) (by wtm_at "sq") hD (by omega) (mono D) (fun i x hi H2 Q2 R2 s2 _ k2 => ?_) (fun H2 zs s2 e2 lz hz => ?_)
        | refine' lc_rel2T (fun i H y => ∀ ns, nss[i]? = some ns → TpAt K H y ns) (by wtm_at "sq") hD (by omega) (mono D) (fun i x hi H2 Q2 R2 s2 _ k2 => ?_) (fun H2 zs s2 e2 lz hz => ?_)
       · obtain ⟨ns, en, cc, rfl, hcc, _⟩ := hy.get hi
         have hcc : CtAt K a H2 cc ns := by wtm_at "ct"
         wtm_at "gs"
         refine k2 _ _ (by wtm_at "rz") fun ns' e' => ?_
         rw [en] at e'
         cases e'
         exact ⟨_, rfl, by assumption⟩
       · wtm_at "gs"
         intro D2 hD2
         refine' lc_rel2L (fun i H y => ∀ ns, nss[i]? = some ns → TpAt K H y ns) (by wtm_at "sq") hD2 (by omega) (mono D2) (fun i x hi H3 Q3 R3 s3 _ k3 => ?_) (fun H3 ws s3 e3 lw hw => ?_)
         · obtain ⟨ns, en, u, rfl, hu, _⟩ := hx.get hi
           wtm_at "gs"
           refine k3 _ _ (by wtm_at "rz") fun ns' e' => ?_
           rw [en] at e'
           cases e'
           exact ⟨_, rfl, by wtm_at "sq"⟩
         · wtm_at "gs"
           refine i_eqG (n := 3) (.inl ⟨by wtm_at "sq", by wtm_at "sq"⟩) (by decide) (.of_at (by omega) fun i x y h1 h2 => ?_) (k _ (by wtm_at "same"))
           have hi : i < nss.length := by
             have := (List.getElem?_eq_some_iff.mp h1).1
             have := hy.1
             omega
           obtain ⟨t, rfl, ht⟩ := hz i x h1 _ (List.getElem?_eq_getElem hi)
           exact .tp ⟨t, rfl, SqT.same s3 ht⟩ (hw i y h2 _ (List.getElem?_eq_getElem hi))
end
theorem All2.cutB {β : Type} {R : V → β → Prop} {xs : List V} {bs : List β} (h : All2 R xs bs) (lo hi : Option Int) : ∃ cs, All2 R (cutV xs lo hi) cs := ⟨_, (h.drop _).take _⟩
theorem CtAt.kn {K : PySem.W.Frag} {a : Ad} {H : Hp} {c : Addr} {ns : List Int} (h : CtAt K a H c ns) (k : Cls K a.Counts) (i : IsC K a.Counts) : Kn K H (.ref c) := by
  obtain ⟨dx, t, h1, _⟩ := h
  exact .of h1 ⟨k, i⟩
theorem CtAt.nos {K : PySem.W.Frag} {a : Ad} {H : Hp} {c : Addr} {ns : List Int} (h : CtAt K a H c ns) (k : Cls K a.Counts) (i : IsC K a.Counts) : NoSeq K H (.ref c) := by
  obtain ⟨dx, t, h1, _⟩ := h
  exact .inst h1 k i
theorem RwLs.same {H H' : Hp} {m : Nat} {xs : List V} {nss : List (List Int)} (s : Same H H') (h : All2 (RwL H m) xs nss) : All2 (RwL H' m) xs nss := h.mono fun x y ⟨r, h1, h2, h3⟩ => ⟨r, h1, s _ _ h2, h3⟩
theorem CtLs.same {K : PySem.W.Frag} {a : Ad} {H H' : Hp} {m : Nat} {xs : List V} {nss : List (List Int)} (s : Same H H') (h : All2 (CtL K a H m) xs nss) : All2 (CtL K a H' m) xs nss := h.mono fun x y h => h.same s
theorem RowBs.same {K : PySem.W.Frag} {a : Ad} {H H' : Hp} {m : Nat} {xs : List V} {bs : List Bool} (s : Same H H') (h : All2 (RowB K a H m) xs bs) : All2 (RowB K a H' m) xs bs := h.mono fun x y h => h.same s
theorem lrows_use {K : PySem.W.Frag} {H : Hp} {Q : VK} {E : XK} {vs : List V} {p : Addr} {ns : List Int} {m c : Nat} (h1 : SqL K H p (ns.map V.int)) (h2 : m ≤ 5) (h3 : c ≤ 500) (h : ∀ H' q xs nss, Same H H' → H q = none → H' q = some (.lst xs) → All2 (RwL H' m) xs nss → xs.length = c → Q (.ref q) H') (he : vs = [.ref p, .int m, .int c] := by rfl) : spLRows K vs H Q E := ⟨p, ns, m, c, he, h1, h2, h3, h⟩
theorem right_use {K : PySem.W.Frag} {a : Ad} {H : Hp} {Q : VK} {E : XK} {vs : List V} {m : Nat} {q p : Addr} {xs ys : List V} {nss : List (List Int)} (h0 : 2 ≤ m ∧ m ≤ 5) (h1 : SqL K H q xs) (h2 : SqL K H p ys ∨ SqT K H p ys) (h3 : xs.length ≤ 500) (h4 : All2 (RwL H m) xs nss) (h5 : All2 (CtL K a H m) ys nss) (h : ∀ H', Same H H' → Q (.bl true) H') (he : vs = [.int m, .ref q, .ref p] := by rfl) : spRight K a vs H Q E :=
  ⟨m, q, p, xs, ys, nss, he, h0.1, h0.2, h1, h2, h3, h4, h5, h⟩
theorem fst_num {K : PySem.W.Frag} {a : Ad} {H : Hp} {Q : VK} {E : XK} {vs : List V} {mv r : V} (h1 : Kn K H mv) (h2 : isWh 2 (.int 5) mv = false) (h3 : NoSeq K H r ∨ ∃ p xs, r = .ref p ∧ (SqL K H p xs ∨ SqT K H p xs)) (h : ∀ H' p, Same H H' → H' p = some (.tup [.str "number", mv]) → Q (.ref p) H') (he : vs = [mv, r] := by rfl) : spFst K a vs H Q E := ⟨mv, r, he, .inl ⟨h1, h2, h3, h⟩⟩
theorem fst_nos {K : PySem.W.Frag} {a : Ad} {H : Hp} {Q : VK} {E : XK} {vs : List V} {m : Nat} {r : V} (h0 : 2 ≤ m ∧ m ≤ 5) (h1 : NoSeq K H r) (h : ∀ H' p, Same H H' → H' p = some (.tup [.str "counts", r]) → Q (.ref p) H') (he : vs = [.int m, r] := by rfl) : spFst K a vs H Q E := ⟨_, r, he, .inr ⟨m, rfl, h0, .inl ⟨h1, h⟩⟩⟩
theorem fst_tup {K : PySem.W.Frag} {a : Ad} {H : Hp} {Q : VK} {E : XK} {vs : List V} {m : Nat} {p : Addr} {xs : List V} {bs : List Bool} (h0 : 2 ≤ m ∧ m ≤ 5) (h1 : SqT K H p xs) (h2 : All2 (RowB K a H m) xs bs) (h3 : bs.all id = false) (h : ∀ H' q, Same H H' → H' q = some (.tup [.str "counts", .ref p]) → Q (.ref q) H') (he : vs = [.int m, .ref p] := by rfl) : spFst K a vs H Q E :=
  ⟨_, _, he, .inr ⟨m, rfl, h0, .inr (.inl ⟨p, xs, bs, rfl, h1, h2, h3, h⟩)⟩⟩
theorem fst_lst {K : PySem.W.Frag} {a : Ad} {H : Hp} {Q : VK} {E : XK} {vs : List V} {m : Nat} {p : Addr} {xs : List V} {bs : List Bool} (h0 : 2 ≤ m ∧ m ≤ 5) (h1 : H p = some (.lst xs)) (hl : xs.length ≤ 2000) (h2 : All2 (RowB K a H m) xs bs) (h3 : bs.all id = false) (h : ∀ H' q xs', SameBut p H H' → H' p = some (.lst xs') → H' q = some (.tup [.str "counts", .ref p]) → Q (.ref q) H') (he : vs = [.int m, .ref p] := by rfl) : spFst K a vs H Q E :=
  ⟨_, _, he, .inr ⟨m, rfl, h0, .inr (.inr ⟨p, xs, bs, rfl, h1, hl, h2, h3, h⟩)⟩⟩
local macro_rules | `(tactic| wtm_at "rwl") => `(tactic| first | wtm_at "as" | ((with_reducible refine' RwLs.same ?s ?h); (case h => wtm_at "as"); (case s => wtm_at "same")) | fail)
local macro_rules | `(tactic| wtm_at "ctl") => `(tactic| first | wtm_at "as" | ((with_reducible refine' CtLs.same ?s ?h); (case h => wtm_at "as"); (case s => wtm_at "same")) | fail)
local macro_rules | `(tactic| wtm_at "rwb") => `(tactic| first | wtm_at "as" | ((with_reducible refine' RowBs.same ?s ?h); (case h => wtm_at "as"); (case s => wtm_at "same")) | fail)
set_option hygiene false in
local macro_rules | `(tactic| wtm_at "u") => `(tactic| first
  | ((with_reducible refine' lrows_use ?h1 ?h2 ?h3 (fun HH rq rxs nss sm nrq erq arq lrq => ?_) ?he); (case he => rfl); (case h1 => wtm_at "sq"); (case h2 => omega); (case h3 => omega))
  | ((with_reducible refine' right_use ?h0 ?h1 ?h2 ?h3 ?h4 ?h5 (fun HH sm => ?_) ?he); (case he => rfl); (case h0 => first | wtm_at "as" | omega); (case h1 => wtm_at "sq"); (case h2 => first | exact .inl (by wtm_at "sq") | exact .inr (by wtm_at "sq")); (case h4 => wtm_at "rwl"); (case h5 => wtm_at "ctl"); (case h3 => first | wtm_at "as" | omega))
  | ((with_reducible refine' fst_num ?h1 ?h2 ?h3 (fun HH kp sm hkp => ?_) ?he); (case he => rfl); (case h2 => wtm_at "as"); (case h1 => wtm_at "kn"); (case h3 => wtm_at "as"))
  | ((with_reducible refine' fst_nos ?h0 ?h1 (fun HH kp sm hkp => ?_) ?he); (case he => rfl); (case h0 => first | wtm_at "as" | omega); (case h1 => wtm_at "nos"))
  | ((with_reducible refine' fst_tup ?h0 ?h1 ?h2 ?h3 (fun HH kp sm hkp => ?_) ?he); (case he => rfl); (case h0 => first | wtm_at "as" | omega); (case h1 => wtm_at "sq"); (case h2 => wtm_at "rwb"); (case h3 => wtm_at "as"))
  | ((with_reducible refine' fst_lst ?h0 ?h1 ?hl ?h2 ?h3 (fun HH kp xs' sb hkp0 hkp => ?_) ?he); (case he => rfl); (case h0 => first | wtm_at "as" | omega); (case h1 => wtm_at "get"); (case h2 => wtm_at "rwb"); (case hl => first | wtm_at "as" | omega | (simp only [List.length_append, List.length_cons, List.length_nil]; omega)); (case h3 => wtm_at "as")) | fail)
def spLaw (K : PySem.W.Frag) : Sp := fun vs H Q _ => ∃ (p : Addr) (ns : List Int), vs = [.ref p] ∧ SqL K H p (ns.map V.int) ∧ ns.length ≤ 63 ∧ ∀ H', Q (.bl true) H'
section
variable {P : Program} {w : World} {K : PySem.W.Frag} {mg : Str → Option Value} {base : Heap} {a : Ad}
theorem ok_law (T : Txt K mg a) : FnOk P w K mg base CX0 8 a.law a.d_law ["script"] (spLaw K) := by
  refine fund_ok0 T.F_law sc_law (fun vs H Q E h => ?_) (fun cdv A outer s H vs Q E hr h => ?_)
  · obtain ⟨p, ns, rfl, hS, hl, k⟩ := h
    rfl
  · obtain ⟨p, ns, rfl, hS, hl, k⟩ := h
    refine ⟨_, (pss_cons (ps_set (i := 1) sc_law.nd rfl (by first | exact Or.inl rfl | exact Or.inr rfl) (pe_op (op_addU (K := K)) pe_int (pe_op op_modU (pe_call (ok__law_cell_at (K := K) T) (hr.mono (by decide)) (by rfl) T.m__law_cell_at T.F__law_cell_at.kp T.B__law_cell_at .nil pass0 (pa_cons (pv 0) (pa_cons pe_int pa_nil))) pe_int)))
    (pss_cons (ps_set (i := 2) sc_law.nd rfl (by first | exact Or.inl rfl | exact Or.inr rfl) (pe_op op_modU (pe_op op_fdivU (pe_call (ok__law_cell_at (K := K) T) (hr.mono (by decide)) (by rfl) T.m__law_cell_at T.F__law_cell_at.kp T.B__law_cell_at .nil pass0 (pa_cons (pv 0) (pa_cons pe_int pa_nil))) pe_int) pe_int))
    (pss_cons (ps_if (pt_cmpR (op_eqU hr.units (K := K)) (pe_op op_modU (pe_op op_fdivU (pe_call (ok__law_cell_at (K := K) T) (hr.mono (by decide)) (by rfl) T.m__law_cell_at T.F__law_cell_at.kp T.B__law_cell_at .nil pass0 (pa_cons (pv 0) (pa_cons pe_int pa_nil))) pe_int) pe_int) pe_int (nomark _)) (pss_one (ps_set (i := 2) sc_law.nd rfl (by first | exact Or.inl rfl | exact Or.inr rfl) (pe_op op_subU pe_int (pe_op op_modU (pe_op op_fdivU (pe_call (ok__law_cell_at (K := K) T) (hr.mono (by decide)) (by rfl) T.m__law_cell_at T.F__law_cell_at.kp T.B__law_cell_at .nil pass0 (pa_cons (pv 0) (pa_cons pe_int pa_nil))) pe_int) pe_int)))) pss_nil)
    (pss_cons (ps_set (i := 3) sc_law.nd rfl (by first | exact Or.inl rfl | exact Or.inr rfl) (pe_call (ok__law_rows (K := K) T) (hr.mono (by decide)) (by rfl) T.m__law_rows T.F__law_rows.kp T.B__law_rows .nil pass0 (pa_cons (pv 0) (pa_cons (pv 1) (pa_cons (pv 2) pa_nil)))))
    (pss_cons (ps_setLc (i := 4) (own := [("row", 5)]) rfl sc_law.nd rfl rfl (sw_true rfl rfl rfl (by decide +kernel)) (pi_listK (K := K) (pv 3)) (blkOk_by (own := [("row", 5)]) (N := ["script", "members", "count", "rows", "some", "row", "other", "at", "thing", "spoilt", "flat", "number", "handed"]) (sc := defScope s_law) (by decide +kernel)) (fun _ _ _ _ _ => (pg_name (i := 5) sc_law.nd rfl (by first | exact Or.inl rfl | exact Or.inr rfl))) (fun _ _ _ _ _ => pts_nil) (fun _ _ _ _ _ => (pe_makeS T.mk_Counts (ok_Counts_init (K := K) T) (hr.mono (by decide)) (by rfl) T.m_Counts T.B_Counts_init .nil (passAt takes0) (pa_cons (pv 5) pa_nil))))
    (pss_cons (ps_if (PW.pt (pw_or (pt_not (pt_val (pe_call (ok__law_right (K := K) T) (hr.mono (by decide)) (by rfl) T.m__law_right T.F__law_right.kp T.B__law_right .nil pass0 (pa_cons (pv 1) (pa_cons (pv 3) (pa_cons (pv 4) pa_nil)))))) (pw_or1 (pt_not (pt_val (pe_call (ok__law_right (K := K) T) (hr.mono (by decide)) (by rfl) T.m__law_right T.F__law_right.kp T.B__law_right .nil pass0 (pa_cons (pv 1) (pa_cons (pe_rev (K := K) (pv 3) (po_some (pe_un un_neg pe_int))) (pa_cons (pe_callTy (call_tupOf (K := K)) (by rfl) T.b_tuple (by decide +kernel) (pa_cons (pe_rev (K := K) (pv 4) (po_some (pe_un un_neg pe_int))) pa_nil)) pa_nil))))))))) (pss_one (ps_ret pe_bl)) pss_nil)
    (pss_cons (ps_set (i := 6) sc_law.nd rfl (by first | exact Or.inl rfl | exact Or.inr rfl) (pe_op (op_addU (K := K)) pe_int (pe_op op_modU (pe_op op_subU (pv 1) pe_int) pe_int)))
    (pss_cons (ps_if (PW.pt (pw_or (pt_not (pt_val (pe_call (ok__law_right (K := K) T) (hr.mono (by decide)) (by rfl) T.m__law_right T.F__law_right.kp T.B__law_right .nil pass0 (pa_cons (pv 6) (pa_cons (pe_lst (pa_cons (pe_op op_mulU (pe_lst (pa_cons pe_int pa_nil)) (pv 6)) pa_nil)) (pa_cons (pe_lst (pa_cons (pe_makeS T.mk_Counts (ok_Counts_init (K := K) T) (hr.mono (by decide)) (by rfl) T.m_Counts T.B_Counts_init .nil (passAt takes0) (pa_cons (pe_op op_mulU (pe_lst (pa_cons pe_int pa_nil)) (pv 6)) pa_nil)) pa_nil)) pa_nil)))))) (pw_or1 (pt_not (pt_val (pe_call (ok__law_right (K := K) T) (hr.mono (by decide)) (by rfl) T.m__law_right T.F__law_right.kp T.B__law_right .nil pass0 (pa_cons (pv 6) (pa_cons (pe_lst pa_nil) (pa_cons (pe_lst pa_nil) pa_nil))))))))) (pss_one (ps_ret pe_bl)) pss_nil)
    (pss_cons (ps_set (i := 7) sc_law.nd rfl (by first | exact Or.inl rfl | exact Or.inr rfl) (pe_op op_modU (pe_call (ok__law_cell_at (K := K) T) (hr.mono (by decide)) (by rfl) T.m__law_cell_at T.F__law_cell_at.kp T.B__law_cell_at .nil pass0 (pa_cons (pv 0) (pa_cons pe_int pa_nil))) (pe_op (op_addU (K := K)) (pe_callB (call_lenU (K := K)) (by rfl) T.b_len (by decide +kernel) (pa_cons (pv 4) pa_nil)) pe_int)))
    (pss_cons (ps_for PassesOwn.never rfl (pi_listK (K := K) (pe_lst (pa_cons pe_non (pa_cons pe_int (pa_cons (pe_tup (pa_cons pe_int (pa_cons pe_int pa_nil))) (pa_cons (pe_lst (pa_cons pe_int (pa_cons pe_int pa_nil))) (pa_cons pe_str (pa_cons (pe_makeS T.mk_Counts (ok_Counts_init (K := K) T) (hr.mono (by decide)) (by rfl) T.m_Counts T.B_Counts_init .nil (passAt takes0) (pa_cons (pe_op op_mulU (pe_lst (pa_cons pe_int pa_nil)) (pv 6)) pa_nil)) (pa_cons pe_bl pa_nil))))))))) (pg_name (i := 8) sc_law.nd rfl (by first | exact Or.inl rfl | exact Or.inr rfl))
    (pss_cons (ps_set (i := 9) sc_law.nd rfl (by first | exact Or.inl rfl | exact Or.inr rfl) (pe_op (op_addU (K := K)) (pe_op (op_addU (K := K)) (pe_slice (sl_U (K := K)) (pv 4) po_none (po_some (pe_callB (call_minU rfl) (by rfl) T.b_min (by decide +kernel) (pa_cons (pv 7) (pa_cons pe_int pa_nil))))) (pe_lst (pa_cons (pv 8) pa_nil))) (pe_slice (sl_U (K := K)) (pv 4) (po_some (pe_op (op_addU (K := K)) (pv 7) pe_int)) po_none)))
    (pss_cons (ps_set (i := 10) sc_law.nd rfl (by first | exact Or.inl rfl | exact Or.inr rfl) (pe_callTy (call_tupOf (K := K)) (by rfl) T.b_tuple (by decide +kernel) (pa_cons (pv 9) pa_nil)))
    (pss_cons (ps_if (PW.pt (pw_or (pt_cmpR (op_neU hr.units (K := K)) (pe_call (ok__law_first (K := K) T) (hr.mono (by decide)) (by rfl) T.m__law_first T.F__law_first.kp T.B__law_first .nil pass0 (pa_cons (pv 1) (pa_cons (pv 9) pa_nil))) (pe_tup (pa_cons pe_str (pa_cons (pv 9) pa_nil))) (nomark _)) (pw_or1 (pt_cmpR (op_neU hr.units (K := K)) (pe_call (ok__law_first (K := K) T) (hr.mono (by decide)) (by rfl) T.m__law_first T.F__law_first.kp T.B__law_first .nil pass0 (pa_cons (pv 1) (pa_cons (pv 10) pa_nil))) (pe_tup (pa_cons pe_str (pa_cons (pv 10) pa_nil))) (nomark _))))) (pss_one (ps_ret pe_bl)) pss_nil)
    (pss_one (ps_for PassesOwn.never rfl (pi_listK (K := K) (pe_lst (pa_cons pe_int (pa_cons pe_int (pa_cons pe_int (pa_cons (pe_un un_neg pe_int) (pa_cons pe_non (pa_cons pe_bl (pa_cons pe_str (pa_cons (pe_lst (pa_cons pe_int pa_nil)) (pa_cons (pe_op op_powU pe_int pe_int) (pa_cons (pe_makeS T.mk_Counts (ok_Counts_init (K := K) T) (hr.mono (by decide)) (by rfl) T.m_Counts T.B_Counts_init .nil (passAt takes0) (pa_cons (pe_lst (pa_cons pe_int (pa_cons pe_int pa_nil))) pa_nil)) pa_nil)))))))))))) (pg_name (i := 11) sc_law.nd rfl (by first | exact Or.inl rfl | exact Or.inr rfl))
    (pss_one (ps_if (pt_cmpR (op_neU hr.units (K := K)) (pe_lc (own := [("handed", 12)]) rfl sc_law.nd (pi_tupK (K := K) (pe_tup (pa_cons (pv 10) (pa_cons (pe_lst pa_nil) (pa_cons pe_non pa_nil))))) (blkOk_by (own := [("handed", 12)]) (N := ["script", "members", "count", "rows", "some", "row", "other", "at", "thing", "spoilt", "flat", "number", "handed"]) (sc := defScope s_law) (by decide +kernel)) (fun _ _ _ _ _ => (pg_name (i := 12) sc_law.nd rfl (by first | exact Or.inl rfl | exact Or.inr rfl))) (fun _ _ _ _ _ => pts_one (pt_cmpR (op_neU hr.units (K := K)) (pe_call (ok__law_first (K := K) T) (hr.mono (by decide)) (by rfl) T.m__law_first T.F__law_first.kp T.B__law_first .nil pass0 (pa_cons (pv 11) (pa_cons (pv 12) pa_nil))) (pe_tup (pa_cons pe_str (pa_cons (pv 11) pa_nil))) (nomark _))) (fun _ _ _ _ _ => pe_int)) (pe_lst pa_nil) (nomark _)) (pss_one (ps_ret pe_bl)) pss_nil))))))))
    (pss_cons (ps_for PassesOwn.never rfl (pi_listK (K := K) (pe_lst (pa_cons pe_non (pa_cons pe_int (pa_cons pe_str (pa_cons pe_dnewK (pa_cons pe_bl (pa_cons (pe_makeS T.mk_Counts (ok_Counts_init (K := K) T) (hr.mono (by decide)) (by rfl) T.m_Counts T.B_Counts_init .nil (passAt takes0) (pa_cons (pe_op op_mulU (pe_lst (pa_cons pe_int pa_nil)) (pv 1)) pa_nil)) pa_nil)))))))) (pg_name (i := 8) sc_law.nd rfl (by first | exact Or.inl rfl | exact Or.inr rfl))
    (pss_one (ps_if (pt_cmpR (op_neU hr.units (K := K)) (pe_call (ok__law_first (K := K) T) (hr.mono (by decide)) (by rfl) T.m__law_first T.F__law_first.kp T.B__law_first .nil pass0 (pa_cons (pv 1) (pa_cons (pv 8) pa_nil))) (pe_tup (pa_cons pe_str (pa_cons (pv 8) pa_nil))) (nomark _)) (pss_one (ps_ret pe_bl)) pss_nil)))
    (pss_one (ps_ret (pe_call (ok__law_right (K := K) T) (hr.mono (by decide)) (by rfl) T.m__law_right T.F__law_right.kp T.B__law_right .nil pass0 (pa_cons (pv 1) (pa_cons (pv 3) (pa_cons (pv 4) pa_nil))))))))))))))))), ?_⟩
    dsimp only [L2.start, List.map_cons, List.map_nil, List.map, List.length_cons, List.length_nil, Nat.reduceAdd, Nat.reduceSub, List.replicate, List.cons_append, List.nil_append]
    wtm_at "gs"
    all_goals first
      | (
          rename_i c1 c2 c3 h5
          obtain ⟨m, hm⟩ : ∃ m : Nat, (2 + c1 % 4 : Int) = m := ⟨(2 + c1 % 4).toNat, by omega⟩
          rw [hm]
          have m5 : 2 ≤ m ∧ m ≤ 5 := by omega
          obtain ⟨c, hc⟩ : ∃ c : Nat, (500 - cn / 256 % 20 : Int) = c := ⟨(500 - cn / 256 % 20).toNat, by omega⟩
          rw [hc]
          have c5 : c ≤ 500 := by omega)
      | (
          rename_i c1 c2 h5
          obtain ⟨m, hm⟩ : ∃ m : Nat, (2 + c1 % 4 : Int) = m := ⟨(2 + c1 % 4).toNat, by omega⟩
          rw [hm]
          have m5 : 2 ≤ m ∧ m ≤ 5 := by omega
          obtain ⟨c, hc⟩ : ∃ c : Nat, (c2 / 4 % 8 : Int) = c := ⟨(c2 / 4 % 8).toNat, by omega⟩
          rw [hc]
          have c5 : c ≤ 500 := by omega)
    all_goals wtm_at "gs"
    all_goals
      dsimp only [List.set]
      intro D hD
      refine' lc_rel2L (fun i H y => ∀ ns, nss[i]? = some ns → CtL K a H m y ns) (by wtm_at "sq") hD (by omega) (fun i H H' y acc hd sb h ns e => ?c1m) (fun i x hi H2 Q2 R2 s2 _ k2 => ?c1s) (fun H2 zs s2 e2 lz hz => ?c1d)
      case c1m =>
        obtain ⟨cc, h1, h2, h3⟩ := h ns e
        exact ⟨cc, h1, h2.butL hd sb, h3⟩
      case c1s =>
        obtain ⟨ns, en, u, rfl, hu, lu, gu⟩ := arq.get hi
        wtm_at "gs"
        refine k2 _ _ (by wtm_at "rz") fun ns' e' => ?_
        rw [en] at e'
        cases e'
        exact ⟨_, rfl, by assumption, by assumption⟩
      case c1d =>
        have acl : All2 (CtL K a H2 m) zs nss := ⟨by have := arq.1; omega, fun i y ns h1 h2 => hz i y h1 ns h2⟩
        have arv := arq.rev
        have acv := acl.rev
        have lrv : rxs.reverse.length ≤ 500 := by rw [List.length_reverse]; omega
        clear hz
        wtm_at "gs"
        obtain ⟨o, ho, ho5, hom⟩ : ∃ o : Nat, (2 + ((m : Int) - 1) % 4) = o ∧ (2 ≤ o ∧ o ≤ 5) ∧ o ≠ m := ⟨(2 + ((m : Int) - 1) % 4).toNat, by omega, by omega, by omega⟩
        simp only [ho, Int.toNat_natCast] at *
        refine right_use (nss := [List.replicate o 1]) ho5 (by wtm_at "sq") (.inl (by wtm_at "sq")) (Nat.le_of_ble_eq_true rfl) (.cons ⟨_, rfl, by wtm_at "get", List.length_replicate, nn_rep (by decide)⟩ .nil) (.cons ⟨_, rfl, by wtm_at "ct", List.length_replicate⟩ .nil) (fun HH sm => ?_) (he := rfl)
        wtm_at "gs"
        refine right_use (nss := []) ho5 (by wtm_at "sq") (.inl (by wtm_at "sq")) (Nat.le_of_ble_eq_true rfl) .nil .nil (fun HH sm => ?_) (he := rfl)
        have s9 : Same H2 HH := by wtm_at "same"
        clear sm
        wtm_at "gs"
        have hA0 : 0 ≤ cn % ((zs.length : Int) + 1) := Int.emod_nonneg _ (by omega)
        have hA1 : cn % ((zs.length : Int) + 1) < zs.length + 1 := Int.emod_lt_of_pos _ (by omega)
        generalize cn % ((zs.length : Int) + 1) = A at *
        refine' for_pred (K := K) (fun σ => ∃ v8 v9 v10 v11 v12, σ = [some (.ref p), some (.int m), some (.int c), some (.ref rq), some (.ref D), none, some (.int o), some (.int A), v8, v9, v10, v11, v12]) (fun H y => RowB K a H m y false ∧ Kn K H y) ?c2L ?c2p ⟨_, _, _, _, _, rfl⟩ (fun y σ H3 hy hS3 s3 => ?c2s) (fun σ H3 hS3 s3 => ?c2d)
        case c2L => wtm_at "sq"
        case c2p =>
          intro y hy
          simp only [List.mem_cons, List.not_mem_nil, or_false] at hy
          rcases hy with rfl | rfl | rfl | rfl | rfl | rfl | rfl
          all_goals first
            | exact ⟨.inr ⟨by wtm_at "noc", rfl⟩, by first | exact trivial | (refine' Kn.ofG ?kh ?kk; (case kh => wtm_at "getg"); (case kk => exact trivial))⟩
            | exact ⟨.inl ⟨_, _, rfl, by wtm_at "ct", by rw [List.length_replicate]; exact (decide_eq_false hom).symm⟩, CtAt.kn (by wtm_at "ct") T.c_Counts T.i_Counts⟩
        case c2s =>
          obtain ⟨v8, v9, v10, v11, v12, rfl⟩ := hS3
          have hy3 := hy.1.same s3
          have hz3 : All2 (RowB K a H3 m) zs (zs.map fun _ => true) := by
            have h : All2 (CtL K a H3 m) zs nss := CtLs.same (by wtm_at "same") acl
            exact ⟨(List.length_map ..).symm, fun i x b h1 h2 => by
              rw [List.getElem?_map, h1] at h2
              cases h2
              obtain ⟨y, _, hy⟩ := h.get h1
              exact hy.row⟩
          obtain ⟨b1, hb1⟩ := hz3.cutB none (some (minP A 499))
          obtain ⟨b2, hb2⟩ := hz3.cutB (some (A + 1)) none
          have hb3 := (hb1.append (All2.cons hy3 All2.nil)).append hb2
          have hb0 : (b1 ++ [false] ++ b2).all id = false := by simp
          have hl3 : (cutV zs none (some (minP A 499)) ++ [y] ++ cutV zs (some (A + 1)) none).length ≤ 2000 := by
            have := cutV_length zs none (some (minP A 499))
            have := cutV_length zs (some (A + 1)) none
            simp only [List.length_append, List.length_cons, List.length_nil]
            omega
          have hla := cutV_length zs none (some (minP A 499))
          have hlb := cutV_length zs (some (A + 1)) none
          wtm_at "gs"
          refine ci_use (ns := [2, 2]) (by wtm_at "getg") (by wtm_at "ne") (.inl (by wtm_at "sq")) rfl (by decide) (by decide) (by decide) (fun HH sm hct => ?_) (he := rfl)
          wtm_at "gs"
          refine' for_predH (K := K) (fun σ H' => ∃ v9 F v11 v12, σ = [some (.ref p), some (.int m), some (.int c), some (.ref rq), some (.ref D), none, some (.int o), some (.int A), some y, v9, some (.ref F), v11, v12] ∧ SqT K H' F (cutV zs none (some (minP A 499)) ++ [y] ++ cutV zs (some (A + 1)) none)) (fun H y => isWh 2 (.int 5) y = false ∧ Kn K H y) ?c3L ?c3p ⟨_, _, _, _, rfl, by wtm_at "sq"⟩ (fun z σ H4 hz hS4 s4 => ?c3s) (fun σ H4 hS4 s4 => ?c3d)
          case c3L => wtm_at "sq"
          case c3p =>
            intro y hy
            simp only [List.mem_cons, List.not_mem_nil, or_false] at hy
            rcases hy with rfl | rfl | rfl | rfl | rfl | rfl | rfl | rfl | rfl | rfl
            all_goals first
              | exact ⟨by first | rfl | decide +kernel, trivial⟩
              | exact ⟨rfl, CtAt.kn (by wtm_at "ct") T.c_Counts T.i_Counts⟩
              | exact ⟨rfl, by (refine' Kn.ofG ?kh ?kk; (case kh => wtm_at "getg"); (case kk => exact trivial))⟩
          case c3s =>
            obtain ⟨v9, F, v11, v12, rfl, hF⟩ := hS4
            obtain ⟨w1, w2⟩ := hz
            wtm_at "gs"
            intro D4 hD4
            refine' lc_noneT (by wtm_at "sq") (Nat.le_of_ble_eq_true rfl) hD4 (fun x hx H5 Q5 R5 s5 k5 => ?c4s) (fun H5 s5 e5 => ?c4d)
            case c4s =>
              have hx3 : NoSeq K H5 x ∨ ∃ p xs, x = .ref p ∧ (SqL K H5 p xs ∨ SqT K H5 p xs) := by
                simp only [List.mem_cons, List.not_mem_nil, or_false] at hx
                rcases hx with rfl | rfl | rfl
                · exact .inr ⟨_, _, rfl, .inr (by wtm_at "sq")⟩
                · exact .inr ⟨_, _, rfl, .inl (by wtm_at "sq")⟩
                · exact .inl (.flat rfl)
              wtm_at "gs"
              exact k5 _ (by wtm_at "same")
            case c4d =>
              wtm_at "gs"
              exact ⟨⟨_, _, _, _, rfl, by wtm_at "sq"⟩, by wtm_at "same"⟩
          case c3d =>
            obtain ⟨v9, F, v11, v12, rfl, hF⟩ := hS4
            wtm_at "gs"
            exact ⟨⟨_, _, _, _, _, rfl⟩, by wtm_at "same"⟩
        case c2d =>
          obtain ⟨v8, v9, v10, v11, v12, rfl⟩ := hS3
          wtm_at "gs"
          refine' for_pred (K := K) (fun σ => ∃ v8 v9 v10 v11 v12, σ = [some (.ref p), some (.int m), some (.int c), some (.ref rq), some (.ref D), none, some (.int o), some (.int A), v8, v9, v10, v11, v12]) (fun H y => NoSeq K H y) ?c5L ?c5p ⟨_, _, _, _, _, rfl⟩ (fun y σ H6 hy hS6 s6 => ?c5s) (fun σ H6 hS6 s6 => ?c5d)
          case c5L => wtm_at "sq"
          case c5p =>
            intro y hy
            simp only [List.mem_cons, List.not_mem_nil, or_false] at hy
            rcases hy with rfl | rfl | rfl | rfl | rfl | rfl
            all_goals first
              | wtm_at "nos"
              | exact CtAt.nos (by wtm_at "ct") T.c_Counts T.i_Counts
          case c5s =>
            obtain ⟨v8, v9, v10, v11, v12, rfl⟩ := hS6
            wtm_at "gs"
            exact ⟨⟨_, _, _, _, _, rfl⟩, by wtm_at "same"⟩
          case c5d =>
            obtain ⟨v8, v9, v10, v11, v12, rfl⟩ := hS6
            wtm_at "gs"
            exact k _
end
theorem all_mk {l : PySem.W.OpenLaw} {w : World} {K : PySem.W.Frag} {h : Heap} {mg : Str → Option Value} {fa : Addr} (X : K.In h) (G : h.Ns mainGlobals mg) (hfa : mg "law" = some (.ref fa))
    {C0 C1 C2 C3 C4 C5 f1 f3 f4 f5 f6 f7 f8 f13 f15 f18 f25 f26 f27 f28 f29 f30 f31 f32 f33 f34 : Addr}
    {od1 an1 od3 an3 od4 an4 od5 an5 od6 an6 od7 an7 od8 an8 od13 an13 od15 an15 od18 an18 od25 an25 od26 an26 od27 an27 od28 an28 od29 an29 od30 an30 od31 an31 od32 an32 od33 an33 od34 an34 : Option Addr} {sl1 sl3 sl4 sl5 sl6 sl7 sl8 sl13 sl15 sl18 sl25 sl26 sl27 sl28 sl29 sl30 sl31 sl32 sl33 sl34 : Array (Option Value)} {oc1 dV1 kV1 dc1 pm1 cd1 ct1 oc3 dV3 kV3 dc3 pm3 cd3 ct3 oc4 dV4 kV4 dc4 pm4 cd4 ct4 oc5 dV5 kV5 dc5 pm5 cd5 ct5 oc6 dV6 kV6 dc6 pm6 cd6 ct6 oc7 dV7 kV7 dc7 pm7 cd7 ct7 oc8 dV8 kV8 dc8 pm8 cd8 ct8 oc13 dV13 kV13 dc13 pm13 cd13 ct13 oc15 dV15 kV15 dc15 pm15 cd15 ct15 oc18 dV18 kV18 dc18 pm18 cd18 ct18 oc25 dV25 kV25 dc25 pm25 cd25 ct25 oc26 dV26 kV26 dc26 pm26 cd26 ct26 oc27 dV27 kV27 dc27 pm27 cd27 ct27 oc28 dV28 kV28 dc28 pm28 cd28 ct28 oc29 dV29 kV29 dc29 pm29 cd29 ct29 oc30 dV30 kV30 dc30 pm30 cd30 ct30 oc31 dV31 kV31 dc31 pm31 cd31 ct31 oc32 dV32 kV32 dc32 pm32 cd32 ct32 oc33 dV33 kV33 dc33 pm33 cd33 ct33 oc34 dV34 kV34 dc34 pm34 cd34 ct34 : Value}
    {T5 : Addr} {cT5 : Value} {dT5 : Option Addr} {its5 : List Value} {n5 : Nat} {sT5 : Array (Option Value)}
    {nmx1 nmx3 nmx4 qx1 qx3 qx4 : Str} {Nx1 Nx3 Nx4 : Addr} {bsx1 bsx3 bsx4 bmx1 bmx3 bmx4 subx1 subx3 subx4 : List Value} {snx1 snx3 snx4 : List Str} {abx1 abx3 abx4 : Bool} {colx1 colx3 colx4 : Option Bool} {ddx1 ddx3 ddx4 : Option Addr} {k0x1 k0x3 k0x4 k1x1 k1x3 k1x4 k2x1 k2x3 k2x4 k3x1 k3x3 k3x4 k5x1 k5x3 k5x4 : Option Value}
    {gv0 gv1 : Value}
    (aC0 : PySem.W.nsIn K mainGlobals "HallError" = some (some (.ref C0)))
    (aC1 : PySem.W.nsIn K mainGlobals "NoNumber" = some (some (.ref C1)))
    (aC2 : PySem.W.nsIn K mainGlobals "NoMember" = some (some (.ref C2)))
    (aC3 : PySem.W.nsIn K mainGlobals "NoCounts" = some (some (.ref C3)))
    (aC4 : PySem.W.nsIn K mainGlobals "Unlike" = some (some (.ref C4)))
    (aC5 : PySem.W.nsIn K mainGlobals "Counts" = some (some (.ref C5)))
    (a1 : PySem.W.findIn K (.ref C1) "__init__" = some (some (.ref f1)))
    (i1 : PySem.W.isFn K (.ref f1) = true)
    (l1 : K.lookup f1 = some ⟨oc1, od1, .func (PySem.W.fnOf "__init__" "NoNumber.__init__" (defArgs s_NoNumber_init) (defBody s_NoNumber_init) (defScope s_NoNumber_init) dV1 kV1 dc1 pm1 an1 cd1 ct1), sl1⟩)
    (c1 : PySem.W.codeIn K cd1 "NoNumber.__init__" = true)
    (k1 : PySem.W.keepIn K (.ref f1) = true)
    (q1 : dV1 = .none)
    (a3 : PySem.W.findIn K (.ref C3) "__init__" = some (some (.ref f3)))
    (i3 : PySem.W.isFn K (.ref f3) = true)
    (l3 : K.lookup f3 = some ⟨oc3, od3, .func (PySem.W.fnOf "__init__" "NoCounts.__init__" (defArgs s_NoCounts_init) (defBody s_NoCounts_init) (defScope s_NoCounts_init) dV3 kV3 dc3 pm3 an3 cd3 ct3), sl3⟩)
    (c3 : PySem.W.codeIn K cd3 "NoCounts.__init__" = true)
    (k3 : PySem.W.keepIn K (.ref f3) = true)
    (q3 : dV3 = .none)
    (a4 : PySem.W.findIn K (.ref C4) "__init__" = some (some (.ref f4)))
    (i4 : PySem.W.isFn K (.ref f4) = true)
    (l4 : K.lookup f4 = some ⟨oc4, od4, .func (PySem.W.fnOf "__init__" "Unlike.__init__" (defArgs s_Unlike_init) (defBody s_Unlike_init) (defScope s_Unlike_init) dV4 kV4 dc4 pm4 an4 cd4 ct4), sl4⟩)
    (c4 : PySem.W.codeIn K cd4 "Unlike.__init__" = true)
    (k4 : PySem.W.keepIn K (.ref f4) = true)
    (q4 : dV4 = .none)
    (a5 : PySem.W.nsIn K mainGlobals "is_whole" = some (some (.ref f5)))
    (l5 : K.lookup f5 = some ⟨oc5, od5, .func (PySem.W.fnOf "is_whole" "is_whole" (defArgs s_is_whole) (defBody s_is_whole) (defScope s_is_whole) dV5 kV5 dc5 pm5 an5 cd5 ct5), sl5⟩)
    (c5 : PySem.W.codeIn K cd5 "is_whole" = true)
    (k5 : PySem.W.keepIn K (.ref f5) = true)
    (q5 : dV5 = .ref T5)
    (r5 : K.lookup T5 = some ⟨cT5, dT5, .seq its5.toArray n5, sT5⟩)
    (s5 : Vals [V.non] its5)
    (a6 : PySem.W.nsIn K mainGlobals "are_members" = some (some (.ref f6)))
    (l6 : K.lookup f6 = some ⟨oc6, od6, .func (PySem.W.fnOf "are_members" "are_members" (defArgs s_are_members) (defBody s_are_members) (defScope s_are_members) dV6 kV6 dc6 pm6 an6 cd6 ct6), sl6⟩)
    (c6 : PySem.W.codeIn K cd6 "are_members" = true)
    (k6 : PySem.W.keepIn K (.ref f6) = true)
    (q6 : dV6 = .none)
    (a7 : PySem.W.nsIn K mainGlobals "are_numbers" = some (some (.ref f7)))
    (l7 : K.lookup f7 = some ⟨oc7, od7, .func (PySem.W.fnOf "are_numbers" "are_numbers" (defArgs s_are_numbers) (defBody s_are_numbers) (defScope s_are_numbers) dV7 kV7 dc7 pm7 an7 cd7 ct7), sl7⟩)
    (c7 : PySem.W.codeIn K cd7 "are_numbers" = true)
    (k7 : PySem.W.keepIn K (.ref f7) = true)
    (q7 : dV7 = .none)
    (a8 : PySem.W.findIn K (.ref C5) "__init__" = some (some (.ref f8)))
    (i8 : PySem.W.isFn K (.ref f8) = true)
    (l8 : K.lookup f8 = some ⟨oc8, od8, .func (PySem.W.fnOf "__init__" "Counts.__init__" (defArgs s_Counts_init) (defBody s_Counts_init) (defScope s_Counts_init) dV8 kV8 dc8 pm8 an8 cd8 ct8), sl8⟩)
    (c8 : PySem.W.codeIn K cd8 "Counts.__init__" = true)
    (k8 : PySem.W.keepIn K (.ref f8) = true)
    (q8 : dV8 = .none)
    (a13 : PySem.W.findIn K (.ref C5) "told" = some (some (.ref f13)))
    (i13 : PySem.W.isFn K (.ref f13) = true)
    (l13 : K.lookup f13 = some ⟨oc13, od13, .func (PySem.W.fnOf "told" "Counts.told" (defArgs s_Counts_told) (defBody s_Counts_told) (defScope s_Counts_told) dV13 kV13 dc13 pm13 an13 cd13 ct13), sl13⟩)
    (c13 : PySem.W.codeIn K cd13 "Counts.told" = true)
    (k13 : PySem.W.keepIn K (.ref f13) = true)
    (q13 : dV13 = .none)
    (a15 : PySem.W.findIn K (.ref C5) "need_like" = some (some (.ref f15)))
    (i15 : PySem.W.isFn K (.ref f15) = true)
    (l15 : K.lookup f15 = some ⟨oc15, od15, .func (PySem.W.fnOf "need_like" "Counts.need_like" (defArgs s_Counts_need_like) (defBody s_Counts_need_like) (defScope s_Counts_need_like) dV15 kV15 dc15 pm15 an15 cd15 ct15), sl15⟩)
    (c15 : PySem.W.codeIn K cd15 "Counts.need_like" = true)
    (k15 : PySem.W.keepIn K (.ref f15) = true)
    (q15 : dV15 = .none)
    (a18 : PySem.W.findIn K (.ref C5) "joined" = some (some (.ref f18)))
    (i18 : PySem.W.isFn K (.ref f18) = true)
    (l18 : K.lookup f18 = some ⟨oc18, od18, .func (PySem.W.fnOf "joined" "Counts.joined" (defArgs s_Counts_joined) (defBody s_Counts_joined) (defScope s_Counts_joined) dV18 kV18 dc18 pm18 an18 cd18 ct18), sl18⟩)
    (c18 : PySem.W.codeIn K cd18 "Counts.joined" = true)
    (k18 : PySem.W.keepIn K (.ref f18) = true)
    (q18 : dV18 = .none)
    (a25 : PySem.W.nsIn K mainGlobals "are_rows" = some (some (.ref f25)))
    (l25 : K.lookup f25 = some ⟨oc25, od25, .func (PySem.W.fnOf "are_rows" "are_rows" (defArgs s_are_rows) (defBody s_are_rows) (defScope s_are_rows) dV25 kV25 dc25 pm25 an25 cd25 ct25), sl25⟩)
    (c25 : PySem.W.codeIn K cd25 "are_rows" = true)
    (k25 : PySem.W.keepIn K (.ref f25) = true)
    (q25 : dV25 = .none)
    (a26 : PySem.W.nsIn K mainGlobals "all_joined" = some (some (.ref f26)))
    (l26 : K.lookup f26 = some ⟨oc26, od26, .func (PySem.W.fnOf "all_joined" "all_joined" (defArgs s_all_joined) (defBody s_all_joined) (defScope s_all_joined) dV26 kV26 dc26 pm26 an26 cd26 ct26), sl26⟩)
    (c26 : PySem.W.codeIn K cd26 "all_joined" = true)
    (k26 : PySem.W.keepIn K (.ref f26) = true)
    (q26 : dV26 = .none)
    (a27 : PySem.W.nsIn K mainGlobals "_law_cell_at" = some (some (.ref f27)))
    (l27 : K.lookup f27 = some ⟨oc27, od27, .func (PySem.W.fnOf "_law_cell_at" "_law_cell_at" (defArgs s__law_cell_at) (defBody s__law_cell_at) (defScope s__law_cell_at) dV27 kV27 dc27 pm27 an27 cd27 ct27), sl27⟩)
    (c27 : PySem.W.codeIn K cd27 "_law_cell_at" = true)
    (k27 : PySem.W.keepIn K (.ref f27) = true)
    (q27 : dV27 = .none)
    (a28 : PySem.W.nsIn K mainGlobals "_law_pool" = some (some (.ref f28)))
    (l28 : K.lookup f28 = some ⟨oc28, od28, .func (PySem.W.fnOf "_law_pool" "_law_pool" (defArgs s__law_pool) (defBody s__law_pool) (defScope s__law_pool) dV28 kV28 dc28 pm28 an28 cd28 ct28), sl28⟩)
    (c28 : PySem.W.codeIn K cd28 "_law_pool" = true)
    (k28 : PySem.W.keepIn K (.ref f28) = true)
    (q28 : dV28 = .none)
    (a29 : PySem.W.nsIn K mainGlobals "_law_take" = some (some (.ref f29)))
    (l29 : K.lookup f29 = some ⟨oc29, od29, .func (PySem.W.fnOf "_law_take" "_law_take" (defArgs s__law_take) (defBody s__law_take) (defScope s__law_take) dV29 kV29 dc29 pm29 an29 cd29 ct29), sl29⟩)
    (c29 : PySem.W.codeIn K cd29 "_law_take" = true)
    (k29 : PySem.W.keepIn K (.ref f29) = true)
    (q29 : dV29 = .none)
    (a30 : PySem.W.nsIn K mainGlobals "_law_numbers" = some (some (.ref f30)))
    (l30 : K.lookup f30 = some ⟨oc30, od30, .func (PySem.W.fnOf "_law_numbers" "_law_numbers" (defArgs s__law_numbers) (defBody s__law_numbers) (defScope s__law_numbers) dV30 kV30 dc30 pm30 an30 cd30 ct30), sl30⟩)
    (c30 : PySem.W.codeIn K cd30 "_law_numbers" = true)
    (k30 : PySem.W.keepIn K (.ref f30) = true)
    (q30 : dV30 = .none)
    (a31 : PySem.W.nsIn K mainGlobals "_law_rows" = some (some (.ref f31)))
    (l31 : K.lookup f31 = some ⟨oc31, od31, .func (PySem.W.fnOf "_law_rows" "_law_rows" (defArgs s__law_rows) (defBody s__law_rows) (defScope s__law_rows) dV31 kV31 dc31 pm31 an31 cd31 ct31), sl31⟩)
    (c31 : PySem.W.codeIn K cd31 "_law_rows" = true)
    (k31 : PySem.W.keepIn K (.ref f31) = true)
    (q31 : dV31 = .none)
    (a32 : PySem.W.nsIn K mainGlobals "_law_first" = some (some (.ref f32)))
    (l32 : K.lookup f32 = some ⟨oc32, od32, .func (PySem.W.fnOf "_law_first" "_law_first" (defArgs s__law_first) (defBody s__law_first) (defScope s__law_first) dV32 kV32 dc32 pm32 an32 cd32 ct32), sl32⟩)
    (c32 : PySem.W.codeIn K cd32 "_law_first" = true)
    (k32 : PySem.W.keepIn K (.ref f32) = true)
    (q32 : dV32 = .none)
    (a33 : PySem.W.nsIn K mainGlobals "_law_right" = some (some (.ref f33)))
    (l33 : K.lookup f33 = some ⟨oc33, od33, .func (PySem.W.fnOf "_law_right" "_law_right" (defArgs s__law_right) (defBody s__law_right) (defScope s__law_right) dV33 kV33 dc33 pm33 an33 cd33 ct33), sl33⟩)
    (c33 : PySem.W.codeIn K cd33 "_law_right" = true)
    (k33 : PySem.W.keepIn K (.ref f33) = true)
    (q33 : dV33 = .none)
    (a34 : PySem.W.nsIn K mainGlobals "law" = some (some (.ref f34)))
    (l34 : K.lookup f34 = some ⟨oc34, od34, .func (PySem.W.fnOf "law" "law" (defArgs s_law) (defBody s_law) (defScope s_law) dV34 kV34 dc34 pm34 an34 cd34 ct34), sl34⟩)
    (c34 : PySem.W.codeIn K cd34 "law" = true)
    (k34 : PySem.W.keepIn K (.ref f34) = true)
    (q34 : dV34 = .none)
    (gl0 : PySem.W.nsIn K mainGlobals "LEAST_MEMBERS" = some (some gv0))
    (gr0 : RelV (V.int 2) gv0)
    (gl1 : PySem.W.nsIn K mainGlobals "MOST_MEMBERS" = some (some gv1))
    (gr1 : RelV (V.int 5) gv1)
    (ga0 : PySem.W.findIn K (.ref C0) "__getattribute__" = some (some (.builtin "BaseException.__getattribute__")))
    (ga1 : PySem.W.findIn K (.ref C1) "__getattribute__" = some (some (.builtin "BaseException.__getattribute__")))
    (ga2 : PySem.W.findIn K (.ref C2) "__getattribute__" = some (some (.builtin "BaseException.__getattribute__")))
    (ga3 : PySem.W.findIn K (.ref C3) "__getattribute__" = some (some (.builtin "BaseException.__getattribute__")))
    (ga4 : PySem.W.findIn K (.ref C4) "__getattribute__" = some (some (.builtin "BaseException.__getattribute__")))
    (gg0 : PySem.W.findIn K (.ref C0) "__getattr__" = some none)
    (gg1 : PySem.W.findIn K (.ref C1) "__getattr__" = some none)
    (gg2 : PySem.W.findIn K (.ref C2) "__getattr__" = some none)
    (gg3 : PySem.W.findIn K (.ref C3) "__getattr__" = some none)
    (gg4 : PySem.W.findIn K (.ref C4) "__getattr__" = some none)
    (hd0 : PySem.W.hasDictIn K C0 = true)
    (hd1 : PySem.W.hasDictIn K C1 = true)
    (hd2 : PySem.W.hasDictIn K C2 = true)
    (hd3 : PySem.W.hasDictIn K C3 = true)
    (hd4 : PySem.W.hasDictIn K C4 = true)
    (hd5 : PySem.W.hasDictIn K C5 = true)
    (hf0 : PySem.W.findCls K (.ref C0) (.type "type") "__init__" = some (.val (.builtin "ValueError.__init__")))
    (hn : PySem.W.specialIn K (.builtin "object.__class__") "__get__" = some (some (.builtin "getset_descriptor.__get__")))
    (hq0 : PySem.W.readsIn K C0 (.type "type") = true)
    (hs0 : PySem.W.specialIn K (.ref C0) "__getattribute__" = some (some (.builtin "type.__getattribute__")))
    (htk : PySem.W.takesIn K (.builtin "object.__class__") = some true)
    (ia0 : PySem.W.findIn K (.ref C0) "__class__" = some (some (.builtin "object.__class__")))
    (ia1 : PySem.W.findIn K (.ref C1) "__class__" = some (some (.builtin "object.__class__")))
    (ia2 : PySem.W.findIn K (.ref C2) "__class__" = some (some (.builtin "object.__class__")))
    (ia3 : PySem.W.findIn K (.ref C3) "__class__" = some (some (.builtin "object.__class__")))
    (ia4 : PySem.W.findIn K (.ref C4) "__class__" = some (some (.builtin "object.__class__")))
    (ia5 : PySem.W.findIn K (.ref C5) "__class__" = some (some (.builtin "object.__class__")))
    (ic0 : PySem.W.isClsIn K C0 = true)
    (ic1 : PySem.W.isClsIn K C1 = true)
    (ic2 : PySem.W.isClsIn K C2 = true)
    (ic3 : PySem.W.isClsIn K C3 = true)
    (ic4 : PySem.W.isClsIn K C4 = true)
    (ic5 : PySem.W.isClsIn K C5 = true)
    (ii5NoneType : PySem.W.subIn K (.type "NoneType") (.ref C5) = some false)
    (ii5bool : PySem.W.subIn K (.type "bool") (.ref C5) = some false)
    (ii5dict : PySem.W.subIn K (.type "dict") (.ref C5) = some false)
    (ii5int : PySem.W.subIn K (.type "int") (.ref C5) = some false)
    (ii5list : PySem.W.subIn K (.type "list") (.ref C5) = some false)
    (ii5str : PySem.W.subIn K (.type "str") (.ref C5) = some false)
    (ii5tuple : PySem.W.subIn K (.type "tuple") (.ref C5) = some false)
    (im0 : PySem.W.mroIn K C0 (.type "object") = some true)
    (im1 : PySem.W.mroIn K C1 (.type "object") = some true)
    (im2 : PySem.W.mroIn K C2 (.type "object") = some true)
    (im3 : PySem.W.mroIn K C3 (.type "object") = some true)
    (im4 : PySem.W.mroIn K C4 (.type "object") = some true)
    (im5 : PySem.W.mroIn K C5 (.type "object") = some true)
    (io5bool : PySem.W.subIn K (.ref C5) (.type "bool") = some false)
    (io5dict : PySem.W.subIn K (.ref C5) (.type "dict") = some false)
    (io5int : PySem.W.subIn K (.ref C5) (.type "int") = some false)
    (io5list : PySem.W.subIn K (.ref C5) (.type "list") = some false)
    (io5str : PySem.W.subIn K (.ref C5) (.type "str") = some false)
    (io5tuple : PySem.W.subIn K (.ref C5) (.type "tuple") = some false)
    (it0 : PySem.W.typeIn K (.ref C0) = some (.type "type"))
    (it1 : PySem.W.typeIn K (.ref C1) = some (.type "type"))
    (it2 : PySem.W.typeIn K (.ref C2) = some (.type "type"))
    (it3 : PySem.W.typeIn K (.ref C3) = some (.type "type"))
    (it4 : PySem.W.typeIn K (.ref C4) = some (.type "type"))
    (it5 : PySem.W.typeIn K (.ref C5) = some (.type "type"))
    (kc1 : PySem.W.keepIn K (.ref C1) = true)
    (kc3 : PySem.W.keepIn K (.ref C3) = true)
    (kc4 : PySem.W.keepIn K (.ref C4) = true)
    (kc5 : PySem.W.keepIn K (.ref C5) = true)
    (mk5 : PySem.W.makesIn K C5 = true)
    (n1_found : PySem.W.findIn K (.ref C1) "found" = some none)
    (n3_found : PySem.W.findIn K (.ref C3) "found" = some none)
    (n4_found : PySem.W.findIn K (.ref C4) "found" = some none)
    (n5_kept_numbers : PySem.W.findIn K (.ref C5) "kept_numbers" = some none)
    (ne1_0 : (Value.ref C1 == Value.ref C0) = false)
    (ne1_2 : (Value.ref C1 == Value.ref C2) = false)
    (ne1_3 : (Value.ref C1 == Value.ref C3) = false)
    (ne1_4 : (Value.ref C1 == Value.ref C4) = false)
    (ne3_0 : (Value.ref C3 == Value.ref C0) = false)
    (ne3_1 : (Value.ref C3 == Value.ref C1) = false)
    (ne3_2 : (Value.ref C3 == Value.ref C2) = false)
    (ne3_4 : (Value.ref C3 == Value.ref C4) = false)
    (ne4_0 : (Value.ref C4 == Value.ref C0) = false)
    (ne4_1 : (Value.ref C4 == Value.ref C1) = false)
    (ne4_2 : (Value.ref C4 == Value.ref C2) = false)
    (ne4_3 : (Value.ref C4 == Value.ref C3) = false)
    (pg5 : PySem.W.plainGet K C5 Str.empty = true)
    (po5 : PySem.W.plainOver K C5 = true)
    (sa1 : PySem.W.findIn K (.ref C1) "__setattr__" = some (some (.builtin "object.__setattr__")))
    (sa3 : PySem.W.findIn K (.ref C3) "__setattr__" = some (some (.builtin "object.__setattr__")))
    (sa4 : PySem.W.findIn K (.ref C4) "__setattr__" = some (some (.builtin "object.__setattr__")))
    (sa5 : PySem.W.findIn K (.ref C5) "__setattr__" = some (some (.builtin "object.__setattr__")))
    (sx0 : PySem.W.subIn K (.ref C0) (.type "BaseException") = some true)
    (sx1 : PySem.W.subIn K (.ref C1) (.type "BaseException") = some true)
    (sx2 : PySem.W.subIn K (.ref C2) (.type "BaseException") = some true)
    (sx3 : PySem.W.subIn K (.ref C3) (.type "BaseException") = some true)
    (sx4 : PySem.W.subIn K (.ref C4) (.type "BaseException") = some true)
    (tf1 : PySem.W.typeIn K (.ref f1) = some (.type "function"))
    (tf3 : PySem.W.typeIn K (.ref f3) = some (.type "function"))
    (tf4 : PySem.W.typeIn K (.ref f4) = some (.type "function"))
    (x1_0 : PySem.W.subIn K (.ref C1) (.ref C0) = some true)
    (x1_1 : PySem.W.subIn K (.ref C1) (.ref C1) = some true)
    (x1_2 : PySem.W.subIn K (.ref C1) (.ref C2) = some false)
    (x1_3 : PySem.W.subIn K (.ref C1) (.ref C3) = some false)
    (x1_4 : PySem.W.subIn K (.ref C1) (.ref C4) = some false)
    (x3_0 : PySem.W.subIn K (.ref C3) (.ref C0) = some true)
    (x3_1 : PySem.W.subIn K (.ref C3) (.ref C1) = some false)
    (x3_2 : PySem.W.subIn K (.ref C3) (.ref C2) = some false)
    (x3_3 : PySem.W.subIn K (.ref C3) (.ref C3) = some true)
    (x3_4 : PySem.W.subIn K (.ref C3) (.ref C4) = some false)
    (x4_0 : PySem.W.subIn K (.ref C4) (.ref C0) = some true)
    (x4_1 : PySem.W.subIn K (.ref C4) (.ref C1) = some false)
    (x4_2 : PySem.W.subIn K (.ref C4) (.ref C2) = some false)
    (x4_3 : PySem.W.subIn K (.ref C4) (.ref C3) = some false)
    (x4_4 : PySem.W.subIn K (.ref C4) (.ref C4) = some true)
    (xL1 : K.lookup C1 = some (excClassObj nmx1 qx1 C1 Nx1 bsx1 bmx1 true snx1 subx1 abx1 colx1 ddx1 k0x1 k1x1 k2x1 k3x1 k5x1 "ValueError.__new__"))
    (xL3 : K.lookup C3 = some (excClassObj nmx3 qx3 C3 Nx3 bsx3 bmx3 true snx3 subx3 abx3 colx3 ddx3 k0x3 k1x3 k2x3 k3x3 k5x3 "ValueError.__new__"))
    (xL4 : K.lookup C4 = some (excClassObj nmx4 qx4 C4 Nx4 bsx4 bmx4 true snx4 subx4 abx4 colx4 ddx4 k0x4 k1x4 k2x4 k3x4 k5x4 "ValueError.__new__"))
    (xM1 : PySem.HandSPX.refsVE bmx1 = true)
    (xM3 : PySem.HandSPX.refsVE bmx3 = true)
    (xM4 : PySem.HandSPX.refsVE bmx4 = true)
    (z16 : PySem.W.nsIn K mainGlobals "all" = some none)
    (z21 : PySem.W.nsIn K mainGlobals "bool" = some none)
    (z22 : PySem.W.nsIn K mainGlobals "int" = some none)
    (z24 : PySem.W.nsIn K mainGlobals "isinstance" = some none)
    (z25 : PySem.W.nsIn K mainGlobals "len" = some none)
    (z26 : PySem.W.nsIn K mainGlobals "list" = some none)
    (z27 : PySem.W.nsIn K mainGlobals "max" = some none)
    (z28 : PySem.W.nsIn K mainGlobals "min" = some none)
    (z29 : PySem.W.nsIn K mainGlobals "range" = some none)
    (z31 : PySem.W.nsIn K mainGlobals "tuple" = some none)
    (z32 : PySem.W.nsIn K mainGlobals "zip" = some none)
    : ∃ fd : FuncData, (∀ (s : Shared) (v : Value), BindsTo s fd ⟨[v], []⟩ [("script", v)]) ∧ ∀ base : Heap, K.In base → base.Ns mainGlobals mg → FnOk l.prog w K mg base CX0 8 fa fd ["script"] (spLaw K) := by
  have e := hfa.symm.trans (PySem.W.mg_of X G a34)
  cases e
  have T : Txt K mg { HallError := C0, NoNumber := C1, NoMember := C2, NoCounts := C3, Unlike := C4, Counts := C5, NoNumber_init := f1, d_NoNumber_init := PySem.W.fnOf "__init__" "NoNumber.__init__" (defArgs s_NoNumber_init) (defBody s_NoNumber_init) (defScope s_NoNumber_init) dV1 kV1 dc1 pm1 an1 cd1 ct1, NoCounts_init := f3, d_NoCounts_init := PySem.W.fnOf "__init__" "NoCounts.__init__" (defArgs s_NoCounts_init) (defBody s_NoCounts_init) (defScope s_NoCounts_init) dV3 kV3 dc3 pm3 an3 cd3 ct3, Unlike_init := f4, d_Unlike_init := PySem.W.fnOf "__init__" "Unlike.__init__" (defArgs s_Unlike_init) (defBody s_Unlike_init) (defScope s_Unlike_init) dV4 kV4 dc4 pm4 an4 cd4 ct4, is_whole := f5, d_is_whole := PySem.W.fnOf "is_whole" "is_whole" (defArgs s_is_whole) (defBody s_is_whole) (defScope s_is_whole) dV5 kV5 dc5 pm5 an5 cd5 ct5, are_members := f6, d_are_members := PySem.W.fnOf "are_members" "are_members" (defArgs s_are_members) (defBody s_are_members) (defScope s_are_members) dV6 kV6 dc6 pm6 an6 cd6 ct6, are_numbers := f7, d_are_numbers := PySem.W.fnOf "are_numbers" "are_numbers" (defArgs s_are_numbers) (defBody s_are_numbers) (defScope s_are_numbers) dV7 kV7 dc7 pm7 an7 cd7 ct7, Counts_init := f8, d_Counts_init := PySem.W.fnOf "__init__" "Counts.__init__" (defArgs s_Counts_init) (defBody s_Counts_init) (defScope s_Counts_init) dV8 kV8 dc8 pm8 an8 cd8 ct8, Counts_told := f13, d_Counts_told := PySem.W.fnOf "told" "Counts.told" (defArgs s_Counts_told) (defBody s_Counts_told) (defScope s_Counts_told) dV13 kV13 dc13 pm13 an13 cd13 ct13, Counts_need_like := f15, d_Counts_need_like := PySem.W.fnOf "need_like" "Counts.need_like" (defArgs s_Counts_need_like) (defBody s_Counts_need_like) (defScope s_Counts_need_like) dV15 kV15 dc15 pm15 an15 cd15 ct15, Counts_joined := f18, d_Counts_joined := PySem.W.fnOf "joined" "Counts.joined" (defArgs s_Counts_joined) (defBody s_Counts_joined) (defScope s_Counts_joined) dV18 kV18 dc18 pm18 an18 cd18 ct18, are_rows := f25, d_are_rows := PySem.W.fnOf "are_rows" "are_rows" (defArgs s_are_rows) (defBody s_are_rows) (defScope s_are_rows) dV25 kV25 dc25 pm25 an25 cd25 ct25, all_joined := f26, d_all_joined := PySem.W.fnOf "all_joined" "all_joined" (defArgs s_all_joined) (defBody s_all_joined) (defScope s_all_joined) dV26 kV26 dc26 pm26 an26 cd26 ct26, _law_cell_at := f27, d__law_cell_at := PySem.W.fnOf "_law_cell_at" "_law_cell_at" (defArgs s__law_cell_at) (defBody s__law_cell_at) (defScope s__law_cell_at) dV27 kV27 dc27 pm27 an27 cd27 ct27, _law_pool := f28, d__law_pool := PySem.W.fnOf "_law_pool" "_law_pool" (defArgs s__law_pool) (defBody s__law_pool) (defScope s__law_pool) dV28 kV28 dc28 pm28 an28 cd28 ct28, _law_take := f29, d__law_take := PySem.W.fnOf "_law_take" "_law_take" (defArgs s__law_take) (defBody s__law_take) (defScope s__law_take) dV29 kV29 dc29 pm29 an29 cd29 ct29, _law_numbers := f30, d__law_numbers := PySem.W.fnOf "_law_numbers" "_law_numbers" (defArgs s__law_numbers) (defBody s__law_numbers) (defScope s__law_numbers) dV30 kV30 dc30 pm30 an30 cd30 ct30, _law_rows := f31, d__law_rows := PySem.W.fnOf "_law_rows" "_law_rows" (defArgs s__law_rows) (defBody s__law_rows) (defScope s__law_rows) dV31 kV31 dc31 pm31 an31 cd31 ct31, _law_first := f32, d__law_first := PySem.W.fnOf "_law_first" "_law_first" (defArgs s__law_first) (defBody s__law_first) (defScope s__law_first) dV32 kV32 dc32 pm32 an32 cd32 ct32, _law_right := f33, d__law_right := PySem.W.fnOf "_law_right" "_law_right" (defArgs s__law_right) (defBody s__law_right) (defScope s__law_right) dV33 kV33 dc33 pm33 an33 cd33 ct33, law := fa, d_law := PySem.W.fnOf "law" "law" (defArgs s_law) (defBody s_law) (defScope s_law) dV34 kV34 dc34 pm34 an34 cd34 ct34 } := {
    m_HallError := PySem.W.mg_of X G aC0,
    e_HallError := ⟨ga0, gg0, sx0, hd0, ia0, hn, htk, im0, it0⟩,
    hs_HallError := hs0,
    hq_HallError := hq0,
    hf_HallError := hf0,
    m_NoNumber := PySem.W.mg_of X G aC1,
    n_NoNumber_found := n1_found,
    e_NoNumber := ⟨ga1, gg1, sx1, hd1, ia1, hn, htk, im1, it1⟩,
    o_NoNumber := ⟨⟨_, _, _, _, _, _, _, _, _, _, _, _, _, _, _, xL1, xM1⟩, sa1, sx1, it1, kc1⟩,
    oi_NoNumber := a1,
    ot_NoNumber := tf1,
    u_NoNumber_HallError := x1_0,
    u_NoNumber_NoNumber := x1_1,
    u_NoNumber_NoMember := x1_2,
    u_NoNumber_NoCounts := x1_3,
    u_NoNumber_Unlike := x1_4,
    x_NoNumber_HallError := kit_in ne1_0 ic0 it0 x1_0,
    x_NoNumber_NoMember := kit_in ne1_2 ic2 it2 x1_2,
    x_NoNumber_NoCounts := kit_in ne1_3 ic3 it3 x1_3,
    x_NoNumber_Unlike := kit_in ne1_4 ic4 it4 x1_4,
    e_NoMember := ⟨ga2, gg2, sx2, hd2, ia2, hn, htk, im2, it2⟩,
    m_NoCounts := PySem.W.mg_of X G aC3,
    n_NoCounts_found := n3_found,
    e_NoCounts := ⟨ga3, gg3, sx3, hd3, ia3, hn, htk, im3, it3⟩,
    o_NoCounts := ⟨⟨_, _, _, _, _, _, _, _, _, _, _, _, _, _, _, xL3, xM3⟩, sa3, sx3, it3, kc3⟩,
    oi_NoCounts := a3,
    ot_NoCounts := tf3,
    u_NoCounts_HallError := x3_0,
    u_NoCounts_NoNumber := x3_1,
    u_NoCounts_NoMember := x3_2,
    u_NoCounts_NoCounts := x3_3,
    u_NoCounts_Unlike := x3_4,
    x_NoCounts_HallError := kit_in ne3_0 ic0 it0 x3_0,
    x_NoCounts_NoNumber := kit_in ne3_1 ic1 it1 x3_1,
    x_NoCounts_NoMember := kit_in ne3_2 ic2 it2 x3_2,
    x_NoCounts_Unlike := kit_in ne3_4 ic4 it4 x3_4,
    m_Unlike := PySem.W.mg_of X G aC4,
    n_Unlike_found := n4_found,
    e_Unlike := ⟨ga4, gg4, sx4, hd4, ia4, hn, htk, im4, it4⟩,
    o_Unlike := ⟨⟨_, _, _, _, _, _, _, _, _, _, _, _, _, _, _, xL4, xM4⟩, sa4, sx4, it4, kc4⟩,
    oi_Unlike := a4,
    ot_Unlike := tf4,
    u_Unlike_HallError := x4_0,
    u_Unlike_NoNumber := x4_1,
    u_Unlike_NoMember := x4_2,
    u_Unlike_NoCounts := x4_3,
    u_Unlike_Unlike := x4_4,
    x_Unlike_HallError := kit_in ne4_0 ic0 it0 x4_0,
    x_Unlike_NoNumber := kit_in ne4_1 ic1 it1 x4_1,
    x_Unlike_NoMember := kit_in ne4_2 ic2 it2 x4_2,
    x_Unlike_NoCounts := kit_in ne4_3 ic3 it3 x4_3,
    m_Counts := PySem.W.mg_of X G aC5,
    c_Counts := ⟨pg5, hd5, po5, sa5⟩,
    i_Counts := ⟨ia5, hn, htk, im5, fun d => by cases d <;> first | exact kit_out (by decide +kernel) io5int | exact kit_out (by decide +kernel) io5bool | exact kit_out (by decide +kernel) io5str | exact kit_out (by decide +kernel) io5list | exact kit_out (by decide +kernel) io5tuple | exact kit_out (by decide +kernel) io5dict, fun t ht => by
      simp only [List.mem_cons, List.not_mem_nil, or_false] at ht
      rcases ht with rfl | rfl | rfl | rfl | rfl | rfl | rfl
      all_goals first | exact kit_in rfl ic5 it5 ii5NoneType | exact kit_in rfl ic5 it5 ii5int | exact kit_in rfl ic5 it5 ii5bool | exact kit_in rfl ic5 it5 ii5str | exact kit_in rfl ic5 it5 ii5list | exact kit_in rfl ic5 it5 ii5tuple | exact kit_in rfl ic5 it5 ii5dict⟩,
    mk_Counts := ⟨mk5, a8, i8, kc5⟩,
    n_Counts_kept_numbers := n5_kept_numbers,
    F_NoNumber_init := (fund_mk (K := K) (x := "__init__") (qual := "NoNumber.__init__") (st := s_NoNumber_init) (dvs := []) l1 c1 k1 (.inl ⟨rfl, q1⟩)),
    B_NoNumber_init := fund_all0 (fund_mk (K := K) (x := "__init__") (qual := "NoNumber.__init__") (st := s_NoNumber_init) (dvs := []) l1 c1 k1 (.inl ⟨rfl, q1⟩)) (fun _ _ _ _ _ _ us hl => match us, hl with | [_, _], _ => rfl),
    F_NoCounts_init := (fund_mk (K := K) (x := "__init__") (qual := "NoCounts.__init__") (st := s_NoCounts_init) (dvs := []) l3 c3 k3 (.inl ⟨rfl, q3⟩)),
    B_NoCounts_init := fund_all0 (fund_mk (K := K) (x := "__init__") (qual := "NoCounts.__init__") (st := s_NoCounts_init) (dvs := []) l3 c3 k3 (.inl ⟨rfl, q3⟩)) (fun _ _ _ _ _ _ us hl => match us, hl with | [_, _], _ => rfl),
    F_Unlike_init := (fund_mk (K := K) (x := "__init__") (qual := "Unlike.__init__") (st := s_Unlike_init) (dvs := []) l4 c4 k4 (.inl ⟨rfl, q4⟩)),
    B_Unlike_init := fund_all0 (fund_mk (K := K) (x := "__init__") (qual := "Unlike.__init__") (st := s_Unlike_init) (dvs := []) l4 c4 k4 (.inl ⟨rfl, q4⟩)) (fun _ _ _ _ _ _ us hl => match us, hl with | [_, _], _ => rfl),
    F_is_whole := (fund_mk (K := K) (x := "is_whole") (qual := "is_whole") (st := s_is_whole) (dvs := [V.non]) l5 c5 k5 (dfl_mk q5 r5 rfl s5 (by simp))),
    B_is_whole := fund_allD (fund_mk (K := K) (x := "is_whole") (qual := "is_whole") (st := s_is_whole) (dvs := [V.non]) l5 c5 k5 (dfl_mk q5 r5 rfl s5 (by simp))) (by simp) (fun _ _ _ _ _ _ _ us its hl h2 => match us, its, hl, h2 with | [_, _, _], [_], _, _ => ⟨_, rfl, rfl⟩),
    m_is_whole := PySem.W.mg_of X G a5,
    B1_is_whole := FunD.binds1 (fund_mk (K := K) (x := "is_whole") (qual := "is_whole") (st := s_is_whole) (dvs := [V.non]) l5 c5 k5 (dfl_mk q5 r5 rfl s5 (by simp))) 2 0 (by simp) (by decide) (fun _ _ _ _ _ _ _ us its h1 h2 => match us, its, h1, h2 with | [_, _], [_], _, _ => ⟨_, rfl, rfl⟩),
    F_are_members := (fund_mk (K := K) (x := "are_members") (qual := "are_members") (st := s_are_members) (dvs := []) l6 c6 k6 (.inl ⟨rfl, q6⟩)),
    B_are_members := fund_all0 (fund_mk (K := K) (x := "are_members") (qual := "are_members") (st := s_are_members) (dvs := []) l6 c6 k6 (.inl ⟨rfl, q6⟩)) (fun _ _ _ _ _ _ us hl => match us, hl with | [_], _ => rfl),
    m_are_members := PySem.W.mg_of X G a6,
    F_are_numbers := (fund_mk (K := K) (x := "are_numbers") (qual := "are_numbers") (st := s_are_numbers) (dvs := []) l7 c7 k7 (.inl ⟨rfl, q7⟩)),
    B_are_numbers := fund_all0 (fund_mk (K := K) (x := "are_numbers") (qual := "are_numbers") (st := s_are_numbers) (dvs := []) l7 c7 k7 (.inl ⟨rfl, q7⟩)) (fun _ _ _ _ _ _ us hl => match us, hl with | [_], _ => rfl),
    m_are_numbers := PySem.W.mg_of X G a7,
    F_Counts_init := (fund_mk (K := K) (x := "__init__") (qual := "Counts.__init__") (st := s_Counts_init) (dvs := []) l8 c8 k8 (.inl ⟨rfl, q8⟩)),
    B_Counts_init := fund_all0 (fund_mk (K := K) (x := "__init__") (qual := "Counts.__init__") (st := s_Counts_init) (dvs := []) l8 c8 k8 (.inl ⟨rfl, q8⟩)) (fun _ _ _ _ _ _ us hl => match us, hl with | [_, _], _ => rfl),
    F_Counts_told := (fund_mk (K := K) (x := "told") (qual := "Counts.told") (st := s_Counts_told) (dvs := []) l13 c13 k13 (.inl ⟨rfl, q13⟩)),
    B_Counts_told := fund_all0 (fund_mk (K := K) (x := "told") (qual := "Counts.told") (st := s_Counts_told) (dvs := []) l13 c13 k13 (.inl ⟨rfl, q13⟩)) (fun _ _ _ _ _ _ us hl => match us, hl with | [_], _ => rfl),
    M_Counts_told := ⟨a13, i13, k13⟩,
    F_Counts_need_like := (fund_mk (K := K) (x := "need_like") (qual := "Counts.need_like") (st := s_Counts_need_like) (dvs := []) l15 c15 k15 (.inl ⟨rfl, q15⟩)),
    B_Counts_need_like := fund_all0 (fund_mk (K := K) (x := "need_like") (qual := "Counts.need_like") (st := s_Counts_need_like) (dvs := []) l15 c15 k15 (.inl ⟨rfl, q15⟩)) (fun _ _ _ _ _ _ us hl => match us, hl with | [_, _], _ => rfl),
    M_Counts_need_like := ⟨a15, i15, k15⟩,
    F_Counts_joined := (fund_mk (K := K) (x := "joined") (qual := "Counts.joined") (st := s_Counts_joined) (dvs := []) l18 c18 k18 (.inl ⟨rfl, q18⟩)),
    B_Counts_joined := fund_all0 (fund_mk (K := K) (x := "joined") (qual := "Counts.joined") (st := s_Counts_joined) (dvs := []) l18 c18 k18 (.inl ⟨rfl, q18⟩)) (fun _ _ _ _ _ _ us hl => match us, hl with | [_, _], _ => rfl),
    M_Counts_joined := ⟨a18, i18, k18⟩,
    F_are_rows := (fund_mk (K := K) (x := "are_rows") (qual := "are_rows") (st := s_are_rows) (dvs := []) l25 c25 k25 (.inl ⟨rfl, q25⟩)),
    B_are_rows := fund_all0 (fund_mk (K := K) (x := "are_rows") (qual := "are_rows") (st := s_are_rows) (dvs := []) l25 c25 k25 (.inl ⟨rfl, q25⟩)) (fun _ _ _ _ _ _ us hl => match us, hl with | [_, _], _ => rfl),
    m_are_rows := PySem.W.mg_of X G a25,
    F_all_joined := (fund_mk (K := K) (x := "all_joined") (qual := "all_joined") (st := s_all_joined) (dvs := []) l26 c26 k26 (.inl ⟨rfl, q26⟩)),
    B_all_joined := fund_all0 (fund_mk (K := K) (x := "all_joined") (qual := "all_joined") (st := s_all_joined) (dvs := []) l26 c26 k26 (.inl ⟨rfl, q26⟩)) (fun _ _ _ _ _ _ us hl => match us, hl with | [_, _], _ => rfl),
    m_all_joined := PySem.W.mg_of X G a26,
    F__law_cell_at := (fund_mk (K := K) (x := "_law_cell_at") (qual := "_law_cell_at") (st := s__law_cell_at) (dvs := []) l27 c27 k27 (.inl ⟨rfl, q27⟩)),
    B__law_cell_at := fund_all0 (fund_mk (K := K) (x := "_law_cell_at") (qual := "_law_cell_at") (st := s__law_cell_at) (dvs := []) l27 c27 k27 (.inl ⟨rfl, q27⟩)) (fun _ _ _ _ _ _ us hl => match us, hl with | [_, _], _ => rfl),
    m__law_cell_at := PySem.W.mg_of X G a27,
    F__law_pool := (fund_mk (K := K) (x := "_law_pool") (qual := "_law_pool") (st := s__law_pool) (dvs := []) l28 c28 k28 (.inl ⟨rfl, q28⟩)),
    B__law_pool := fund_all0 (fund_mk (K := K) (x := "_law_pool") (qual := "_law_pool") (st := s__law_pool) (dvs := []) l28 c28 k28 (.inl ⟨rfl, q28⟩)) (fun _ _ _ _ _ _ us hl => match us, hl with | [_], _ => rfl),
    m__law_pool := PySem.W.mg_of X G a28,
    F__law_take := (fund_mk (K := K) (x := "_law_take") (qual := "_law_take") (st := s__law_take) (dvs := []) l29 c29 k29 (.inl ⟨rfl, q29⟩)),
    B__law_take := fund_all0 (fund_mk (K := K) (x := "_law_take") (qual := "_law_take") (st := s__law_take) (dvs := []) l29 c29 k29 (.inl ⟨rfl, q29⟩)) (fun _ _ _ _ _ _ us hl => match us, hl with | [_, _], _ => rfl),
    m__law_take := PySem.W.mg_of X G a29,
    F__law_numbers := (fund_mk (K := K) (x := "_law_numbers") (qual := "_law_numbers") (st := s__law_numbers) (dvs := []) l30 c30 k30 (.inl ⟨rfl, q30⟩)),
    B__law_numbers := fund_all0 (fund_mk (K := K) (x := "_law_numbers") (qual := "_law_numbers") (st := s__law_numbers) (dvs := []) l30 c30 k30 (.inl ⟨rfl, q30⟩)) (fun _ _ _ _ _ _ us hl => match us, hl with | [_, _], _ => rfl),
    m__law_numbers := PySem.W.mg_of X G a30,
    F__law_rows := (fund_mk (K := K) (x := "_law_rows") (qual := "_law_rows") (st := s__law_rows) (dvs := []) l31 c31 k31 (.inl ⟨rfl, q31⟩)),
    B__law_rows := fund_all0 (fund_mk (K := K) (x := "_law_rows") (qual := "_law_rows") (st := s__law_rows) (dvs := []) l31 c31 k31 (.inl ⟨rfl, q31⟩)) (fun _ _ _ _ _ _ us hl => match us, hl with | [_, _, _], _ => rfl),
    m__law_rows := PySem.W.mg_of X G a31,
    F__law_first := (fund_mk (K := K) (x := "_law_first") (qual := "_law_first") (st := s__law_first) (dvs := []) l32 c32 k32 (.inl ⟨rfl, q32⟩)),
    B__law_first := fund_all0 (fund_mk (K := K) (x := "_law_first") (qual := "_law_first") (st := s__law_first) (dvs := []) l32 c32 k32 (.inl ⟨rfl, q32⟩)) (fun _ _ _ _ _ _ us hl => match us, hl with | [_, _], _ => rfl),
    m__law_first := PySem.W.mg_of X G a32,
    F__law_right := (fund_mk (K := K) (x := "_law_right") (qual := "_law_right") (st := s__law_right) (dvs := []) l33 c33 k33 (.inl ⟨rfl, q33⟩)),
    B__law_right := fund_all0 (fund_mk (K := K) (x := "_law_right") (qual := "_law_right") (st := s__law_right) (dvs := []) l33 c33 k33 (.inl ⟨rfl, q33⟩)) (fun _ _ _ _ _ _ us hl => match us, hl with | [_, _, _], _ => rfl),
    m__law_right := PySem.W.mg_of X G a33,
    F_law := (fund_mk (K := K) (x := "law") (qual := "law") (st := s_law) (dvs := []) l34 c34 k34 (.inl ⟨rfl, q34⟩)),
    g_LEAST_MEMBERS := ⟨_, PySem.W.mg_of X G gl0, gr0⟩,
    g_MOST_MEMBERS := ⟨_, PySem.W.mg_of X G gl1, gr1⟩,
    b_all := PySem.W.mg_none_of X G z16,
    b_bool := PySem.W.mg_none_of X G z21,
    b_int := PySem.W.mg_none_of X G z22,
    b_isinstance := PySem.W.mg_none_of X G z24,
    b_len := PySem.W.mg_none_of X G z25,
    b_list := PySem.W.mg_none_of X G z26,
    b_max := PySem.W.mg_none_of X G z27,
    b_min := PySem.W.mg_none_of X G z28,
    b_range := PySem.W.mg_none_of X G z29,
    b_tuple := PySem.W.mg_none_of X G z31,
    b_zip := PySem.W.mg_none_of X G z32
  }
  exact ⟨_, fun s v => (fund_mk (K := K) (x := "law") (qual := "law") (st := s_law) (dvs := []) l34 c34 k34 (.inl ⟨rfl, q34⟩)).bindsA (ps := ["script"]) (fun _ _ _ _ _ _ us hl => match us, hl with | [_], _ => rfl) s [v] rfl, fun base _ _ => ok_law T⟩
theorem walk {l : PySem.W.OpenLaw} {q : Program} {loose : List Str} {XP : (Str → Option Value) → Heap → Prop} {YP : World → Heap → Prop} {d : DefRec} {K : Params → PySem.W.Frag} (hn : l.most = some 63) (hdf : d.params.defaults = [])
    (hY : ∀ (w : World) (h : Heap), YP w h → (K w.params).In h)
    (F : ∀ (w : World) (mg : Str → Option Value) (fa : Addr) (h : Heap), (K w.params).In h → h.Ns mainGlobals mg → mg d.name = some (.ref fa) →
      ∃ fd : FuncData, (∀ (s : Shared) (u : Value), BindsTo s fd ⟨[u], []⟩ [("script", u)]) ∧ ∀ base : Heap, (K w.params).In base → base.Ns mainGlobals mg → FnOk l.prog w (K w.params) mg base CX0 8 fa fd ["script"] (spLaw (K w.params))) :
    PySem.W.WalkO q loose XP YP l.row.toRowW d [] (fun f vs => PySem.call f vs) :=
  L2.walk_of (n := 63) (k := 8) (x := "script") (CX := fun _ => CX0) (sp := fun w => spLaw (K w.params)) hn (by decide) hdf ⟨rfl, by decide, by decide⟩ hY F (fun _ _ b ns hl _ hS => ⟨b, ns, rfl, hS, hl, fun _ => rfl⟩) fun _ _ _ _ _ z => z
end My
open PySem PySem.W PyProof.Rows
set_option maxRecDepth 100000 in
set_option maxHeartbeats 0 in
theorem PySem.Challenge.cw_causehall_k05_all_joined_holds : PySem.Challenge.rw_causehall_k05_all_joined.Holds := by
  w_on; o_law; k_head; (case hw => w_witness2)
  k_fill
  refine My.walk (l := PySem.Challenge.rw_causehall_k05_all_joined) rfl rfl (fun w h Y => PySem.W.kIn_of Y) ?F
  case F =>
    intro w mg fa h KX G hmg
    refine' My.all_mk KX G hmg ?aC0 ?aC1 ?aC2 ?aC3 ?aC4 ?aC5 ?a1 ?i1 ?l1 ?c1 ?k1 ?q1 ?a3 ?i3 ?l3 ?c3 ?k3 ?q3 ?a4 ?i4 ?l4 ?c4 ?k4 ?q4 ?a5 ?l5 ?c5 ?k5 ?q5 ?r5 ?s5 ?a6 ?l6 ?c6 ?k6 ?q6 ?a7 ?l7 ?c7 ?k7 ?q7 ?a8 ?i8 ?l8 ?c8 ?k8 ?q8 ?a13 ?i13 ?l13 ?c13 ?k13 ?q13 ?a15 ?i15 ?l15 ?c15 ?k15 ?q15 ?a18 ?i18 ?l18 ?c18 ?k18 ?q18 ?a25 ?l25 ?c25 ?k25 ?q25 ?a26 ?l26 ?c26 ?k26 ?q26 ?a27 ?l27 ?c27 ?k27 ?q27 ?a28 ?l28 ?c28 ?k28 ?q28 ?a29 ?l29 ?c29 ?k29 ?q29 ?a30 ?l30 ?c30 ?k30 ?q30 ?a31 ?l31 ?c31 ?k31 ?q31 ?a32 ?l32 ?c32 ?k32 ?q32 ?a33 ?l33 ?c33 ?k33 ?q33 ?a34 ?l34 ?c34 ?k34 ?q34 ?gl0 ?gr0 ?gl1 ?gr1 ?ga0 ?ga1 ?ga2 ?ga3 ?ga4 ?gg0 ?gg1 ?gg2 ?gg3 ?gg4 ?hd0 ?hd1 ?hd2 ?hd3 ?hd4 ?hd5 ?hf0 ?hn ?hq0 ?hs0 ?htk ?ia0 ?ia1 ?ia2 ?ia3 ?ia4 ?ia5 ?ic0 ?ic1 ?ic2 ?ic3 ?ic4 ?ic5 ?ii5NoneType ?ii5bool ?ii5dict ?ii5int ?ii5list ?ii5str ?ii5tuple ?im0 ?im1 ?im2 ?im3 ?im4 ?im5 ?io5bool ?io5dict ?io5int ?io5list ?io5str ?io5tuple ?it0 ?it1 ?it2 ?it3 ?it4 ?it5 ?kc1 ?kc3 ?kc4 ?kc5 ?mk5 ?n1_found ?n3_found ?n4_found ?n5_kept_numbers ?ne1_0 ?ne1_2 ?ne1_3 ?ne1_4 ?ne3_0 ?ne3_1 ?ne3_2 ?ne3_4 ?ne4_0 ?ne4_1 ?ne4_2 ?ne4_3 ?pg5 ?po5 ?sa1 ?sa3 ?sa4 ?sa5 ?sx0 ?sx1 ?sx2 ?sx3 ?sx4 ?tf1 ?tf3 ?tf4 ?x1_0 ?x1_1 ?x1_2 ?x1_3 ?x1_4 ?x3_0 ?x3_1 ?x3_2 ?x3_3 ?x3_4 ?x4_0 ?x4_1 ?x4_2 ?x4_3 ?x4_4 ?xL1 ?xL3 ?xL4 ?xM1 ?xM3 ?xM4 ?z16 ?z21 ?z22 ?z24 ?z25 ?z26 ?z27 ?z28 ?z29 ?z31 ?z32
    (case aC0 => k_is)
    (case aC1 => k_is)
    (case aC2 => k_is)
    (case aC3 => k_is)
    (case aC4 => k_is)
    (case aC5 => k_is)
    (case a1 => k_is)
    (case i1 => k_is)
    (case l1 => k_is)
    (case c1 => k_is)
    (case k1 => k_is)
    (case q1 => rfl)
    (case a3 => k_is)
    (case i3 => k_is)
    (case l3 => k_is)
    (case c3 => k_is)
    (case k3 => k_is)
    (case q3 => rfl)
    (case a4 => k_is)
    (case i4 => k_is)
    (case l4 => k_is)
    (case c4 => k_is)
    (case k4 => k_is)
    (case q4 => rfl)
    (case a5 => k_is)
    (case l5 => k_is)
    (case c5 => k_is)
    (case k5 => k_is)
    (case q5 => rfl)
    (case r5 => k_is)
    (case s5 => exact .cons rfl (.nil))
    (case a6 => k_is)
    (case l6 => k_is)
    (case c6 => k_is)
    (case k6 => k_is)
    (case q6 => rfl)
    (case a7 => k_is)
    (case l7 => k_is)
    (case c7 => k_is)
    (case k7 => k_is)
    (case q7 => rfl)
    (case a8 => k_is)
    (case i8 => k_is)
    (case l8 => k_is)
    (case c8 => k_is)
    (case k8 => k_is)
    (case q8 => rfl)
    (case a13 => k_is)
    (case i13 => k_is)
    (case l13 => k_is)
    (case c13 => k_is)
    (case k13 => k_is)
    (case q13 => rfl)
    (case a15 => k_is)
    (case i15 => k_is)
    (case l15 => k_is)
    (case c15 => k_is)
    (case k15 => k_is)
    (case q15 => rfl)
    (case a18 => k_is)
    (case i18 => k_is)
    (case l18 => k_is)
    (case c18 => k_is)
    (case k18 => k_is)
    (case q18 => rfl)
    (case a25 => k_is)
    (case l25 => k_is)
    (case c25 => k_is)
    (case k25 => k_is)
    (case q25 => rfl)
    (case a26 => k_is)
    (case l26 => k_is)
    (case c26 => k_is)
    (case k26 => k_is)
    (case q26 => rfl)
    (case a27 => k_is)
    (case l27 => k_is)
    (case c27 => k_is)
    (case k27 => k_is)
    (case q27 => rfl)
    (case a28 => k_is)
    (case l28 => k_is)
    (case c28 => k_is)
    (case k28 => k_is)
    (case q28 => rfl)
    (case a29 => k_is)
    (case l29 => k_is)
    (case c29 => k_is)
    (case k29 => k_is)
    (case q29 => rfl)
    (case a30 => k_is)
    (case l30 => k_is)
    (case c30 => k_is)
    (case k30 => k_is)
    (case q30 => rfl)
    (case a31 => k_is)
    (case l31 => k_is)
    (case c31 => k_is)
    (case k31 => k_is)
    (case q31 => rfl)
    (case a32 => k_is)
    (case l32 => k_is)
    (case c32 => k_is)
    (case k32 => k_is)
    (case q32 => rfl)
    (case a33 => k_is)
    (case l33 => k_is)
    (case c33 => k_is)
    (case k33 => k_is)
    (case q33 => rfl)
    (case a34 => k_is)
    (case l34 => k_is)
    (case c34 => k_is)
    (case k34 => k_is)
    (case q34 => rfl)
    (case gl0 => k_is)
    (case gr0 => exact ⟨_, rfl⟩)
    (case gl1 => k_is)
    (case gr1 => exact ⟨_, rfl⟩)
    (case ga0 => k_is)
    (case ga1 => k_is)
    (case ga2 => k_is)
    (case ga3 => k_is)
    (case ga4 => k_is)
    (case gg0 => k_is)
    (case gg1 => k_is)
    (case gg2 => k_is)
    (case gg3 => k_is)
    (case gg4 => k_is)
    (case hd0 => k_is)
    (case hd1 => k_is)
    (case hd2 => k_is)
    (case hd3 => k_is)
    (case hd4 => k_is)
    (case hd5 => k_is)
    (case hf0 => k_is)
    (case hn => k_is)
    (case hq0 => k_is)
    (case hs0 => k_is)
    (case htk => k_is)
    (case ia0 => k_is)
    (case ia1 => k_is)
    (case ia2 => k_is)
    (case ia3 => k_is)
    (case ia4 => k_is)
    (case ia5 => k_is)
    (case ic0 => k_is)
    (case ic1 => k_is)
    (case ic2 => k_is)
    (case ic3 => k_is)
    (case ic4 => k_is)
    (case ic5 => k_is)
    (case ii5NoneType => k_is)
    (case ii5bool => k_is)
    (case ii5dict => k_is)
    (case ii5int => k_is)
    (case ii5list => k_is)
    (case ii5str => k_is)
    (case ii5tuple => k_is)
    (case im0 => k_is)
    (case im1 => k_is)
    (case im2 => k_is)
    (case im3 => k_is)
    (case im4 => k_is)
    (case im5 => k_is)
    (case io5bool => k_is)
    (case io5dict => k_is)
    (case io5int => k_is)
    (case io5list => k_is)
    (case io5str => k_is)
    (case io5tuple => k_is)
    (case it0 => k_is)
    (case it1 => k_is)
    (case it2 => k_is)
    (case it3 => k_is)
    (case it4 => k_is)
    (case it5 => k_is)
    (case kc1 => k_is)
    (case kc3 => k_is)
    (case kc4 => k_is)
    (case kc5 => k_is)
    (case mk5 => k_is)
    (case n1_found => k_is)
    (case n3_found => k_is)
    (case n4_found => k_is)
    (case n5_kept_numbers => k_is)
    (case ne1_0 => rfl)
    (case ne1_2 => rfl)
    (case ne1_3 => rfl)
    (case ne1_4 => rfl)
    (case ne3_0 => rfl)
    (case ne3_1 => rfl)
    (case ne3_2 => rfl)
    (case ne3_4 => rfl)
    (case ne4_0 => rfl)
    (case ne4_1 => rfl)
    (case ne4_2 => rfl)
    (case ne4_3 => rfl)
    (case pg5 => k_is)
    (case po5 => k_is)
    (case sa1 => k_is)
    (case sa3 => k_is)
    (case sa4 => k_is)
    (case sa5 => k_is)
    (case sx0 => k_is)
    (case sx1 => k_is)
    (case sx2 => k_is)
    (case sx3 => k_is)
    (case sx4 => k_is)
    (case tf1 => k_is)
    (case tf3 => k_is)
    (case tf4 => k_is)
    (case x1_0 => k_is)
    (case x1_1 => k_is)
    (case x1_2 => k_is)
    (case x1_3 => k_is)
    (case x1_4 => k_is)
    (case x3_0 => k_is)
    (case x3_1 => k_is)
    (case x3_2 => k_is)
    (case x3_3 => k_is)
    (case x3_4 => k_is)
    (case x4_0 => k_is)
    (case x4_1 => k_is)
    (case x4_2 => k_is)
    (case x4_3 => k_is)
    (case x4_4 => k_is)
    (case xL1 => k_is)
    (case xL3 => k_is)
    (case xL4 => k_is)
    (case xM1 => exact rfl)
    (case xM3 => exact rfl)
    (case xM4 => exact rfl)
    (case z16 => k_is)
    (case z21 => k_is)
    (case z22 => k_is)
    (case z24 => k_is)
    (case z25 => k_is)
    (case z26 => k_is)
    (case z27 => k_is)
    (case z28 => k_is)
    (case z29 => k_is)
    (case z31 => k_is)
    (case z32 => k_is)
#print axioms PySem.Challenge.cw_causehall_k05_all_joined_holds

