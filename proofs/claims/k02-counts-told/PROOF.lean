import PyProof.Rows.All
import Wide.All
import OpenK.AllK
import Wide.FinOn
import HandS.ForMost
import HandS.Wide
import HandS.IsInst
import HandS.Style
import HandS.Defaults
import HandS.Walk
import KE.IntTextLaws
import HandS.ForExc
import HandS.TryMany
import HandS.TryElse
import KE.KTryMore
import HandS.ExcInit
import HandS.CallSlots
import HandS.ExcField
import HandS.ExcIs
import KE.KEqNest
import PyProof.NeKinds
import KE.KExcIs
import HandS.Zip
import KE.KRevSl
import HandS.OwnEq
import HandS.Small
import HandS.More
import KE.GoesEnum
import KE.GoesMore
import KE.DataMinMax
import KE.KFmtOwn
import KE.KCallOwn
import PyProof.InstNe
import HandS.FStr
import PyProof.Rows.StrJoinMade
import HandS.DictComp
import HandS.HotCalls
import PySem.Challenge.RW_causehall_k02_counts_told
set_option Elab.async false
set_option maxRecDepth 100000
set_option maxHeartbeats 4000000
/-! == of things of any make: what is one thing, numbers, texts, lists and tuples of such. -/
namespace My
open PySem L2 PySem.SeqAt PySem.W
/-- what == says of two flat things, numbers and truths together -/
def eqF : V → V → Option Bool
  | .int i, .int j => some (i == j)
  | .bl i, .bl j => some (i == j)
  | .str i, .str j => some (i == j)
  | .bl a, .int j => some ((if a then 1 else 0) == j)
  | .int i, .bl b => some (i == (if b then 1 else 0))
  | .non, .non => some true
  | .int _, .non | .non, .int _ | .int _, .str _ | .str _, .int _ | .str _, .non | .non, .str _ | .bl _, .non | .non, .bl _ | .bl _, .str _ | .str _, .bl _ => some false
  | _, _ => none
theorem eqF_at {A : Around} {s : Shared} {x y : V} {b : Bool} {u v : Value} (h : eqF x y = some b) (ru : RelV x u) (rv : RelV y v) : EqAt A s u v b := by
  cases x with
  | non =>
    cases y with
    | non =>
      obtain rfl : u = Value.none := ru
      obtain rfl : v = Value.none := rv
      obtain rfl := Option.some.inj h
      exact .same _
    | bl q =>
      obtain rfl : u = Value.none := ru
      obtain rfl : v = Value.bool q := rv
      obtain rfl := Option.some.inj h
      exact .none_bool _
    | int q =>
      obtain rfl : u = Value.none := ru
      obtain ⟨tq, rfl⟩ : ∃ t, v = Value.int q t := rv
      obtain rfl := Option.some.inj h
      exact .none_int _ _
    | str q =>
      obtain rfl : u = Value.none := ru
      obtain ⟨tq, rfl⟩ : ∃ t, v = Value.str q t := rv
      obtain rfl := Option.some.inj h
      exact .none_str _ _
    | _ => cases h
  | bl p =>
    cases y with
    | non =>
      obtain rfl : u = Value.bool p := ru
      obtain rfl : v = Value.none := rv
      obtain rfl := Option.some.inj h
      exact .bool_none _
    | bl q =>
      obtain rfl : u = Value.bool p := ru
      obtain rfl : v = Value.bool q := rv
      obtain rfl := Option.some.inj h
      exact .bool_bool _ _
    | int q =>
      obtain rfl : u = Value.bool p := ru
      obtain ⟨tq, rfl⟩ : ∃ t, v = Value.int q t := rv
      obtain rfl := Option.some.inj h
      exact .bool_int _ _ _
    | str q =>
      obtain rfl : u = Value.bool p := ru
      obtain ⟨tq, rfl⟩ : ∃ t, v = Value.str q t := rv
      obtain rfl := Option.some.inj h
      exact .bool_str _ _ _
    | _ => cases h
  | int p =>
    cases y with
    | non =>
      obtain ⟨tp, rfl⟩ : ∃ t, u = Value.int p t := ru
      obtain rfl : v = Value.none := rv
      obtain rfl := Option.some.inj h
      exact .int_none _ _
    | bl q =>
      obtain ⟨tp, rfl⟩ : ∃ t, u = Value.int p t := ru
      obtain rfl : v = Value.bool q := rv
      obtain rfl := Option.some.inj h
      exact .int_bool _ _ _
    | int q =>
      obtain ⟨tp, rfl⟩ : ∃ t, u = Value.int p t := ru
      obtain ⟨tq, rfl⟩ : ∃ t, v = Value.int q t := rv
      obtain rfl := Option.some.inj h
      exact .int_int _ _ _ _
    | str q =>
      obtain ⟨tp, rfl⟩ : ∃ t, u = Value.int p t := ru
      obtain ⟨tq, rfl⟩ : ∃ t, v = Value.str q t := rv
      obtain rfl := Option.some.inj h
      exact .int_str _ _ _ _
    | _ => cases h
  | str p =>
    cases y with
    | non =>
      obtain ⟨tp, rfl⟩ : ∃ t, u = Value.str p t := ru
      obtain rfl : v = Value.none := rv
      obtain rfl := Option.some.inj h
      exact .str_none _ _
    | bl q =>
      obtain ⟨tp, rfl⟩ : ∃ t, u = Value.str p t := ru
      obtain rfl : v = Value.bool q := rv
      obtain rfl := Option.some.inj h
      exact .str_bool _ _ _
    | int q =>
      obtain ⟨tp, rfl⟩ : ∃ t, u = Value.str p t := ru
      obtain ⟨tq, rfl⟩ : ∃ t, v = Value.int q t := rv
      obtain rfl := Option.some.inj h
      exact .str_int _ _ _ _
    | str q =>
      obtain ⟨tp, rfl⟩ : ∃ t, u = Value.str p t := ru
      obtain ⟨tq, rfl⟩ : ∃ t, v = Value.str q t := rv
      obtain rfl := Option.some.inj h
      exact .str_str _ _ _ _
    | _ => cases h
  | _ => cases y <;> cases h
mutual
/-- x == y is b, as an item of a list tells it -/
inductive EqV (K : Frag) (H : Hp) : Nat → V → V → Bool → Prop
  | one {n : Nat} {a : Addr} : EqV K H n (.ref a) (.ref a) true
  | flat {n : Nat} {x y : V} {b : Bool} (h : eqF x y = some b) : EqV K H n x y b
  | lsts {n : Nat} {a c : Addr} {xs ys : List V} {b : Bool} (d : a ≠ c) (h1 : SqL K H a xs) (h2 : SqL K H c ys) (h : EqVs K H n xs ys b) : EqV K H (n + 1) (.ref a) (.ref c) b
  | tups {n : Nat} {a c : Addr} {xs ys : List V} {b : Bool} (d : a ≠ c) (h1 : SqT K H a xs) (h2 : SqT K H c ys) (h : EqVs K H n xs ys b) : EqV K H (n + 1) (.ref a) (.ref c) b
/-- of two rows -/
inductive EqVs (K : Frag) (H : Hp) : Nat → List V → List V → Bool → Prop
  | nil {n : Nat} : EqVs K H n [] [] true
  | cons {n : Nat} {x y : V} {xs ys : List V} {b c : Bool} (h : EqV K H n x y b) (t : EqVs K H n xs ys c) : EqVs K H n (x :: xs) (y :: ys) (b && c)
  | nilc {n : Nat} {y : V} {ys : List V} : EqVs K H n [] (y :: ys) false
  | cnil {n : Nat} {x : V} {xs : List V} : EqVs K H n (x :: xs) [] false
end
section
variable {X : Cx} {pins : List (Addr × Obj)} {σ : St} {H : Hp} {s : Shared}
/-- of a row: each place's answer -/
def RowT (s : Shared) (n : Nat) (us ws : List Value) (b : Bool) : Prop :=
  ∃ e : Nat → Bool, (∀ j (h1 : j < us.length) (h2 : j < ws.length) (A : Around), A.units + n < cLine → EqAt A s us[j] ws[j] (e j)) ∧ (us.length = ws.length → b = (List.range us.length).all e) ∧ (us.length ≠ ws.length → b = false)
theorem all_succ (e : Nat → Bool) (n : Nat) : (List.range (n + 1)).all e = (e 0 && (List.range n).all fun j => e (j + 1)) := by
  rw [List.range_succ_eq_map, List.all_cons, List.all_map]
  rfl
theorem RowT.lists {n : Nat} {us ws : List Value} {b : Bool} {a c : Addr} (r : RowT s n us ws b) (ha : s.heap.IsList a us.toArray) (hc : s.heap.IsList c ws.toArray) {A : Around} (hu : A.units + (n + 1) < cLine) : RcAt A s (.ref a) (.ref c) b ∧ RcNeAt A s (.ref a) (.ref c) (!b) := by
  obtain ⟨e, t, q1, q2⟩ := r
  have t' : ∀ j (h1 : j < us.toArray.size) (h2 : j < ws.toArray.size), EqAt A.in1 s us.toArray[j] ws.toArray[j] (e j) := fun j h1 h2 => t j h1 h2 A.in1 (by show A.units + 1 + n < cLine; omega)
  by_cases hl : us.length = ws.length
  · rw [q1 hl]
    exact ⟨.lists ha hc hl (by omega) t', .lists ha hc hl (by omega) t'⟩
  · rw [q2 hl]
    have hb : (us.toArray.size != ws.toArray.size) = true := by simpa using hl
    exact ⟨.lists_lengths ha hc hb (by omega), .lists_lengths ha hc hb (by omega)⟩
theorem RowT.tups {n : Nat} {us ws : List Value} {b : Bool} {a c : Addr} (r : RowT s n us ws b) (ha : s.heap.IsTuple a us.toArray) (hc : s.heap.IsTuple c ws.toArray) {A : Around} (hu : A.units + (n + 1) < cLine) : RcAt A s (.ref a) (.ref c) b ∧ RcNeAt A s (.ref a) (.ref c) (!b) := by
  obtain ⟨e, t, q1, q2⟩ := r
  have t' : ∀ j (h1 : j < us.toArray.size) (h2 : j < ws.toArray.size), EqAt A.in1 s us.toArray[j] ws.toArray[j] (e j) := fun j h1 h2 => t j h1 h2 A.in1 (by show A.units + 1 + n < cLine; omega)
  have g1 := RcAt.tuples ha hc (by omega) t'
  have g2 := RcNeAt.tuples ha hc (by omega) t'
  have e1 : ((List.range (min us.toArray.size ws.toArray.size)).all e && us.toArray.size == ws.toArray.size) = b := by
    by_cases hl : us.length = ws.length
    · rw [q1 hl]
      simp [hl]
    · rw [q2 hl]
      simp [hl]
  rw [e1] at g1 g2
  exact ⟨g1, g2⟩
mutual
theorem EqV.at (I : Inv X pins σ H s) : ∀ {n : Nat} {x y : V} {b : Bool}, EqV X.K H n x y b → ∀ {u v : Value}, RelV x u → RelV y v → ∀ A : Around, A.units + n < cLine → EqAt A s u v b
  | _, _, _, _, .one, _, _, ru, rv, _, _ => by
    cases ru
    cases rv
    exact .same _
  | _, _, _, _, .flat h, _, _, ru, rv, _, _ => eqF_at h ru rv
  | _, _, _, _, .lsts d h1 h2 h, _, _, ru, rv, A, hu => by
    cases ru
    cases rv
    obtain ⟨us, r1, p1, _⟩ := I.list h1
    obtain ⟨ws, r2, p2, _⟩ := I.list h2
    exact .of_refs d ((EqVs.row I h r1 r2).lists p1.isList p2.isList hu).1
  | _, _, _, _, .tups d h1 h2 h, _, _, ru, rv, A, hu => by
    cases ru
    cases rv
    obtain ⟨us, r1, p1, _⟩ := I.tuple h1
    obtain ⟨ws, r2, p2, _⟩ := I.tuple h2
    exact .of_refs d ((EqVs.row I h r1 r2).tups (show s.heap.IsTuple _ us.toArray from p1) (show s.heap.IsTuple _ ws.toArray from p2) hu).1
theorem EqVs.row (I : Inv X pins σ H s) : ∀ {n : Nat} {xs ys : List V} {b : Bool}, EqVs X.K H n xs ys b → ∀ {us ws : List Value}, Vals xs us → Vals ys ws → RowT s n us ws b
  | _, _, _, _, .nil, _, _, .nil, .nil => ⟨fun _ => true, fun j h1 => absurd h1 (Nat.not_lt_zero _), fun _ => rfl, fun h => absurd rfl h⟩
  | _, _, _, _, .nilc, _, _, .nil, .cons _ _ => ⟨fun _ => true, fun j h1 => absurd h1 (Nat.not_lt_zero _), fun h => absurd h (by simp), fun _ => rfl⟩
  | _, _, _, _, .cnil, _, _, .cons _ _, .nil => ⟨fun _ => true, fun j _ h2 => absurd h2 (Nat.not_lt_zero _), fun h => absurd h (by simp), fun _ => rfl⟩
  | _, _, _, _, .cons (b := b) h t, _, _, .cons r1 s1, .cons r2 s2 => by
    obtain ⟨e, q, q1, q2⟩ := EqVs.row I t s1 s2
    have q0 := EqV.at I h r1 r2
    refine ⟨fun j => match j with | 0 => b | j + 1 => e j, ?_, ?_, ?_⟩
    · intro j h1 h2 A hu
      cases j with
      | zero => exact q0 A hu
      | succ j => exact q j (Nat.lt_of_succ_lt_succ h1) (Nat.lt_of_succ_lt_succ h2) A hu
    · intro hl
      rw [q1 (Nat.succ.inj hl)]
      show _ = (List.range (_ + 1)).all _
      rw [all_succ]
    · intro hl
      rw [q2 (fun z => hl (congrArg Nat.succ z)), Bool.and_false]
end
end
/-- == and != of two lists or two tuples, whatever stands in them -/
def rEqG (K : Frag) (ne : Bool) : R2 := fun x y H Q => ∃ (a c : Addr) (xs ys : List V) (n : Nat) (b : Bool), x = .ref a ∧ y = .ref c ∧ ((SqL K H a xs ∧ SqL K H c ys) ∨ (SqT K H a xs ∧ SqT K H c ys)) ∧ n < 60 ∧ EqVs K H n xs ys b ∧ Q (.bl (if ne then !b else b)) H
section
variable {X : Cx}
theorem op_eqG (hu : X.A.units + 64 < cLine) {K : Frag} (hK : X.K = K := by rfl) : OpR X (compareOp .Eq) (rEqG K false) := by
  subst hK
  intro pins s σ H x y v u Q I rx ry h
  obtain ⟨a, c, xs, ys, n, b, rfl, rfl, hs, hn, t, q⟩ := h
  cases rx
  cases ry
  rcases hs with ⟨h1, h2⟩ | ⟨h1, h2⟩
  · obtain ⟨us, r1, p1, _⟩ := I.list h1
    obtain ⟨ws, r2, p2, _⟩ := I.list h2
    exact ((EqVs.row I t r1 r2).lists p1.isList p2.isList (by omega)).1 _ _ _ _ ⟨.bl b, H, I, rfl, q⟩
  · obtain ⟨us, r1, p1, _⟩ := I.tuple h1
    obtain ⟨ws, r2, p2, _⟩ := I.tuple h2
    exact ((EqVs.row I t r1 r2).tups (show s.heap.IsTuple _ us.toArray from p1) (show s.heap.IsTuple _ ws.toArray from p2) (by omega)).1 _ _ _ _ ⟨.bl b, H, I, rfl, q⟩
theorem op_neG (hu : X.A.units + 64 < cLine) {K : Frag} (hK : X.K = K := by rfl) : OpR X (compareOp .NotEq) (rEqG K true) := by
  subst hK
  intro pins s σ H x y v u Q I rx ry h
  obtain ⟨a, c, xs, ys, n, b, rfl, rfl, hs, hn, t, q⟩ := h
  cases rx
  cases ry
  rcases hs with ⟨h1, h2⟩ | ⟨h1, h2⟩
  · obtain ⟨us, r1, p1, _⟩ := I.list h1
    obtain ⟨ws, r2, p2, _⟩ := I.list h2
    exact ((EqVs.row I t r1 r2).lists p1.isList p2.isList (by omega)).2 _ _ _ _ ⟨.bl (!b), H, I, rfl, q⟩
  · obtain ⟨us, r1, p1, _⟩ := I.tuple h1
    obtain ⟨ws, r2, p2, _⟩ := I.tuple h2
    exact ((EqVs.row I t r1 r2).tups (show s.heap.IsTuple _ us.toArray from p1) (show s.heap.IsTuple _ ws.toArray from p2) (by omega)).2 _ _ _ _ ⟨.bl (!b), H, I, rfl, q⟩
end
end My
/-! My own small layer: rules of one name for what several of the layer's rules say, told apart by the values. -/
namespace My
open PySem L2
/-- a is seen as o: a list, a tuple (by whatever stands there), anything else as it is tracked -/
def Obs (K : PySem.W.Frag) (H : Hp) (a : Addr) : HO → Prop
  | .lst xs => SqL K H a xs
  | .tup xs => SqT K H a xs
  | o => H a = some o
theorem Obs.of {K : PySem.W.Frag} {H : Hp} {a : Addr} {o : HO} (h : H a = some o) : Obs K H a o := by
  cases o <;> first | exact h | exact Or.inl (Or.inl h)
/-- of two numbers the greater, the lesser, as max and min tell them -/
def maxP (i j : Int) : Int := if j > i then j else i
def minP (i j : Int) : Int := if j < i then j else i
theorem maxP_eq (i j : Int) : maxP i j = max i j := by unfold maxP; omega
theorem minP_eq (i j : Int) : minP i j = min i j := by unfold minP; omega
def rMaxU : List V → Hp → VK → Prop := fun xs H Q => ∃ i j, xs = [.int i, .int j] ∧ Q (.int (maxP i j)) H
def rMinU : List V → Hp → VK → Prop := fun xs H Q => ∃ i j, xs = [.int i, .int j] ∧ Q (.int (minP i j)) H
section
variable {X : Cx}
/-! ### operators -/
def rAddU (K : PySem.W.Frag) : R2 := fun x y H Q => match x, y with
  | .int i, .int j => Q (.int (i + j)) H
  | .str i, .str j => i.length + j.length ≤ sizeLine ∧ Q (.str (i ++ j)) H
  | .ref a, .ref b => (∃ xs ys, H a = some (.lst xs) ∧ H b = some (.lst ys) ∧ xs.length + ys.length ≤ sizeLine ∧ ∀ p, H p = none → Q (.ref p) (upd H p (.lst (xs ++ ys))))
      ∨ rCatT K (.ref a) (.ref b) H Q
  | _, _ => False
theorem op_addU {K : PySem.W.Frag} (hK : X.K = K := by rfl) : OpR X (binaryOp .Add) (rAddU K) := by
  subst hK
  intro pins s σ H x y v u Q I rx ry h
  cases x <;> cases y <;> first | exact False.elim h | skip
  · exact op_add pins s σ H _ _ v u Q I rx ry ⟨_, _, rfl, rfl, h⟩
  · exact op_add_str pins s σ H _ _ v u Q I rx ry ⟨_, _, rfl, rfl, h.1, h.2⟩
  · rcases h with ⟨xs, ys, h1, h2, h3, h4⟩ | h
    · exact op_cat pins s σ H _ _ v u Q I rx ry ⟨_, _, xs, ys, rfl, rfl, h1, h2, h3, h4⟩
    · exact op_catT pins s σ H _ _ v u Q I rx ry h
theorem op_subU : OpR X (binaryOp .Sub) (rI0 fun i j => .int (i - j)) := op_sub
def rMulU : R2 := fun x y H Q => match x, y with
  | .int i, .int j => CMulW i j ∧ Q (.int (i * j)) H
  | .ref a, .int k => rRep (.ref a) (.int k) H Q
  | _, _ => False
theorem op_mulU : OpR X (binaryOp .Mult) rMulU := by
  intro pins s σ H x y v u Q I rx ry h
  cases x <;> cases y <;> first | exact False.elim h | skip
  · exact op_mulW pins s σ H _ _ v u Q I rx ry ⟨_, _, rfl, rfl, h.1, h.2⟩
  · exact op_rep pins s σ H _ _ v u Q I rx ry h
theorem op_fdivU : OpR X (binaryOp .FloorDiv) (rI CDivW fun i j => .int (i / j)) := op_fdivW
theorem op_modU : OpR X (binaryOp .Mod) (rI (fun _ j => 0 < j) fun i j => .int (i % j)) := op_mod
theorem op_powU : OpR X (binaryOp .Pow) (rI CPow fun i j => .int (i ^ j.toNat)) := op_pow
/-! ### comparisons -/
theorem op_ltU : OpR X (compareOp .Lt) (rI0 fun i j => .bl (decide (i < j))) := op_lt
theorem op_leU : OpR X (compareOp .LtE) (rI0 fun i j => .bl (decide (i ≤ j))) := op_le
theorem op_gtU : OpR X (compareOp .Gt) (rI0 fun i j => .bl (decide (j < i))) := op_gt
theorem op_geU : OpR X (compareOp .GtE) (rI0 fun i j => .bl (decide (j ≤ i))) := op_ge
/-- what == says of two flat things -/
def eqS : V → V → Option Bool
  | .int i, .int j => some (decide (i = j))
  | .bl i, .bl j => some (decide (i = j))
  | .str i, .str j => some (decide (i = j))
  | .non, .non => some true
  | .int _, .non | .non, .int _ | .int _, .str _ | .str _, .int _ | .str _, .non | .non, .str _ | .bl _, .non | .non, .bl _ | .bl _, .str _ | .str _, .bl _ => some false
  | _, _ => none
theorem eqS_scal : ∀ {x y : V} {b : Bool}, eqS x y = some b → scal x y = true ∧ decide (x = y) = b := by
  intro x y b h
  cases x <;> cases y <;> first | (cases h; done) | (cases Option.some.inj h; exact ⟨rfl, by simp⟩)
def rEqU (K : PySem.W.Frag) : R2 := fun x y H Q => match eqS x y with
  | some b => Q (.bl b) H
  | none => rEqD K x y H Q ∨ rEqG K false x y H Q
def rNeU (K : PySem.W.Frag) : R2 := fun x y H Q => match eqS x y with
  | some b => Q (.bl (!b)) H
  | none => rNeD K x y H Q ∨ rEqG K true x y H Q
theorem op_eqU (hu : X.A.units + 64 < cLine) {K : PySem.W.Frag} (hK : X.K = K := by rfl) : OpR X (compareOp .Eq) (rEqU K) := by
  subst hK
  intro pins s σ H x y v u Q I rx ry h
  unfold rEqU at h
  split at h
  · rename_i b e
    obtain ⟨e1, e2⟩ := eqS_scal e
    exact op_eq pins s σ H _ _ v u Q I rx ry ⟨e1, by rw [e2]; exact h⟩
  · rcases h with h | h
    · exact op_eqD hu pins s σ H _ _ v u Q I rx ry h
    · exact op_eqG hu rfl pins s σ H _ _ v u Q I rx ry h
theorem op_neU (hu : X.A.units + 64 < cLine) {K : PySem.W.Frag} (hK : X.K = K := by rfl) : OpR X (compareOp .NotEq) (rNeU K) := by
  subst hK
  intro pins s σ H x y v u Q I rx ry h
  unfold rNeU at h
  split at h
  · rename_i b e
    obtain ⟨e1, e2⟩ := eqS_scal e
    exact op_ne pins s σ H _ _ v u Q I rx ry ⟨e1, by rw [e2]; exact h⟩
  · rcases h with h | h
    · exact op_neD hu pins s σ H _ _ v u Q I rx ry h
    · exact op_neG hu rfl pins s σ H _ _ v u Q I rx ry h
def rIsU : R2 := fun x y H Q => match x, y with
  | .bl a, .bl b => Q (.bl (decide (a = b))) H
  | x, .non => Q (.bl (decide (x = .non))) H
  | .ref a, .ref b => ∃ oa ob, H a = some oa ∧ isObj oa = true ∧ H b = some ob ∧ isObj ob = true ∧ Q (.bl (decide (a = b))) H
  | _, _ => False
def rIsnU : R2 := fun x y H Q => match x, y with
  | .bl a, .bl b => Q (.bl (!decide (a = b))) H
  | x, .non => Q (.bl (!decide (x = .non))) H
  | .ref a, .ref b => ∃ oa ob, H a = some oa ∧ isObj oa = true ∧ H b = some ob ∧ isObj ob = true ∧ Q (.bl (!decide (a = b))) H
  | _, _ => False
theorem op_isU : OpR X (compareOp .Is) rIsU := by
  intro pins s σ H x y v u Q I rx ry h
  cases y <;> cases x <;> first
    | exact False.elim h
    | exact op_isN pins s σ H _ _ v u Q I rx ry ⟨rfl, h⟩
    | exact op_isBl pins s σ H _ _ v u Q I rx ry ⟨_, _, rfl, rfl, h⟩
    | exact op_is_ref pins s σ H _ _ v u Q I rx ry (let ⟨oa, ob, h1, h2, h3, h4, h5⟩ := h; ⟨_, _, oa, ob, rfl, rfl, h1, h2, h3, h4, h5⟩)
theorem op_isnU : OpR X (compareOp .IsNot) rIsnU := by
  intro pins s σ H x y v u Q I rx ry h
  cases y <;> cases x <;> first
    | exact False.elim h
    | exact op_notN pins s σ H _ _ v u Q I rx ry ⟨rfl, h⟩
    | exact op_notBl pins s σ H _ _ v u Q I rx ry ⟨_, _, rfl, rfl, h⟩
    | exact op_isnot_ref pins s σ H _ _ v u Q I rx ry (let ⟨oa, ob, h1, h2, h3, h4, h5⟩ := h; ⟨_, _, oa, ob, rfl, rfl, h1, h2, h3, h4, h5⟩)
/-- one sign in a text; a flat thing in a list or a tuple -/
def rInU (K : PySem.W.Frag) : R2 := fun x y H Q => match y with
  | .str z => ∃ c : Nat, x = .str ⟨#[c]⟩ ∧ Q (.bl (decide (c ∈ z.cps.toList))) H
  | _ => rIn K false x y H Q
theorem op_inU {K : PySem.W.Frag} (hK : X.K = K := by rfl) : OpR X (compareOp .In) (rInU K) := by
  subst hK
  intro pins s σ H x y v u Q I rx ry h
  cases y <;> first
    | exact op_in_seq pins s σ H _ _ v u Q I rx ry h
    | exact op_in_sign pins s σ H _ _ v u Q I rx ry (let ⟨c, e, q⟩ := h; ⟨c, _, e, rfl, q⟩)
/-! ### subscripts, slices -/
def rIxU (K : PySem.W.Frag) : R2 := fun x y H Q => match x, y with
  | .str z, .int i => z.length ≤ sizeLine ∧ ∃ c, atI z.cps.toList i = some c ∧ Q (.str ⟨#[c]⟩) H
  | .ref a, .int i => ∃ xs v, (SqL K H a xs ∨ SqT K H a xs) ∧ atI xs i = some v ∧ Q v H
  | _, _ => False
theorem ix_U {K : PySem.W.Frag} (hK : X.K = K := by rfl) : IxR X (rIxU K) := by
  subst hK
  intro e1 e2 pins s σ H x y v u Q I rx ry h hs
  cases x <;> cases y <;> first | exact False.elim h | skip
  · obtain ⟨h1, c, h2, h3⟩ := h
    exact ix_str e1 e2 pins s σ H _ _ v u Q I rx ry ⟨_, _, c, rfl, rfl, h1, h2, h3⟩ hs
  · obtain ⟨xs, w, h1, h2, h3⟩ := h
    rcases h1 with h1 | h1
    · exact ix_list e1 e2 pins s σ H _ _ v u Q I rx ry ⟨_, xs, _, w, rfl, rfl, h1, h2, h3⟩ hs
    · exact ix_tup e1 e2 pins s σ H _ _ v u Q I rx ry ⟨_, xs, _, w, rfl, rfl, h1, h2, h3⟩ hs
def rSlU (K : PySem.W.Frag) : V → Option Int → Option Int → Hp → VK → Prop := fun x lo hi H Q => match x with
  | .str z => z.length ≤ sizeLine ∧ Q (.str (cutS z lo hi)) H
  | .ref a => rSlL K (.ref a) lo hi H Q ∨ rSlT K (.ref a) lo hi H Q
  | _ => False
theorem sl_U {K : PySem.W.Frag} (hK : X.K = K := by rfl) : SlR X (rSlU K) := by
  subst hK
  intro pins s σ H x v vl vu lo hi sl Q I rx h1 h2 h3 h
  cases x <;> first | exact False.elim h | skip
  · exact sl_str pins s σ H _ v vl vu lo hi sl Q I rx h1 h2 h3 ⟨_, rfl, h.1, h.2⟩
  · exact sl_list.or sl_tup pins s σ H _ v vl vu lo hi sl Q I rx h1 h2 h3 h
/-! ### len, isinstance, int, str -/
def rLenU (K : PySem.W.Frag) : List V → Hp → VK → Prop := fun xs H Q => ∃ x n, xs = [x] ∧ LenV K x H n ∧ Q (.int n) H
theorem call_lenU {K : PySem.W.Frag} (hK : X.K = K := by rfl) : CallR X (.builtin "len") (rLenU K) := by
  subst hK
  exact call_len
def rIntU : List V → Hp → VK → Prop := fun xs H Q => match xs with
  | [.int i] => Q (.int i) H
  | [.bl k] => Q (.int (if k then 1 else 0)) H
  | [.str a] => ∃ n, PySem.intText? a = some n ∧ a.length ≤ 640 ∧ Q (.int n) H
  | _ => False
theorem call_intU : CallR X (.type "int") rIntU := by
  intro pins s σ H xs us Q I r h
  unfold rIntU at h
  split at h
  · exact call_int1 pins s σ H _ us Q I r (.inl ⟨_, rfl, h⟩)
  · exact call_int1 pins s σ H _ us Q I r (.inr ⟨_, rfl, h⟩)
  · obtain ⟨n, h1, h2, h3⟩ := h
    exact call_int_str pins s σ H _ us Q I r ⟨_, n, rfl, h1, h2, h3⟩
  · exact False.elim h
/-! ### isinstance -/
end
/-- the built-in classes that are asked for -/
inductive Kd where | int | bl | str | lst | tup | dct
  deriving DecidableEq
def Kd.name : Kd → String | .int => "int" | .bl => "bool" | .str => "str" | .lst => "list" | .tup => "tuple" | .dct => "dict"
/-- what the text says of a class of its own, for isinstance of its instances and of others -/
structure IsC (K : PySem.W.Frag) (C : Addr) : Prop where
  ha : PySem.W.findIn K (.ref C) "__class__" = some (some (.builtin "object.__class__"))
  hn : PySem.W.specialIn K (.builtin "object.__class__") "__get__" = some (some (.builtin "getset_descriptor.__get__"))
  htk : PySem.W.takesIn K (.builtin "object.__class__") = some true
  hm : PySem.W.mroIn K C (.type "object") = some true
  out : ∀ d : Kd, PySem.W.kitOne K (.ref C) (.type d.name) = some false
  inn : ∀ t : String, t ∈ ["NoneType", "int", "bool", "str", "list", "tuple", "dict"] → PySem.W.kitOne K (.type t) (.ref C) = some false
theorem kit_out {K : PySem.W.Frag} {C : Addr} {n : String} {b : Bool} (hm : PySem.W.kitMeta n = true) (h : PySem.W.subIn K (.ref C) (.type n) = some b) : PySem.W.kitOne K (.ref C) (.type n) = some b := by
  unfold PySem.W.kitOne PySem.W.kitCls
  rw [if_neg (show ¬ ((Value.ref C == Value.type n) = true) by simp)]
  show (if PySem.W.kitMeta n = true then _ else _) = _
  rw [if_pos hm, h]
theorem kit_in {K : PySem.W.Frag} {C : Addr} {t : Value} {b : Bool} (h0 : (t == Value.ref C) = false) (h1 : PySem.W.isClsIn K C = true) (h2 : PySem.W.typeIn K (.ref C) = some (.type "type")) (h : PySem.W.subIn K t (.ref C) = some b) : PySem.W.kitOne K t (.ref C) = some b := by
  unfold PySem.W.kitOne PySem.W.kitCls
  rw [if_neg (by rw [h0]; exact Bool.false_ne_true)]
  show (if ((PySem.W.clsIn K C).isSome && PySem.W.typeIn K (.ref C) == some (.type "type")) = true then _ else _) = _
  have e : (PySem.W.clsIn K C).isSome = true := h1
  rw [if_pos (by rw [e, h2]; rfl), h]
/-- is x of the kind d: what the value alone tells -/
def Kd.has (d : Kd) : V → Bool
  | .int _ => d == .int
  | .bl _ => d == .int || d == .bl
  | .str _ => d == .str
  | _ => false
def Kd.hasO (d : Kd) : HO → Bool
  | .lst _ => d == .lst
  | .tup _ => d == .tup
  | .dK _ => d == .dct
  | .dT _ => d == .dct
  | _ => false
/-- an object whose class is known -/
def KnO (K : PySem.W.Frag) : HO → Prop
  | .lst _ => True
  | .tup _ => True
  | .dK _ => True
  | .dT _ => True
  | .ins C _ _ => Cls K C ∧ IsC K C
  | _ => False
def Kn (K : PySem.W.Frag) (H : Hp) : V → Prop
  | .non => True
  | .bl _ => True
  | .int _ => True
  | .str _ => True
  | .ref a => ∃ o, Obs K H a o ∧ KnO K o
  | _ => False
/-- the class of a value as the library tells it -/
def isO (K : PySem.W.Frag) (x : V) (H : Hp) (R : (Kd → Bool) → Option Addr → Prop) : Prop := match x with
  | .non => R (fun _ => false) none
  | .bl b => R (fun d => d.has (.bl b)) none
  | .int i => R (fun d => d.has (.int i)) none
  | .str z => R (fun d => d.has (.str z)) none
  | .ref a => ∃ o, Obs K H a o ∧ match o with
    | .lst _ => R (fun d => d == .lst) none
    | .tup _ => R (fun d => d == .tup) none
    | .dK _ => R (fun d => d == .dct) none
    | .dT _ => R (fun d => d == .dct) none
    | .ins C _ _ => Cls K C ∧ IsC K C ∧ R (fun _ => false) (some C)
    | _ => False
  | _ => False
theorem tyx_lst {K : PySem.W.Frag} {H : Hp} {a : Addr} {xs : List V} (h : SqL K H a xs) : TyX K H (.ref a) (.type "list") := by
  rcases h with (h | ⟨o, h⟩) | ⟨o, its, n, h1, h2, _⟩
  · exact .base (.lst h)
  · exact .base (.frz h)
  · exact .kList h1 h2
theorem tyx_tup {K : PySem.W.Frag} {H : Hp} {a : Addr} {xs : List V} (h : SqT K H a xs) : TyX K H (.ref a) (.type "tuple") := by
  rcases h with (h | ⟨o, h⟩) | ⟨o, its, n, h1, h2, _⟩
  · exact .base (.tup h)
  · exact .fTuple h
  · exact .kTuple h1 h2
theorem kdk : ∀ (t : String) (d : Kd), t ∈ ["NoneType", "int", "bool", "str", "list", "tuple", "dict"] → kitB t d.name = some (t == d.name || (t == "bool" && d == .int)) := by
  intro t d ht
  simp only [List.mem_cons, List.not_mem_nil, or_false] at ht
  rcases ht with rfl | rfl | rfl | rfl | rfl | rfl | rfl <;> cases d <;> decide +kernel
/-- the type t of x, and what each asked class says of it -/
theorem isO_ty {K : PySem.W.Frag} {x : V} {H : Hp} {R : (Kd → Bool) → Option Addr → Prop} (h : isO K x H R) : ∃ t f c, TyX K H x t ∧ R f c ∧ (∀ d : Kd, PySem.W.kitOne K t (.type d.name) = some (f d)) ∧
    ((c = none ∧ ∃ n, t = .type n ∧ n ∈ ["NoneType", "int", "bool", "str", "list", "tuple", "dict"]) ∨ ∃ C, c = some C ∧ t = .ref C ∧ IsC K C) := by
  have kk : ∀ n, n ∈ ["NoneType", "int", "bool", "str", "list", "tuple", "dict"] → ∀ f : Kd → Bool, (∀ d : Kd, (n == d.name || (n == "bool" && d == .int)) = f d) → ∀ d : Kd, PySem.W.kitOne K (.type n) (.type d.name) = some (f d) := fun n hn f hf d => by
    have e := kdk n d hn
    rw [hf d] at e
    exact kit_ty e
  cases x with
  | non => exact ⟨_, _, _, .base .non, h, kk "NoneType" (by decide) _ (fun d => by cases d <;> decide), .inl ⟨rfl, _, rfl, by decide⟩⟩
  | bl b => exact ⟨_, _, _, .base (.bl b), h, kk "bool" (by decide) _ (fun d => by cases d <;> rfl), .inl ⟨rfl, _, rfl, by decide⟩⟩
  | int i => exact ⟨_, _, _, .base (.int i), h, kk "int" (by decide) _ (fun d => by cases d <;> rfl), .inl ⟨rfl, _, rfl, by decide⟩⟩
  | str z => exact ⟨_, _, _, .base (.str z), h, kk "str" (by decide) _ (fun d => by cases d <;> rfl), .inl ⟨rfl, _, rfl, by decide⟩⟩
  | byt _ => exact h.elim
  | flt _ => exact h.elim
  | ty _ => exact h.elim
  | ref a =>
    obtain ⟨o, ho, h⟩ := h
    cases o with
    | lst xs => exact ⟨_, _, _, tyx_lst ho, h, kk "list" (by decide) _ (fun d => by cases d <;> rfl), .inl ⟨rfl, _, rfl, by decide⟩⟩
    | tup xs => exact ⟨_, _, _, tyx_tup ho, h, kk "tuple" (by decide) _ (fun d => by cases d <;> rfl), .inl ⟨rfl, _, rfl, by decide⟩⟩
    | dK kvs => exact ⟨_, _, _, .base (.dK ho), h, kk "dict" (by decide) _ (fun d => by cases d <;> rfl), .inl ⟨rfl, _, rfl, by decide⟩⟩
    | dT kvs => exact ⟨_, _, _, .base (.dT ho), h, kk "dict" (by decide) _ (fun d => by cases d <;> rfl), .inl ⟨rfl, _, rfl, by decide⟩⟩
    | ins C dx fs =>
      obtain ⟨c, ic, h⟩ := h
      exact ⟨_, _, _, .base (.ins ho c ic.ha ic.hn ic.htk ic.hm), h, ic.out, .inr ⟨C, rfl, rfl, ic⟩⟩
    | _ => exact h.elim
/-- isinstance(x, T) -/
def rIsiB (d : Kd) (K : PySem.W.Frag) : List V → Hp → VK → Prop := fun xs H Q => ∃ x, xs = [x, .ty d.name] ∧ isO K x H fun f _ => Q (.bl (f d)) H
/-- isinstance(x, (T, U)), the tuple just laid -/
def rIsiBs (ds : List Kd) (K : PySem.W.Frag) : List V → Hp → VK → Prop := fun xs H Q => ∃ x tp, xs = [x, .ref tp] ∧ H tp = some (.tup (ds.map fun d => .ty d.name)) ∧ isO K x H fun f _ => Q (.bl (ds.any f)) H
/-- isinstance(x, C), C of the text -/
def rIsiC (C : Addr) (K : PySem.W.Frag) : List V → Hp → VK → Prop := fun xs H Q => ∃ x, xs = [x, .ref C] ∧ isO K x H fun _ c => match c with
  | none => Q (.bl false) H
  | some D => ∃ b, PySem.W.kitOne K (.ref D) (.ref C) = some b ∧ Q (.bl b) H
section
variable {X : Cx}
theorem call_isiB (d : Kd) {K : PySem.W.Frag} (hK : X.K = K := by rfl) : CallR X (.builtin "isinstance") (rIsiB d K) := by
  subst hK
  intro pins s σ H xs us Q I r h
  obtain ⟨x, rfl, h⟩ := h
  obtain ⟨t, f, c, ty, q, k, _⟩ := isO_ty h
  exact call_isi pins s σ H _ us Q I r ⟨x, _, t, _, _, rfl, .ty _, ty, k d, q⟩
theorem kitAny_kds {K : PySem.W.Frag} {t : Value} {f : Kd → Bool} (k : ∀ d : Kd, PySem.W.kitOne K t (.type d.name) = some (f d)) : ∀ ds : List Kd, PySem.W.kitAny K t (ds.map fun d => .type d.name) = some (ds.any f)
  | [] => rfl
  | d :: ds => kitAny_cons (k d) (fun e => by rw [kitAny_kds k ds, List.any_cons, e]; rfl) (fun e => by rw [List.any_cons, e]; rfl)
theorem clsV_kds : ∀ ds : List Kd, Paired ClsV (ds.map fun d => V.ty d.name) (ds.map fun d => Value.type d.name)
  | [] => .nil
  | _ :: ds => .cons (.ty _) (clsV_kds ds)
theorem call_isiBs (ds : List Kd) {K : PySem.W.Frag} (hK : X.K = K := by rfl) : CallR X (.builtin "isinstance") (rIsiBs ds K) := by
  subst hK
  intro pins s σ H xs us Q I r h
  obtain ⟨x, tp, rfl, ht, h⟩ := h
  obtain ⟨t, f, c, ty, q, k, _⟩ := isO_ty h
  exact call_isiT pins s σ H _ us Q I r ⟨x, tp, _, t, _, _, rfl, ht, clsV_kds ds, ty, kitAny_kds k ds, q⟩
theorem call_isiC {C : Addr} {K : PySem.W.Frag} (ic : IsC K C) (hK : X.K = K := by rfl) : CallR X (.builtin "isinstance") (rIsiC C K) := by
  subst hK
  intro pins s σ H xs us Q I r h
  obtain ⟨x, rfl, h⟩ := h
  obtain ⟨t, f, c, ty, q, k, e⟩ := isO_ty h
  rcases e with ⟨rfl, n, rfl, hn⟩ | ⟨D, rfl, rfl, _⟩
  · exact call_isi pins s σ H _ us Q I r ⟨x, _, _, _, _, rfl, .own _, ty, ic.inn n hn, q⟩
  · obtain ⟨b, e, q⟩ := q
    exact call_isi pins s σ H _ us Q I r ⟨x, _, _, _, _, rfl, .own _, ty, e, q⟩
/-! ### rules of the layer, the written part named -/
theorem call_maxU (hc : X.calm = true) : CallR X (.builtin "max") (rMaxU) := call_max2 hc
theorem call_minU (hc : X.calm = true) : CallR X (.builtin "min") (rMinU) := call_min2 hc
theorem cr_allK {K : PySem.W.Frag} (hc : X.calm = true) (hK : X.K = K := by rfl) : CallR X (.builtin "all") (rAll K) := by
  subst hK
  exact cr_all hc
theorem cr_anyK {K : PySem.W.Frag} (hc : X.calm = true) (hK : X.K = K := by rfl) : CallR X (.builtin "any") (rAny K) := by
  subst hK
  exact cr_any hc
theorem cr_sumK {K : PySem.W.Frag} (hc : X.calm = true) (hK : X.K = K := by rfl) : CallR X (.builtin "sum") (rSum K) := by
  subst hK
  exact cr_sum hc
theorem cr_maxK {K : PySem.W.Frag} (hc : X.calm = true) (hK : X.K = K := by rfl) : CallR X (.builtin "max") (rMax K) := by
  subst hK
  exact cr_max hc
theorem cr_minK {K : PySem.W.Frag} (hc : X.calm = true) (hK : X.K = K := by rfl) : CallR X (.builtin "min") (rMin K) := by
  subst hK
  exact cr_min hc
theorem pi_listK {tg l : Expr} {tl : TE} {K : PySem.W.Frag} (hl : PE X l tl) (hK : X.K = K := by rfl) : PI X tg l (iList K tl) := by
  subst hK
  exact pi_list hl
theorem pi_tupK {tg l : Expr} {tl : TE} {K : PySem.W.Frag} (hl : PE X l tl) (hK : X.K = K := by rfl) : PI X tg l (iTup K tl) := by
  subst hK
  exact pi_tup hl
theorem pi_strK {tg l : Expr} {tl : TE} (hl : PE X l tl) : PI X tg l (iStr tl) := pi_str hl
theorem pg_tupK {es : List Expr} {k : Nat} {t : TGs} {n : Nat} {pos : Pos} {K : PySem.W.Frag} (hc : X.calm = true) (h : PGs X es t) (hK : X.K = K := by rfl)
    (hn : (assignEach es X.env).length = n := by rfl) (hst : (assignEach es X.env).findIdx? (·.1) = none := by rfl) : PG X (.Tuple es k pos) (gTup K n t) := by
  subst hK
  exact pg_tup hc h hn hst
theorem pe_fldK {e : Expr} {f : Str} {pos : Pos} {ta : TE} {K : PySem.W.Frag} (he : PE X e ta) (hK : X.K = K := by rfl) (hb : attributeBase e f X.env (eval e X.env) = eval e X.env := by rfl) : PE X (.Attribute e f pos) (tFld K ta f) := by
  subst hK
  exact pe_fld he hb
theorem ps_fldK {o value : Expr} {f : Str} {pos pos' : Pos} {ta tv : TE} {K : PySem.W.Frag} (ha : PE X o ta) (hv : PE X value tv) (hK : X.K = K := by rfl) (hs : swapsWith value (some (.Attribute o f pos')) pos.line X.env = pure false := by rfl) : PS X (.Assign [.Attribute o f pos'] value pos) (sFld K ta tv f) := by
  subst hK
  exact ps_fld ha hv hs
/-! ### names of the module, calls with defaults -/
theorem pe_globE {x : Str} {v : V} {pos : Pos} (hg : Gl X x) (hm : ∃ u, X.mg x = some u ∧ RelV v u) (hd : (x == ("__debug__" : Str)) = false := by decide) : PE X (.Name x pos) (tC v) := by
  obtain ⟨u, hm, r⟩ := hm
  exact pe_glob hg hm r hd
theorem pe_callD {CX : CXT} {k : Nat} {f : Addr} {fd : FuncData} {ps : List Str} {sp : Sp} {dvs : List V} {E : XK} {x : Str} {p pos : Pos} {e : Expr} {es : List Expr} {t : TA}
    (F : FnOk X.prog X.w X.K X.mg X.base CX k f fd ps sp) (hr : Room k X.A) (hg : Gl X x) (hm : X.mg x = some (.ref f)) (hk : PySem.W.keepIn X.K (.ref f) = true) (hb : ∃ ds, Vals dvs ds ∧ Binds X.K fd ps ds) (hx : Passes CX X E)
    (ha : PA X (e :: es) t) (hdb : (x == ("__debug__" : Str)) = false := by decide) (he : starEach (e :: es) X.env = (false, eval e X.env) :: starEach es X.env := by rfl) (hpl : (backTo pos (starEach es X.env)).any (·.1) = false := by rfl) :
    PE X (.Call (.Name x p) (e :: es) [] pos) (tCall sp dvs E t) := by
  obtain ⟨ds, hd, hb⟩ := hb
  exact pe_call F hr hg hm hk hb hd hx ha hdb he hpl
theorem pe_callNE {CX : CXT} {k n : Nat} {f : Addr} {fd : FuncData} {ps ks : List Str} {sp : Sp} {E : XK} {x : Str} {p pos : Pos} {e : Expr} {es : List Expr} {kws : List Keyword} {t tk : TA} {gV : List V → List V → List V}
    (F : FnOk X.prog X.w X.K X.mg X.base CX k f fd ps sp) (hr : Room k X.A) (hg : Gl X x) (hm : X.mg x = some (.ref f)) (hk : PySem.W.keepIn X.K (.ref f) = true) (hb : ∃ g, KBn X.K fd ps n ks g gV) (hx : Passes CX X E)
    (ha : PA X (e :: es) t) (hkw : PK X kws tk) (hall : (backToKw pos (keywordEach kws X.env)).all (·.1.isSome) = true := by rfl) (hks : (backToKw pos (keywordEach kws X.env)).filterMap (·.1) = ks := by rfl)
    (hdb : (x == ("__debug__" : Str)) = false := by decide) (he : starEach (e :: es) X.env = (false, eval e X.env) :: starEach es X.env := by rfl)
    (hpl : ((backTo pos (starEach (e :: es) X.env)).any (·.1) || (backToKw pos (keywordEach kws X.env)).any (·.1.isNone)) = false := by rfl) :
    PE X (.Call (.Name x p) (e :: es) kws pos) (tCallN n ks.length sp gV E t tk) := by
  obtain ⟨g, hb⟩ := hb
  exact pe_callN F hr hg hm hk hb hx ha hkw hall hks hdb he hpl
end
/-! ### what the top has left -/
theorem fund_mk {K : PySem.W.Frag} {x qual : Str} {st : Stmt} {f : Addr} {dvs : List V} {oc dV : Value} {od an : Option Addr} {osl : Array (Option Value)} {kV doc pm cdv ct : Value}
    (l : K.lookup f = some ⟨oc, od, .func (PySem.W.fnOf x qual (defArgs st) (defBody st) (defScope st) dV kV doc pm an cdv ct), osl⟩) (c : PySem.W.codeIn K cdv qual = true) (k : PySem.W.keepIn K (.ref f) = true) (d : DflV K dV dvs) :
    FunD K x qual (defArgs st) (defBody st) (defScope st) dvs [] f (PySem.W.fnOf x qual (defArgs st) (defBody st) (defScope st) dV kV doc pm an cdv ct) :=
  ⟨⟨oc, od, dV, kV, doc, pm, an, cdv, ct, osl, rfl, l, c, d, .inl rfl⟩, k⟩
theorem dfl_mk {K : PySem.W.Frag} {dV : Value} {T : Addr} {o : Obj} {its : List Value} {n : Nat} {dvs : List V} (e : dV = .ref T) (l : K.lookup T = some o) (hd : o.data = .seq its.toArray n) (r : Vals dvs its) (hn : dvs ≠ []) : DflV K dV dvs := .inr ⟨hn, T, o, its, n, e, l, hd, r⟩
section
variable {K : PySem.W.Frag} {x qual : Str} {st : Stmt} {dvs : List V} {f : Addr} {fd : FuncData} {ps : List Str}
/-- all parameters are written, no defaults stand -/
theorem fund_all0 (F : FunD K x qual (defArgs st) (defBody st) (defScope st) [] [] f fd)
    (h : ∀ (kV doc pm : Value) (an : Option Addr) (cdv ct : Value) (us : List Value), us.length = ps.length → bindArgs (PySem.W.fnOf x qual (defArgs st) (defBody st) (defScope st) .none kV doc pm an cdv ct) ⟨us, []⟩ = pure (ps.zip us)) : Binds K fd ps [] := F.bindsN h
/-- all parameters are written, and defaults stand -/
theorem fund_allD (F : FunD K x qual (defArgs st) (defBody st) (defScope st) dvs [] f fd) (hd : dvs ≠ [])
    (h : ∀ (T : Addr) (kV doc pm : Value) (an : Option Addr) (cdv ct : Value) (us its : List Value), us.length = ps.length → its.length = dvs.length →
      ∃ k, bindArgs (PySem.W.fnOf x qual (defArgs st) (defBody st) (defScope st) (.ref T) kV doc pm an cdv ct) ⟨us, []⟩ = seqItems? (.ref T) >>= k ∧ k (some its.toArray) = pure (ps.zip us)) : Binds K fd ps [] := by
  obtain ⟨ds, r, b⟩ := F.binds1 (ps := ps) ps.length dvs.length hd (by omega) (fun T kV doc pm an cdv ct us its h1 h2 => by
    obtain ⟨k, e1, e2⟩ := h T kV doc pm an cdv ct us its h1 h2
    refine ⟨k, e1, ?_⟩
    rw [e2, List.drop_eq_nil_of_le (Nat.le_of_eq h2), List.append_nil])
  have e : ds = [] := by
    have := r.length
    rw [List.drop_length] at this
    exact List.eq_nil_of_length_eq_zero this.symm
  rw [e] at b
  exact b
theorem Vals.pick {xs : List V} {us : List Value} (r : Vals xs us) : ∀ ix : List Nat, Vals (ix.filterMap fun i => xs[i]?) (ix.filterMap fun i => us[i]?)
  | [] => .nil
  | i :: ix => by
    rw [List.filterMap_cons, List.filterMap_cons]
    cases e : xs[i]? with
    | none =>
      rw [Vals.none_of r e]
      exact Vals.pick r ix
    | some y =>
      obtain ⟨u, e2, r2⟩ := Vals.get r e
      rw [e2]
      exact .cons r2 (Vals.pick r ix)
/-- keywords: the parameters picked from the written values, the keywords' values, the defaults -/
theorem fund_kw (F : FunD K x qual (defArgs st) (defBody st) (defScope st) dvs [] f fd) (n : Nat) (ks : List Str) (ix : List Nat) (hd : dvs ≠ [])
    (h : ∀ (T : Addr) (kV doc pm : Value) (an : Option Addr) (cdv ct : Value) (us ws its : List Value), us.length = n → ws.length = ks.length → its.length = dvs.length →
      ∃ k, bindArgs (PySem.W.fnOf x qual (defArgs st) (defBody st) (defScope st) (.ref T) kV doc pm an cdv ct) ⟨us, ks.zip ws⟩ = seqItems? (.ref T) >>= k ∧ k (some its.toArray) = pure (ps.zip (ix.filterMap fun i => (us ++ (ws ++ its))[i]?))) :
    ∃ g, KBn K fd ps n ks g (fun vs zs => ix.filterMap fun i => (vs ++ (zs ++ dvs))[i]?) := by
  obtain ⟨oc, od, dV, kV, doc, pm, an, cdv, ct, osl, rfl, lk, hcd, hD, hK⟩ := F.ex
  rcases hD with ⟨e, _⟩ | ⟨_, T, o, its, m, rfl, lT, oT, rT⟩
  · exact absurd e hd
  · refine ⟨fun us ws => ix.filterMap fun i => (us ++ (ws ++ its))[i]?, ⟨fun s us ws X l1 l2 => ?_, fun r1 r2 => Vals.pick (r1.append (r2.append rT)) ix⟩⟩
    obtain ⟨k, e1, e2⟩ := h T kV doc pm an cdv ct us ws its l1 l2 rT.length.symm
    refine BindsTo.of_looks fun M => ?_
    rw [e1]
    exact looks_items X lT oT (.of_pure e2)
theorem fund_kw0 (F : FunD K x qual (defArgs st) (defBody st) (defScope st) [] [] f fd) (n : Nat) (ks : List Str) (ix : List Nat)
    (h : ∀ (kV doc pm : Value) (an : Option Addr) (cdv ct : Value) (us ws : List Value), us.length = n → ws.length = ks.length →
      bindArgs (PySem.W.fnOf x qual (defArgs st) (defBody st) (defScope st) .none kV doc pm an cdv ct) ⟨us, ks.zip ws⟩ = pure (ps.zip (ix.filterMap fun i => (us ++ ws)[i]?))) :
    ∃ g, KBn K fd ps n ks g (fun vs zs => ix.filterMap fun i => (vs ++ zs)[i]?) := by
  obtain ⟨oc, od, dV, kV, doc, pm, an, cdv, ct, osl, rfl, lk, hcd, hD, hK⟩ := F.ex
  rcases hD with ⟨_, rfl⟩ | ⟨e, _⟩
  · refine ⟨fun us ws => ix.filterMap fun i => (us ++ ws)[i]?, ⟨fun s us ws X l1 l2 => ?_, fun r1 r2 => Vals.pick (r1.append r2) ix⟩⟩
    exact .of_eq (h kV doc pm an cdv ct us ws l1 l2)
  · exact absurd rfl e
end
/-! ### the heap -/
theorem get_upd {H : Hp} {a p : Addr} {o u : HO} (hp : H p = none) (h : H a = some o) : upd H p u a = some o := by
  rw [upd_ne (ne_of_none h hp)]
  exact h
theorem get_same {H H' : Hp} {a : Addr} {o : HO} (s : Same H H') (h : H a = some o) : H' a = some o := s a o h
theorem same_upd {H H' : Hp} {p : Addr} {u : HO} (s : Same H H') (hp : H' p = none) : Same H (upd H' p u) := fun _ _ e => get_upd hp (s _ _ e)
/-! ### comprehensions whose element gives a value of the item alone (none: it is left out) -/
theorem take_succ_get {α : Type} {xs : List α} {i : Nat} {x : α} (h : xs[i]? = some x) : xs.take (i + 1) = xs.take i ++ [x] := by
  rw [List.take_succ, h]
  rfl
theorem lc_fm {J : It} {G : Hp → Prop} {g : TG} {tt : TT} {te : TE} {vs : List Nat} {σ : St} {H1 : Hp} {D : Addr} {Qd : Hp → Prop} (xs : List V) (f : V → Option V) (w : Walk J xs.length G (YAt xs)) (hl : xs.length < sizeLine)
    (hG : ∀ H, Same H1 H → G H) (hD : H1 D = none)
    (hs : ∀ x ∈ xs, ∀ H (Q : VK) (R : Hp → Prop), Same H1 H → (∀ H', Same H H' → match f x with | some y => Q y H' | none => R H') → g x (wipe σ vs) H fun σ2 H2 => wipe σ2 vs = wipe σ vs ∧ tt σ2 H2 fun b H3 => if b = true then te σ2 H3 Q else R H3)
    (hd : ∀ H, Same H1 H → H D = some (.lst (xs.filterMap f)) → Qd H) :
    ∃ W : Nat → Nat → Hp → Prop, (∃ m, W 0 m (upd H1 D (.lst []))) ∧ ∀ i m H, W i m H →
      (J.stop i H ∧ Qd H) ∨ (J.go i H ∧ ∃ Nx : Hp → Prop, (∀ H', Nx H' → ∃ m', m' < m ∧ W (i + 1) m' H') ∧ ∀ x H', J.yld i H x H' → g x (wipe σ vs) H' fun σ2 H2 => wipe σ2 vs = wipe σ vs ∧ tt σ2 H2 fun b H3 =>
        if b = true then te σ2 H3 fun y H4 => ∃ acc, H4 D = some (.lst acc) ∧ acc.length < sizeLine ∧ Nx (upd H4 D (.lst (acc ++ [y]))) else Nx H3) := by
  refine lc_it w (fun i H => Same H1 H ∧ H D = some (.lst ((xs.take i).filterMap f))) ⟨same_upd (Same.refl H1) hD, upd_same⟩ (fun i H _ h => hG H h.1) ?_ (fun H h => ?_)
  · rintro i x H H' hi ⟨s1, e1⟩ ⟨rfl, hx⟩
    refine hs x (List.mem_of_getElem? hx) H' _ _ s1 fun H4 s4 => ?_
    have e4 := s4 _ _ e1
    have s14 := s1.trans s4
    cases ef : f x with
    | none =>
      refine ⟨s14, ?_⟩
      rw [take_succ_get hx, List.filterMap_append, List.filterMap_cons, ef]
      simpa using e4
    | some y =>
      refine ⟨_, e4, ?_, fun b o hb => ?_, ?_⟩
      · refine Nat.lt_of_le_of_lt (List.length_filterMap_le _ _) (Nat.lt_of_le_of_lt ?_ hl)
        rw [List.length_take]
        exact Nat.min_le_right _ _
      · rw [upd_ne (ne_of_none hb hD)]
        exact s14 _ _ hb
      · rw [upd_same, take_succ_get hx, List.filterMap_append, List.filterMap_cons, ef]
        rfl
  · rw [List.take_length] at h
    exact hd H h.1 h.2
theorem lc_map {J : It} {G : Hp → Prop} {g : TG} {tt : TT} {te : TE} {vs : List Nat} {σ : St} {H1 : Hp} {D : Addr} {Qd : Hp → Prop} (xs : List V) (f : V → V) (w : Walk J xs.length G (YAt xs)) (hl : xs.length < sizeLine)
    (hG : ∀ H, Same H1 H → G H) (hD : H1 D = none)
    (hs : ∀ x ∈ xs, ∀ H (Q : VK) (R : Hp → Prop), Same H1 H → (∀ H', Same H H' → Q (f x) H') → g x (wipe σ vs) H fun σ2 H2 => wipe σ2 vs = wipe σ vs ∧ tt σ2 H2 fun b H3 => if b = true then te σ2 H3 Q else R H3)
    (hd : ∀ H, Same H1 H → H D = some (.lst (xs.map f)) → Qd H) :
    ∃ W : Nat → Nat → Hp → Prop, (∃ m, W 0 m (upd H1 D (.lst []))) ∧ ∀ i m H, W i m H →
      (J.stop i H ∧ Qd H) ∨ (J.go i H ∧ ∃ Nx : Hp → Prop, (∀ H', Nx H' → ∃ m', m' < m ∧ W (i + 1) m' H') ∧ ∀ x H', J.yld i H x H' → g x (wipe σ vs) H' fun σ2 H2 => wipe σ2 vs = wipe σ vs ∧ tt σ2 H2 fun b H3 =>
        if b = true then te σ2 H3 fun y H4 => ∃ acc, H4 D = some (.lst acc) ∧ acc.length < sizeLine ∧ Nx (upd H4 D (.lst (acc ++ [y]))) else Nx H3) :=
  lc_fm xs (fun x => some (f x)) w hl hG hD (fun x hx H Q R s h => hs x hx H Q R s h) (fun H s e => hd H s (by rw [e, List.filterMap_eq_map']))
/-- the signs of a text as texts of one sign -/
def signs (z : Str) : List V := z.cps.toList.map fun c => .str ⟨#[c]⟩
theorem walk_signs {z : Str} : Walk (Its z) (signs z).length (fun _ => True) (YAt (signs z)) := by
  have e : (signs z).length = z.cps.size := by
    unfold signs
    rw [List.length_map]
    rfl
  rw [e]
  refine walk_str.mono (fun _ h => h) fun i H x H' _ _ ⟨h1, c, h2, h3⟩ => ⟨h1, ?_⟩
  unfold signs
  rw [List.getElem?_map, Array.getElem?_toList, h2, h3]
  rfl
/-- a for, item by item -/
def forW (G : Hp → Prop) (g : TG) (tb : TS) (D : Ends) : List V → St → Hp → Prop
  | [], σ, H => G H ∧ D.nx σ H
  | x :: xs, σ, H => G H ∧ g x σ H fun σ2 H2 => tb { D with nx := forW G g tb D xs, ct := forW G g tb D xs, bk := D.nx } σ2 H2
theorem forW_G {G : Hp → Prop} {g : TG} {tb : TS} {D : Ends} : ∀ {xs : List V} {σ : St} {H : Hp}, forW G g tb D xs σ H → G H
  | [], _, _, h => h.1
  | _ :: _, _, _, h => h.1
theorem for_W {J : It} {G : Hp → Prop} {g : TG} {tb : TS} {D : Ends} {σ : St} {H : Hp} (xs : List V) (w : Walk J xs.length G (YAt xs)) (h : forW G g tb D xs σ H) :
    ∃ W : Nat → Nat → St → Hp → Prop, (∃ m, W 0 m σ H) ∧ ∀ i m σ H, W i m σ H →
      (J.stop i H ∧ D.nx σ H) ∨ (J.go i H ∧ ∃ N : St → Hp → Prop, (∀ σ' H', N σ' H' → ∃ m', m' < m ∧ W (i + 1) m' σ' H') ∧ ∀ x H', J.yld i H x H' → g x σ H' fun σ2 H2 => tb { D with nx := N, ct := N, bk := D.nx } σ2 H2) := by
  refine ⟨fun i m σ H => i ≤ xs.length ∧ m = xs.length - i ∧ forW G g tb D (xs.drop i) σ H, ⟨_, Nat.zero_le _, rfl, h⟩, ?_⟩
  rintro i m σ H ⟨hi, rfl, h⟩
  by_cases c : i = xs.length
  · subst c
    rw [List.drop_length] at h
    exact .inl ⟨w.stops H h.1, h.2⟩
  · have hi' : i < xs.length := by omega
    refine .inr ⟨w.goes i H hi' (forW_G h), forW G g tb D (xs.drop (i + 1)), fun σ' H' q => ⟨xs.length - (i + 1), by omega, by omega, rfl, q⟩, fun x H' hy => ?_⟩
    obtain ⟨rfl, hx⟩ := w.yields i H x H' hi' (forW_G h) hy
    rw [List.drop_eq_getElem_cons hi'] at h
    obtain ⟨_, rfl⟩ := List.getElem?_eq_some_iff.mp hx
    exact h.2
/-! ### a def of which nothing raised leaves -/
theorem fund_ok0 {P : Program} {w : World} {K : PySem.W.Frag} {mg : Str → Option Value} {base : Heap} {x qual : Str} {params : Arguments} {body : List Stmt} {scope : Scope} {dvs : List V} {f : Addr} {fd : FuncData} {N ps : List Str} {k : Nat} {sp : Sp}
    (F : FunD K x qual params body scope dvs [] f fd) (S : FnScope N ps scope) (len : ∀ vs H Q E, sp vs H Q E → vs.length = ps.length)
    (hbody : ∀ (cdv : Value) (A : Around) (outer : List Env) (s : Shared) (H : Hp) (vs : List V) (Q : VK) (E : XK), Room k (A.deeper (PyProof.Rows.envOfC qual scope s.heap.objs.size f cdv)) → sp vs H Q E →
      ∃ t, PSs (cxOf CX0 P w K mg base N qual scope f cdv A outer s H E).nox body t ∧ t { nx := fun _ H' => Q .non H', rt := Q } (start N vs) H) : FnOk P w K mg base CX0 (k + 1) f fd ps sp :=
  F.ok S len fun cdv A outer s H vs Q E hr h => let ⟨t, h1, h2⟩ := hbody cdv A outer s H vs Q E hr h; ⟨t, h1.nox, h2⟩
/-! ### one step of a reading -/
section
variable {D : Ends} {σ : St} {H : Hp} {Q : VK} {K : PySem.W.Frag} {t u : TS} {ta tb te to tl : TE} {tc td : TT} {TQ : Bool → Hp → Prop} {A : TA} {AQ : List V → Hp → Prop} {g : TG} {gs : TGs} {GQ : St → Hp → Prop} {r r' : R2} {v x y : V} {i : Nat}
theorem i_seq (h : t { D with nx := u D } σ H) : tSeq t u D σ H := h
theorem i_ifS (h : tc σ H fun b H1 => if b = true then t D σ H1 else u D σ H1) : tIfS tc t u D σ H := h
theorem i_ret (h : te σ H D.rt) : tRet te D σ H := h
theorem i_retN (h : D.rt .non H) : tRetN D σ H := h
theorem i_next (h : D.nx σ H) : tNext D σ H := h
theorem i_brk (h : D.bk σ H) : tBreak D σ H := h
theorem i_cont (h : D.ct σ H) : tCont D σ H := h
theorem i_asg (h : te σ H fun x H1 => g x σ H1 D.nx) : tAsg te g D σ H := h
theorem i_drop (h : te σ H fun _ H1 => D.nx σ H1) : tDrop te D σ H := h
theorem i_name (h : GQ (σ.set i (some v)) H) : gName i v σ H GQ := h
theorem i_sub {ti : TE} {ts : TSet} (h : to σ H fun o H1 => ti σ H1 fun i H2 => ts o i v H2 fun H3 => GQ σ H3) : gSub to ti ts v σ H GQ := h
theorem i_tupT {n : Nat} {a : Addr} {xs : List V} (h1 : SqT K H a xs) (h2 : xs.length = n) (h3 : gs xs σ H GQ) : gTup K n gs (.ref a) σ H GQ := ⟨a, xs, rfl, h1, h2, h3⟩
theorem i_gnil (h : GQ σ H) : gNil [] σ H GQ := ⟨rfl, h⟩
theorem i_gcons {vs : List V} (h : g v σ H fun σ' H' => gs vs σ' H' GQ) : gCons g gs (v :: vs) σ H GQ := ⟨v, vs, rfl, h⟩
theorem i_setL {p : Addr} {xs : List V} {k : Int} {j : Nat} {HQ : Hp → Prop} (h1 : H p = some (.lst xs)) (h2 : ixN xs.length k = some j) (h3 : HQ (upd H p (.lst (xs.set j v)))) : rSetL (.ref p) (.int k) v H HQ := ⟨p, xs, k, j, rfl, rfl, h1, h2, h3⟩
theorem i_test (h : te σ H fun x H' => ∃ k, x = .bl k ∧ TQ k H') : tTest te σ H TQ := h
theorem i_tB (h : te σ H fun x H' => ∃ k, x = .bl k ∧ TQ k H') : tB te σ H TQ := h
theorem i_bl {b : Bool} {R : Bool → Prop} (h : R b) : ∃ k, V.bl b = .bl k ∧ R k := ⟨b, rfl, h⟩
theorem i_not (h : tc σ H fun c H1 => TQ (!c) H1) : tNot tc σ H TQ := h
theorem i_and (h : tc σ H fun c H1 => if c = true then td σ H1 TQ else TQ false H1) : tAnd tc td σ H TQ := h
theorem i_or (h : tc σ H fun c H1 => if c = true then TQ true H1 else td σ H1 TQ) : tOr tc td σ H TQ := h
theorem i_andV (h : ta σ H fun x H1 => ∃ c, x = .bl c ∧ if c = true then tb σ H1 Q else Q (.bl false) H1) : tAndV ta tb σ H Q := h
theorem i_orV (h : ta σ H fun x H1 => ∃ c, x = .bl c ∧ if c = true then Q (.bl true) H1 else tb σ H1 Q) : tOrV ta tb σ H Q := h
theorem i_notV (h : ta σ H fun x H1 => ∃ c, x = .bl c ∧ Q (.bl (!c)) H1) : tNotV ta σ H Q := h
theorem i_if (h : tc σ H fun c H1 => if c = true then ta σ H1 Q else tb σ H1 Q) : tIf tc ta tb σ H Q := h
theorem i_var (h1 : σ[i]? = some (some v)) (h2 : Q v H) : tVar i σ H Q := ⟨v, h1, h2⟩
theorem i_c (h : Q v H) : tC v σ H Q := h
theorem i_op (h : ta σ H fun x H1 => tb σ H1 fun y H2 => r x y H2 Q) : tOp r ta tb σ H Q := h
theorem i_un {r1 : V → Hp → VK → Prop} (h : ta σ H fun x H1 => r1 x H1 Q) : tUn r1 ta σ H Q := h
theorem i_rU {f : Int → V} {n : Int} (h : Q (f n) H) : rU f (.int n) H Q := ⟨n, rfl, h⟩
theorem i_rI {C : Int → Int → Prop} {f : Int → Int → V} {n m : Int} (h1 : C n m) (h2 : Q (f n m) H) : rI C f (.int n) (.int m) H Q := ⟨n, m, rfl, rfl, h1, h2⟩
theorem i_rI0 {f : Int → Int → V} {n m : Int} (h2 : Q (f n m) H) : rI0 f (.int n) (.int m) H Q := ⟨n, m, rfl, rfl, h2⟩
theorem i_chain (h : ta σ H fun x H1 => tb σ H1 fun y H2 => r x y H2 fun z H3 => ∃ k, z = .bl k ∧ (if k = true then te σ H3 fun w' H4 => r' y w' H4 Q else Q (.bl false) H3)) : tChain r r' ta tb te σ H Q := h
theorem i_addI {n m : Int} (h : Q (.int (n + m)) H) : rAddU K (.int n) (.int m) H Q := h
theorem i_addS {n m : Str} (h1 : n.length + m.length ≤ sizeLine) (h : Q (.str (n ++ m)) H) : rAddU K (.str n) (.str m) H Q := ⟨h1, h⟩
theorem i_addL {p q : Addr} {xs ys : List V} (h1 : H p = some (.lst xs)) (h2 : H q = some (.lst ys)) (h3 : xs.length + ys.length ≤ sizeLine) (h : ∀ b, H b = none → Q (.ref b) (upd H b (.lst (xs ++ ys)))) : rAddU K (.ref p) (.ref q) H Q := .inl ⟨xs, ys, h1, h2, h3, h⟩
theorem i_addT {p q : Addr} {xs ys : List V} (h1 : SqT K H p xs) (h2 : SqT K H q ys) (h0 : xs ≠ []) (h3 : xs.length + ys.length ≤ sizeLine) (e : ys = [] → Q (.ref p) H) (h : ys ≠ [] → ∀ b, H b = none → Q (.ref b) (upd H b (.tup (xs ++ ys)))) : rAddU K (.ref p) (.ref q) H Q :=
  .inr ⟨p, q, xs, ys, rfl, rfl, h1, h2, h0, h3, e, h⟩
theorem i_mulI {n m : Int} (h1 : CMulW n m) (h : Q (.int (n * m)) H) : rMulU (.int n) (.int m) H Q := ⟨h1, h⟩
theorem i_eqS {b : Bool} (h1 : eqS x y = some b) (h : Q (.bl b) H) : rEqU K x y H Q := by
  unfold rEqU
  rw [h1]
  exact h
theorem i_neS {b : Bool} (h1 : eqS x y = some b) (h : Q (.bl (!b)) H) : rNeU K x y H Q := by
  unfold rNeU
  rw [h1]
  exact h
theorem i_eqD {a' b' : PyData} (h0 : eqS x y = none) (h1 : Dp K H x a') (h2 : Dp K H y b') (h3 : SeqAt.shaped a' = true) (h4 : SeqAt.shaped b' = true) (h : Q (.bl (PyData.eqv a' b')) H) : rEqU K x y H Q := by
  unfold rEqU
  rw [h0]
  exact .inl ⟨a', b', h1, h2, h3, h4, h⟩
theorem i_eqG {p q : Addr} {xs ys : List V} {n : Nat} {b : Bool} (h1 : (SqL K H p xs ∧ SqL K H q ys) ∨ (SqT K H p xs ∧ SqT K H q ys)) (hn : n < 60) (t : EqVs K H n xs ys b) (h : Q (.bl b) H) : rEqU K (.ref p) (.ref q) H Q := .inr ⟨p, q, xs, ys, n, b, rfl, rfl, h1, hn, t, h⟩
theorem i_neG {p q : Addr} {xs ys : List V} {n : Nat} {b : Bool} (h1 : (SqL K H p xs ∧ SqL K H q ys) ∨ (SqT K H p xs ∧ SqT K H q ys)) (hn : n < 60) (t : EqVs K H n xs ys b) (h : Q (.bl (!b)) H) : rNeU K (.ref p) (.ref q) H Q := .inr ⟨p, q, xs, ys, n, b, rfl, rfl, h1, hn, t, h⟩
theorem i_neD {a' b' : PyData} (h0 : eqS x y = none) (h1 : Dp K H x a') (h2 : Dp K H y b') (h3 : SeqAt.shaped a' = true) (h4 : SeqAt.shaped b' = true) (h : Q (.bl (!PyData.eqv a' b')) H) : rNeU K x y H Q := by
  unfold rNeU
  rw [h0]
  exact .inl ⟨a', b', h1, h2, h3, h4, h⟩
theorem i_isB {a' b' : Bool} (h : Q (.bl (decide (a' = b'))) H) : rIsU (.bl a') (.bl b') H Q := h
theorem i_isN (h : Q (.bl (decide (x = .non))) H) : rIsU x .non H Q := by cases x <;> exact h
theorem i_isnB {a' b' : Bool} (h : Q (.bl (!decide (a' = b'))) H) : rIsnU (.bl a') (.bl b') H Q := h
theorem i_isnN (h : Q (.bl (!decide (x = .non))) H) : rIsnU x .non H Q := by cases x <;> exact h
theorem i_inS {c : Nat} {z : Str} (h : Q (.bl (decide (c ∈ z.cps.toList))) H) : rInU K (.str ⟨#[c]⟩) (.str z) H Q := ⟨c, rfl, h⟩
theorem i_ixL {p : Addr} {xs : List V} {n : Int} {w' : V} (h1 : SqL K H p xs) (h2 : atI xs n = some w') (h : Q w' H) : rIxU K (.ref p) (.int n) H Q := ⟨xs, w', .inl h1, h2, h⟩
theorem i_ixT {p : Addr} {xs : List V} {n : Int} {w' : V} (h1 : SqT K H p xs) (h2 : atI xs n = some w') (h : Q w' H) : rIxU K (.ref p) (.int n) H Q := ⟨xs, w', .inr h1, h2, h⟩
theorem i_ixS {z : Str} {n : Int} {c : Nat} (h0 : z.length ≤ sizeLine) (h2 : atI z.cps.toList n = some c) (h : Q (.str ⟨#[c]⟩) H) : rIxU K (.str z) (.int n) H Q := ⟨h0, c, h2, h⟩
theorem i_sl {rs : V → Option Int → Option Int → Hp → VK → Prop} {tl th : TO} (h : te σ H fun x H1 => tl σ H1 fun l H2 => th σ H2 fun u H3 => rs x l u H3 Q) : tSl rs te tl th σ H Q := h
theorem i_slS {z : Str} {lo hi : Option Int} (h0 : z.length ≤ sizeLine) (h : Q (.str (cutS z lo hi)) H) : rSlU K (.str z) lo hi H Q := ⟨h0, h⟩
theorem i_slL {p : Addr} {xs : List V} {lo hi : Option Int} (h0 : SqL K H p xs) (h : ∀ b, H b = none → Q (.ref b) (upd H b (.lst (cutV xs lo hi)))) : rSlU K (.ref p) lo hi H Q := .inl ⟨p, xs, rfl, h0, h⟩
theorem i_po0 {OQ : Option Int → Hp → Prop} (h : OQ none H) : tNoPart σ H OQ := h
theorem i_po1 {OQ : Option Int → Hp → Prop} (h : te σ H fun x H1 => ∃ i, x = .int i ∧ OQ (some i) H1) : tPart te σ H OQ := h
theorem i_poI {R : Int → Prop} {n : Int} (h : R n) : ∃ i, V.int n = .int i ∧ R i := ⟨n, rfl, h⟩
theorem i_lst (h : A σ H fun xs H1 => xs.length ≤ sizeLine ∧ ∀ p, H1 p = none → Q (.ref p) (upd H1 p (.lst xs))) : tLst A σ H Q := h
theorem i_tup (h : A σ H fun xs H1 => xs.length ≤ sizeLine ∧ ∀ p, H1 p = none → Q (.ref p) (upd H1 p (.tup xs))) : tTup A σ H Q := h
theorem i_new {n : Nat} {R : Addr → Prop} (h1 : n ≤ 1000) (h : ∀ p, H p = none → R p) : n ≤ sizeLine ∧ ∀ p, H p = none → R p := ⟨Nat.le_of_lt (small1000 h1), h⟩
theorem i_nil (h : AQ [] H) : tNil σ H AQ := h
theorem i_cons (h : te σ H fun x H1 => A σ H1 fun xs H2 => AQ (x :: xs) H2) : tCons te A σ H AQ := h
theorem i_cB {rb : List V → Hp → VK → Prop} (h : A σ H fun vs H1 => rb vs H1 Q) : tCB rb A σ H Q := h
theorem i_call {sp : Sp} {dvs : List V} {E : XK} (h : A σ H fun vs H1 => sp (vs ++ dvs) H1 Q E) : tCall sp dvs E A σ H Q := h
theorem i_callN {n m : Nat} {sp : Sp} {gV : List V → List V → List V} {E : XK} {B : TA} (h : A σ H fun vs H1 => B σ H1 fun zs H2 => vs.length = n ∧ zs.length = m ∧ sp (gV vs zs) H2 Q E) : tCallN n m sp gV E A B σ H Q := h
theorem i_lenS {z : Str} (h0 : z.length ≤ sizeLine) (h : Q (.int z.length) H) : rLenU K [.str z] H Q := ⟨_, _, rfl, ⟨h0, rfl⟩, h⟩
theorem i_lenL {p : Addr} {xs : List V} (h0 : SqL K H p xs) (h : Q (.int xs.length) H) : rLenU K [.ref p] H Q := ⟨_, _, rfl, .inl ⟨xs, h0, rfl⟩, h⟩
theorem i_lenT {p : Addr} {xs : List V} (h0 : SqT K H p xs) (h : Q (.int xs.length) H) : rLenU K [.ref p] H Q := ⟨_, _, rfl, .inr ⟨xs, h0, rfl⟩, h⟩
theorem i_isiB {d : Kd} (h1 : y = .ty d.name) (h : isO K x H fun f _ => Q (.bl (f d)) H) : rIsiB d K [x, y] H Q := ⟨x, by rw [h1], h⟩
theorem i_isiBs {ds : List Kd} {p : Addr} (h0 : H p = some (.tup (ds.map fun d => .ty d.name))) (h : isO K x H fun f _ => Q (.bl (ds.any f)) H) : rIsiBs ds K [x, .ref p] H Q := ⟨x, p, rfl, h0, h⟩
theorem i_all {p : Addr} {bs : List Bool} (h0 : SqL K H p (bs.map V.bl)) (h : Q (.bl (bs.all id)) H) : rAll K [.ref p] H Q := ⟨p, bs, rfl, h0, h⟩
theorem i_isoN {R : (Kd → Bool) → Option Addr → Prop} (h : R (fun _ => false) none) : isO K .non H R := h
theorem i_isoB {R : (Kd → Bool) → Option Addr → Prop} {b : Bool} (h : R (fun d => d == .int || d == .bl) none) : isO K (.bl b) H R := h
theorem i_isoI {R : (Kd → Bool) → Option Addr → Prop} {n : Int} (h : R (fun d => d == .int) none) : isO K (.int n) H R := h
theorem i_isoS {R : (Kd → Bool) → Option Addr → Prop} {z : Str} (h : R (fun d => d == .str) none) : isO K (.str z) H R := h
theorem i_isoL {R : (Kd → Bool) → Option Addr → Prop} {p : Addr} {xs : List V} (h0 : SqL K H p xs) (h : R (fun d => d == .lst) none) : isO K (.ref p) H R := ⟨.lst xs, h0, h⟩
theorem i_isoT {R : (Kd → Bool) → Option Addr → Prop} {p : Addr} {xs : List V} (h0 : SqT K H p xs) (h : R (fun d => d == .tup) none) : isO K (.ref p) H R := ⟨.tup xs, h0, h⟩
/-- of an object: it is none of int, bool, str -/
theorem i_isoR {R : (Kd → Bool) → Option Addr → Prop} {p : Addr} (kn : Kn K H (.ref p)) (h : ∀ f c, f .int = false → f .bl = false → f .str = false → R f c) : isO K (.ref p) H R := by
  obtain ⟨o, ho, k⟩ := kn
  refine ⟨o, ho, ?_⟩
  cases o <;> first | exact h _ _ rfl rfl rfl | exact ⟨k.1, k.2, h _ _ rfl rfl rfl⟩ | exact k.elim
theorem i_dec {p : Prop} [Decidable p] {A' B' : Prop} (h1 : p → A') (h2 : ¬ p → B') : if decide p = true then A' else B' := by
  by_cases h : p
  · rw [if_pos (decide_eq_true h)]
    exact h1 h
  · rw [if_neg (by rw [decide_eq_false h]; exact Bool.false_ne_true)]
    exact h2 h
theorem i_decT {p : Prop} [Decidable p] {A' B' : Prop} (h : p) (h1 : A') : if decide p = true then A' else B' := i_dec (fun _ => h1) (fun z => absurd h z)
theorem i_decF {p : Prop} [Decidable p] {A' B' : Prop} (h : ¬ p) (h1 : B') : if decide p = true then A' else B' := i_dec (fun z => absurd z h) (fun _ => h1)
theorem i_ifN {b : Bool} {A' B' : Prop} (h : if b = true then B' else A') : if (!b) = true then A' else B' := by cases b <;> exact h
theorem i_ifAnd {b c : Bool} {A' B' : Prop} (h : if b = true then (if c = true then A' else B') else B') : if (b && c) = true then A' else B' := by cases b <;> exact h
theorem i_isIf {c A' B' : Prop} [Decidable c] (h : if c then A' else B') : if c then A' else B' := h
theorem i_tT {b : Bool} {A' B' : Prop} (h : b = true) (h1 : A') : if b = true then A' else B' := by rw [h]; exact h1
theorem i_tF {b : Bool} {A' B' : Prop} (h : b = false) (h1 : B') : if b = true then A' else B' := by rw [h]; exact h1
theorem i_boo {b : Bool} {A' B' : Prop} (h1 : b = true → A') (h2 : b = false → B') : if b = true then A' else B' := by cases b <;> first | exact h1 rfl | exact h2 rfl
end
/-! ### loops and comprehensions, up to the loop's own question -/
section
variable {D : Ends} {σ : St} {H : Hp} {Q : VK} {K : PySem.W.Frag} {tb : TS} {te : TE} {wi : TI} {g : TG} {A : TA} {R : It → Hp → Prop}
theorem i_for (h : wi σ H fun J H1 => ∃ W : Nat → Nat → St → Hp → Prop, (∃ m, W 0 m σ H1) ∧ ∀ i m σ H, W i m σ H →
  (J.stop i H ∧ D.nx σ H) ∨ (J.go i H ∧ ∃ N : St → Hp → Prop, (∀ σ' H', N σ' H' → ∃ m', m' < m ∧ W (i + 1) m' σ' H') ∧ ∀ x H', J.yld i H x H' → g x σ H' fun σ2 H2 => tb { D with nx := N, ct := N, bk := D.nx } σ2 H2)) : tFor wi g tb D σ H := h
theorem i_lc {tt : TT} {vs : List Nat} (h : wi σ H fun J H1 => ∀ D, H1 D = none → ∃ W : Nat → Nat → Hp → Prop, (∃ m, W 0 m (upd H1 D (.lst []))) ∧ ∀ i m H, W i m H →
  (J.stop i H ∧ Q (.ref D) H) ∨ (J.go i H ∧ ∃ Nx : Hp → Prop, (∀ H', Nx H' → ∃ m', m' < m ∧ W (i + 1) m' H') ∧ ∀ x H', J.yld i H x H' → g x (wipe σ vs) H' fun σ2 H2 => wipe σ2 vs = wipe σ vs ∧ tt σ2 H2 fun b H3 =>
    if b = true then te σ2 H3 fun y H4 => ∃ acc, H4 D = some (.lst acc) ∧ acc.length < sizeLine ∧ Nx (upd H4 D (.lst (acc ++ [y]))) else Nx H3)) : tLc wi g tt te vs σ H Q := h
theorem i_iStr (h : te σ H fun v H1 => ∃ x, v = .str x ∧ R (Its x) H1) : iStr te σ H R := h
theorem i_itS {z : Str} {R : Str → Prop} (h : R z) : ∃ x, V.str z = .str x ∧ R x := ⟨z, rfl, h⟩
theorem i_iList (h : te σ H fun x H1 => ∃ a, x = .ref a ∧ (∃ xs, SqL K H1 a xs) ∧ R (Itl K a) H1) : iList K te σ H R := h
theorem i_iTup (h : te σ H fun x H1 => ∃ a, x = .ref a ∧ (∃ xs, SqT K H1 a xs) ∧ R (Itt K a) H1) : iTup K te σ H R := h
theorem i_itL {a : Addr} {xs : List V} {R : Addr → Prop} (h0 : SqL K H a xs) (h : R a) : ∃ b, V.ref a = .ref b ∧ (∃ xs, SqL K H b xs) ∧ R b := ⟨a, rfl, ⟨xs, h0⟩, h⟩
theorem i_itT {a : Addr} {xs : List V} {R : Addr → Prop} (h0 : SqT K H a xs) (h : R a) : ∃ b, V.ref a = .ref b ∧ (∃ xs, SqT K H b xs) ∧ R b := ⟨a, rfl, ⟨xs, h0⟩, h⟩
theorem i_iR1 (h : A σ H fun vs H1 => ∃ j : Int, vs = [.int j] ∧ -(2 ^ 62) ≤ j ∧ j < 2 ^ 62 ∧ R (Itr 0 j.toNat) H1) : iRng1 A σ H R := h
theorem i_r1 {j : Int} {R : Int → Prop} (h0 : -(2 ^ 62) ≤ j ∧ j < 2 ^ 62) (h : R j) : ∃ i, [V.int j] = [.int i] ∧ -(2 ^ 62) ≤ i ∧ i < 2 ^ 62 ∧ R i := ⟨j, rfl, h0.1, h0.2, h⟩
theorem i_forC {G : Hp → Prop} {x : V} {xs : List V} (h1 : G H) (h2 : g x σ H fun σ2 H2 => tb { D with nx := forW G g tb D xs, ct := forW G g tb D xs, bk := D.nx } σ2 H2) : forW G g tb D (x :: xs) σ H := ⟨h1, h2⟩
theorem i_forN {G : Hp → Prop} (h1 : G H) (h2 : D.nx σ H) : forW G g tb D [] σ H := ⟨h1, h2⟩
end
theorem cast_bl {Q : VK} {H : Hp} {b c : Bool} (k : Q (.bl b) H) (e : b = c) : Q (.bl c) H := e ▸ k
theorem cast_v {Q : VK} {H : Hp} {b c : V} (k : Q b H) (e : b = c) : Q c H := e ▸ k
theorem atI_in {α : Type} {xs : List α} {r : Int} (h0 : 0 ≤ r) (h1 : r < xs.length) : ∃ v, v ∈ xs ∧ xs[r.toNat]? = some v ∧ atI xs r = some v := by
  obtain ⟨n, rfl⟩ : ∃ n : Nat, r = n := ⟨r.toNat, by omega⟩
  have h : n < xs.length := by omega
  exact ⟨xs[n], List.getElem_mem h, by simp [h], atI_nat (by simp [h])⟩
/-- an object's class stays known -/
theorem Rd.same {H H' : Hp} {a : Addr} {u : HO} (s : Same H H') (r : Rd H a u) : Rd H' a u := by
  rcases r with h | ⟨o, h⟩
  · exact .inl (s _ _ h)
  · exact .inr ⟨o, s _ _ h⟩
theorem SqT.same {K : PySem.W.Frag} {H H' : Hp} {a : Addr} {xs : List V} (s : Same H H') (h : SqT K H a xs) : SqT K H' a xs := by
  rcases h with h | h
  · exact .inl (Rd.same s h)
  · exact .inr h
theorem Obs.same {K : PySem.W.Frag} {H H' : Hp} {a : Addr} {o : HO} (s : Same H H') (h : Obs K H a o) : Obs K H' a o := by
  cases o with
  | lst xs => exact Same.seq s h
  | tup xs => exact SqT.same s h
  | _ => exact s _ _ h
theorem Kn.same {K : PySem.W.Frag} {H H' : Hp} {x : V} (s : Same H H') (h : Kn K H x) : Kn K H' x := by
  cases x <;> first | exact h | skip
  obtain ⟨o, ho, k⟩ := h
  exact ⟨o, ho.same s, k⟩
theorem Kn.of {K : PySem.W.Frag} {H : Hp} {a : Addr} {o : HO} (h : H a = some o) (k : KnO K o) : Kn K H (.ref a) := ⟨o, .of h, k⟩
theorem i_yes {σ : St} {H : Hp} {TQ : Bool → Hp → Prop} (h : TQ true H) : tYes σ H TQ := h
theorem i_wipe {σ σ' : St} {vs : List Nat} {R : Prop} (h1 : wipe σ vs = wipe σ' vs) (h : R) : wipe σ vs = wipe σ' vs ∧ R := ⟨h1, h⟩
/-- is x one sign of z -/
def sgIn (z : Str) : V → Bool
  | .str y => match y.cps.toList with
    | [c] => decide (c ∈ z.cps.toList)
    | _ => false
  | _ => false
theorem signs_all (z u : Str) : ((signs u).map fun x => sgIn z x).all id = u.cps.toList.all fun c => decide (c ∈ z.cps.toList) := by
  unfold signs
  rw [List.map_map, List.all_map]
  rfl
theorem mulW {i j : Int} (hi : i.natAbs < 2 ^ 400) (hj : j.natAbs < 2 ^ 400) : CMulW i j := wide_mul hi hj (by decide) (by decide) (by decide)
theorem mulW64 {i j : Int} (hi : i.natAbs < 18446744073709551616) (hj : j.natAbs < 18446744073709551616) : CMulW i j := wide_mul (a := 64) (b := 64) hi hj (by decide) (by decide) (by decide)
theorem cpow {i j : Int} (h0 : 0 ≤ j) (h1 : j ≤ 1000000) (hi : i.natAbs < 18446744073709551616) : CPow i j := ⟨h0, h1, hi⟩
/-- all but what stands at p is kept -/
def SameBut (p : Addr) (H H' : Hp) : Prop := ∀ b o, b ≠ p → H b = some o → H' b = some o
theorem SameBut.refl (p : Addr) (H : Hp) : SameBut p H H := fun _ _ _ h => h
theorem SameBut.trans {p : Addr} {H H1 H2 : Hp} (a : SameBut p H H1) (b : SameBut p H1 H2) : SameBut p H H2 := fun c o n h => b c o n (a c o n h)
theorem SameBut.of {p : Addr} {H H' : Hp} (s : Same H H') : SameBut p H H' := fun b o _ h => s b o h
theorem SameBut.upd (p : Addr) (H : Hp) (o : HO) : SameBut p H (upd H p o) := fun b u n h => by
  rw [upd_ne n]
  exact h
theorem SameBut.new {p q : Addr} {H H' : Hp} {o : HO} (s : SameBut p H H') (h : H' q = none) : SameBut p H (L2.upd H' q o) := fun b u n e => get_upd h (s b u n e)
theorem SameBut.at {p : Addr} {H H' : Hp} {o : HO} (s : SameBut p H H') : SameBut p H (L2.upd H' p o) := s.trans (SameBut.upd p H' o)
/-- what was new ahead is not lost -/
theorem SameBut.same {p : Addr} {H H' : Hp} (s : SameBut p H H') (h : H p = none) : Same H H' := fun b o e => s b o (ne_of_none e h) e
theorem get_but {p : Addr} {H H' : Hp} {a : Addr} {o : HO} (s : SameBut p H H') (n : a ≠ p) (h : H a = some o) : H' a = some o := s a o n h
theorem get_ne {H : Hp} {a p : Addr} {o u : HO} (n : a ≠ p) (h : H a = some o) : upd H p u a = some o := by
  rw [upd_ne n]
  exact h
theorem str_pos {t : Str} (h : ¬ t = "") : 0 < t.length := by
  rcases Nat.eq_zero_or_pos t.length with e | e
  · refine absurd ?_ h
    cases t with
    | mk c =>
      have : c = #[] := Array.eq_empty_of_size_eq_zero e
      rw [this]
      rfl
  · exact e
theorem str_len (t : Str) : t.cps.toList.length = t.length := rfl
theorem len_app (a b : Str) : (a ++ b).length = a.length + b.length := by
  show (a.cps ++ b.cps).size = _
  rw [Array.size_append]
  rfl
theorem line_le {n : Nat} (h : n ≤ 1000) : n ≤ sizeLine := Nat.le_of_lt (small1000 h)
theorem pool_next (z X : Int) (q : Nat) (h0 : 0 ≤ z) (h1 : z.natAbs < q) : 0 ≤ z * 2147483629 + X % 2147483629 ∧ (z * 2147483629 + X % 2147483629).natAbs < q * 2147483648 := by omega
theorem i_maxU {m n : Int} {H : Hp} {Q : VK} (h : Q (.int (maxP m n)) H) : rMaxU [.int m, .int n] H Q := ⟨m, n, rfl, h⟩
theorem i_minU {m n : Int} {H : Hp} {Q : VK} (h : Q (.int (minP m n)) H) : rMinU [.int m, .int n] H Q := ⟨m, n, rfl, h⟩
theorem bT {b : Bool} (e : b = true) : ¬ b = false := by rw [e]; decide
theorem bF {b : Bool} (e : ¬ b = true) : b = false := by cases b <;> first | rfl | exact absurd rfl e
theorem i_lens {m n k l : Nat} {R : Prop} (h1 : m = n) (h2 : k = l) (h : R) : m = n ∧ k = l ∧ R := ⟨h1, h2, h⟩
theorem i_eqDv {K : PySem.W.Frag} {H : Hp} {Q : VK} {x y : V} {a' b' : PyData} {c : Bool} (h0 : eqS x y = none) (h1 : Dp K H x a') (h2 : Dp K H y b') (h3 : SeqAt.shaped a' = true) (h4 : SeqAt.shaped b' = true) (hv : PyData.eqv a' b' = c) (h : Q (.bl c) H) : rEqU K x y H Q := i_eqD h0 h1 h2 h3 h4 (by rw [hv]; exact h)
theorem i_neDv {K : PySem.W.Frag} {H : Hp} {Q : VK} {x y : V} {a' b' : PyData} {c : Bool} (h0 : eqS x y = none) (h1 : Dp K H x a') (h2 : Dp K H y b') (h3 : SeqAt.shaped a' = true) (h4 : SeqAt.shaped b' = true) (hv : PyData.eqv a' b' = c) (h : Q (.bl (!c)) H) : rNeU K x y H Q := i_neD h0 h1 h2 h3 h4 (by rw [hv]; exact h)
/-! ### == of lists and tuples of numbers, truths, None -/
def isNB : V → Bool
  | .non => true
  | .bl _ => true
  | .int _ => true
  | _ => false
def datNB : V → PyData
  | .bl b => .bool b
  | .int i => .int i
  | _ => .none
def eqNB : V → V → Bool
  | .bl a, .bl b => a == b
  | .bl a, .int j => (if a then 1 else 0) == j
  | .int i, .bl b => i == (if b then 1 else 0)
  | .int i, .int j => i == j
  | .non, .non => true
  | _, _ => false
def eqLF : List V → List V → Bool
  | [], [] => true
  | x :: xs, y :: ys => eqNB x y && eqLF xs ys
  | _, _ => false
theorem dp_NB {K : PySem.W.Frag} {H : Hp} {x : V} (f : isNB x = true) : Dp K H x (datNB x) := by
  cases x with
  | non => exact .non
  | bl b => exact .bl b
  | int i => exact .int i
  | _ => cases f
theorem dps_NB {K : PySem.W.Frag} {H : Hp} : ∀ {xs : List V}, xs.all isNB = true → DpAll K H xs (xs.map datNB)
  | [], _ => .nil
  | x :: xs, f => by
    rw [List.all_cons, Bool.and_eq_true] at f
    exact .cons (dp_NB f.1) (dps_NB f.2)
theorem eqv_NB {x y : V} (f : isNB x = true) (g : isNB y = true) : PyData.eqv (datNB x) (datNB y) = eqNB x y := by
  cases x <;> first | (cases f; done) | skip
  all_goals cases y <;> first | (cases g; done) | rfl
theorem eqv_NBs : ∀ {xs ys : List V}, xs.all isNB = true → ys.all isNB = true → PyData.eqvAll (xs.map datNB) (ys.map datNB) = eqLF xs ys
  | [], [], _, _ => rfl
  | [], _ :: _, _, _ => rfl
  | _ :: _, [], _, _ => rfl
  | x :: xs, y :: ys, f, g => by
    rw [List.all_cons, Bool.and_eq_true] at f g
    show (PyData.eqv (datNB x) (datNB y) && PyData.eqvAll (xs.map datNB) (ys.map datNB)) = _
    rw [eqv_NB f.1 g.1, eqv_NBs f.2 g.2]
    rfl
theorem lay_NBs : ∀ {xs : List V}, PyData.canLayAll0 (xs.map datNB) = true
  | [] => rfl
  | x :: xs => by
    show (PyData.canLay0 (datNB x) && PyData.canLayAll0 (xs.map datNB)) = true
    rw [lay_NBs (xs := xs), Bool.and_true]
    cases x <;> rfl
theorem dep_NBs : ∀ {xs : List V}, PyData.depthAll (xs.map datNB) ≤ 1
  | [] => Nat.zero_le _
  | x :: xs => by
    have h := dep_NBs (xs := xs)
    show max (PyData.depth (datNB x)) (PyData.depthAll (xs.map datNB)) ≤ 1
    have : PyData.depth (datNB x) ≤ 1 := by cases x <;> exact Nat.zero_le 1
    omega
theorem shp_NBl {xs : List V} : SeqAt.shaped (.list (xs.map datNB)) = true := by
  show (PyData.canLayAll0 (xs.map datNB) && decide (PyData.depth (.list (xs.map datNB)) ≤ 64)) = true
  rw [lay_NBs, Bool.true_and]
  have h := dep_NBs (xs := xs)
  refine decide_eq_true ?_
  show PyData.depthAll (xs.map datNB) + 1 ≤ 64
  omega
theorem shp_NBt {xs : List V} : SeqAt.shaped (.tuple (xs.map datNB)) = true := by
  show (PyData.canLayAll0 (xs.map datNB) && decide (PyData.depth (.tuple (xs.map datNB)) ≤ 64)) = true
  rw [lay_NBs, Bool.true_and]
  have h := dep_NBs (xs := xs)
  refine decide_eq_true ?_
  show PyData.depthAll (xs.map datNB) + 1 ≤ 64
  omega
section
variable {K : PySem.W.Frag} {H : Hp} {Q : VK} {p q : Addr} {xs ys : List V}
theorem i_eqLF (h1 : SqL K H p xs) (h2 : SqL K H q ys) (f1 : xs.all isNB = true) (f2 : ys.all isNB = true) (h : Q (.bl (eqLF xs ys)) H) : rEqU K (.ref p) (.ref q) H Q :=
  i_eqDv rfl (.lst h1 (dps_NB f1)) (.lst h2 (dps_NB f2)) shp_NBl shp_NBl (eqv_NBs f1 f2) h
theorem i_neLF (h1 : SqL K H p xs) (h2 : SqL K H q ys) (f1 : xs.all isNB = true) (f2 : ys.all isNB = true) (h : Q (.bl (!eqLF xs ys)) H) : rNeU K (.ref p) (.ref q) H Q :=
  i_neDv rfl (.lst h1 (dps_NB f1)) (.lst h2 (dps_NB f2)) shp_NBl shp_NBl (eqv_NBs f1 f2) h
theorem i_eqTF (h1 : SqT K H p xs) (h2 : SqT K H q ys) (f1 : xs.all isNB = true) (f2 : ys.all isNB = true) (h : Q (.bl (eqLF xs ys)) H) : rEqU K (.ref p) (.ref q) H Q :=
  i_eqDv rfl (.tup h1 (dps_NB f1)) (.tup h2 (dps_NB f2)) shp_NBt shp_NBt (eqv_NBs f1 f2) h
theorem i_neTF (h1 : SqT K H p xs) (h2 : SqT K H q ys) (f1 : xs.all isNB = true) (f2 : ys.all isNB = true) (h : Q (.bl (!eqLF xs ys)) H) : rNeU K (.ref p) (.ref q) H Q :=
  i_neDv rfl (.tup h1 (dps_NB f1)) (.tup h2 (dps_NB f2)) shp_NBt shp_NBt (eqv_NBs f1 f2) h
end
theorem lc_mapL {K : PySem.W.Frag} {a : Addr} {xs : List V} {g : TG} {tt : TT} {te : TE} {vs : List Nat} {σ : St} {H1 : Hp} {D : Addr} {Qd : Hp → Prop} (f : V → V) (h0 : SqL K H1 a xs) (hD : H1 D = none) (hl : xs.length ≤ 1000)
    (hs : ∀ x ∈ xs, ∀ H (Q : VK) (R : Hp → Prop), Same H1 H → (∀ H', Same H H' → Q (f x) H') → g x (wipe σ vs) H fun σ2 H2 => wipe σ2 vs = wipe σ vs ∧ tt σ2 H2 fun b H3 => if b = true then te σ2 H3 Q else R H3)
    (hd : ∀ H, Same H1 H → H D = some (.lst (xs.map f)) → Qd H) :
    ∃ W : Nat → Nat → Hp → Prop, (∃ m, W 0 m (upd H1 D (.lst []))) ∧ ∀ i m H, W i m H →
      ((Itl K a).stop i H ∧ Qd H) ∨ ((Itl K a).go i H ∧ ∃ Nx : Hp → Prop, (∀ H', Nx H' → ∃ m', m' < m ∧ W (i + 1) m' H') ∧ ∀ x H', (Itl K a).yld i H x H' → g x (wipe σ vs) H' fun σ2 H2 => wipe σ2 vs = wipe σ vs ∧ tt σ2 H2 fun b H3 =>
        if b = true then te σ2 H3 fun y H4 => ∃ acc, H4 D = some (.lst acc) ∧ acc.length < sizeLine ∧ Nx (upd H4 D (.lst (acc ++ [y]))) else Nx H3) :=
  lc_map xs f walk_list (small1000 hl) (fun _ s => Same.seq s h0) hD hs hd
theorem lc_mapT {K : PySem.W.Frag} {a : Addr} {xs : List V} {g : TG} {tt : TT} {te : TE} {vs : List Nat} {σ : St} {H1 : Hp} {D : Addr} {Qd : Hp → Prop} (f : V → V) (h0 : SqT K H1 a xs) (hD : H1 D = none) (hl : xs.length ≤ 1000)
    (hs : ∀ x ∈ xs, ∀ H (Q : VK) (R : Hp → Prop), Same H1 H → (∀ H', Same H H' → Q (f x) H') → g x (wipe σ vs) H fun σ2 H2 => wipe σ2 vs = wipe σ vs ∧ tt σ2 H2 fun b H3 => if b = true then te σ2 H3 Q else R H3)
    (hd : ∀ H, Same H1 H → H D = some (.lst (xs.map f)) → Qd H) :
    ∃ W : Nat → Nat → Hp → Prop, (∃ m, W 0 m (upd H1 D (.lst []))) ∧ ∀ i m H, W i m H →
      ((Itt K a).stop i H ∧ Qd H) ∨ ((Itt K a).go i H ∧ ∃ Nx : Hp → Prop, (∀ H', Nx H' → ∃ m', m' < m ∧ W (i + 1) m' H') ∧ ∀ x H', (Itt K a).yld i H x H' → g x (wipe σ vs) H' fun σ2 H2 => wipe σ2 vs = wipe σ vs ∧ tt σ2 H2 fun b H3 =>
        if b = true then te σ2 H3 fun y H4 => ∃ acc, H4 D = some (.lst acc) ∧ acc.length < sizeLine ∧ Nx (upd H4 D (.lst (acc ++ [y]))) else Nx H3) :=
  lc_map xs f walk_tup (small1000 hl) (fun _ s => SqT.same s h0) hD hs hd
/-! ### a list or a tuple walked -/
def iSeq (K : PySem.W.Frag) (tl : TE) : TI := fun σ H R => tl σ H fun x H1 => ∃ a, x = .ref a ∧ (((∃ xs, SqL K H1 a xs) ∧ R (Itl K a) H1) ∨ ((∃ xs, SqT K H1 a xs) ∧ R (Itt K a) H1))
theorem pi_seqK {X : Cx} {tg l : Expr} {tl : TE} {K : PySem.W.Frag} (hl : PE X l tl) (hK : X.K = K := by rfl) : PI X tg l (iSeq K tl) := by
  subst hK
  refine ⟨fun pins s σ H R I h => thn (hl.run pins s σ H _ I h) fun v s1 ⟨x, H1, I1, r1, a, ea, q1⟩ => ?_⟩
  subst ea
  cases r1
  rcases q1 with ⟨⟨xs, hq⟩, q⟩ | ⟨⟨xs, hq⟩, q⟩
  · obtain ⟨its, _, pl, _⟩ := I1.list hq
    exact wpAny_pyIter_list pl.isList (pi_one (tk := s1.toks) I1 _ (turn_list a _) ⟨_, Heap.get?_push_size _ rfl, rfl, rfl⟩ q)
  · obtain ⟨its, _, pt, _⟩ := I1.tuple hq
    exact wpAny_pyIter_tuple (show s1.heap.IsTuple a its.toArray from pt) (pi_one (tk := s1.toks) I1 _ (turn_tuple a _) ⟨_, Heap.get?_push_size _ rfl, rfl, rfl⟩ q)
section
variable {D : Ends} {σ : St} {H : Hp} {Q : VK} {K : PySem.W.Frag} {te : TE} {A : TA} {R : It → Hp → Prop}
theorem i_iSeq (h : te σ H fun x H1 => ∃ a, x = .ref a ∧ (((∃ xs, SqL K H1 a xs) ∧ R (Itl K a) H1) ∨ ((∃ xs, SqT K H1 a xs) ∧ R (Itt K a) H1))) : iSeq K te σ H R := h
theorem i_sqL {a : Addr} {xs : List V} {R R' : Addr → Prop} {L : Addr → Prop} (h0 : SqL K H a xs) (h : R a) : ∃ b, V.ref a = .ref b ∧ (((∃ xs, SqL K H b xs) ∧ R b) ∨ (L b ∧ R' b)) := ⟨a, rfl, .inl ⟨⟨xs, h0⟩, h⟩⟩
theorem i_sqT {a : Addr} {xs : List V} {R R' : Addr → Prop} {L : Addr → Prop} (h0 : SqT K H a xs) (h : R' a) : ∃ b, V.ref a = .ref b ∧ ((L b ∧ R b) ∨ ((∃ xs, SqT K H b xs) ∧ R' b)) := ⟨a, rfl, .inr ⟨⟨xs, h0⟩, h⟩⟩
theorem i_fld {f : Str} (h : te σ H fun x H1 => ∃ a C dx fs v, x = .ref a ∧ H1 a = some (.ins C dx fs) ∧ Cls K C ∧ NoAttr K C f ∧ fs.lookup f = some v ∧ Q v H1) : tFld K te f σ H Q := h
theorem i_sfld {tv : TE} {f : Str} (h : tv σ H fun y H1 => te σ H1 fun x H2 => ∃ a C dx fs, x = .ref a ∧ H2 a = some (.ins C dx fs) ∧ Cls K C ∧ NoAttr K C f ∧ fs.length < 1000 ∧ D.nx σ (upd H2 a (.ins C dx (putF f y fs)))) : sFld K te tv f D σ H := h
theorem i_fldR {a C dx : Addr} {fs : List (Str × V)} {f : Str} {v : V} {R : V → Prop} (h1 : H a = some (.ins C dx fs)) (h2 : Cls K C) (h3 : NoAttr K C f) (h4 : fs.lookup f = some v) (h : R v) :
    ∃ b C dx fs v, V.ref a = .ref b ∧ H b = some (.ins C dx fs) ∧ Cls K C ∧ NoAttr K C f ∧ fs.lookup f = some v ∧ R v := ⟨a, C, dx, fs, v, rfl, h1, h2, h3, h4, h⟩
theorem i_sfldR {a C dx : Addr} {fs : List (Str × V)} {f : Str} {R : Addr → Addr → Addr → List (Str × V) → Prop} (h1 : H a = some (.ins C dx fs)) (h2 : Cls K C) (h3 : NoAttr K C f) (h4 : fs.length < 1000) (h : R a C dx fs) :
    ∃ b C dx fs, V.ref a = .ref b ∧ H b = some (.ins C dx fs) ∧ Cls K C ∧ NoAttr K C f ∧ fs.length < 1000 ∧ R b C dx fs := ⟨a, C, dx, fs, rfl, h1, h2, h3, h4, h⟩
theorem i_make {C : Addr} {sp : Sp} {dvs : List V} {E : XK} (h : A σ H fun vs H1 => ∀ x dx, H1 x = none → H1 dx = none → dx ≠ x → sp (.ref x :: (vs ++ dvs)) (upd (upd H1 dx (.own x)) x (.ins C dx [])) (fun v H2 => v = .non ∧ Q (.ref x) H2) E) : tMake C sp dvs E A σ H Q := h
theorem i_meth {C : Addr} {m : Str} {sp : Sp} {dvs : List V} {E : XK} (h : te σ H fun x H1 => ∃ a dx fs, x = .ref a ∧ H1 a = some (.ins C dx fs) ∧ fs.lookup m = none ∧ A σ H1 fun vs H2 => sp (x :: (vs ++ dvs)) H2 Q E) : tMeth C m sp dvs E te A σ H Q := h
theorem i_methR {a C dx : Addr} {fs : List (Str × V)} {m : Str} {R : Prop} (h1 : H a = some (.ins C dx fs)) (h2 : fs.lookup m = none) (h : R) : ∃ b dx fs, V.ref a = .ref b ∧ H b = some (.ins C dx fs) ∧ fs.lookup m = none ∧ R := ⟨a, dx, fs, rfl, h1, h2, h⟩
end
def rTupOf (K : PySem.W.Frag) : List V → Hp → VK → Prop := fun xs H Q => ∃ p ys, xs = [.ref p] ∧ ((SqL K H p ys ∧ ∀ l, H l = none → Q (.ref l) (upd H l (.tup ys))) ∨ (SqT K H p ys ∧ Q (.ref p) H))
def rLstOf (K : PySem.W.Frag) : List V → Hp → VK → Prop := fun xs H Q => ∃ p ys, xs = [.ref p] ∧ (SqL K H p ys ∨ SqT K H p ys) ∧ ∀ l, H l = none → Q (.ref l) (upd H l (.lst ys))
theorem call_tupOf {X : Cx} {K : PySem.W.Frag} (hK : X.K = K := by rfl) : CallR X (.type "tuple") (rTupOf K) := by
  subst hK
  exact call_tuple_of
theorem call_lstOf {X : Cx} {K : PySem.W.Frag} (hK : X.K = K := by rfl) : CallR X (.type "list") (rLstOf K) := by
  subst hK
  exact call_list_of
section
variable {H : Hp} {Q : VK} {K : PySem.W.Frag} {p : Addr} {xs : List V}
theorem i_tupOfL (h0 : SqL K H p xs) (h : ∀ l, H l = none → Q (.ref l) (upd H l (.tup xs))) : rTupOf K [.ref p] H Q := ⟨p, xs, rfl, .inl ⟨h0, h⟩⟩
theorem i_tupOfT (h0 : SqT K H p xs) (h : Q (.ref p) H) : rTupOf K [.ref p] H Q := ⟨p, xs, rfl, .inr ⟨h0, h⟩⟩
theorem i_lstOfL (h0 : SqL K H p xs) (h : ∀ l, H l = none → Q (.ref l) (upd H l (.lst xs))) : rLstOf K [.ref p] H Q := ⟨p, xs, rfl, .inl h0, h⟩
theorem i_lstOfT (h0 : SqT K H p xs) (h : ∀ l, H l = none → Q (.ref l) (upd H l (.lst xs))) : rLstOf K [.ref p] H Q := ⟨p, xs, rfl, .inr h0, h⟩
end
section
variable {σ : St} {H : Hp} {Q : VK} {K : PySem.W.Frag}
theorem i_dnew (h : ∀ p, H p = none → Q (.ref p) (upd H p (.dK []))) : tDNewK σ H Q := h
theorem i_dnewT (h : ∀ p, H p = none → Q (.ref p) (upd H p (.dT []))) : tDNewT σ H Q := h
theorem i_all1 {R : Addr → Prop} (h : ∀ p, H p = none → R p) : ∀ p, H p = none → R p := h
theorem i_disp {trs : List (TE × TE)} (h : ∀ p, H p = none → tPairs trs σ (upd H p (.dK [])) fun ps H2 => H2 p = some (.dK []) ∧ ∃ kvs : List (Key × V), ps = kvs.map (fun kv => (kV kv.1, kv.2)) ∧ kvs.length ≤ 15 ∧ Q (.ref p) (upd H2 p (.dK (mergeK [] kvs)))) : tDisp trs σ H Q := h
end
theorem upd_same' {H : Hp} {a : Addr} {o o' : HO} (e : o = o') : upd H a o a = some o' := by rw [← e]; exact upd_same
theorem SqL.up {K : PySem.W.Frag} {H : Hp} {p q : Addr} {o : HO} {xs : List V} (hq : H q = none) (h : SqL K H p xs) : SqL K (upd H q o) p xs := Same.seq (same_upd (Same.refl _) hq) h
theorem SqT.up {K : PySem.W.Frag} {H : Hp} {p q : Addr} {o : HO} {xs : List V} (hq : H q = none) (h : SqT K H p xs) : SqT K (upd H q o) p xs := SqT.same (same_upd (Same.refl _) hq) h
theorem Rd.ne {H : Hp} {p q : Addr} {o u : HO} (n : p ≠ q) (h : Rd H p u) : Rd (upd H q o) p u := by
  rcases h with h | ⟨b, h⟩
  · exact .inl (get_ne n h)
  · exact .inr ⟨b, get_ne n h⟩
theorem SqL.un {K : PySem.W.Frag} {H : Hp} {p q : Addr} {o : HO} {xs : List V} (n : p ≠ q) (h : SqL K H p xs) : SqL K (upd H q o) p xs := by
  rcases h with h | h
  · exact .inl (Rd.ne n h)
  · exact .inr h
theorem SqT.un {K : PySem.W.Frag} {H : Hp} {p q : Addr} {o : HO} {xs : List V} (n : p ≠ q) (h : SqT K H p xs) : SqT K (upd H q o) p xs := by
  rcases h with h | h
  · exact .inl (Rd.ne n h)
  · exact .inr h
theorem Rd.but {H H' : Hp} {p q : Addr} {u : HO} (s : SameBut q H H') (n : p ≠ q) (h : Rd H p u) : Rd H' p u := by
  rcases h with h | ⟨b, h⟩
  · exact .inl (s _ _ n h)
  · exact .inr ⟨b, s _ _ n h⟩
theorem SqL.but {K : PySem.W.Frag} {H H' : Hp} {p q : Addr} {xs : List V} (s : SameBut q H H') (n : p ≠ q) (h : SqL K H p xs) : SqL K H' p xs := by
  rcases h with h | h
  · exact .inl (Rd.but s n h)
  · exact .inr h
theorem SqT.but {K : PySem.W.Frag} {H H' : Hp} {p q : Addr} {xs : List V} (s : SameBut q H H') (n : p ≠ q) (h : SqT K H p xs) : SqT K H' p xs := by
  rcases h with h | h
  · exact .inl (Rd.but s n h)
  · exact .inr h
theorem SqL.sm {K : PySem.W.Frag} {H H' : Hp} {p : Addr} {xs : List V} (s : Same H H') (h : SqL K H p xs) : SqL K H' p xs := Same.seq s h
theorem Kn.up {K : PySem.W.Frag} {H : Hp} {x : V} {q : Addr} {o : HO} (hq : H q = none) (h : Kn K H x) : Kn K (upd H q o) x := h.same (same_upd (Same.refl _) hq)
theorem i_tp0 {σ : St} {H : Hp} {R : List (V × V) → Hp → Prop} (h : R [] H) : tPairs [] σ H R := h
theorem i_tp1 {σ : St} {H : Hp} {R : List (V × V) → Hp → Prop} {tk tv : TE} {r : List (TE × TE)} (h : tk σ H fun x H1 => tv σ H1 fun y H2 => tPairs r σ H2 fun ps H3 => R ((x, y) :: ps) H3) : tPairs ((tk, tv) :: r) σ H R := h
theorem i_call0 {sp : Sp} {σ : St} {H : Hp} {Q : VK} {E : XK} {A : TA} (h : A σ H fun vs H1 => sp vs H1 Q E) : tCall sp [] E A σ H Q := by
  unfold tCall
  simp only [List.append_nil]
  exact h
theorem i_mk {H : Hp} {R : Addr → Addr → Prop} (h : ∀ x dx, H dx = none → upd H dx (.own x) x = none → H x = none → dx ≠ x → R x dx) : ∀ x dx, H x = none → H dx = none → dx ≠ x → R x dx := fun x dx h1 h2 n =>
  h x dx h2 (by rw [upd_ne (Ne.symm n)]; exact h1) h1 n
theorem Rd.uk {H : Hp} {p q : Addr} {o u v : HO} (hq : H q = some v) (h1 : v ≠ u) (h2 : ∀ b, v ≠ .frz b u) (h : Rd H p u) : Rd (upd H q o) p u := by
  rcases h with h | ⟨b, h⟩
  · exact .inl (get_ne (ne_of h hq (Ne.symm h1)) h)
  · exact .inr ⟨b, get_ne (ne_of h hq (Ne.symm (h2 b))) h⟩
theorem SqT.uk {K : PySem.W.Frag} {H : Hp} {p q : Addr} {o v : HO} {xs : List V} (hq : H q = some v) (h1 : ∀ ys, v ≠ .tup ys) (h2 : ∀ b u, v ≠ .frz b u) (h : SqT K H p xs) : SqT K (upd H q o) p xs := by
  rcases h with h | h
  · exact .inl (Rd.uk hq (h1 _) (fun b => h2 b _) h)
  · exact .inr h
theorem SqL.uk {K : PySem.W.Frag} {H : Hp} {p q : Addr} {o v : HO} {xs : List V} (hq : H q = some v) (h1 : ∀ ys, v ≠ .lst ys) (h2 : ∀ b u, v ≠ .frz b u) (h : SqL K H p xs) : SqL K (upd H q o) p xs := by
  rcases h with h | h
  · exact .inl (Rd.uk hq (h1 _) (fun b => h2 b _) h)
  · exact .inr h
/-! ### one look for all kinds -/
theorem get_o {H : Hp} {a : Addr} {o o' : HO} (h : H a = some o) (e : o = o') : H a = some o' := by rw [← e]; exact h
def seqOf : HO → Option (List V)
  | .lst xs => some xs
  | .tup xs => some xs
  | _ => none
theorem seqOf_sq {K : PySem.W.Frag} {H : Hp} {a : Addr} {o : HO} {xs : List V} (h : H a = some o) (e : seqOf o = some xs) : SqL K H a xs ∨ SqT K H a xs := by
  cases o <;> first | (cases e; done) | skip
  · cases Option.some.inj e
    exact .inl (.of h)
  · cases Option.some.inj e
    exact .inr (.of h)
section
variable {H : Hp} {Q : VK} {K : PySem.W.Frag} {p : Addr} {o : HO} {xs : List V}
theorem i_ixG {n : Int} {w' : V} (h : H p = some o) (e : seqOf o = some xs) (h2 : atI xs n = some w') (q : Q w' H) : rIxU K (.ref p) (.int n) H Q := ⟨xs, w', seqOf_sq h e, h2, q⟩
theorem i_lenG (h : H p = some o) (e : seqOf o = some xs) (q : Q (.int xs.length) H) : rLenU K [.ref p] H Q := by
  rcases seqOf_sq (K := K) h e with h | h
  · exact i_lenL h q
  · exact i_lenT h q
theorem i_isoG {R : (Kd → Bool) → Option Addr → Prop} {f : Kd → Bool} (h : H p = some o) (e : (match o with | .lst _ => some fun d => d == Kd.lst | .tup _ => some fun d => d == Kd.tup | .dK _ => some fun d => d == Kd.dct | .dT _ => some fun d => d == Kd.dct | _ => none) = some f) (q : R f none) : isO K (.ref p) H R := by
  refine ⟨o, .of h, ?_⟩
  cases o <;> first | (cases e; done) | (cases Option.some.inj e; exact q)
theorem i_isoC {R : (Kd → Bool) → Option Addr → Prop} {C dx : Addr} {fs : List (Str × V)} (h : H p = some (.ins C dx fs)) (c : Cls K C) (i : IsC K C) (q : R (fun _ => false) (some C)) : isO K (.ref p) H R := ⟨_, .of h, c, i, q⟩
theorem SqL.of' (h : H p = some o) (e : o = .lst xs) : SqL K H p xs := .of (get_o h e)
theorem SqT.of' (h : H p = some o) (e : o = .tup xs) : SqT K H p xs := .of (get_o h e)
end
/-- a for over a list whose body changes nothing that stood ahead of the loop -/
theorem for_pred {K : PySem.W.Frag} {a : Addr} {xs : List V} {g : TG} {tb : TS} {D : Ends} {σ : St} {H : Hp} (S : St → Prop) (Pr : Hp → V → Prop) (hL : SqL K H a xs) (hp : ∀ y ∈ xs, Pr H y) (h0 : S σ)
    (hs : ∀ y σ H', Pr H y → S σ → Same H H' → g y σ H' fun σ2 H2 => tb { D with nx := fun σ H' => S σ ∧ Same H H', ct := fun σ H' => S σ ∧ Same H H', bk := D.nx } σ2 H2) (hd : ∀ σ H', S σ → Same H H' → D.nx σ H') :
    ∃ W : Nat → Nat → St → Hp → Prop, (∃ m, W 0 m σ H) ∧ ∀ i m σ H, W i m σ H →
      ((Itl K a).stop i H ∧ D.nx σ H) ∨ ((Itl K a).go i H ∧ ∃ N : St → Hp → Prop, (∀ σ' H', N σ' H' → ∃ m', m' < m ∧ W (i + 1) m' σ' H') ∧ ∀ x H', (Itl K a).yld i H x H' → g x σ H' fun σ2 H2 => tb { D with nx := N, ct := N, bk := D.nx } σ2 H2) :=
  for_list (xs := xs) (fun _ σ H' => S σ ∧ Same H H') ⟨h0, Same.refl _⟩ (fun _ _ _ _ h => Same.seq h.2 hL) (fun _ y σ H' hi h => hs y σ H' (hp y (List.mem_of_getElem? hi)) h.1 h.2) (fun σ H' h => hd σ H' h.1 h.2)
theorem Kn.ofG {K : PySem.W.Frag} {H : Hp} {a : Addr} {o : HO} (h : H a = some o) (k : KnO K o) : Kn K H (.ref a) := .of h k
end My
/-! try: body / except clauses of one class or of a tuple of classes, with a name or without / else. -/
namespace My
open PySem PySem.Spec L2
open PyProof.Rows hiding St
/-- what a clause asks for: a class, or a tuple of two to four classes -/
inductive ClT (X : Cx) : Expr → List Value → Prop
  | one {x : Str} {p : Pos} {c : Value} (h : Names X x c) : ClT X (.Name x p) [c]
  | two {x1 x2 : Str} {p1 p2 p : Pos} {c1 c2 : Value} {k : Nat} (h1 : Names X x1 c1) (h2 : Names X x2 c2) : ClT X (.Tuple [.Name x1 p1, .Name x2 p2] k p) [c1, c2]
  | three {x1 x2 x3 : Str} {p1 p2 p3 p : Pos} {c1 c2 c3 : Value} {k : Nat} (h1 : Names X x1 c1) (h2 : Names X x2 c2) (h3 : Names X x3 c3) : ClT X (.Tuple [.Name x1 p1, .Name x2 p2, .Name x3 p3] k p) [c1, c2, c3]
  | four {x1 x2 x3 x4 : Str} {p1 p2 p3 p4 p : Pos} {c1 c2 c3 c4 : Value} {k : Nat} (h1 : Names X x1 c1) (h2 : Names X x2 c2) (h3 : Names X x3 c3) (h4 : Names X x4 c4) :
      ClT X (.Tuple [.Name x1 p1, .Name x2 p2, .Name x3 p3, .Name x4 p4] k p) [c1, c2, c3, c4]
/-- one clause: its classes, the slot of its name, its suite -/
structure Clause where
  cs : List Value
  nm : Option Nat
  ts : Addr → Value → Option Addr → TS
def unD (i : Nat) (D : Ends) : Ends := { nx := fun σ' H' => D.nx (σ'.set i none) H', rt := D.rt, bk := fun σ' H' => D.bk (σ'.set i none) H', ct := fun σ' H' => D.ct (σ'.set i none) H' }
def Clause.go (q : Clause) (a : Addr) (cls : Value) (d : Option Addr) : TS := fun D σ H => match q.nm with
  | none => q.ts a cls d D σ H
  | some i => q.ts a cls d (unD i D) (σ.set i (some (.ref a))) H
/-- what the clauses wish of an exception of the body, one behind the other -/
def wCl (K : PySem.W.Frag) (Wout : WX) (D : Ends) : List Clause → WX
  | [] => Wout
  | q :: r => fun cls d σ H => ∃ b, PySem.W.exmAny K cls q.cs = some b ∧ (b = true → ∀ a, H a = none → q.go a cls d D σ H) ∧ (b = false → wCl K Wout D r cls d σ H)
abbrev SuOk (X : Cx) (su : List Stmt) (ts : Addr → Value → Option Addr → TS) : Prop :=
  ∀ (a : Addr) (oe : Obj) (cls : Value) (d : Option Addr) (pn : List (Addr × Obj)), Zc cls d oe → (∃ vs, oe.data = .fields vs) → PSs (X.suite a ((a, oe) :: pn)) su (ts a cls d)
inductive ClsOk (X : Cx) : List ExceptHandler → List Clause → Prop
  | nil : ClsOk X [] []
  | bare {e : Expr} {cs : List Value} {ts : Addr → Value → Option Addr → TS} {b₀ : Stmt} {su : List Stmt} {p : Pos} {hd : List ExceptHandler} {l : List Clause} (hc : ClT X e cs) (hs : SuOk X (b₀ :: su) ts) (r : ClsOk X hd l) :
      ClsOk X (.ExceptHandler (some e) none (b₀ :: su) p :: hd) (⟨cs, none, ts⟩ :: l)
  | named {e : Expr} {cs : List Value} {ts : Addr → Value → Option Addr → TS} {b₀ : Stmt} {su : List Stmt} {p : Pos} {hd : List ExceptHandler} {l : List Clause} {i : Nat} {n : Str} (hi : X.N[i]? = some n) (hl : X.env.kindOf n = some .local) (hc : ClT X e cs) (hs : SuOk X (b₀ :: su) ts) (r : ClsOk X hd l) :
      ClsOk X (.ExceptHandler (some e) (some n) (b₀ :: su) p :: hd) (⟨cs, some i, ts⟩ :: l)
theorem exm1 {K : PySem.W.Frag} {cls c : Value} {b : Bool} (h : PySem.W.exmAny K cls [c] = some b) : PySem.W.exmOne K cls c = some b := by
  obtain ⟨b1, d1, x1, y1, z1⟩ := PySem.W.exmAny_cons h
  cases (show some false = some d1 from y1)
  rw [z1, x1, Bool.or_false]
section
variable {X : Cx}
theorem names_ld {pins : List (Addr × Obj)} {σ : St} {H : Hp} {s : Shared} {x : Str} {c : Value} {p : Pos} {a : Addr} {pn : List (Addr × Obj)} {Q : Value → Shared → Prop} {E : Value → Shared → Prop} (h : Names X x c) (I : Inv (X.suite a pn) pins σ H s) (q : Q c s) :
    wpAny (model X.prog X.w) (X.A.mark (some (.ref a))) (eval (.Name x p) X.env) Q E s := by
  obtain ⟨g, nd, hm | ⟨hm, hv, nn⟩⟩ := h
  · exact ld_glob (X := X.suite a pn) I g hm q nd
  · exact ld_blt (X := X.suite a pn) I g hm hv q nn nd
theorem ClT.test {e : Expr} {cs : List Value} {pins : List (Addr × Obj)} {σ : St} {H : Hp} {s : Shared} {a : Addr} {pn : List (Addr × Obj)} {cls : Value} {b : Bool} {Q : Bool → Shared → Prop} {E : Value → Shared → Prop} (h : ClT X e cs)
    (I : Inv (X.suite a pn) pins σ H s) (L : PySem.W.Looks (model X.prog X.w) s.heap (typeOf (.ref a)) cls) (hb : PySem.W.exmAny X.K cls cs = some b) (q : ∀ h', (∀ y o, s.heap.get? y = some o → h'.get? y = some o) → Q b { s with heap := h' }) :
    wpAny (model X.prog X.w) (X.A.mark (some (.ref a))) (eval e X.env) (fun c s1 => wpAny (model X.prog X.w) (X.A.mark (some (.ref a))) (excMatches (.ref a) c) Q E s1) E s := by
  have kp : ∀ (o : Obj) y z, s.heap.get? y = some z → (s.heap.push o).get? y = some z := fun o _ _ z => Heap.get?_push_of_some _ z
  have kI : X.K.In s.heap := I.kIn
  cases h with
  | one n => exact names_ld n I ((PySem.W.exm_one kI L (exm1 hb)).here (q _ fun _ _ z => z))
  | two n1 n2 =>
    refine wpAny_Tuple (wpAny_items_cons (names_ld n1 I (wpAny_items_cons (names_ld n2 I (wpAny_items_nil ⟨by size_fits, ?_⟩)))))
    exact (PySem.W.exm_tup2 (kI.keeps (kp _)) (L.keeps (kp _)) (Heap.get?_push_size s.heap rfl) hb).here (q _ (kp _))
  | three n1 n2 n3 =>
    refine wpAny_Tuple (wpAny_items_cons (names_ld n1 I (wpAny_items_cons (names_ld n2 I (wpAny_items_cons (names_ld n3 I (wpAny_items_nil ⟨by size_fits, ?_⟩)))))))
    exact (PySem.W.exm_tup3 (kI.keeps (kp _)) (L.keeps (kp _)) (Heap.get?_push_size s.heap rfl) hb).here (q _ (kp _))
  | four n1 n2 n3 n4 =>
    refine wpAny_Tuple (wpAny_items_cons (names_ld n1 I (wpAny_items_cons (names_ld n2 I (wpAny_items_cons (names_ld n3 I (wpAny_items_cons (names_ld n4 I (wpAny_items_nil ⟨by size_fits, ?_⟩)))))))))
    exact (PySem.W.exm_tup4 (kI.keeps (kp _)) (L.keeps (kp _)) (Heap.get?_push_size s.heap rfl) hb).here (q _ (kp _))
theorem fly_keeps {B h h' : Heap} {l : List Env} {a : Addr} {Z : Obj → Prop} (f : HandSPX.FlyingZ B l a Z h) (k : ∀ y o, h.get? y = some o → h'.get? y = some o) : HandSPX.FlyingZ B l a Z h' := by
  obtain ⟨f1, f2, f3, oe, vs, T, oT, ts, he, hz, hd, h1, hn, hne, hT, hdT, h3⟩ := f
  exact ⟨fun y o q => k _ _ (f1 y o q), f2, f3.of_keeps fun y o q _ => ⟨o, k _ _ q, rfl⟩, oe, vs, T, oT, ts, k _ _ he, hz, hd, h1, hn, hne, k _ _ hT, hdT, h3⟩
theorem fly_out {B h : Heap} {l : List Env} {a : Addr} {Z : Obj → Prop} (f : HandSPX.FlyingZ B l a Z h) : a ∉ frs l := fun m => by
  obtain ⟨oe, vs, e1, _, e2⟩ := f.there
  obtain ⟨_, o, e3, no⟩ := f.2.2.1.mem m
  rw [e1] at e3
  cases e3
  exact no _ e2
variable {body orelse : List Stmt} {h₀ : ExceptHandler} {hds : List ExceptHandler} {l : List Clause} {pos : Pos} {tb : WX → TS} {u : TS} {Wout : WX}
theorem handle_cl {pins : List (Addr × Obj)} {σ : St} {H : Hp} {sI s : Shared} {B : Heap} {a : Addr} {cls : Value} {d : Option Addr} {D : Ends} {hs : List ExceptHandler} {l : List Clause} (hst : X.stack = X.env :: X.outer) (hf : X.env.frame = some X.env.locals) (hN : X.N.Nodup) (tk : Takes X Wout)
    (hk : ClsOk X hs l) (J : Inv X pins σ H sI) (nb : ∀ b o, sI.heap.get? b = some o → b ∉ frs X.stack → B.get? b = some o) (os : s.os = sI.os) (ag : AllBare s.gens) (na : H a = none) :
    ∀ h, HandSPX.FlyingZ B (X.env :: X.outer) a (Zc cls d) h → sI.heap.UpToSlots h → wCl X.K Wout D l cls d σ H → wpAny (model X.prog X.w) X.A (handleBy (.ref a) X.env hs) (SP X pins D) X.xe { s with heap := h } := by
  have ok := J.ok
  have nLF : ∀ {h}, HandSPX.FlyingZ B (X.env :: X.outer) a (Zc cls d) h → a ≠ X.env.locals ∧ a ∉ X.fs := fun f => by
    have nf := fly_out f
    refine ⟨fun z => nf (List.mem_filterMap.mpr ⟨X.env, List.mem_cons_self, by rw [hf, z]⟩), fun m => ?_⟩
    obtain ⟨e, he, q⟩ := List.mem_filterMap.mp m
    exact nf (List.mem_filterMap.mpr ⟨e, List.mem_cons_of_mem _ he, q⟩)
  have su : ∀ {h}, HandSPX.FlyingZ B (X.env :: X.outer) a (Zc cls d) h → sI.heap.UpToSlots h → ∃ oe, Zc cls d oe ∧ (∃ vs, oe.data = .fields vs) ∧ h.get? a = some oe ∧ ∀ t, Inv (X.suite a ((a, oe) :: (X.pn ++ pins))) [] σ H { s with heap := h, toks := t } := fun {h} f up => by
    obtain ⟨oe, vs, e1, e2, e3⟩ := f.there
    exact ⟨oe, e2, ⟨vs, e3⟩, e1, fun t => ((J.landed (s' := { s with heap := h, toks := t }) nb f.1 up os ag).suite e1 e3 na (nLF f).1 (nLF f).2)⟩
  induction hk with
  | nil =>
    intro h f up w
    refine wpAny_handleBy_nil ?_
    obtain ⟨-, -, -, oe, vs, T, -, -, he, -, hd, h1, -⟩ := id f
    unfold PySem.passOn
    refine wpAny_bind (wpAny_field he hd h1 ?_)
    rw [if_neg (show ¬ ((Value.ref T == Value.none) = true) from by simp)]
    have fin : wpAny (model X.prog X.w) X.A (setFlight (.ref a) X.env.frame) (fun _ s4 => wpAny (model X.prog X.w) X.A (throw (.ref a) : Sem Flow) (SP X pins D) X.xe s4) X.xe { s with heap := h } := by
      rw [hf]
      refine HandSPX.setFlight_upZ f fun h4 f4 up4 => wpAny_throw (tk _ _ ⟨a, B, sI, pins, σ, H, cls, d, rfl, J, nb, up.trans up4, .inr (.inr ?_), na, os, ag, w⟩)
      rw [hst]
      exact f4
    first
      | exact wpAny_bind (wpAny_pure (wpAny_bind fin))
      | exact wpAny_bind fin
  | @bare e cs ts b₀ su' p hd l hc hs r ih =>
    intro h f up w
    obtain ⟨b, hb, hy, hn⟩ := w
    obtain ⟨oe, z1, z2, z3, S⟩ := su f up
    refine wpAny_handleBy_cons (codeAny_handlers_test (hc.test (S s.toks) (fun A Q E s k q => wpAny_typeOf_ref (k _ _ z3) (by rw [z1.1]; exact q)) hb fun h2 k => ?_)) (fun q => by cases q)
    have f2 := fly_keeps f k
    have up2 := up.trans (Heap.UpToSlots.of_keeps k)
    cases b with
    | true =>
      refine codeAny_handlers_suite (HandSPX.lands_againZ f2 fun h4 f4 up4 => ?_)
      obtain ⟨oe4, y1, y2, y3, S4⟩ := su f4 (up2.trans up4)
      refine wpAny_mono ((hs a oe4 cls d _ y1 y2).run [] _ _ H _ (S4 s.toks) (hy rfl a na)) (fun fl s6 hq => ?_) (fun _ _ z => False.elim z)
      cases fl with
      | next => exact hq.imp fun _ q => q.imp fun _ q => ⟨q.1.unsuite ok, q.2⟩
      | brk => exact hq.imp fun _ q => q.imp fun _ q => ⟨q.1.unsuite ok, q.2⟩
      | cont => exact hq.imp fun _ q => q.imp fun _ q => ⟨q.1.unsuite ok, q.2⟩
      | ret v => exact hq.imp fun _ q => q.imp fun _ q => q.imp fun _ q => ⟨q.1.unsuite ok, q.2⟩
    | false => exact ih h2 f2 up2 (hn rfl)
  | @named e cs ts b₀ su' p hd l i n hi hl hc hs r ih =>
    intro h f up w
    obtain ⟨b, hb, hy, hn⟩ := w
    obtain ⟨oe, z1, z2, z3, S⟩ := su f up
    refine wpAny_handleBy_cons (codeAny_handlers_test (hc.test (S s.toks) (fun A Q E s k q => wpAny_typeOf_ref (k _ _ z3) (by rw [z1.1]; exact q)) hb fun h2 k => ?_)) (fun q => by cases q)
    have f2 := fly_keeps f k
    have up2 := up.trans (Heap.UpToSlots.of_keeps k)
    cases b with
    | true =>
      refine codeAny_handlers_suite_as (HandSPX.lands_againZ f2 fun h4 f4 up4 => ?_)
      obtain ⟨oe4, y1, y2, y3, S4⟩ := su f4 (up2.trans up4)
      refine store_ok (X := X.suite a ((a, oe4) :: (X.pn ++ pins))) (v := .ref a) (S4 s.toks) hN hi (.inl hl) rfl (fun s5 S5 => ?_) (.inr hl)
      refine wpAny_mono ((hs a oe4 cls d _ y1 y2).run [] s5 _ H _ S5 (hy rfl a na)) (fun fl s6 hq => ?_) (fun _ _ z => False.elim z)
      cases fl with
      | next =>
        obtain ⟨σ6, H6, S6, q6⟩ := hq
        exact gone_ok (S6.unsuite ok) hN hi hl fun s7 J7 => ⟨_, _, J7, q6⟩
      | brk =>
        obtain ⟨σ6, H6, S6, q6⟩ := hq
        exact gone_ok (S6.unsuite ok) hN hi hl fun s7 J7 => ⟨_, _, J7, q6⟩
      | cont =>
        obtain ⟨σ6, H6, S6, q6⟩ := hq
        exact gone_ok (S6.unsuite ok) hN hi hl fun s7 J7 => ⟨_, _, J7, q6⟩
      | ret v =>
        obtain ⟨v6, σ6, H6, S6, r6, q6⟩ := hq
        exact gone_ok (S6.unsuite ok) hN hi hl fun s7 J7 => ⟨_, _, _, J7, r6, q6⟩
    | false => exact ih h2 f2 up2 (hn rfl)
theorem ps_tryC (hst : X.stack = X.env :: X.outer) (hf : X.env.frame = some X.env.locals) (hN : X.N.Nodup) (tk : Takes X Wout)
    (hb : ∀ (W : WX) (pn : List (Addr × Obj)) (xe : Value → Shared → Prop), Takes (X.tr pn xe) W → PassesOwn (model X.prog X.w) X.A X.env xe → PSs (X.tr pn xe) body (tb W))
    (hh : ClsOk X (h₀ :: hds) l) (ho : PSs X orelse u) : PS X (.Try body (h₀ :: hds) orelse [] pos) (fun D σ H => tb (wCl X.K Wout D l) { D with nx := u D } σ H) := by
  refine ⟨fun pins s σ H D I h => wpAny_Try_except ?_⟩
  have ok := I.ok
  refine wpAny_mono ((hb (wCl X.K Wout D l) (X.pn ++ pins) _ (fun v s' xx => ?_) PassesOwn.looking).run [] s σ H { D with nx := u D } (I.toTry _) h) (fun f s1 hq => ?_) (fun e s1 he => he)
  · obtain ⟨a, B, sI, pins', σ', H', cls, d, rfl, J, nb, up, sky, na, os, ag, w⟩ := xx
    refine Sky.land Zc.steady (by rw [ok.frames, hst]) hf (by rw [← hst]; exact sky) fun h3 f3 up3 => ?_
    exact handle_cl hst hf hN tk hh (J.ofTry ok) nb os ag na h3 f3 (up.trans up3) w
  · cases f with
    | next =>
      obtain ⟨σ', H', J, q⟩ := hq
      exact ho.run pins s1 σ' H' D (J.ofTry ok) q
    | brk => exact hq.imp fun _ q => q.imp fun _ q => ⟨q.1.ofTry ok, q.2⟩
    | cont => exact hq.imp fun _ q => q.imp fun _ q => ⟨q.1.ofTry ok, q.2⟩
    | ret v => exact hq.imp fun _ q => q.imp fun _ q => q.imp fun _ q => ⟨q.1.ofTry ok, q.2⟩
end
end My
/-! Errors of the text: made, raised, caught. -/
namespace My
open PySem L2
section
variable {X : Cx} {CX : CXT} {k : Nat} {f C : Addr} {fd : FuncData} {ps : List Str} {sp : Sp} {dvs : List V} {ds : List Value} {E : St → XK} {x m : Str} {p pos apos : Pos} {e o : Expr} {es : List Expr} {ta : TE} {t : TA}
/-- o.m(e, ..), what is raised wished for at the caller's slots -/
def tMethS (C : Addr) (m : Str) (sp : Sp) (dvs : List V) (E : St → XK) (ta : TE) (t : TA) : TE := fun σ H Q => ta σ H fun x H1 => ∃ a dx fs, x = .ref a ∧ H1 a = some (.ins C dx fs) ∧ fs.lookup m = none ∧ t σ H1 fun vs H2 => sp (x :: (vs ++ dvs)) H2 Q (E σ)
theorem pe_methS {pl : Sem Bool} (he : PE X o ta) (c : Cls X.K C) (hm : Meth X.K C m f) (F : FnOk X.prog X.w X.K X.mg X.base CX k f fd ps sp) (hr : Room k X.A) (hb : Binds X.K fd ps ds) (hd : Vals dvs ds) (hx : ∀ σ, PassesAt CX X σ (E σ)) (ha : PA X (e :: es) t)
    (hst : starEach (e :: es) X.env = (false, eval e X.env) :: starEach es X.env := by rfl) (hpl : (backTo pos (starEach es X.env)).any (·.1) = false := by rfl)
    (ht : eval (.Call (.Attribute o m apos) (e :: es) [] pos) X.env = (do let ov ← eval o X.env; standAt apos.atName; let (f, first) ← holding [ov] (getMethod ov m pl); callWith pos f first (backTo pos (starEach (e :: es) X.env)) (backToKw pos (keywordEach [] X.env))) := by rfl) : PE X (.Call (.Attribute o m apos) (e :: es) [] pos) (tMethS C m sp dvs E ta t) := by
  refine ⟨fun pins s σ H Q I h => PySem.W.methodCall_KW (pl := pl) (thn (he.run pins s σ H _ I h) fun u s1 ⟨y, H1, I1, ry, a, dx, fs, ey, ea, l, q⟩ => ?_) ht⟩
  subst ey
  cases (show u = Value.ref a from ry)
  refine getmeth_ok I1 ea c hm l (PySem.W.callWith_K (first := [.ref a]) (h₀ := X.base) I.ok.mod.kin hm.kp (thn (ha.run pos pins s1 σ H1 _ I1 q) fun us s2 ⟨vs, H2, I2, r, q2⟩ => ⟨I2.kIn, ?_⟩) hst hpl)
  exact run_fnSD (us := .ref a :: us) (vs := .ref a :: vs) F hr hb hd (hx σ) I2 (.cons rfl r) q2
theorem pe_meth0S {pl : Sem Bool} (he : PE X o ta) (c : Cls X.K C) (hm : Meth X.K C m f) (F : FnOk X.prog X.w X.K X.mg X.base CX k f fd ps sp) (hr : Room k X.A) (hb : Binds X.K fd ps ds) (hd : Vals dvs ds) (hx : ∀ σ, PassesAt CX X σ (E σ))
    (ht : eval (.Call (.Attribute o m apos) [] [] pos) X.env = (do let ov ← eval o X.env; standAt apos.atName; let (f, first) ← holding [ov] (getMethod ov m pl); callWith pos f first (backTo pos (starEach [] X.env)) (backToKw pos (keywordEach [] X.env))) := by rfl) : PE X (.Call (.Attribute o m apos) [] [] pos) (tMethS C m sp dvs E ta tNil) := by
  refine ⟨fun pins s σ H Q I h => PySem.W.methodCall_KW (pl := pl) (thn (he.run pins s σ H _ I h) fun u s1 ⟨y, H1, I1, ry, a, dx, fs, ey, ea, l, q⟩ => ?_) ht⟩
  subst ey
  cases (show u = Value.ref a from ry)
  refine getmeth_ok I1 ea c hm l (PySem.W.callWith_K0 (first := [.ref a]) I1.kIn hm.kp ?_)
  exact run_fnSD (us := [.ref a]) (vs := [.ref a]) F hr hb hd (hx σ) I1 (.cons rfl .nil) q
def tMakeS (C : Addr) (sp : Sp) (dvs : List V) (E : St → XK) (t : TA) : TE := fun σ H Q => t σ H fun vs H1 => ∀ x dx, H1 x = none → H1 dx = none → dx ≠ x →
  sp (.ref x :: (vs ++ dvs)) (upd (upd H1 dx (.own x)) x (.ins C dx [])) (fun v H2 => v = .non ∧ Q (.ref x) H2) (E σ)
theorem run_makeS {pins : List (Addr × Obj)} {σ : St} {H : Hp} {s : Shared} {Q : VK} {us : List Value} {vs : List V} (M : Mk X.K C f) (F : FnOk X.prog X.w X.K X.mg X.base CX k f fd ps sp) (hr : Room (k + 1) X.A) (hb : Binds X.K fd ps ds) (hd : Vals dvs ds) (hx : PassesAt CX X σ (E σ))
    (I : Inv X pins σ H s) (rv : Vals vs us) (h : ∀ x dx, H x = none → H dx = none → dx ≠ x → sp (.ref x :: (vs ++ dvs)) (upd (upd H dx (.own x)) x (.ins C dx [])) (fun v H2 => v = .non ∧ Q (.ref x) H2) (E σ)) : wpAny (model X.prog X.w) X.A (call (.ref C) us) (EP X pins σ Q) X.xe s := by
  have q0 := h (s.heap.objs.size + 1) s.heap.objs.size (I.hok.fresh (Nat.le_succ _)) (I.hok.fresh (Nat.le_refl _)) (Nat.ne_of_lt (Nat.lt_succ_self _))
  have J := Inv.made (C := C) I
  have rr : Vals (V.ref (s.heap.objs.size + 1) :: (vs ++ dvs)) (Value.ref (s.heap.objs.size + 1) :: (us ++ ds)) := .cons rfl (rv.append hd)
  have len : (Value.ref (s.heap.objs.size + 1) :: us ++ ds).length = ps.length := (rr.length.symm.trans (F.len _ _ _ _ q0))
  have run := F.run _ X.stack _ _ ⟨Value.ref (s.heap.objs.size + 1) :: us, []⟩ (Value.ref (s.heap.objs.size + 1) :: (us ++ ds)) _ _ (E σ) (hr.make C us []) (J.env0.make C us []) (hb _ (Value.ref (s.heap.objs.size + 1) :: us) J.kIn len) rr q0
  refine wpAny_call (make_map (f := f) I.kIn M.makes M.init (beq_iff_eq.mp M.fn) (codeAny_mono run fun r s' z => ?_))
  match r, z with
  | .error e, z => exact hx pins _ _ e s' J z
  | .ok (.ret u), z =>
    obtain ⟨v, H', J', r', rfl, q'⟩ := J.after z
    exact ⟨r', ⟨V.ref (s.heap.objs.size + 1), H', J', rfl, q'⟩⟩
  | .ok .next, z => exact z.elim
  | .ok .brk, z => exact z.elim
  | .ok .cont, z => exact z.elim
/-- C(e, ..), C's own __init__ may raise -/
theorem pe_makeS (M : Mk X.K C f) (F : FnOk X.prog X.w X.K X.mg X.base CX k f fd ps sp) (hr : Room (k + 1) X.A) (hg : Gl X x) (hm : X.mg x = some (.ref C)) (hb : Binds X.K fd ps ds) (hd : Vals dvs ds) (hx : ∀ σ, PassesAt CX X σ (E σ)) (ha : PA X (e :: es) t)
    (hdb : (x == ("__debug__" : Str)) = false := by decide) (he : starEach (e :: es) X.env = (false, eval e X.env) :: starEach es X.env := by rfl) (hpl : (backTo pos (starEach es X.env)).any (·.1) = false := by rfl) : PE X (.Call (.Name x p) (e :: es) [] pos) (tMakeS C sp dvs E t) :=
  ⟨fun pins s σ H Q I h => wpAny_Call_Name_kw (ld_glob I hg hm (PySem.W.callWith_K (h₀ := X.base) I.ok.mod.kin M.kp (thn (ha.run pos pins s σ H _ I h) fun us s1 ⟨vs, H1, I1, rv, q⟩ => ⟨I1.kIn, run_makeS M F hr hb hd (hx _) I1 rv q⟩) he hpl) hdb)⟩
/-- an argument list's reading by what follows it -/
def taM (t : TA) : TA := fun σ H Q => ∃ R : List V → Hp → Prop, t σ H R ∧ ∀ vs H1, R vs H1 → Q vs H1
theorem pa_M (h : PA X es t) : PA X es (taM t) := ⟨fun pos pins s σ H Q I ⟨R, h1, h2⟩ => thn (h.run pos pins s σ H R I h1) fun us s1 ⟨vs, H1, I1, r, q⟩ => ⟨vs, H1, I1, r, h2 vs H1 q⟩⟩
/-! ### an error class of the text: class C(HallError): def __init__(self, f): HallError.__init__(self, '..'); self.f = f -/
/-- what its __init__ does -/
def spExI (C : Addr) (f : Str) : Sp := fun vs H Q _ => ∃ (a : Addr) (v : V), vs = [.ref a, v] ∧ H a = some (exo a C none) ∧ ∀ d, H d = none → d ≠ a → Q .non (upd (upd H d (exd d [(f, v)])) a (exo a C (some d)))
def tExc (C : Addr) (f : Str) (t : TA) : St → Hp → XK → Prop := fun σ H Q => t σ H fun vs H1 => ∃ v, vs = [v] ∧ ∀ d, H1 d = none → Q (.ref C) (some d) (upd H1 d (.xd [(f, v)]))
theorem pmk_exc {fI : Addr} {fl : Str} (T : OexC X.K C) (iC : PySem.W.findIn X.K (.ref C) "__init__" = some (some (.ref fI))) (tI : PySem.W.typeIn X.K (.ref fI) = some (.type "function"))
    (F1 : FnOk X.prog X.w X.K X.mg X.base CX0 k fI fd ps (spExI C fl)) (hr : Room (k + 1) X.A) (hb : Binds X.K fd ps []) (hg : Gl X x) (hm : X.mg x = some (.ref C)) (ha : PA X (e :: es) t)
    (hdb : (x == ("__debug__" : Str)) = false := by decide) (he : starEach (e :: es) X.env = (false, eval e X.env) :: starEach es X.env := by rfl) (hpl : (backTo pos (starEach es X.env)).any (·.1) = false := by rfl) : PMk X (.Call (.Name x p) (e :: es) [] pos) (tExc C fl t) := by
  intro pins s σ H Q I h
  refine pmk_oex T iC tI F1 hr hb .nil (fun _ _ _ _ _ _ _ z => z.elim) hg hm (pa_M ha) hdb he hpl pins s σ H Q I ⟨_, h, fun vs H1 hv => ?_⟩
  obtain ⟨v, rfl, hq⟩ := hv
  refine ⟨(by show 1 ≤ 1000; decide), fun a na => ⟨a, v, rfl, upd_same, fun d hd nd => ⟨rfl, d, [(fl, v)], upd_same, ?_, ?_, ?_⟩⟩⟩
  · rw [upd_ne nd, upd_same]
  · rw [upd_ne nd] at hd
    exact hd
  · have hd' : H1 d = none := by
      rw [upd_ne nd] at hd
      exact hd
    have e1 : upd (del (upd (upd (upd H1 a (exo a C none)) d (exd d [(fl, v)])) a (exo a C (some d))) a) d (.xd [(fl, v)]) = upd H1 d (.xd [(fl, v)]) := by
      funext b
      by_cases h1 : b = d
      · rw [h1, upd_same, upd_same]
      · rw [upd_ne h1, upd_ne h1]
        by_cases h2 : b = a
        · rw [h2, del_same, na]
        · rw [del_ne h2, upd_ne h2, upd_ne h1, upd_ne h2]
    rw [e1]
    exact hq d hd'
/-- HallError.__init__(self, '..'), HallError a class of the text over ValueError -/
theorem pe_hinit {H0 : Addr} {pl : Sem Bool} {p1 p2 : Pos} (hg : Gl X x) (hm : X.mg x = some (.ref H0)) (hs : PySem.W.specialIn X.K (.ref H0) "__getattribute__" = some (some (.builtin "type.__getattribute__"))) (hrd : PySem.W.readsIn X.K H0 (.type "type") = true)
    (hf : PySem.W.findCls X.K (.ref H0) (.type "type") "__init__" = some (.val (.builtin "ValueError.__init__"))) (ha : PA X (e :: es) t) (hdb : (x == ("__debug__" : Str)) = false := by decide)
    (hc : eval (.Call (.Attribute (.Name x p1) "__init__" p2) (e :: es) [] pos) X.env = (do let ov ← eval (.Name x p1) X.env; standAt p2.atName; let (f, first) ← holding [ov] (getMethod ov "__init__" pl); callWith pos f first (backTo pos (starEach (e :: es) X.env)) (backToKw pos (keywordEach [] X.env))) := by rfl)
    (he : starEach (e :: es) X.env = (false, eval e X.env) :: starEach es X.env := by rfl) (hpl : (backTo pos (starEach es X.env)).any (·.1) = false := by rfl) : PE X (.Call (.Attribute (.Name x p1) "__init__" p2) (e :: es) [] pos) (tVeI X.K t) := by
  refine ⟨fun pins s σ H Q I h => PySem.W.methodCall_KW (ld_glob I hg hm ?_ hdb) hc⟩
  refine PySem.W.method_cls I.kIn hs (PySem.W.cls_value I.kIn hrd hf (by decide +kernel) ?_)
  show wpAny _ _ (callWith pos (Value.builtin "ValueError.__init__") [] (backTo pos (starEach (e :: es) X.env)) []) _ _ _
  refine PyProof.Rows.callWith_method1 (thn (ha.run pos pins _ σ H _ (I.tok _) h) fun us s1 ⟨vs, H1, I1, r1, a, C, ws, ev, hl, T, ea, q⟩ => ?_) he hpl
  subst ev
  cases r1 with
  | @cons _ u0 _ ur ra rw' =>
    cases (show u0 = Value.ref a from ra)
    refine oinit_ok T I1 ea ?_ fun s' J => ⟨.non, H1, J, rfl, q⟩
    rw [← Paired.length rw']
    exact line_le hl
/-! ### in an except suite: e.f, isinstance(e, C), isinstance(e, (C, D)) -/
end
/-- what the text says of an error class -/
structure XcC (K : PySem.W.Frag) (D : Addr) : Prop where
  ga : PySem.W.findIn K (.ref D) "__getattribute__" = some (some (.builtin "BaseException.__getattribute__"))
  gg : PySem.W.findIn K (.ref D) "__getattr__" = some none
  ex : PySem.W.subIn K (.ref D) (.type "BaseException") = some true
  hd : PySem.W.hasDictIn K D = true
  ha : PySem.W.findIn K (.ref D) "__class__" = some (some (.builtin "object.__class__"))
  hn : PySem.W.specialIn K (.builtin "object.__class__") "__get__" = some (some (.builtin "getset_descriptor.__get__"))
  ht : PySem.W.takesIn K (.builtin "object.__class__") = some true
  hm : PySem.W.mroIn K D (.type "object") = some true
  ty : PySem.W.typeIn K (.ref D) = some (.type "type")
/-- the own dict of the caught one -/
def XdAt (H : Hp) (d : Option Addr) : Prop := d = none ∨ ∃ dd fs, d = some dd ∧ H dd = some (.xd fs)
/-- e.f, e the caught error -/
def tXfA (K : PySem.W.Frag) (a : Addr) (cls : Value) (d : Option Addr) (f : Str) (te : TE) : TE := fun σ H Q => te σ H fun x H1 => x = .ref a ∧ ∃ (C dd : Addr) (fs : List (Str × V)) (v : V), cls = .ref C ∧ XcC K C ∧ PySem.W.findIn K (.ref C) f = some none ∧ d = some dd ∧ H1 dd = some (.xd fs) ∧ fs.lookup f = some v ∧ Q v H1
section
variable {X : Cx} {a : Addr} {oe : Obj} {cls : Value} {d : Option Addr} {pn : List (Addr × Obj)}
theorem pe_xfA {e : Expr} {te : TE} {pos : Pos} {n : Str} {K : PySem.W.Frag} (hz : Zc cls d oe) (hf : ∃ vs, oe.data = .fields vs) (he : PE (X.suite a ((a, oe) :: pn)) e te) (hb : attributeBase e n X.env (eval e X.env) = eval e X.env := by rfl) (hK : X.K = K := by rfl) :
    PE (X.suite a ((a, oe) :: pn)) (.Attribute e n pos) (tXfA K a cls d n te) := by
  subst hK
  refine ⟨fun pins s σ H Q I h => attr_of hb (thn (he.run pins s σ H _ I h) fun u s1 hh => ?_)⟩
  obtain ⟨x, H1, I1, rx, rfl, C, dd, fs, v, rfl, T, no, rfl, xa, l, q⟩ := hh
  obtain rfl : u = Value.ref a := rx
  obtain ⟨pa, _⟩ := I1.pin (a, oe) (List.mem_append_left _ List.mem_cons_self)
  obtain ⟨vs, hv⟩ := hf
  obtain ⟨mA, ns, rl⟩ := (show ObjOk X.prog X.w H1 s1.heap dd (.xd fs) from I1.hok dd _ xa)
  obtain ⟨od, ho, hl⟩ := lookIn_ns ns
  obtain ⟨u, hu, ru⟩ := RelO.some_of (v := v) (o := mA n) (by rw [← l]; exact rl n)
  exact HandSPX.exc_get I1.kIn (od := some od) ⟨pa, hz.1, by unfold PySem.W.notCls; rw [hv] <;> rfl, by rw [hz.2]; exact ho⟩ T.ga T.gg T.ex (PySem.W.findObj_own T.hd no rfl (by rw [hl, hu])) (handed_of ru) ⟨v, H1, I1.tok _, ru, q⟩
/-- isinstance(e, C) -/
def rIsX (K : PySem.W.Frag) (a : Addr) (cls : Value) (d : Option Addr) : List V → Hp → VK → Prop := fun xs H Q => ∃ (D : Addr) (c : V) (cv : Value) (b : Bool), xs = [.ref a, c] ∧ cls = .ref D ∧ XcC K D ∧ XdAt H d ∧ ClsV c cv ∧ PySem.W.kitOne K (.ref D) cv = some b ∧ Q (.bl b) H
/-- isinstance(e, (C, D)), the tuple just laid -/
def rIsXs (K : PySem.W.Frag) (a : Addr) (cls : Value) (d : Option Addr) : List V → Hp → VK → Prop := fun xs H Q => ∃ (D tp : Addr) (cs : List V) (cvs : List Value) (b : Bool), xs = [.ref a, .ref tp] ∧ H tp = some (.tup cs) ∧ cls = .ref D ∧ XcC K D ∧ XdAt H d ∧ Paired ClsV cs cvs ∧ PySem.W.kitAny K (.ref D) cvs = some b ∧ Q (.bl b) H
theorem xc_kit {K : PySem.W.Frag} {D x : Addr} {ox : Obj} {od : Option Obj} (T : XcC K D) : PySem.W.KitX K (.ref x) (.ref D) (fun h => PySem.W.InstAt h x ox D od) := by
  have hc : (PySem.W.clsIn K D).isSome = true := by
    obtain ⟨cd, hc, _⟩ := PySem.W.any_some T.hd
    rw [hc]
    rfl
  exact PySem.W.kitx_exc hc T.ga T.gg T.ex T.ha T.hn T.ht T.hm
theorem xc_at {pins : List (Addr × Obj)} {σ : St} {H : Hp} {s : Shared} {D : Addr} (hz : Zc (.ref D) d oe) (hf : ∃ vs, oe.data = .fields vs) (I : Inv (X.suite a ((a, oe) :: pn)) pins σ H s) (xd : XdAt H d) : ∃ od, PySem.W.InstAt s.heap a oe D od := by
  obtain ⟨pa, _⟩ := I.pin (a, oe) (List.mem_append_left _ List.mem_cons_self)
  obtain ⟨vs, hv⟩ := hf
  have nc : PySem.W.notCls oe = true := by unfold PySem.W.notCls; rw [hv] <;> rfl
  rcases xd with rfl | ⟨dd, fs, rfl, xa⟩
  · exact ⟨none, pa, hz.1, nc, by rw [hz.2]; trivial⟩
  · obtain ⟨mA, ns, rl⟩ := (show ObjOk X.prog X.w H s.heap dd (.xd fs) from I.hok dd _ xa)
    obtain ⟨od, ho, hl⟩ := lookIn_ns ns
    exact ⟨some od, pa, hz.1, nc, by rw [hz.2]; exact ho⟩
theorem call_isX {K : PySem.W.Frag} (hz : Zc cls d oe) (hf : ∃ vs, oe.data = .fields vs) (hK : X.K = K := by rfl) : CallR (X.suite a ((a, oe) :: pn)) (.builtin "isinstance") (rIsX K a cls d) := by
  subst hK
  intro pins s σ H xs us Q I r h
  obtain ⟨D, c, cv, b, rfl, rfl, T, xd, k, e, q⟩ := h
  obtain ⟨u1, u2, rfl, r1, r2⟩ := vals2 r
  cases (show u1 = Value.ref a from r1)
  cases k.eq r2
  obtain ⟨od, J⟩ := xc_at hz hf I xd
  exact PySem.W.kia_one (xc_kit T) I.kIn J e (fun z => nomatch z) fun tk => ⟨.bl b, H, I.tok tk, rfl, q⟩
theorem call_isXs {K : PySem.W.Frag} (hz : Zc cls d oe) (hf : ∃ vs, oe.data = .fields vs) (hK : X.K = K := by rfl) : CallR (X.suite a ((a, oe) :: pn)) (.builtin "isinstance") (rIsXs K a cls d) := by
  subst hK
  intro pins s σ H xs us Q I r h
  obtain ⟨D, tp, cs, cvs, b, rfl, ht, rfl, T, xd, k, e, q⟩ := h
  obtain ⟨u1, u2, rfl, r1, r2⟩ := vals2 r
  cases (show u1 = Value.ref a from r1)
  cases (show u2 = Value.ref tp from r2)
  obtain ⟨od, J⟩ := xc_at hz hf I xd
  obtain ⟨_, its, rv, ⟨oc, odd, dt, sl⟩, h1, h2, n, h3⟩ := (show ObjOk X.prog X.w H s.heap tp (.tup cs) from I.hok tp _ ht)
  cases ClsV.all k rv
  simp only at h2 h3
  subst h2 h3
  exact PySem.W.kia_tup (xc_kit T) I.kIn J h1 e (fun z => nomatch z) fun tk => ⟨.bl b, H, I.tok tk, rfl, q⟩
end
theorem kit_self {K : PySem.W.Frag} {C : Addr} : PySem.W.kitOne K (.ref C) (.ref C) = some true := by
  unfold PySem.W.kitOne
  rw [if_pos (by simp)]
/-- does the class cls lie under D, an own error class -/
theorem exm_own {K : PySem.W.Frag} {C D : Addr} {b : Bool} (T : XcC K D) (h : PySem.W.subIn K (.ref C) (.ref D) = some b) : PySem.W.exmOne K (.ref C) (.ref D) = some b := PySem.W.exm_ref T.ex T.hd T.ty h
theorem any_nil {K : PySem.W.Frag} {c : Value} : PySem.W.exmAny K c [] = some false := rfl
theorem any_cons {K : PySem.W.Frag} {c e : Value} {r : List Value} {b1 b2 : Bool} (h1 : PySem.W.exmOne K c e = some b1) (h2 : PySem.W.exmAny K c r = some b2) : PySem.W.exmAny K c (e :: r) = some (b1 || b2) := by
  unfold PySem.W.exmAny
  rw [h1, h2]
theorem kany_nil {K : PySem.W.Frag} {c : Value} : PySem.W.kitAny K c [] = some false := rfl
theorem kany_cons {K : PySem.W.Frag} {c e : Value} {r : List Value} {b1 b2 : Bool} (h1 : PySem.W.kitOne K c e = some b1) (h2 : PySem.W.kitAny K c r = some b2) : PySem.W.kitAny K c (e :: r) = some (b1 || b2) := by
  unfold PySem.W.kitAny
  rw [h1]
  cases b1
  · exact h2
  · rfl
/-! ### statements, in the forms that the printed texts use -/
def tRaise (t : St → Hp → XK → Prop) (W : WX) : TS := fun _ σ H => t σ H fun cls d H' => W cls d σ H'
def tTry (K : PySem.W.Frag) (tb : WX → TS) (Wout : WX) (l : List Clause) (u : TS) : TS := fun D σ H => tb (wCl K Wout D l) { D with nx := u D } σ H
section
variable {X : Cx}
theorem ps_raiseM {W : WX} {e : Expr} {t : St → Hp → XK → Prop} {pos : Pos} (hc : X.calm = true) (tk : Takes X W) (he : PMk X e t) : PS X (.Raise (some e) none pos) (tRaise t W) := ps_raise hc tk he
theorem ps_tryM {body orelse : List Stmt} {h₀ : ExceptHandler} {hds : List ExceptHandler} {l : List Clause} {pos : Pos} {tb : WX → TS} {u : TS} {Wout : WX} (hst : X.stack = X.env :: X.outer) (hf : X.env.frame = some X.env.locals) (hN : X.N.Nodup) (tk : Takes X Wout)
    (hb : ∀ (W : WX) (pn : List (Addr × Obj)) (xe : Value → Shared → Prop), Takes (X.tr pn xe) W → PassesOwn (model X.prog X.w) X.A X.env xe → PSs (X.tr pn xe) body (tb W)) (hh : ClsOk X (h₀ :: hds) l) (ho : PSs X orelse u) : PS X (.Try body (h₀ :: hds) orelse [] pos) (tTry X.K tb Wout l u) :=
  ps_tryC hst hf hN tk hb hh ho
end
/-- a def that may raise -/
theorem fund_okX {P : Program} {w : World} {K : PySem.W.Frag} {mg : Str → Option Value} {base : Heap} {x qual : Str} {params : Arguments} {body : List Stmt} {scope : Scope} {dvs : List V} {f : Addr} {fd : FuncData} {N ps : List Str} {k : Nat} {sp : Sp}
    (F : FunD K x qual params body scope dvs [] f fd) (S : FnScope N ps scope) (len : ∀ vs H Q E, sp vs H Q E → vs.length = ps.length)
    (hbody : ∀ (cdv : Value) (A : Around) (outer : List Env) (s : Shared) (H : Hp) (vs : List V) (Q : VK) (E : XK), Room k (A.deeper (PyProof.Rows.envOfC qual scope s.heap.objs.size f cdv)) →
      Takes (cxOf (L2.CX P w) P w K mg base N qual scope f cdv A outer s H E) (fun cls d _ H' => E cls d H') →
      PassesOwn (model P w) (cxOf (L2.CX P w) P w K mg base N qual scope f cdv A outer s H E).A (cxOf (L2.CX P w) P w K mg base N qual scope f cdv A outer s H E).env (cxOf (L2.CX P w) P w K mg base N qual scope f cdv A outer s H E).xe → sp vs H Q E →
      ∃ t, PSs (cxOf (L2.CX P w) P w K mg base N qual scope f cdv A outer s H E) body t ∧ t { nx := fun _ H' => Q .non H', rt := Q } (start N vs) H) : FnOk P w K mg base (L2.CX P w) (k + 1) f fd ps sp :=
  F.ok S len fun cdv A outer s H vs Q E hr h => hbody cdv A outer s H vs Q E hr (takes_of rfl rfl rfl rfl) (passes_of rfl) h
section
variable {D : Ends} {σ : St} {H : Hp} {Q : VK} {K : PySem.W.Frag} {A : TA} {te ta : TE} {C : Addr} {m f : Str} {sp : Sp} {dvs : List V} {E : St → XK}
theorem i_raise {t : St → Hp → XK → Prop} {W : WX} (h : t σ H fun cls d H' => W cls d σ H') : tRaise t W D σ H := h
theorem i_exc {XQ : XK} (h : A σ H fun vs H1 => ∃ v, vs = [v] ∧ ∀ d, H1 d = none → XQ (.ref C) (some d) (upd H1 d (.xd [(f, v)]))) : tExc C f A σ H XQ := h
theorem i_excV {v : V} {R : V → Prop} (h : R v) : ∃ x, [v] = [x] ∧ R x := ⟨v, rfl, h⟩
theorem i_try {tb : WX → TS} {Wout : WX} {l : List Clause} {u : TS} (h : tb (wCl K Wout D l) { D with nx := u D } σ H) : tTry K tb Wout l u D σ H := h
theorem i_methS (h : te σ H fun x H1 => ∃ a dx fs, x = .ref a ∧ H1 a = some (.ins C dx fs) ∧ fs.lookup m = none ∧ A σ H1 fun vs H2 => sp (x :: (vs ++ dvs)) H2 Q (E σ)) : tMethS C m sp dvs E te A σ H Q := h
theorem i_callS (h : A σ H fun vs H1 => sp (vs ++ dvs) H1 Q (E σ)) : tCallSD sp dvs E A σ H Q := h
theorem i_makeS (h : A σ H fun vs H1 => ∀ x dx, H1 x = none → H1 dx = none → dx ≠ x → sp (.ref x :: (vs ++ dvs)) (upd (upd H1 dx (.own x)) x (.ins C dx [])) (fun v H2 => v = .non ∧ Q (.ref x) H2) (E σ)) : tMakeS C sp dvs E A σ H Q := h
/-- the clause takes it -/
theorem i_clT {Wout : WX} {q : Clause} {r : List Clause} {cls : Value} {d : Option Addr} (hb : PySem.W.exmAny K cls q.cs = some true) (h : ∀ ea, H ea = none → q.go ea cls d D σ H) : wCl K Wout D (q :: r) cls d σ H := ⟨true, hb, fun _ => h, fun z => by cases z⟩
/-- it doesn't -/
theorem i_clF {Wout : WX} {q : Clause} {r : List Clause} {cls : Value} {d : Option Addr} (hb : PySem.W.exmAny K cls q.cs = some false) (h : wCl K Wout D r cls d σ H) : wCl K Wout D (q :: r) cls d σ H := ⟨false, hb, (fun z => by cases z), fun _ => h⟩
theorem i_goN {cs : List Value} {i : Nat} {ts : Addr → Value → Option Addr → TS} {a : Addr} {cls : Value} {d : Option Addr} (h : ts a cls d (unD i D) (σ.set i (some (.ref a))) H) : Clause.go ⟨cs, some i, ts⟩ a cls d D σ H := h
theorem i_go0 {cs : List Value} {ts : Addr → Value → Option Addr → TS} {a : Addr} {cls : Value} {d : Option Addr} (h : ts a cls d D σ H) : Clause.go ⟨cs, none, ts⟩ a cls d D σ H := h
theorem i_xf {a dd : Addr} {fs : List (Str × V)} {v : V} {R : V → Prop} {C' : Addr} (T : XcC K C') (no : PySem.W.findIn K (.ref C') f = some none) (h1 : H dd = some (.xd fs)) (h2 : fs.lookup f = some v) (h : R v) :
    V.ref a = .ref a ∧ ∃ (C e : Addr) (fs : List (Str × V)) (v : V), Value.ref C' = .ref C ∧ XcC K C ∧ PySem.W.findIn K (.ref C) f = some none ∧ some dd = some e ∧ H e = some (.xd fs) ∧ fs.lookup f = some v ∧ R v := ⟨rfl, C', dd, fs, v, rfl, T, no, rfl, h1, h2, h⟩
theorem i_xfA {a : Addr} {d : Option Addr} {cls : Value} (h : te σ H fun x H1 => x = .ref a ∧ ∃ (C dd : Addr) (fs : List (Str × V)) (v : V), cls = .ref C ∧ XcC K C ∧ PySem.W.findIn K (.ref C) f = some none ∧ d = some dd ∧ H1 dd = some (.xd fs) ∧ fs.lookup f = some v ∧ Q v H1) : tXfA K a cls d f te σ H Q := h
theorem i_isX {a D' : Addr} {c : V} {cv cls : Value} {d : Option Addr} {b : Bool} (hc : cls = .ref D') (T : XcC K D') (xd : XdAt H d) (k : ClsV c cv) (e : PySem.W.kitOne K (.ref D') cv = some b) (h : Q (.bl b) H) : rIsX K a cls d [.ref a, c] H Q := ⟨D', c, cv, b, rfl, hc, T, xd, k, e, h⟩
theorem i_isXs {a D' tp : Addr} {cs : List V} {cvs : List Value} {cls : Value} {d : Option Addr} {b : Bool} (ht : H tp = some (.tup cs)) (hc : cls = .ref D') (T : XcC K D') (xd : XdAt H d) (k : Paired ClsV cs cvs) (e : PySem.W.kitAny K (.ref D') cvs = some b) (h : Q (.bl b) H) : rIsXs K a cls d [.ref a, .ref tp] H Q :=
  ⟨D', tp, cs, cvs, b, rfl, ht, hc, T, xd, k, e, h⟩
end
/-- an own error class's __init__, read -/
theorem exc_read {K : PySem.W.Frag} {C : Addr} {f : Str} {vs : List V} {H : Hp} {Q : VK} {E : XK} {N : List Str} {z : Str} (hN : N.length = 2) (T : OexC K C) (no : PySem.W.findIn K (.ref C) f = some none) (h : spExI C f vs H Q E) :
    tSeq (tDrop (tVeI K (tCons (tVar 0) (tCons (tC (.str z)) tNil)))) (tOst K f (tVar 0) (tVar 1)) { nx := fun _ H' => Q .non H', rt := Q } (start N vs) H := by
  obtain ⟨a, v, rfl, ha, k⟩ := h
  refine i_seq (i_drop ?_)
  show tVeI K _ _ _ _
  refine ⟨_, rfl, ?_⟩
  refine i_c (i_nil ⟨a, C, [.str z], rfl, Nat.le_of_ble_eq_true rfl, T, ha, ?_⟩)
  exact ⟨v, rfl, .ref a, rfl, a, C, rfl, T, no, .inl ⟨ha, fun d hd nd => k d hd nd⟩⟩
/-! ### isinstance(x, C), C of the text -/
section
variable {K : PySem.W.Frag} {H : Hp} {Q : VK} {x : V} {C : Addr}
theorem i_isiC (h : isO K x H fun _ c => match c with | none => Q (.bl false) H | some D => ∃ b, PySem.W.kitOne K (.ref D) (.ref C) = some b ∧ Q (.bl b) H) : rIsiC C K [x, .ref C] H Q := ⟨x, rfl, h⟩
theorem i_kit {c d : Value} {b : Bool} {R : Bool → Prop} (h1 : PySem.W.kitOne K c d = some b) (h : R b) : ∃ b, PySem.W.kitOne K c d = some b ∧ R b := ⟨b, h1, h⟩
end
end My
/-! comprehensions over zip -/
namespace My
open PySem L2 RZ
theorem walk_zipT {K : PySem.W.Frag} {a b : Addr} {xs ys : List V} {n : Nat} (hn : n = min xs.length ys.length) : Walk (ItzT K a b) n (fun H => SqT K H a xs ∧ SqT K H b ys) (YPair (fun i => xs[i]?) (fun i => ys[i]?)) := by
  subst hn
  refine ⟨fun i _ hi q => ?_, fun _ q => ⟨xs, ys, q.1, q.2, by omega⟩, fun i H v H' _ q ⟨T, x, z, y1, y2, y3, y4, y5⟩ => ⟨T, x, z, y1, y2, y3, y4 xs q.1, y5 ys q.2⟩⟩
  have l1 : i < xs.length := by omega
  have l2 : i < ys.length := by omega
  exact ⟨xs, ys, xs[i], ys[i], q.1, q.2, List.getElem?_eq_getElem l1, List.getElem?_eq_getElem l2⟩
theorem zw_take {α β γ : Type} (f : α → β → γ) {xs : List α} {ys : List β} {i : Nat} {x : α} {y : β} (hx : xs[i]? = some x) (hy : ys[i]? = some y) : (List.zipWith f xs ys).take (i + 1) = (List.zipWith f xs ys).take i ++ [f x y] := by
  rw [List.take_succ, List.getElem?_zipWith, hx, hy]
  rfl
/-- [.. for x, y in zip(xs, ys)] -/
theorem lc_zip {J : It} {G : Hp → Prop} {g : TG} {tt : TT} {te : TE} {vs : List Nat} {σ : St} {H1 : Hp} {D : Addr} {Qd : Hp → Prop} {n : Nat} (xs ys : List V) (f : V → V → V) (w : Walk J n G (YPair (fun i => xs[i]?) (fun i => ys[i]?))) (hn : n = min xs.length ys.length) (hl : n ≤ 1000)
    (hG : ∀ H, Same H1 H → G H) (hD : H1 D = none)
    (hs : ∀ (i : Nat) x y, xs[i]? = some x → ys[i]? = some y → ∀ H T (Q : VK) (R : Hp → Prop), Same H1 H → H T = some (.tup [x, y]) → (∀ H', Same H H' → Q (f x y) H') → g (.ref T) (wipe σ vs) H fun σ2 H2 => wipe σ2 vs = wipe σ vs ∧ tt σ2 H2 fun b H3 => if b = true then te σ2 H3 Q else R H3)
    (hd : ∀ H, Same H1 H → H D = some (.lst (List.zipWith f xs ys)) → Qd H) :
    ∃ W : Nat → Nat → Hp → Prop, (∃ m, W 0 m (upd H1 D (.lst []))) ∧ ∀ i m H, W i m H →
      (J.stop i H ∧ Qd H) ∨ (J.go i H ∧ ∃ Nx : Hp → Prop, (∀ H', Nx H' → ∃ m', m' < m ∧ W (i + 1) m' H') ∧ ∀ x H', J.yld i H x H' → g x (wipe σ vs) H' fun σ2 H2 => wipe σ2 vs = wipe σ vs ∧ tt σ2 H2 fun b H3 =>
        if b = true then te σ2 H3 fun y H4 => ∃ acc, H4 D = some (.lst acc) ∧ acc.length < sizeLine ∧ Nx (upd H4 D (.lst (acc ++ [y]))) else Nx H3) := by
  refine lc_it w (fun i H => Same H1 H ∧ H D = some (.lst ((List.zipWith f xs ys).take i))) ⟨same_upd (Same.refl H1) hD, upd_same⟩ (fun i H _ h => hG H h.1) ?_ (fun H h => hd H h.1 (h.2.trans ?_))
  · rintro i v H H' hi ⟨s1, e1⟩ ⟨T, x, y, rfl, nT, rfl, hx, hy⟩
    have s2 : Same H (upd H T (.tup [x, y])) := same_upd (Same.refl H) nT
    refine hs i x y hx hy _ T _ _ (s1.trans s2) upd_same fun H4 s4 => ?_
    have e4 := s4 _ _ (s2 _ _ e1)
    refine ⟨_, e4, ?_, fun b o q => ?_, ?_⟩
    · refine small1000 ?_
      rw [List.length_take]
      omega
    · by_cases z : b = D
      · subst z
        rw [hD] at q
        cases q
      · rw [upd_ne z]
        exact s4 _ _ (s2 _ _ (s1 _ _ q))
    · rw [upd_same, zw_take f hx hy]
  · rw [List.take_of_length_le (by rw [List.length_zipWith, hn]; exact Nat.le_refl _)]
theorem lc_zipT {K : PySem.W.Frag} {a b : Addr} {xs ys : List V} {g : TG} {tt : TT} {te : TE} {vs : List Nat} {σ : St} {H1 : Hp} {D : Addr} {Qd : Hp → Prop} (f : V → V → V) (h1 : SqT K H1 a xs) (h2 : SqT K H1 b ys) (hD : H1 D = none) (hl : min xs.length ys.length ≤ 1000)
    (hs : ∀ (i : Nat) x y, xs[i]? = some x → ys[i]? = some y → ∀ H T (Q : VK) (R : Hp → Prop), Same H1 H → H T = some (.tup [x, y]) → (∀ H', Same H H' → Q (f x y) H') → g (.ref T) (wipe σ vs) H fun σ2 H2 => wipe σ2 vs = wipe σ vs ∧ tt σ2 H2 fun b H3 => if b = true then te σ2 H3 Q else R H3)
    (hd : ∀ H, Same H1 H → H D = some (.lst (List.zipWith f xs ys)) → Qd H) :
    ∃ W : Nat → Nat → Hp → Prop, (∃ m, W 0 m (upd H1 D (.lst []))) ∧ ∀ i m H, W i m H →
      ((ItzT K a b).stop i H ∧ Qd H) ∨ ((ItzT K a b).go i H ∧ ∃ Nx : Hp → Prop, (∀ H', Nx H' → ∃ m', m' < m ∧ W (i + 1) m' H') ∧ ∀ x H', (ItzT K a b).yld i H x H' → g x (wipe σ vs) H' fun σ2 H2 => wipe σ2 vs = wipe σ vs ∧ tt σ2 H2 fun b H3 =>
        if b = true then te σ2 H3 fun y H4 => ∃ acc, H4 D = some (.lst acc) ∧ acc.length < sizeLine ∧ Nx (upd H4 D (.lst (acc ++ [y]))) else Nx H3) :=
  lc_zip xs ys f (walk_zipT rfl) rfl hl (fun _ s => ⟨SqT.same s h1, SqT.same s h2⟩) hD hs hd
theorem i_zipT {K : PySem.W.Frag} {σ : St} {H : Hp} {A : TA} {R : It → Hp → Prop} (h : A σ H fun vs H1 => ∃ a b xs ys, vs = [.ref a, .ref b] ∧ ((SqL K H1 a xs ∧ SqL K H1 b ys ∧ R (Itz K a b) H1) ∨ (SqT K H1 a xs ∧ SqT K H1 b ys ∧ R (ItzT K a b) H1))) : iZipA K A σ H R := h
theorem i_zipTT {K : PySem.W.Frag} {H : Hp} {a b : Addr} {xs ys : List V} {R1 R2 : Addr → Addr → Prop} (h1 : SqT K H a xs) (h2 : SqT K H b ys) (h : R2 a b) : ∃ a' b' xs ys, [V.ref a, V.ref b] = [.ref a', .ref b'] ∧ ((SqL K H a' xs ∧ SqL K H b' ys ∧ R1 a' b') ∨ (SqT K H a' xs ∧ SqT K H b' ys ∧ R2 a' b')) :=
  ⟨a, b, xs, ys, rfl, .inr ⟨h1, h2, h⟩⟩
theorem i_zipLL {K : PySem.W.Frag} {H : Hp} {a b : Addr} {xs ys : List V} {R1 R2 : Addr → Addr → Prop} (h1 : SqL K H a xs) (h2 : SqL K H b ys) (h : R1 a b) : ∃ a' b' xs ys, [V.ref a, V.ref b] = [.ref a', .ref b'] ∧ ((SqL K H a' xs ∧ SqL K H b' ys ∧ R1 a' b') ∨ (SqT K H a' xs ∧ SqT K H b' ys ∧ R2 a' b')) :=
  ⟨a, b, xs, ys, rfl, .inl ⟨h1, h2, h⟩⟩
theorem pi_zipK {X : Cx} {e e2 : Expr} {ta : TA} {p pos tpos : Pos} {elts : List Expr} {kk : Nat} {K : PySem.W.Frag} (hg : Gl X "zip") (hm : X.mg "zip" = none) (ha : PA X [e, e2] ta)
    (hs : starEach [e, e2] X.env = (false, eval e X.env) :: starEach [e2] X.env := by rfl) (hpl : (backTo pos (starEach [e2] X.env)).any (·.1) = false := by rfl) (hK : X.K = K := by rfl) :
    PI X (.Tuple elts kk tpos) (.Call (.Name "zip" p) [e, e2] [] pos) (iZipA K ta) := by
  subst hK
  exact pi_zipA hg hm ha hs hpl
def vI : V → Int
  | .int i => i
  | _ => 0
theorem zw_int (f : Int → Int → Int) (ns ms : List Int) : List.zipWith (fun x y => V.int (f (vI x) (vI y))) (ns.map V.int) (ms.map V.int) = (List.zipWith f ns ms).map V.int := by
  induction ns generalizing ms with
  | nil => rfl
  | cons n ns ih => cases ms with
    | nil => rfl
    | cons m ms => exact congrArg _ (ih ms)
theorem zw_bl (f : Int → Int → Bool) (ns ms : List Int) : List.zipWith (fun x y => V.bl (f (vI x) (vI y))) (ns.map V.int) (ms.map V.int) = (List.zipWith f ns ms).map V.bl := by
  induction ns generalizing ms with
  | nil => rfl
  | cons n ns ih => cases ms with
    | nil => rfl
    | cons m ms => exact congrArg _ (ih ms)
theorem map_int_at {ns : List Int} {i : Nat} {x : V} (h : (ns.map V.int)[i]? = some x) : ∃ n, n ∈ ns ∧ x = .int n ∧ ns[i]? = some n := by
  rw [List.getElem?_map, Option.map_eq_some_iff] at h
  obtain ⟨n, h1, rfl⟩ := h
  exact ⟨n, List.mem_of_getElem? h1, rfl, h1⟩
/-- [.. for k in range(n)], each item drawn of the pool at p -/
theorem lc_pool {J : It} {G : Hp → Prop} {g : TG} {tt : TT} {te : TE} {vs : List Nat} {σ : St} {H1 : Hp} {D p : Addr} {m0 : Int} {Qd : Hp → Prop} {n : Nat} {f : Nat → V} (Pr : V → Prop) (w : Walk J n G (YFn f)) (hl : n ≤ 1000) (hG : ∀ H, G H) (hp : H1 p = some (.lst [.int m0])) (hD : H1 D = none)
    (hs : ∀ i, i < n → ∀ H m (Q : VK) (R : Hp → Prop), SameBut p H1 H → H p = some (.lst [.int m]) → (∀ y H' m', SameBut p H H' → H' p = some (.lst [.int m']) → Pr y → Q y H') → g (f i) (wipe σ vs) H fun σ2 H2 => wipe σ2 vs = wipe σ vs ∧ tt σ2 H2 fun b H3 => if b = true then te σ2 H3 Q else R H3)
    (hd : ∀ H m ys, SameBut p H1 H → H p = some (.lst [.int m]) → H D = some (.lst ys) → ys.length = n → (∀ y ∈ ys, Pr y) → Qd H) :
    ∃ W : Nat → Nat → Hp → Prop, (∃ m, W 0 m (upd H1 D (.lst []))) ∧ ∀ i m H, W i m H →
      (J.stop i H ∧ Qd H) ∨ (J.go i H ∧ ∃ Nx : Hp → Prop, (∀ H', Nx H' → ∃ m', m' < m ∧ W (i + 1) m' H') ∧ ∀ x H', J.yld i H x H' → g x (wipe σ vs) H' fun σ2 H2 => wipe σ2 vs = wipe σ vs ∧ tt σ2 H2 fun b H3 =>
        if b = true then te σ2 H3 fun y H4 => ∃ acc, H4 D = some (.lst acc) ∧ acc.length < sizeLine ∧ Nx (upd H4 D (.lst (acc ++ [y]))) else Nx H3) := by
  have np : p ≠ D := ne_of_none hp hD
  have sb : ∀ {H o}, SameBut p H1 H → SameBut p H1 (upd H D o) := fun {H o} s b u nb e => by
    rw [upd_ne (ne_of_none e hD)]
    exact s b u nb e
  refine lc_it w (fun i H => SameBut p H1 H ∧ (∃ m, H p = some (.lst [.int m])) ∧ ∃ ys, H D = some (.lst ys) ∧ ys.length = i ∧ ∀ y ∈ ys, Pr y) ⟨sb (SameBut.refl p H1), ⟨m0, by rw [upd_ne np]; exact hp⟩, [], upd_same, rfl, fun _ h => nomatch h⟩ (fun i H _ _ => hG H) ?_ ?_
  · rintro i v H H' hi ⟨s1, ⟨m, e1⟩, ys, e2, e3, e4⟩ ⟨rfl, rfl⟩
    refine hs i hi H' m _ _ s1 e1 fun y H4 m' s2 e5 hy => ⟨ys, s2 _ _ (Ne.symm np) e2, small1000 (by omega), sb (s1.trans s2), ⟨m', by rw [upd_ne np]; exact e5⟩, ys ++ [y], upd_same, by rw [List.length_append, e3]; rfl, fun z hz => ?_⟩
    rcases List.mem_append.mp hz with h | h
    · exact e4 z h
    · rw [List.mem_singleton.mp h]
      exact hy
  · rintro H ⟨s1, ⟨m, e1⟩, ys, e2, e3, e4⟩
    exact hd H m ys s1 e1 e2 e3 e4
/-! ### xs.append(y) -/
def tApp (K : PySem.W.Frag) (to : TE) (A : TA) : TE := tBM K "list" rAppend to A
theorem pe_appK {X : Cx} {K : PySem.W.Frag} {e : Expr} {to : TE} {t : TA} (h : PE X e (tBM X.K "list" rAppend to t)) (hK : X.K = K := by rfl) : PE X e (tApp K to t) := by
  subst hK
  exact h
section
variable {K : PySem.W.Frag} {σ : St} {H : Hp} {Q : VK} {to : TE} {A : TA} {l : Addr} {xs : List V} {y : V}
theorem i_app (h : to σ H fun x H1 => tyV K "list" x H1 ∧ A σ H1 fun vs H2 => rAppend x vs H2 Q) : tApp K to A σ H Q := h
theorem i_tyL {R : Prop} (h0 : SqL K H l xs) (h : R) : tyV K "list" (.ref l) H ∧ R := ⟨.inl ⟨rfl, xs, h0⟩, h⟩
theorem i_rapp (h1 : H l = some (.lst xs)) (h2 : xs.length < sizeLine) (h : Q .non (upd H l (.lst (xs ++ [y])))) : rAppend (.ref l) [y] H Q := ⟨l, xs, y, rfl, rfl, h1, h2, h⟩
end
/-- [.. for k in range(n)], nothing older changed -/
theorem lc_rng {g : TG} {tt : TT} {te : TE} {vs : List Nat} {σ : St} {H1 : Hp} {D : Addr} {Qd : Hp → Prop} {n : Nat} (f : Nat → V) (hl : n ≤ 1000) (hD : H1 D = none)
    (hs : ∀ i, i < n → ∀ H (Q : VK) (R : Hp → Prop), Same H1 H → (∀ H', Same H H' → Q (f i) H') → g (.int (0 + i)) (wipe σ vs) H fun σ2 H2 => wipe σ2 vs = wipe σ vs ∧ tt σ2 H2 fun b H3 => if b = true then te σ2 H3 Q else R H3)
    (hd : ∀ H, Same H1 H → H D = some (.lst ((List.range n).map f)) → Qd H) :
    ∃ W : Nat → Nat → Hp → Prop, (∃ m, W 0 m (upd H1 D (.lst []))) ∧ ∀ i m H, W i m H →
      ((Itr 0 n).stop i H ∧ Qd H) ∨ ((Itr 0 n).go i H ∧ ∃ Nx : Hp → Prop, (∀ H', Nx H' → ∃ m', m' < m ∧ W (i + 1) m' H') ∧ ∀ x H', (Itr 0 n).yld i H x H' → g x (wipe σ vs) H' fun σ2 H2 => wipe σ2 vs = wipe σ vs ∧ tt σ2 H2 fun b H3 =>
        if b = true then te σ2 H3 fun y H4 => ∃ acc, H4 D = some (.lst acc) ∧ acc.length < sizeLine ∧ Nx (upd H4 D (.lst (acc ++ [y]))) else Nx H3) := by
  refine lc_it walk_range (fun i H => Same H1 H ∧ H D = some (.lst ((List.range i).map f))) ⟨same_upd (Same.refl H1) hD, upd_same⟩ (fun i H _ _ => trivial) ?_ (fun H h => hd H h.1 h.2)
  rintro i v H H' hi ⟨s1, e1⟩ ⟨rfl, rfl⟩
  refine hs i hi H' _ _ s1 fun H4 s4 => ⟨_, s4 _ _ e1, small1000 (by rw [List.length_map, List.length_range]; omega), fun b o q => ?_, ?_⟩
  · rw [upd_ne (ne_of_none q hD)]
    exact s4 _ _ (s1 _ _ q)
  · rw [upd_same, List.range_succ, List.map_append]
    rfl
theorem atI_D {ns : List Int} {i : Nat} (h : i < ns.length) : atI (ns.map V.int) (0 + (i : Int)) = some (.int (ns.getD i 0)) := by
  rw [Int.zero_add]
  refine atI_nat ?_
  rw [List.getElem?_map, List.getD_eq_getElem?_getD, List.getElem?_eq_getElem h]
  rfl
theorem rng_zip {α : Type} (f : Int → Int → α) {ns ms : List Int} (e : ms.length = ns.length) : (List.range ns.length).map (fun i => f (ns.getD i 0) (ms.getD i 0)) = List.zipWith f ns ms := by
  refine List.ext_getElem (by simp [e]) fun i h1 h2 => ?_
  simp only [List.length_map, List.length_range] at h1
  simp [List.getD_eq_getElem?_getD, List.getElem?_eq_getElem h1, List.getElem?_eq_getElem (show i < ms.length by omega)]
theorem i_intB {H : Hp} {Q : VK} {k : Bool} (h : Q (.int (if k then 1 else 0)) H) : rIntU [.bl k] H Q := h
theorem i_intI {H : Hp} {Q : VK} {i : Int} (h : Q (.int i) H) : rIntU [.int i] H Q := h
/-! ### comprehensions whose items are told by a word that holds of later heaps, too -/
theorem Rd.butO {H H' : Hp} {p D : Addr} {o u : HO} (hD : H D = some o) (n1 : o ≠ u) (n2 : ∀ b, o ≠ .frz b u) (s : SameBut D H H') (h : Rd H p u) : Rd H' p u := by
  rcases h with h | ⟨b, h⟩
  · exact .inl (s _ _ (ne_of h hD (Ne.symm n1)) h)
  · exact .inr ⟨b, s _ _ (ne_of h hD (Ne.symm (n2 b))) h⟩
theorem SqT.butL {K : PySem.W.Frag} {H H' : Hp} {p D : Addr} {acc xs : List V} (hD : H D = some (.lst acc)) (s : SameBut D H H') (h : SqT K H p xs) : SqT K H' p xs := by
  rcases h with h | h
  · exact .inl (Rd.butO hD (by intro z; cases z) (by intro b z; cases z) s h)
  · exact .inr h
/-- [.. for x in xs if ..]: each item keeps Pr, whatever is done later at the list itself -/
theorem lc_pr {J : It} {G : Hp → Prop} {g : TG} {tt : TT} {te : TE} {vs : List Nat} {σ : St} {H1 : Hp} {D : Addr} {Qd : Hp → Prop} {n : Nat} (at_ : Nat → V → Prop) (Pr : Hp → V → Prop) (w : Walk J n G fun i H x H' => H' = H ∧ at_ i x) (hl : n < sizeLine)
    (mono : ∀ H H' y, (∀ acc, H D = some (.lst acc) → SameBut D H H' → Pr H y → Pr H' y)) (hG : ∀ H, Same H1 H → G H) (hD : H1 D = none)
    (hs : ∀ i x, i < n → at_ i x → ∀ H (Q : VK) (R : Hp → Prop), Same H1 H → (∃ acc, H D = some (.lst acc)) → (∀ y H', Same H H' → Pr H' y → Q y H') → (∀ H', Same H H' → R H') → g x (wipe σ vs) H fun σ2 H2 => wipe σ2 vs = wipe σ vs ∧ tt σ2 H2 fun b H3 => if b = true then te σ2 H3 Q else R H3)
    (hd : ∀ H ys, Same H1 H → H D = some (.lst ys) → ys.length ≤ n → (∀ y ∈ ys, Pr H y) → Qd H) :
    ∃ W : Nat → Nat → Hp → Prop, (∃ m, W 0 m (upd H1 D (.lst []))) ∧ ∀ i m H, W i m H →
      (J.stop i H ∧ Qd H) ∨ (J.go i H ∧ ∃ Nx : Hp → Prop, (∀ H', Nx H' → ∃ m', m' < m ∧ W (i + 1) m' H') ∧ ∀ x H', J.yld i H x H' → g x (wipe σ vs) H' fun σ2 H2 => wipe σ2 vs = wipe σ vs ∧ tt σ2 H2 fun b H3 =>
        if b = true then te σ2 H3 fun y H4 => ∃ acc, H4 D = some (.lst acc) ∧ acc.length < sizeLine ∧ Nx (upd H4 D (.lst (acc ++ [y]))) else Nx H3) := by
  have sb : ∀ {H o}, Same H1 H → Same H1 (upd H D o) := fun {H o} s b u e => by
    rw [upd_ne (ne_of_none e hD)]
    exact s b u e
  refine lc_it w (fun i H => Same H1 H ∧ ∃ ys, H D = some (.lst ys) ∧ ys.length ≤ i ∧ ∀ y ∈ ys, Pr H y) ⟨sb (Same.refl H1), [], upd_same, Nat.le_refl _, fun _ h => nomatch h⟩ (fun i H _ h => hG H h.1) ?_ ?_
  · rintro i v H H' hi ⟨s1, ys, e2, e3, e4⟩ ⟨rfl, hx⟩
    refine hs i v hi hx H' _ _ s1 ⟨ys, e2⟩ (fun y H4 s4 hy => ?_) (fun H4 s4 => ?_)
    · have e5 := s4 _ _ e2
      have sD : SameBut D H4 (upd H4 D (.lst (ys ++ [y]))) := SameBut.upd _ _ _
      refine ⟨ys, e5, Nat.lt_of_le_of_lt (by omega) hl, sb (s1.trans s4), _, upd_same, by rw [List.length_append]; show ys.length + 1 ≤ i + 1; omega, fun z hz => ?_⟩
      rcases List.mem_append.mp hz with h | h
      · exact mono _ _ _ _ e5 sD (mono _ _ _ _ e2 (SameBut.of s4) (e4 z h))
      · rw [List.mem_singleton.mp h]
        exact mono _ _ _ _ e5 sD hy
    · exact ⟨s1.trans s4, ys, s4 _ _ e2, by omega, fun z hz => mono _ _ _ _ e2 (SameBut.of s4) (e4 z hz)⟩
  · rintro H ⟨s1, ys, e2, e3, e4⟩
    exact hd H ys s1 e2 e3 e4
/-- [.. for x in xs]: of each item the one at its place -/
theorem lc_rel {J : It} {G : Hp → Prop} {g : TG} {tt : TT} {te : TE} {vs : List Nat} {σ : St} {H1 : Hp} {D : Addr} {Qd : Hp → Prop} {n : Nat} (at_ : Nat → V → Prop) (Rl : Nat → Hp → V → Prop) (w : Walk J n G fun i H x H' => H' = H ∧ at_ i x) (hl : n < sizeLine)
    (mono : ∀ i H H' y, (∀ acc, H D = some (.lst acc) → SameBut D H H' → Rl i H y → Rl i H' y)) (hG : ∀ H, Same H1 H → G H) (hD : H1 D = none)
    (hs : ∀ i x, i < n → at_ i x → ∀ H (Q : VK) (R : Hp → Prop), Same H1 H → (∃ acc, H D = some (.lst acc)) → (∀ y H', Same H H' → Rl i H' y → Q y H') → g x (wipe σ vs) H fun σ2 H2 => wipe σ2 vs = wipe σ vs ∧ tt σ2 H2 fun b H3 => if b = true then te σ2 H3 Q else R H3)
    (hd : ∀ H (ys : List V), Same H1 H → H D = some (.lst ys) → ys.length = n → (∀ (i : Nat) (y : V), ys[i]? = some y → Rl i H y) → Qd H) :
    ∃ W : Nat → Nat → Hp → Prop, (∃ m, W 0 m (upd H1 D (.lst []))) ∧ ∀ i m H, W i m H →
      (J.stop i H ∧ Qd H) ∨ (J.go i H ∧ ∃ Nx : Hp → Prop, (∀ H', Nx H' → ∃ m', m' < m ∧ W (i + 1) m' H') ∧ ∀ x H', J.yld i H x H' → g x (wipe σ vs) H' fun σ2 H2 => wipe σ2 vs = wipe σ vs ∧ tt σ2 H2 fun b H3 =>
        if b = true then te σ2 H3 fun y H4 => ∃ acc, H4 D = some (.lst acc) ∧ acc.length < sizeLine ∧ Nx (upd H4 D (.lst (acc ++ [y]))) else Nx H3) := by
  have sb : ∀ {H o}, Same H1 H → Same H1 (upd H D o) := fun {H o} s b u e => by
    rw [upd_ne (ne_of_none e hD)]
    exact s b u e
  refine lc_it w (fun i H => Same H1 H ∧ ∃ ys, H D = some (.lst ys) ∧ ys.length = i ∧ ∀ j y, ys[j]? = some y → Rl j H y) ⟨sb (Same.refl H1), [], upd_same, rfl, fun j y h => by simp at h⟩ (fun i H _ h => hG H h.1) ?_ ?_
  · rintro i v H H' hi ⟨s1, ys, e2, e3, e4⟩ ⟨rfl, hx⟩
    refine hs i v hi hx H' _ _ s1 ⟨ys, e2⟩ (fun y H4 s4 hy => ?_)
    have e5 := s4 _ _ e2
    have sD : SameBut D H4 (upd H4 D (.lst (ys ++ [y]))) := SameBut.upd _ _ _
    refine ⟨ys, e5, Nat.lt_of_le_of_lt (by omega) hl, sb (s1.trans s4), _, upd_same, by rw [List.length_append, e3]; rfl, fun j z hz => ?_⟩
    by_cases c : j < ys.length
    · rw [List.getElem?_append_left c] at hz
      exact mono _ _ _ _ _ e5 sD (mono _ _ _ _ _ e2 (SameBut.of s4) (e4 j z hz))
    · rw [List.getElem?_append_right (by omega)] at hz
      have hj : j - ys.length = 0 := by
        have := (List.getElem?_eq_some_iff.mp hz).1
        simp at this
        omega
      rw [hj] at hz
      obtain rfl := Option.some.inj hz
      have : j = i := by omega
      subst this
      exact mono _ _ _ _ _ e5 sD hy
  · rintro H ⟨s1, ys, e2, e3, e4⟩
    exact hd H ys s1 e2 e3 e4
theorem EqV.selfI {K : PySem.W.Frag} {x : V} {H : Hp} {R : (Kd → Bool) → Option Addr → Prop} {n : Nat} (h : isO K x H R) : EqV K H n x x true := by
  cases x with
  | non => exact .flat rfl
  | bl b => exact .flat (by simp [eqF])
  | int i => exact .flat (by simp [eqF])
  | str z => exact .flat (by simp [eqF])
  | ref p => exact .one
  | _ => exact h.elim
theorem lc_prL {K : PySem.W.Frag} {a : Addr} {xs : List V} {g : TG} {tt : TT} {te : TE} {vs : List Nat} {σ : St} {H1 : Hp} {D : Addr} {Qd : Hp → Prop} (Pr : Hp → V → Prop) (h0 : SqL K H1 a xs) (hD : H1 D = none) (hl : xs.length ≤ 1000)
    (mono : ∀ H H' y, (∀ acc, H D = some (.lst acc) → SameBut D H H' → Pr H y → Pr H' y))
    (hs : ∀ x ∈ xs, ∀ H (Q : VK) (R : Hp → Prop), Same H1 H → (∃ acc, H D = some (.lst acc)) → (∀ y H', Same H H' → Pr H' y → Q y H') → (∀ H', Same H H' → R H') → g x (wipe σ vs) H fun σ2 H2 => wipe σ2 vs = wipe σ vs ∧ tt σ2 H2 fun b H3 => if b = true then te σ2 H3 Q else R H3)
    (hd : ∀ H ys, Same H1 H → H D = some (.lst ys) → ys.length ≤ xs.length → (∀ y ∈ ys, Pr H y) → Qd H) :
    ∃ W : Nat → Nat → Hp → Prop, (∃ m, W 0 m (upd H1 D (.lst []))) ∧ ∀ i m H, W i m H →
      ((Itl K a).stop i H ∧ Qd H) ∨ ((Itl K a).go i H ∧ ∃ Nx : Hp → Prop, (∀ H', Nx H' → ∃ m', m' < m ∧ W (i + 1) m' H') ∧ ∀ x H', (Itl K a).yld i H x H' → g x (wipe σ vs) H' fun σ2 H2 => wipe σ2 vs = wipe σ vs ∧ tt σ2 H2 fun b H3 =>
        if b = true then te σ2 H3 fun y H4 => ∃ acc, H4 D = some (.lst acc) ∧ acc.length < sizeLine ∧ Nx (upd H4 D (.lst (acc ++ [y]))) else Nx H3) :=
  lc_pr (fun i x => xs[i]? = some x) Pr walk_list (small1000 hl) mono (fun _ s => Same.seq s h0) hD (fun _ x _ hx => hs x (List.mem_of_getElem? hx)) hd
theorem lc_relL {K : PySem.W.Frag} {a : Addr} {xs : List V} {g : TG} {tt : TT} {te : TE} {vs : List Nat} {σ : St} {H1 : Hp} {D : Addr} {Qd : Hp → Prop} (Rl : Hp → V → V → Prop) (h0 : SqL K H1 a xs) (hD : H1 D = none) (hl : xs.length ≤ 1000)
    (mono : ∀ x H H' y, (∀ acc, H D = some (.lst acc) → SameBut D H H' → Rl H x y → Rl H' x y))
    (hs : ∀ x ∈ xs, ∀ H (Q : VK) (R : Hp → Prop), Same H1 H → (∃ acc, H D = some (.lst acc)) → (∀ y H', Same H H' → Rl H' x y → Q y H') → g x (wipe σ vs) H fun σ2 H2 => wipe σ2 vs = wipe σ vs ∧ tt σ2 H2 fun b H3 => if b = true then te σ2 H3 Q else R H3)
    (hd : ∀ H (ys : List V), Same H1 H → H D = some (.lst ys) → ys.length = xs.length → (∀ (i : Nat) (x y : V), xs[i]? = some x → ys[i]? = some y → Rl H x y) → Qd H) :
    ∃ W : Nat → Nat → Hp → Prop, (∃ m, W 0 m (upd H1 D (.lst []))) ∧ ∀ i m H, W i m H →
      ((Itl K a).stop i H ∧ Qd H) ∨ ((Itl K a).go i H ∧ ∃ Nx : Hp → Prop, (∀ H', Nx H' → ∃ m', m' < m ∧ W (i + 1) m' H') ∧ ∀ x H', (Itl K a).yld i H x H' → g x (wipe σ vs) H' fun σ2 H2 => wipe σ2 vs = wipe σ vs ∧ tt σ2 H2 fun b H3 =>
        if b = true then te σ2 H3 fun y H4 => ∃ acc, H4 D = some (.lst acc) ∧ acc.length < sizeLine ∧ Nx (upd H4 D (.lst (acc ++ [y]))) else Nx H3) :=
  lc_rel (fun i x => xs[i]? = some x) (fun i H y => ∀ x, xs[i]? = some x → Rl H x y) walk_list (small1000 hl) (fun i H H' y acc e s h x hx => mono x H H' y acc e s (h x hx)) (fun _ s => Same.seq s h0) hD
    (fun i x _ hx H Q R s e k => hs x (List.mem_of_getElem? hx) H Q R s e fun y H' s' r => k y H' s' fun x' hx' => by rw [hx] at hx'; cases hx'; exact r) (fun H ys s e l h => hd H ys s e l fun i x y hx hy => h i y hy x hx)
/-- for k in range(n): nothing older than the loop is changed -/
theorem for_rngS {n : Nat} {g : TG} {tb : TS} {D : Ends} {σ : St} {H : Hp} (S : St → Prop) (h0 : S σ)
    (hs : ∀ (i : Nat) σ H', i < n → S σ → Same H H' → g (.int (0 + i)) σ H' fun σ2 H2 => tb { D with nx := fun σ H' => S σ ∧ Same H H', ct := fun σ H' => S σ ∧ Same H H', bk := D.nx } σ2 H2) (hd : ∀ σ H', S σ → Same H H' → D.nx σ H') :
    ∃ W : Nat → Nat → St → Hp → Prop, (∃ m, W 0 m σ H) ∧ ∀ i m σ H, W i m σ H →
      ((Itr 0 n).stop i H ∧ D.nx σ H) ∨ ((Itr 0 n).go i H ∧ ∃ N : St → Hp → Prop, (∀ σ' H', N σ' H' → ∃ m', m' < m ∧ W (i + 1) m' σ' H') ∧ ∀ x H', (Itr 0 n).yld i H x H' → g x σ H' fun σ2 H2 => tb { D with nx := N, ct := N, bk := D.nx } σ2 H2) :=
  for_range (lo := 0) (fun _ σ H' => S σ ∧ Same H H') ⟨h0, Same.refl _⟩ (fun i σ H' hi h => hs i σ H' hi h.1 h.2) (fun σ H' h => hd σ H' h.1 h.2)
theorem i_rep1 {H : Hp} {Q : VK} {p : Addr} {z m : Int} (h1 : H p = some (.lst [.int z])) (h2 : -1000 ≤ m ∧ m ≤ 1000) (h : ∀ q, H q = none → Q (.ref q) (upd H q (.lst ((List.replicate m.toNat z).map V.int)))) : rMulU (.ref p) (.int m) H Q := by
  refine ⟨p, m, _, rfl, rfl, h1, by omega, by omega, line_le (by simp only [List.length_cons, List.length_nil]; omega), fun q hq => ?_⟩
  have e : (List.replicate m.toNat [V.int z]).flatten = (List.replicate m.toNat z).map V.int := by
    generalize m.toNat = k
    induction k with
    | zero => rfl
    | succ k ih => rw [List.replicate_succ, List.flatten_cons, ih]; rfl
  rw [e]
  exact h q hq
theorem nn_rep {z : Int} {k : Nat} (h : 0 ≤ z) : ∀ n ∈ List.replicate k z, 0 ≤ n := fun n hn => by rw [List.eq_of_mem_replicate hn]; exact h
theorem lc_rel2L {K : PySem.W.Frag} {a : Addr} {xs : List V} {g : TG} {tt : TT} {te : TE} {vs : List Nat} {σ : St} {H1 : Hp} {D : Addr} {Qd : Hp → Prop} (Rl : Nat → Hp → V → Prop) (h0 : SqL K H1 a xs) (hD : H1 D = none) (hl : xs.length ≤ 1000)
    (mono : ∀ i H H' y, (∀ acc, H D = some (.lst acc) → SameBut D H H' → Rl i H y → Rl i H' y))
    (hs : ∀ i x, xs[i]? = some x → ∀ H (Q : VK) (R : Hp → Prop), Same H1 H → (∃ acc, H D = some (.lst acc)) → (∀ y H', Same H H' → Rl i H' y → Q y H') → g x (wipe σ vs) H fun σ2 H2 => wipe σ2 vs = wipe σ vs ∧ tt σ2 H2 fun b H3 => if b = true then te σ2 H3 Q else R H3)
    (hd : ∀ H (ys : List V), Same H1 H → H D = some (.lst ys) → ys.length = xs.length → (∀ (i : Nat) (y : V), ys[i]? = some y → Rl i H y) → Qd H) :
    ∃ W : Nat → Nat → Hp → Prop, (∃ m, W 0 m (upd H1 D (.lst []))) ∧ ∀ i m H, W i m H →
      ((Itl K a).stop i H ∧ Qd H) ∨ ((Itl K a).go i H ∧ ∃ Nx : Hp → Prop, (∀ H', Nx H' → ∃ m', m' < m ∧ W (i + 1) m' H') ∧ ∀ x H', (Itl K a).yld i H x H' → g x (wipe σ vs) H' fun σ2 H2 => wipe σ2 vs = wipe σ vs ∧ tt σ2 H2 fun b H3 =>
        if b = true then te σ2 H3 fun y H4 => ∃ acc, H4 D = some (.lst acc) ∧ acc.length < sizeLine ∧ Nx (upd H4 D (.lst (acc ++ [y]))) else Nx H3) :=
  lc_rel (fun i x => xs[i]? = some x) Rl walk_list (small1000 hl) mono (fun _ s => Same.seq s h0) hD (fun i x _ hx => hs i x hx) hd
theorem lc_rel2T {K : PySem.W.Frag} {a : Addr} {xs : List V} {g : TG} {tt : TT} {te : TE} {vs : List Nat} {σ : St} {H1 : Hp} {D : Addr} {Qd : Hp → Prop} (Rl : Nat → Hp → V → Prop) (h0 : SqT K H1 a xs) (hD : H1 D = none) (hl : xs.length ≤ 1000)
    (mono : ∀ i H H' y, (∀ acc, H D = some (.lst acc) → SameBut D H H' → Rl i H y → Rl i H' y))
    (hs : ∀ i x, xs[i]? = some x → ∀ H (Q : VK) (R : Hp → Prop), Same H1 H → (∃ acc, H D = some (.lst acc)) → (∀ y H', Same H H' → Rl i H' y → Q y H') → g x (wipe σ vs) H fun σ2 H2 => wipe σ2 vs = wipe σ vs ∧ tt σ2 H2 fun b H3 => if b = true then te σ2 H3 Q else R H3)
    (hd : ∀ H (ys : List V), Same H1 H → H D = some (.lst ys) → ys.length = xs.length → (∀ (i : Nat) (y : V), ys[i]? = some y → Rl i H y) → Qd H) :
    ∃ W : Nat → Nat → Hp → Prop, (∃ m, W 0 m (upd H1 D (.lst []))) ∧ ∀ i m H, W i m H →
      ((Itt K a).stop i H ∧ Qd H) ∨ ((Itt K a).go i H ∧ ∃ Nx : Hp → Prop, (∀ H', Nx H' → ∃ m', m' < m ∧ W (i + 1) m' H') ∧ ∀ x H', (Itt K a).yld i H x H' → g x (wipe σ vs) H' fun σ2 H2 => wipe σ2 vs = wipe σ vs ∧ tt σ2 H2 fun b H3 =>
        if b = true then te σ2 H3 fun y H4 => ∃ acc, H4 D = some (.lst acc) ∧ acc.length < sizeLine ∧ Nx (upd H4 D (.lst (acc ++ [y]))) else Nx H3) :=
  lc_rel (fun i x => xs[i]? = some x) Rl walk_tup (small1000 hl) mono (fun _ s => SqT.same s h0) hD (fun i x _ hx => hs i x hx) hd
def flatV : V → Bool
  | .non => true
  | .bl _ => true
  | .int _ => true
  | .str _ => true
  | _ => false
theorem EqV.selfB {K : PySem.W.Frag} {x : V} {H : Hp} {n : Nat} (h : flatV x = true) : EqV K H n x x true := by
  cases x <;> first | (cases h; done) | exact .flat (by simp [eqF])
def plainO : HO → Bool
  | .lst _ => true
  | .tup _ => true
  | .dK _ => true
  | .dT _ => true
  | _ => false
theorem EqVs.selfs {K : PySem.W.Frag} {H : Hp} {n : Nat} : ∀ {xs : List V}, (∀ x ∈ xs, EqV K H n x x true) → EqVs K H n xs xs true
  | [], _ => .nil
  | x :: xs, h => .cons (b := true) (c := true) (h x List.mem_cons_self) (EqVs.selfs fun y hy => h y (List.mem_cons_of_mem _ hy))
theorem isO_mono {K : PySem.W.Frag} {x : V} {H : Hp} {R R' : (Kd → Bool) → Option Addr → Prop} (h : isO K x H R) (m : ∀ f c, R f c → R' f c) : isO K x H R' := by
  cases x with
  | ref a =>
    obtain ⟨o, ho, h⟩ := h
    refine ⟨o, ho, ?_⟩
    cases o <;> first | exact m _ _ h | exact h.elim | exact ⟨h.1, h.2.1, m _ _ h.2.2⟩
  | _ => first | exact m _ _ h | exact h.elim
/-- no instance of a class of the text -/
def NoC (K : PySem.W.Frag) (H : Hp) (x : V) : Prop := isO K x H fun _ c => c = none
def NoSeq (K : PySem.W.Frag) (H : Hp) (x : V) : Prop := isO K x H fun f _ => f .lst = false ∧ f .tup = false
theorem isO_same {K : PySem.W.Frag} {x : V} {H H' : Hp} {R : (Kd → Bool) → Option Addr → Prop} (s : Same H H') (h : isO K x H R) : isO K x H' R := by
  cases x with
  | ref a =>
    obtain ⟨o, ho, h⟩ := h
    exact ⟨o, ho.same s, h⟩
  | _ => exact h
theorem NoC.same {K : PySem.W.Frag} {H H' : Hp} {x : V} (s : Same H H') (h : NoC K H x) : NoC K H' x := isO_same s h
theorem NoC.ofG {K : PySem.W.Frag} {H : Hp} {p : Addr} {o : HO} (h : H p = some o) (e : plainO o = true) : NoC K H (.ref p) := by
  refine ⟨o, .of h, ?_⟩
  cases o <;> first | (cases e; done) | rfl
theorem NoC.non {K : PySem.W.Frag} {H : Hp} : NoC K H .non := rfl
theorem NoC.bl {K : PySem.W.Frag} {H : Hp} {b : Bool} : NoC K H (.bl b) := rfl
theorem NoC.int {K : PySem.W.Frag} {H : Hp} {b : Int} : NoC K H (.int b) := rfl
theorem NoC.str {K : PySem.W.Frag} {H : Hp} {b : Str} : NoC K H (.str b) := rfl
theorem EqV.noc {K : PySem.W.Frag} {x : V} {H : Hp} {n : Nat} (h : NoC K H x) : EqV K H n x x true := EqV.selfI h
/-! what is new later is new now -/
theorem none_upd {H : Hp} {p D : Addr} {o : HO} (h : upd H p o D = none) : H D = none := by
  by_cases e : D = p
  · subst e
    rw [upd_same] at h
    cases h
  · rw [upd_ne e] at h
    exact h
theorem none_same {H H' : Hp} {D : Addr} (s : Same H H') (h : H' D = none) : H D = none := by
  cases e : H D with
  | none => rfl
  | some o =>
    have := s _ _ e
    rw [h] at this
    cases this
theorem none_but {H H' : Hp} {p D : Addr} {o : HO} (s : SameBut p H H') (hp : H' p = some o) (h : H' D = none) : H D = none := by
  cases e : H D with
  | none => rfl
  | some o =>
    by_cases c : D = p
    · subst c
      rw [h] at hp
      cases hp
    · have := s _ _ c e
      rw [h] at this
      cases this
section
open PySem.Spec
open PyProof.Rows hiding St
/-! ### xs[::-1] -/
def tRev (K : PySem.W.Frag) (te : TE) (th : TO) : TE := fun σ H Q => te σ H fun x H1 => th σ H1 fun o H2 => o = some (-1) ∧ ∃ a xs, x = .ref a ∧ SqL K H2 a xs ∧ ∀ p, H2 p = none → Q (.ref p) (upd H2 p (.lst xs.reverse))
theorem pe_rev {X : Cx} {e : Expr} {st : Option Expr} {te : TE} {th : TO} {pos p2 : Pos} {K : PySem.W.Frag} (he : PE X e te) (hu : PO X st th) (hs : ∀ a sl : Addr, subscripted (.Slice none none st p2) false (.ref a) (.ref sl) = operate [.ref a, .ref sl] (getItem (.ref a) (.ref sl)) := by intro _ _; rfl) (hK : X.K = K := by rfl) : PE X (.Subscript e (.Slice none none st p2) pos) (tRev K te th) := by
  subst hK
  refine ⟨fun pins s σ H Q I h => ?_⟩
  refine Subscript_ (thn (he.run pins s σ H _ I h) fun v s1 ⟨x, H1, I1, r1, q1⟩ => ?_)
  refine wpAny_Slice ?_
  rw [evalPart_none]
  refine wpAny_pure ?_
  refine wpAny_pure ?_
  refine thn (hu.run pins s1 σ H1 _ I1 q1) fun vu s3 ⟨u, H3, I3, pu, eu, a, xs, ex, hx, q⟩ => ?_
  subst eu
  subst ex
  cases r1
  have I4 : Inv X pins σ H3 { s3 with heap := s3.heap.push { cls := .type "slice", data := .fields #[.none, .none, vu] } } := I3.kept (t' := s3.toks) fun b ob q => Heap.get?_push_of_some _ q
  obtain ⟨its, r, ht, hz⟩ := I4.list hx
  have hlen := r.length
  refine tail_any (ops := [.ref a, .ref s3.heap.objs.size]) ht.isList.typeIs slot_list_getitem.lookup ?_ (hs _ _)
  refine wpAny_getItem_list_slice ht.isList (Heap.IsSliceOf.new ..) .none .none pu (by decide) ?_ (by rw [List.size_toArray] <;> omega)
  rw [PySem.W.krv_pick]
  refine ⟨.ref _, _, I4.laid (t' := s3.toks) (o := .lst xs.reverse) (fun b ob q => Heap.get?_push_of_some _ q) (Nat.le_refl _) ?_, rfl, q _ (I4.hok.fresh (Nat.le_refl _))⟩
  exact ⟨by rw [List.length_reverse]; exact hz, _, 0, r.reverse, Heap.get?_push_size _ rfl⟩
end
theorem i_rev {K : PySem.W.Frag} {te : TE} {th : TO} {σ : St} {H : Hp} {Q : VK} (h : te σ H fun x H1 => th σ H1 fun o H2 => o = some (-1) ∧ ∃ a xs, x = .ref a ∧ SqL K H2 a xs ∧ ∀ p, H2 p = none → Q (.ref p) (upd H2 p (.lst xs.reverse))) : tRev K te th σ H Q := h
theorem i_revL {K : PySem.W.Frag} {H : Hp} {a : Addr} {xs : List V} {n : Int} {R : Addr → List V → Prop} (e : n = -1) (h1 : SqL K H a xs) (h : R a xs) : some n = some (-1) ∧ ∃ b xs, V.ref a = .ref b ∧ SqL K H b xs ∧ R b xs := ⟨by rw [e], a, xs, rfl, h1, h⟩
theorem NoSeq.same {K : PySem.W.Frag} {H H' : Hp} {x : V} (s : Same H H') (h : NoSeq K H x) : NoSeq K H' x := isO_same s h
theorem NoSeq.flat {K : PySem.W.Frag} {H : Hp} {x : V} (h : flatV x = true) : NoSeq K H x := by
  cases x <;> first | (cases h; done) | exact ⟨rfl, rfl⟩
theorem NoSeq.dict {K : PySem.W.Frag} {H : Hp} {p : Addr} {kvs : List (Key × V)} (h : H p = some (.dK kvs)) : NoSeq K H (.ref p) := ⟨_, .of h, rfl, rfl⟩
theorem NoSeq.inst {K : PySem.W.Frag} {H : Hp} {p C dx : Addr} {fs : List (Str × V)} (h : H p = some (.ins C dx fs)) (c : Cls K C) (i : IsC K C) : NoSeq K H (.ref p) := ⟨_, .of h, c, i, rfl, rfl⟩
theorem NoC.flat {K : PySem.W.Frag} {H : Hp} {x : V} (h : flatV x = true) : NoC K H x := by
  cases x <;> first | (cases h; done) | rfl
theorem NoC.sqL {K : PySem.W.Frag} {H : Hp} {p : Addr} {xs : List V} (h : SqL K H p xs) : NoC K H (.ref p) := ⟨.lst xs, h, rfl⟩
theorem NoC.sqT {K : PySem.W.Frag} {H : Hp} {p : Addr} {xs : List V} (h : SqT K H p xs) : NoC K H (.ref p) := ⟨.tup xs, h, rfl⟩
theorem i_isiBsN {K : PySem.W.Frag} {H : Hp} {Q : VK} {x : V} {p : Addr} (h0 : H p = some (.tup ([Kd.lst, Kd.tup].map fun d => .ty d.name))) (hn : NoSeq K H x) (h : Q (.bl false) H) : rIsiBs [.lst, .tup] K [x, .ref p] H Q := by
  refine ⟨x, p, rfl, h0, isO_mono hn fun f c e => ?_⟩
  have ea : [Kd.lst, Kd.tup].any f = false := by simp [e.1, e.2]
  rw [ea]
  exact h
theorem i_isiLN {K : PySem.W.Frag} {H : Hp} {Q : VK} {x : V} (hn : NoSeq K H x) (h : Q (.bl false) H) : rIsiB .lst K [x, .ty "list"] H Q := ⟨x, rfl, isO_mono hn fun f c e => by rw [e.1]; exact h⟩
theorem i_isiTN {K : PySem.W.Frag} {H : Hp} {Q : VK} {x : V} (hn : NoSeq K H x) (h : Q (.bl false) H) : rIsiB .tup K [x, .ty "tuple"] H Q := ⟨x, rfl, isO_mono hn fun f c e => by rw [e.2]; exact h⟩
theorem i_isiCN {K : PySem.W.Frag} {H : Hp} {Q : VK} {x : V} {C : Addr} (hn : NoC K H x) (h : Q (.bl false) H) : rIsiC C K [x, .ref C] H Q := ⟨x, rfl, isO_mono hn fun f c e => by subst e; exact h⟩
/-- for x in a tuple: nothing older than the loop is changed -/
theorem for_seqI {K : PySem.W.Frag} {a : Addr} {xs : List V} {g : TG} {tb : TS} {D : Ends} {σ : St} {H : Hp} (Pv : Nat → St → Hp → Prop) (hT : SqT K H a xs) (h0 : Pv 0 σ H)
    (hs : ∀ (i : Nat) x σ H', xs[i]? = some x → Same H H' → Pv i σ H' → g x σ H' fun σ2 H2 => tb { D with nx := fun σ H' => Same H H' ∧ Pv (i + 1) σ H', ct := fun σ H' => Same H H' ∧ Pv (i + 1) σ H', bk := D.nx } σ2 H2) (hd : ∀ σ H', Same H H' → Pv xs.length σ H' → D.nx σ H') :
    ∃ W : Nat → Nat → St → Hp → Prop, (∃ m, W 0 m σ H) ∧ ∀ i m σ H, W i m σ H →
      ((Itt K a).stop i H ∧ D.nx σ H) ∨ ((Itt K a).go i H ∧ ∃ N : St → Hp → Prop, (∀ σ' H', N σ' H' → ∃ m', m' < m ∧ W (i + 1) m' σ' H') ∧ ∀ x H', (Itt K a).yld i H x H' → g x σ H' fun σ2 H2 => tb { D with nx := N, ct := N, bk := D.nx } σ2 H2) :=
  for_tup (xs := xs) (fun i σ H' => Same H H' ∧ Pv i σ H') ⟨Same.refl _, h0⟩ (fun _ _ _ _ h => SqT.same h.1 hT) (fun i y σ H' hi h => hs i y σ H' hi h.1 h.2) (fun σ H' h => hd σ H' h.1 h.2)
theorem for_seqL {K : PySem.W.Frag} {a : Addr} {xs : List V} {g : TG} {tb : TS} {D : Ends} {σ : St} {H : Hp} (Pv : Nat → St → Hp → Prop) (hT : SqL K H a xs) (h0 : Pv 0 σ H)
    (hs : ∀ (i : Nat) x σ H', xs[i]? = some x → Same H H' → Pv i σ H' → g x σ H' fun σ2 H2 => tb { D with nx := fun σ H' => Same H H' ∧ Pv (i + 1) σ H', ct := fun σ H' => Same H H' ∧ Pv (i + 1) σ H', bk := D.nx } σ2 H2) (hd : ∀ σ H', Same H H' → Pv xs.length σ H' → D.nx σ H') :
    ∃ W : Nat → Nat → St → Hp → Prop, (∃ m, W 0 m σ H) ∧ ∀ i m σ H, W i m σ H →
      ((Itl K a).stop i H ∧ D.nx σ H) ∨ ((Itl K a).go i H ∧ ∃ N : St → Hp → Prop, (∀ σ' H', N σ' H' → ∃ m', m' < m ∧ W (i + 1) m' σ' H') ∧ ∀ x H', (Itl K a).yld i H x H' → g x σ H' fun σ2 H2 => tb { D with nx := N, ct := N, bk := D.nx } σ2 H2) :=
  for_list (xs := xs) (fun i σ H' => Same H H' ∧ Pv i σ H') ⟨Same.refl _, h0⟩ (fun _ _ _ _ h => Same.seq h.1 hT) (fun i y σ H' hi h => hs i y σ H' hi h.1 h.2) (fun σ H' h => hd σ H' h.1 h.2)
theorem i_nn {R : Prop} (h : R) : V.non = V.non ∧ R := ⟨rfl, h⟩
/-- a tuple of these ints -/
def TpAt (K : PySem.W.Frag) (H : Hp) (y : V) (ns : List Int) : Prop := ∃ t, y = .ref t ∧ SqT K H t (ns.map V.int)
theorem EqVs.ints {K : PySem.W.Frag} {H : Hp} {n : Nat} (ns : List Int) : EqVs K H n (ns.map V.int) (ns.map V.int) true := EqVs.selfs fun x hx => by
  obtain ⟨i, _, rfl⟩ := List.mem_map.mp hx
  exact .selfB rfl
theorem EqV.tp {K : PySem.W.Frag} {H : Hp} {n : Nat} {x y : V} {ns : List Int} (h1 : TpAt K H x ns) (h2 : TpAt K H y ns) : EqV K H (n + 1) x y true := by
  obtain ⟨t, rfl, h1⟩ := h1
  obtain ⟨u, rfl, h2⟩ := h2
  by_cases e : t = u
  · subst e
    exact .one
  · exact .tups e h1 h2 (.ints ns)
theorem EqVs.of_at {K : PySem.W.Frag} {H : Hp} {n : Nat} : ∀ {xs ys : List V}, xs.length = ys.length → (∀ (i : Nat) x y, xs[i]? = some x → ys[i]? = some y → EqV K H n x y true) → EqVs K H n xs ys true
  | [], [], _, _ => .nil
  | [], _ :: _, l, _ => by cases l
  | _ :: _, [], l, _ => by cases l
  | x :: xs, y :: ys, l, h => .cons (b := true) (c := true) (h 0 x y rfl rfl) (EqVs.of_at (Nat.succ.inj l) fun i u v h1 h2 => h (i + 1) u v h1 h2)
theorem line_lt {n : Nat} (h : n ≤ 16000000) : n < sizeLine := Nat.lt_of_le_of_lt h (by decide)
theorem EqV.selfA {K : PySem.W.Frag} {x : V} {H : Hp} {n : Nat} (h : Kn K H x) : EqV K H n x x true := by
  cases x <;> first | exact h.elim | exact .selfB rfl | exact .one
theorem lc_noneT {K : PySem.W.Frag} {a : Addr} {xs : List V} {g : TG} {tt : TT} {te : TE} {vs : List Nat} {σ : St} {H1 : Hp} {D : Addr} {Qd : Hp → Prop} (h0 : SqT K H1 a xs) (hl : xs.length ≤ 1000) (hD : H1 D = none)
    (hs : ∀ x ∈ xs, ∀ H (Q : VK) (R : Hp → Prop), Same H1 H → (∀ H', Same H H' → R H') → g x (wipe σ vs) H fun σ2 H2 => wipe σ2 vs = wipe σ vs ∧ tt σ2 H2 fun b H3 => if b = true then te σ2 H3 Q else R H3)
    (hd : ∀ H, Same H1 H → H D = some (.lst []) → Qd H) :
    ∃ W : Nat → Nat → Hp → Prop, (∃ m, W 0 m (upd H1 D (.lst []))) ∧ ∀ i m H, W i m H →
      ((Itt K a).stop i H ∧ Qd H) ∨ ((Itt K a).go i H ∧ ∃ Nx : Hp → Prop, (∀ H', Nx H' → ∃ m', m' < m ∧ W (i + 1) m' H') ∧ ∀ x H', (Itt K a).yld i H x H' → g x (wipe σ vs) H' fun σ2 H2 => wipe σ2 vs = wipe σ vs ∧ tt σ2 H2 fun b H3 =>
        if b = true then te σ2 H3 fun y H4 => ∃ acc, H4 D = some (.lst acc) ∧ acc.length < sizeLine ∧ Nx (upd H4 D (.lst (acc ++ [y]))) else Nx H3) :=
  lc_fm xs (fun _ => none) walk_tup (small1000 hl) (fun _ s => SqT.same s h0) hD hs (fun H s e => hd H s (by rw [e]; simp))
theorem for_predH {K : PySem.W.Frag} {a : Addr} {xs : List V} {g : TG} {tb : TS} {D : Ends} {σ : St} {H : Hp} (S : St → Hp → Prop) (Pr : Hp → V → Prop) (hL : SqL K H a xs) (hp : ∀ y ∈ xs, Pr H y) (h0 : S σ H)
    (hs : ∀ y σ H', Pr H y → S σ H' → Same H H' → g y σ H' fun σ2 H2 => tb { D with nx := fun σ H' => S σ H' ∧ Same H H', ct := fun σ H' => S σ H' ∧ Same H H', bk := D.nx } σ2 H2) (hd : ∀ σ H', S σ H' → Same H H' → D.nx σ H') :
    ∃ W : Nat → Nat → St → Hp → Prop, (∃ m, W 0 m σ H) ∧ ∀ i m σ H, W i m σ H →
      ((Itl K a).stop i H ∧ D.nx σ H) ∨ ((Itl K a).go i H ∧ ∃ N : St → Hp → Prop, (∀ σ' H', N σ' H' → ∃ m', m' < m ∧ W (i + 1) m' σ' H') ∧ ∀ x H', (Itl K a).yld i H x H' → g x σ H' fun σ2 H2 => tb { D with nx := N, ct := N, bk := D.nx } σ2 H2) :=
  for_list (xs := xs) (fun _ σ H' => S σ H' ∧ Same H H') ⟨h0, Same.refl _⟩ (fun _ _ _ _ h => Same.seq h.2 hL) (fun _ y σ H' hi h => hs y σ H' (hp y (List.mem_of_getElem? hi)) h.1 h.2) (fun σ H' h => hd σ H' h.1 h.2)
theorem EqV.nos {K : PySem.W.Frag} {x : V} {H : Hp} {n : Nat} (h : NoSeq K H x) : EqV K H n x x true := EqV.selfI h
theorem for_butL {K : PySem.W.Frag} {a p : Addr} {xs : List V} {g : TG} {tb : TS} {D : Ends} {σ : St} {H : Hp} (Pv : Nat → St → Hp → Prop) (hT : ∀ H', SameBut p H H' → SqL K H' a xs) (h0 : Pv 0 σ H)
    (hs : ∀ (i : Nat) x σ H', xs[i]? = some x → SameBut p H H' → Pv i σ H' → g x σ H' fun σ2 H2 => tb { D with nx := fun σ H' => SameBut p H H' ∧ Pv (i + 1) σ H', ct := fun σ H' => SameBut p H H' ∧ Pv (i + 1) σ H', bk := D.nx } σ2 H2) (hd : ∀ σ H', SameBut p H H' → Pv xs.length σ H' → D.nx σ H') :
    ∃ W : Nat → Nat → St → Hp → Prop, (∃ m, W 0 m σ H) ∧ ∀ i m σ H, W i m σ H →
      ((Itl K a).stop i H ∧ D.nx σ H) ∨ ((Itl K a).go i H ∧ ∃ N : St → Hp → Prop, (∀ σ' H', N σ' H' → ∃ m', m' < m ∧ W (i + 1) m' σ' H') ∧ ∀ x H', (Itl K a).yld i H x H' → g x σ H' fun σ2 H2 => tb { D with nx := N, ct := N, bk := D.nx } σ2 H2) :=
  for_list (xs := xs) (fun i σ H' => SameBut p H H' ∧ Pv i σ H') ⟨SameBut.refl _ _, h0⟩ (fun _ _ _ _ h => hT _ h.1) (fun i y σ H' hi h => hs i y σ H' hi h.1 h.2) (fun σ H' h => hd σ H' h.1 h.2)
theorem for_butT {K : PySem.W.Frag} {a p : Addr} {xs : List V} {g : TG} {tb : TS} {D : Ends} {σ : St} {H : Hp} (Pv : Nat → St → Hp → Prop) (hT : ∀ H', SameBut p H H' → SqT K H' a xs) (h0 : Pv 0 σ H)
    (hs : ∀ (i : Nat) x σ H', xs[i]? = some x → SameBut p H H' → Pv i σ H' → g x σ H' fun σ2 H2 => tb { D with nx := fun σ H' => SameBut p H H' ∧ Pv (i + 1) σ H', ct := fun σ H' => SameBut p H H' ∧ Pv (i + 1) σ H', bk := D.nx } σ2 H2) (hd : ∀ σ H', SameBut p H H' → Pv xs.length σ H' → D.nx σ H') :
    ∃ W : Nat → Nat → St → Hp → Prop, (∃ m, W 0 m σ H) ∧ ∀ i m σ H, W i m σ H →
      ((Itt K a).stop i H ∧ D.nx σ H) ∨ ((Itt K a).go i H ∧ ∃ N : St → Hp → Prop, (∀ σ' H', N σ' H' → ∃ m', m' < m ∧ W (i + 1) m' σ' H') ∧ ∀ x H', (Itt K a).yld i H x H' → g x σ H' fun σ2 H2 => tb { D with nx := N, ct := N, bk := D.nx } σ2 H2) :=
  for_tup (xs := xs) (fun i σ H' => SameBut p H H' ∧ Pv i σ H') ⟨SameBut.refl _ _, h0⟩ (fun _ _ _ _ h => hT _ h.1) (fun i y σ H' hi h => hs i y σ H' hi h.1 h.2) (fun σ H' h => hd σ H' h.1 h.2)
/-- no tuple -/
def NoTup (K : PySem.W.Frag) (H : Hp) (x : V) : Prop := isO K x H fun f _ => f .tup = false
theorem NoTup.same {K : PySem.W.Frag} {H H' : Hp} {x : V} (s : Same H H') (h : NoTup K H x) : NoTup K H' x := isO_same s h
theorem NoTup.seq {K : PySem.W.Frag} {H : Hp} {x : V} (h : NoSeq K H x) : NoTup K H x := isO_mono h fun _ _ e => e.2
theorem NoTup.lst {K : PySem.W.Frag} {H : Hp} {p : Addr} {xs : List V} (h : SqL K H p xs) : NoTup K H (.ref p) := ⟨.lst xs, h, rfl⟩
theorem i_isiTN2 {K : PySem.W.Frag} {H : Hp} {Q : VK} {x : V} (hn : NoTup K H x) (h : Q (.bl false) H) : rIsiB .tup K [x, .ty "tuple"] H Q := ⟨x, rfl, isO_mono hn fun f c e => by rw [e]; exact h⟩
/-- two lists, place by place -/
def All2 {α β : Type} (R : α → β → Prop) (xs : List α) (ys : List β) : Prop := xs.length = ys.length ∧ ∀ (i : Nat) x y, xs[i]? = some x → ys[i]? = some y → R x y
theorem All2.mono {α β : Type} {R R' : α → β → Prop} {xs : List α} {ys : List β} (h : All2 R xs ys) (m : ∀ x y, R x y → R' x y) : All2 R' xs ys := ⟨h.1, fun i x y h1 h2 => m x y (h.2 i x y h1 h2)⟩
theorem All2.get {α β : Type} {R : α → β → Prop} {xs : List α} {ys : List β} (h : All2 R xs ys) {i : Nat} {x : α} (e : xs[i]? = some x) : ∃ y, ys[i]? = some y ∧ R x y := by
  have hi := (List.getElem?_eq_some_iff.mp e).1
  have hj : i < ys.length := h.1 ▸ hi
  exact ⟨ys[i], List.getElem?_eq_getElem hj, h.2 i x _ e (List.getElem?_eq_getElem hj)⟩
theorem All2.swap {α β : Type} {R : α → β → Prop} {xs : List α} {ys : List β} (h : All2 R xs ys) : All2 (fun y x => R x y) ys xs := ⟨h.1.symm, fun i y x h1 h2 => h.2 i x y h2 h1⟩
theorem All2.nil {α β : Type} {R : α → β → Prop} : All2 R [] [] := ⟨rfl, fun i x y h => by simp at h⟩
theorem All2.cons {α β : Type} {R : α → β → Prop} {x : α} {y : β} {xs : List α} {ys : List β} (h : R x y) (t : All2 R xs ys) : All2 R (x :: xs) (y :: ys) := by
  refine ⟨by rw [List.length_cons, List.length_cons, t.1], fun i u v h1 h2 => ?_⟩
  cases i with
  | zero => cases h1; cases h2; exact h
  | succ i => exact t.2 i u v h1 h2
theorem All2.append {α β : Type} {R : α → β → Prop} {xs xs' : List α} {ys ys' : List β} (h : All2 R xs ys) (t : All2 R xs' ys') : All2 R (xs ++ xs') (ys ++ ys') := by
  refine ⟨by rw [List.length_append, List.length_append, h.1, t.1], fun i u v h1 h2 => ?_⟩
  by_cases c : i < xs.length
  · rw [List.getElem?_append_left c] at h1
    rw [List.getElem?_append_left (h.1 ▸ c)] at h2
    exact h.2 i u v h1 h2
  · rw [List.getElem?_append_right (by omega)] at h1
    rw [List.getElem?_append_right (by have := h.1; omega), ← h.1] at h2
    exact t.2 _ u v h1 h2
theorem All2.take {α β : Type} {R : α → β → Prop} {xs : List α} {ys : List β} (h : All2 R xs ys) (n : Nat) : All2 R (xs.take n) (ys.take n) := by
  refine ⟨by rw [List.length_take, List.length_take, h.1], fun i u v h1 h2 => ?_⟩
  rw [List.getElem?_take] at h1 h2
  split at h1
  · rename_i c
    rw [if_pos c] at h2
    exact h.2 i u v h1 h2
  · cases h1
theorem All2.drop {α β : Type} {R : α → β → Prop} {xs : List α} {ys : List β} (h : All2 R xs ys) (n : Nat) : All2 R (xs.drop n) (ys.drop n) := by
  refine ⟨by rw [List.length_drop, List.length_drop, h.1], fun i u v h1 h2 => ?_⟩
  rw [List.getElem?_drop] at h1 h2
  exact h.2 _ u v h1 h2
theorem All2.rev {α β : Type} {R : α → β → Prop} {xs : List α} {ys : List β} (h : All2 R xs ys) : All2 R xs.reverse ys.reverse := by
  refine ⟨by rw [List.length_reverse, List.length_reverse, h.1], fun i u v h1 h2 => ?_⟩
  have hi := (List.getElem?_eq_some_iff.mp h1).1
  rw [List.length_reverse] at hi
  have e := h.1
  rw [List.getElem?_reverse hi] at h1
  rw [List.getElem?_reverse (by omega), ← e] at h2
  exact h.2 _ u v h1 h2
end My
/-! own classes under the language's own words: len(x), str(x), repr(x), f"{x}", x == y, x != y. -/
namespace My
open PySem L2
section
variable {X : Cx} {CX : CXT} {n : Nat} {f C : Addr} {fd : FuncData} {ps : List Str} {sp : Sp} {E : XK}
/-- an own def run from within a word of the language -/
theorem run_own {A : Around} {pins : List (Addr × Obj)} {σ : St} {H : Hp} {s : Shared} {Q : VK} {vs : List V} {us : List Value} (F : FnOk X.prog X.w X.K X.mg X.base CX n f fd ps sp) (hb : Binds X.K fd ps []) (hx : Passes CX X E) (sb : Sub X n A) (I : Inv X pins σ H s)
    (rv : Vals vs us) (h : sp vs H Q E) : wpAny (model X.prog X.w) A (call (.ref f) us) (EP X pins σ Q) X.xe s := by
  have e0 : Env0 X.prog X.w X.K X.mg X.base A X.stack s H := by
    have e := I.env0
    exact ⟨by rw [sb.fr]; exact e.frames, e.mod, e.bs, e.bsz, e.funs, e.frf, e.hok, e.bare⟩
  have hl := F.len _ _ _ _ h
  refine wpAny_call (codeAny_mono (F.run A X.stack s H ⟨us, []⟩ us vs Q E sb.room e0 (by
    have := hb s us I.kIn (by rw [List.append_nil, ← rv.length]; exact hl)
    rw [List.append_nil] at this
    exact this) rv h) fun r s' hq => ?_)
  cases r with
  | error e => exact hx pins σ H s e s' I hq
  | ok fl =>
    cases fl with
    | ret w =>
      obtain ⟨z, H', I', rz, q⟩ := I.after hq
      exact ⟨z, H', I', rz, q⟩
    | next => exact False.elim hq
    | brk => exact False.elim hq
    | cont => exact False.elim hq
/-- len(x), str(x), repr(x): x of C, whose own word is sp -/
def rLenO (C : Addr) (sp : Sp) (E : XK) : List V → Hp → VK → Prop := fun xs H Q => ∃ a dx fs, xs = [.ref a] ∧ H a = some (.ins C dx fs) ∧ sp [.ref a] H (fun v H' => ∃ k : Int, v = .int k ∧ (0 ≤ k ∧ k < 2 ^ 63) ∧ Q (.int k) H') E
def rStrO (C : Addr) (sp : Sp) (E : XK) : List V → Hp → VK → Prop := fun xs H Q => ∃ a dx fs, xs = [.ref a] ∧ H a = some (.ins C dx fs) ∧ sp [.ref a] H (fun v H' => ∃ z : Str, v = .str z ∧ Q (.str z) H') E
theorem call_lenO (m : Meth X.K C "__len__" f) (F : FnOk X.prog X.w X.K X.mg X.base CX n f fd ps sp) (hr : Room (n + 1) X.A) (hb : Binds X.K fd ps []) (hx : Passes CX X E) : CallR X (.builtin "len") (rLenO C sp E) := by
  intro pins s σ H xs us Q I r h
  obtain ⟨a, dx, fs, rfl, ha, h⟩ := h
  obtain ⟨u, rfl, rx⟩ := vals1 r
  cases rx
  obtain ⟨mA, J, _⟩ := ins_get I.hok ha
  obtain ⟨od, J, _⟩ := J.look
  obtain ⟨mm, hF⟩ := I.fr
  refine PySem.W.len_K hF I.ok.mod.kin J m.at_ m.fn (wpAny_mono (run_own F hb hx ⟨hr.in1, rfl⟩ I (show Vals [V.ref a] [Value.ref a] from .cons rfl .nil) h) (fun v s' q => ?_) fun _ _ z => z)
  obtain ⟨x, H', I', rx, k, rfl, hk, q⟩ := q
  obtain ⟨t, rfl⟩ : ∃ t, v = Value.int k t := rx
  exact ⟨hk, .int k, H', I'.tok _, ⟨_, rfl⟩, q⟩
theorem call_strO (m : Meth X.K C "__str__" f) (F : FnOk X.prog X.w X.K X.mg X.base CX n f fd ps sp) (hr : Room (n + 2) X.A) (hb : Binds X.K fd ps []) (hx : Passes CX X E) : CallR X (.type "str") (rStrO C sp E) := by
  intro pins s σ H xs us Q I r h
  obtain ⟨a, dx, fs, rfl, ha, h⟩ := h
  obtain ⟨u, rfl, rx⟩ := vals1 r
  cases rx
  obtain ⟨mA, J, _⟩ := ins_get I.hok ha
  obtain ⟨od, J, _⟩ := J.look
  refine PySem.W.kso_call hr.in1.in1.units0 I.kIn J m.at_ m.fn (wpAny_mono (run_own F hb hx ⟨hr.in1.in1, rfl⟩ I (show Vals [V.ref a] [Value.ref a] from .cons rfl .nil) h) (fun v s' q => ?_) fun _ _ z => z)
  obtain ⟨x, H', I', rx, z, rfl, q⟩ := q
  obtain ⟨t, rfl⟩ : ∃ t, v = Value.str z t := rx
  exact ⟨.str z, H', I', ⟨_, rfl⟩, q⟩
theorem call_reprO (m : Meth X.K C "__repr__" f) (F : FnOk X.prog X.w X.K X.mg X.base CX n f fd ps sp) (hr : Room (n + 1) X.A) (hb : Binds X.K fd ps []) (hx : Passes CX X E) : CallR X (.builtin "repr") (rStrO C sp E) := by
  intro pins s σ H xs us Q I r h
  obtain ⟨a, dx, fs, rfl, ha, h⟩ := h
  obtain ⟨u, rfl, rx⟩ := vals1 r
  cases rx
  obtain ⟨mA, J, _⟩ := ins_get I.hok ha
  obtain ⟨od, J, _⟩ := J.look
  obtain ⟨mm, hF⟩ := I.fr
  refine PySem.W.repr_K hr.in1.units0 hF I.ok.mod.kin J m.at_ m.fn (wpAny_mono (run_own F hb hx ⟨hr.in1, rfl⟩ I (show Vals [V.ref a] [Value.ref a] from .cons rfl .nil) h) (fun v s' q => ?_) fun _ _ z => z)
  obtain ⟨x, H', I', rx, z, rfl, q⟩ := q
  obtain ⟨t, rfl⟩ : ∃ t, v = Value.str z t := rx
  exact ⟨.str z, H', I', ⟨_, rfl⟩, q⟩
end
section
open PySem.W Builtin PySem.Calls
open PyProof.Rows hiding St
variable {prog : Program} {w : World} {A : Around} {E : Value → Shared → Prop} {s : Shared} {K : Frag} {x C L f : Addr} {h₀ : Heap} {m : Str → Option Value} {ox : Obj} {od : Option Obj} {b tb : Value}
theorem ifBound_B {M : Model} {name : Str} {id : String} {args : List Value} {Q : Option Value → Shared → Prop} (X : K.In s.heap) (I : InstAt s.heap x ox C od) (hs : findIn K (.ref C) name = some (some (.builtin id))) (hb : ∀ self, bindSpecial (.builtin id) self = pure (.builtin id, [self]))
    (h : wpAny M A (call (.builtin id) (.ref x :: args)) (fun v => Q (some v)) E s) : wpAny M A (callSpecialIfBound? (.ref x) name args) Q E s := by
  simp only [callSpecialIfBound?, bindSpecialIfBound?]
  refine wpAny_holding (wpAny_bind (wpAny_bind (wpAny_bind (I.type.here ((looks_findIn X hs).here ?_)))))
  refine wpAny_bind (wpAny_askSetting (wpAny_ite ?_))
  have fin : wpAny M A (call (.builtin id) ([.ref x] ++ args) >>= fun v => pure (some v)) Q E s := wpAny_bind (wpAny_mono h (fun v s' h' => wpAny_pure h') fun _ _ h' => h')
  split
  · exact wpAny_bind ((Looks.of_pure (hb _)).here (wpAny_pure (by exact fin)))
  · exact wpAny_tryCatch (wpAny_bind ((Looks.of_pure (hb _)).here (wpAny_pure (by exact fin))))
/-- x != y by an own __eq__ -/
theorem ne_K {Q : Value → Shared → Prop} (hu : A.in1.units < cLine) (hu0 : A.units < cLine) (F : Fr h₀ L s.heap m) (X₀ : K.In h₀) (I : InstAt s.heap x ox C od) (hb : Looks (model prog w) s.heap (typeOf b) tb) (hn : notFirst K C tb = true)
    (hs : findIn K (.ref C) "__ne__" = some (some (.builtin "object.__ne__"))) (ho : mroIn K C (.type "object") = some true) (he : findIn K (.ref C) "__eq__" = some (some (.ref f))) (hf : isFn K (.ref f) = true)
    (h : wpAny (model prog w) A.in1 (call (.ref f) [.ref x, b]) (fun v s' => ∃ k, v = .bool k ∧ Q (.bool (!k)) s') E s) : wpAny (model prog w) A (richCompare .NotEq (.ref x) b) Q E s := by
  have X := X₀.keeps F.keep
  have body : wpAny (model prog w) A (call (.builtin "object.__ne__") [.ref x, b]) (fun v s' => v ≠ .notImplemented ∧ Q v s') E s := by
    refine wpAny_call (codeAny_call_builtin (by decide +kernel) PySem.F.cmpEntry_ne (check_slot (i := "object.__ne__") (owner := "object") (n := "__ne__") (by decide +kernel) (by decide +kernel) (I.type.andThen (looks_mroIn X ho)) (PySem.F.cmpArgs_ne _ _) ?_))
    unfold Builtin.«object.__ne__»
    refine wpAny_bind (m := slotArgs "__ne__" 1 _) (wpAny_pure ?_)
    refine wpAny_bind (m := cRoomFor _ _) (wpAny_cRoomFor hu ?_)
    refine wpAny_bind (m := callSpecialIfBound? (.ref x) (Str.ofString "__eq__") _) (ifBound_K X I he hf (wpAny_mono h (fun r s' hq => ?_) fun _ _ y => y))
    obtain ⟨k, rfl, hq⟩ := hq
    refine wpAny_bind (m := truthy (.bool _)) (wpAny_truthy_bool ?_)
    exact wpAny_pure ⟨(by intro z; cases z), hq⟩
  have one : wpAny (model prog w) A (tryCompare (.ref x) (cmpInfo .NotEq).2.1 b) (fun r s' => ∃ v, r = some v ∧ Q v s') E s := by
    unfold tryCompare
    refine wpAny_bind (ifBound_B X I hs PySem.F.cmp_object.ne.bind (wpAny_mono body (fun v s' hv => ?_) fun _ _ e => e))
    obtain ⟨hv, hq⟩ := hv
    cases v <;> first | exact absurd rfl hv | exact wpAny_pure ⟨_, rfl, hq⟩
  unfold richCompare
  simp only [oneThing_ref]
  refine wpAny_holding (wpAny_bind (wpAny_cRoomFor hu0 ?_))
  refine wpAny_bind (I.type.here (wpAny_bind (hb.here ?_)))
  split
  · rename_i q
    have e : subIn K tb (.ref C) = some false := by
      rcases Bool.or_eq_true_iff.mp hn with e | e
      · rw [beq_iff_eq.mp e] at q; simp at q
      · exact beq_iff_eq.mp e
    refine wpAny_bind ((looks_subIn X e).here ?_)
    simp only [Bool.false_eq_true, if_false]
    refine wpAny_bind (wpAny_mono one (fun r s' z => ?_) fun _ _ e => e)
    obtain ⟨v, rfl, hq⟩ := z
    exact wpAny_pure hq
  · refine wpAny_bind (wpAny_pure ?_)
    simp only [Bool.false_eq_true, if_false]
    refine wpAny_bind (wpAny_mono one (fun r s' z => ?_) fun _ _ e => e)
    obtain ⟨v, rfl, hq⟩ := z
    exact wpAny_pure hq
end
/-- the built-in classes stand not under C -/
def EqC (K : PySem.W.Frag) (C : Addr) : Prop := ∀ t : String, t ∈ ["NoneType", "int", "bool", "str", "list", "tuple", "dict"] → PySem.W.subIn K (.type t) (.ref C) = some false
/-- x == y, x != y: x of C, whose own == is sp -/
def rEqO (K : PySem.W.Frag) (C : Addr) (sp : Sp) (E : XK) (neg : Bool) : R2 := fun x y H Q => ∃ a dx fs, x = .ref a ∧ H a = some (.ins C dx fs) ∧ isO K y H (fun _ c => c = none ∨ c = some C) ∧ sp [x, y] H (fun v H' => ∃ b, v = .bl b ∧ Q (.bl (if neg then !b else b)) H') E
section
variable {X : Cx} {CX : CXT} {n : Nat} {f C : Addr} {fd : FuncData} {ps : List Str} {sp : Sp} {E : XK}
theorem ty_looks {pins : List (Addr × Obj)} {σ : St} {H : Hp} {s : Shared} {y : V} {u : Value} (q : EqC X.K C) (I : Inv X pins σ H s) (ry : RelV y u) (h : isO X.K y H (fun _ c => c = none ∨ c = some C)) :
    ∃ t, PySem.W.Looks (model X.prog X.w) s.heap (typeOf u) t ∧ PySem.W.notFirst X.K C t = true := by
  obtain ⟨t, f, c, ty, hc, _, e⟩ := isO_ty h
  obtain ⟨P, kx, hp, _⟩ := kit_of I ry ty
  refine ⟨t, kx.ty _ _ I.kIn hp, ?_⟩
  unfold PySem.W.notFirst
  rcases e with ⟨_, n, rfl, hn⟩ | ⟨D, rfl, rfl, _⟩
  · rw [q n hn]
    simp
  · rcases hc with hc | hc
    · cases hc
    · cases hc
      simp
theorem op_eqO {K : PySem.W.Frag} (m : Meth X.K C "__eq__" f) (F : FnOk X.prog X.w X.K X.mg X.base CX n f fd ps sp) (hr : Room (n + 1) X.A) (hb : Binds X.K fd ps []) (hx : Passes CX X E) (q : EqC X.K C) (hK : X.K = K := by rfl) : OpR X (compareOp .Eq) (rEqO K C sp E false) := by
  subst hK
  intro pins s σ H x y v u Q I rx ry h
  obtain ⟨a, dx, fs, rfl, ha, hy, h⟩ := h
  cases rx
  obtain ⟨mA, J, _⟩ := ins_get I.hok ha
  obtain ⟨od, J, _⟩ := J.look
  obtain ⟨mm, hF⟩ := I.fr
  obtain ⟨t, hl, hn⟩ := ty_looks q I ry hy
  show wpAny (model X.prog X.w) X.A (richCompare .Eq (.ref a) u) (EP X pins σ Q) X.xe s
  refine PySem.W.cmp_K (op := .Eq) hr.units0 hF I.ok.mod.kin J hl hn m.at_ m.fn (wpAny_mono (run_own F hb hx ⟨hr.mono (Nat.le_succ _), rfl⟩ I (show Vals [V.ref a, y] [Value.ref a, u] from .cons rfl (.cons ry .nil)) h) (fun v s' z => ?_) fun _ _ z => z)
  obtain ⟨x, H', I', rx, b, rfl, z⟩ := z
  obtain rfl : v = Value.bool b := rx
  exact ⟨.bl b, H', I', rfl, z⟩
theorem op_neO {K : PySem.W.Frag} (m : Meth X.K C "__eq__" f) (F : FnOk X.prog X.w X.K X.mg X.base CX n f fd ps sp) (hr : Room (n + 1) X.A) (hb : Binds X.K fd ps []) (hx : Passes CX X E) (q : EqC X.K C) (hs : PySem.W.findIn X.K (.ref C) "__ne__" = some (some (.builtin "object.__ne__"))) (ic : IsC X.K C) (hK : X.K = K := by rfl) : OpR X (compareOp .NotEq) (rEqO K C sp E true) := by
  subst hK
  intro pins s σ H x y v u Q I rx ry h
  obtain ⟨a, dx, fs, rfl, ha, hy, h⟩ := h
  cases rx
  obtain ⟨mA, J, _⟩ := ins_get I.hok ha
  obtain ⟨od, J, _⟩ := J.look
  obtain ⟨mm, hF⟩ := I.fr
  obtain ⟨t, hl, hn⟩ := ty_looks q I ry hy
  show wpAny (model X.prog X.w) X.A (richCompare .NotEq (.ref a) u) (EP X pins σ Q) X.xe s
  refine ne_K hr.in1.units0 hr.units0 hF I.ok.mod.kin J hl hn hs ic.hm m.at_ m.fn (wpAny_mono (run_own F hb hx ⟨hr.in1, rfl⟩ I (show Vals [V.ref a, y] [Value.ref a, u] from .cons rfl (.cons ry .nil)) h) (fun v s' z => ?_) fun _ _ z => z)
  obtain ⟨x, H', I', rx, b, rfl, z⟩ := z
  obtain rfl : v = Value.bool b := rx
  exact ⟨b, rfl, .bl (!b), H', I', rfl, z⟩
end
/-! ### o.m(e, .., k=v): what is raised wished for at the caller's slots -/
def tMethSN (C : Addr) (m : Str) (n nk : Nat) (sp : Sp) (gV : List V → List V → List V) (E : St → XK) (ta : TE) (t tk : TA) : TE := fun σ H Q => ta σ H fun x H1 => ∃ a dx fs, x = .ref a ∧ H1 a = some (.ins C dx fs) ∧ fs.lookup m = none ∧ t σ H1 fun vs H2 => tk σ H2 fun zs H3 => vs.length = n ∧ zs.length = nk ∧ sp (gV (x :: vs) zs) H3 Q (E σ)
section
variable {X : Cx} {CX : CXT} {k n : Nat} {f C : Addr} {fd : FuncData} {ps ks : List Str} {sp : Sp} {gV : List V → List V → List V} {E : St → XK} {m : Str} {pos apos : Pos} {e o : Expr} {es : List Expr} {kws : List Keyword} {ta : TE} {t tk : TA}
theorem run_fnSN {pins : List (Addr × Obj)} {σ : St} {H : Hp} {s : Shared} {Q : VK} {us ws : List Value} {vs zs : List V} {g : List Value → List Value → List Value} (F : FnOk X.prog X.w X.K X.mg X.base CX k f fd ps sp) (hr : Room k X.A) (hb : KBn X.K fd ps n ks g gV) (hx : PassesAt CX X σ (E σ)) (I : Inv X pins σ H s)
    (rv : Vals vs us) (rz : Vals zs ws) (l1 : vs.length = n) (l2 : zs.length = ks.length) (h : sp (gV vs zs) H Q (E σ)) : wpAny (model X.prog X.w) X.A (call (.ref f) us (ks.zip ws)) (EP X pins σ Q) X.xe s := by
  refine wpAny_call (codeAny_mono (F.run X.A X.stack s H ⟨us, ks.zip ws⟩ (g us ws) (gV vs zs) Q (E σ) hr I.env0 (hb.to s us ws I.kIn (by rw [← rv.length]; exact l1) (by rw [← rz.length]; exact l2)) (hb.rel rv rz) h) fun r s' hq => ?_)
  cases r with
  | error e => exact hx pins H s e s' I hq
  | ok fl =>
    cases fl with
    | ret w =>
      obtain ⟨z, H', I', rz, q⟩ := I.after hq
      exact ⟨z, H', I', rz, q⟩
    | next => exact False.elim hq
    | brk => exact False.elim hq
    | cont => exact False.elim hq
theorem pe_methSN {pl : Sem Bool} (he : PE X o ta) (c : Cls X.K C) (hm : Meth X.K C m f) (F : FnOk X.prog X.w X.K X.mg X.base CX k f fd ps sp) (hr : Room k X.A) (hb : ∃ g, KBn X.K fd ps (n + 1) ks g gV) (hx : ∀ σ, PassesAt CX X σ (E σ)) (ha : PA X (e :: es) t) (hkw : PK X kws tk)
    (hall : (backToKw pos (keywordEach kws X.env)).all (·.1.isSome) = true := by rfl) (hks : (backToKw pos (keywordEach kws X.env)).filterMap (·.1) = ks := by rfl)
    (hst : starEach (e :: es) X.env = (false, eval e X.env) :: starEach es X.env := by rfl) (hpl : ((backTo pos (starEach (e :: es) X.env)).any (·.1) || (backToKw pos (keywordEach kws X.env)).any (·.1.isNone)) = false := by rfl)
    (ht : eval (.Call (.Attribute o m apos) (e :: es) kws pos) X.env = (do let ov ← eval o X.env; standAt apos.atName; let (f, first) ← holding [ov] (getMethod ov m pl); callWith pos f first (backTo pos (starEach (e :: es) X.env)) (backToKw pos (keywordEach kws X.env))) := by rfl) :
    PE X (.Call (.Attribute o m apos) (e :: es) kws pos) (tMethSN C m n ks.length sp gV E ta t tk) := by
  obtain ⟨g, hb⟩ := hb
  refine ⟨fun pins s σ H Q I h => PySem.W.methodCall_KW (pl := pl) (thn (he.run pins s σ H _ I h) fun u s1 ⟨y, H1, I1, ry, a, dx, fs, ey, ea, l, q⟩ => ?_) ht⟩
  subst ey
  cases (show u = Value.ref a from ry)
  refine getmeth_ok I1 ea c hm l (PySem.W.callWith_KW (first := [.ref a]) (h₀ := X.base) I.ok.mod.kin hm.kp hall (thn (ha.run pos pins s1 σ H1 _ I1 q) fun us s2 ⟨vs, H2, I2, r, q2⟩ => ?_) hpl hst)
  refine thn (hkw.run pos pins s2 σ H2 _ I2 q2) fun ws s3 ⟨zs, H3, I3, rz, l1, l2, q3⟩ => ⟨I3.kIn, ?_⟩
  rw [hks]
  exact run_fnSN (us := .ref a :: us) (vs := .ref a :: vs) F hr hb (hx σ) I3 (.cons rfl r) rz (by rw [List.length_cons, l1]) l2 q3
/-- o.m(e, ..), the last parameters by their defaults -/
theorem pe_methSD {dvs : List V} {pl : Sem Bool} (he : PE X o ta) (c : Cls X.K C) (hm : Meth X.K C m f) (F : FnOk X.prog X.w X.K X.mg X.base CX k f fd ps sp) (hr : Room k X.A) (hb : ∃ ds, Vals dvs ds ∧ Binds X.K fd ps ds) (hx : ∀ σ, PassesAt CX X σ (E σ)) (ha : PA X (e :: es) t)
    (hst : starEach (e :: es) X.env = (false, eval e X.env) :: starEach es X.env := by rfl) (hpl : (backTo pos (starEach es X.env)).any (·.1) = false := by rfl)
    (ht : eval (.Call (.Attribute o m apos) (e :: es) [] pos) X.env = (do let ov ← eval o X.env; standAt apos.atName; let (f, first) ← holding [ov] (getMethod ov m pl); callWith pos f first (backTo pos (starEach (e :: es) X.env)) (backToKw pos (keywordEach [] X.env))) := by rfl) : PE X (.Call (.Attribute o m apos) (e :: es) [] pos) (tMethS C m sp dvs E ta t) := by
  obtain ⟨ds, hd, hb⟩ := hb
  exact pe_methS he c hm F hr hb hd hx ha hst hpl ht
end
/-! ### o[i] of a list, by values -/
def rGetL (K : PySem.W.Frag) : V → V → Hp → VK → Prop := fun x y H Q => ∃ p xs i z, x = .ref p ∧ y = .int i ∧ SqL K H p xs ∧ atI xs i = some z ∧ Q z H
theorem get_list {X : Cx} {K : PySem.W.Frag} (hK : X.K = K := by rfl) : PGet X (rGetL K) := by
  subst hK
  intro pins s σ H x y v u Q I rx ry h
  obtain ⟨p, xs, i, z, rfl, rfl, hq, he, q⟩ := h
  cases rx
  obtain ⟨t, rfl⟩ := ry
  obtain ⟨its, r, pl, hz⟩ := I.list hq
  obtain ⟨j, h1, h2, h3, h4, h5⟩ := atI_get he
  obtain ⟨w, ew, rw'⟩ := r.get h2
  have hl := r.length
  have hn := line63
  have fin : EP X pins σ Q w s := ⟨z, H, I, rw', q⟩
  by_cases h0 : 0 ≤ i
  · have hj : i.toNat = j := by
      rw [seqIndex_of h0 h5] at h1
      exact Option.some.inj h1
    exact wpAny_getItem_list pl.isList h0 (by omega) (by rw [hj]; simpa using ew) fin
  · have hj : (i + (its.toArray.size : Int)).toNat = j := by
      rw [seqIndex_neg (by omega) h4] at h1
      rw [List.size_toArray, ← hl]
      exact Option.some.inj h1
    exact wpAny_getItem_list_neg pl.isList (by omega) (by rw [List.size_toArray] <;> omega) (by omega) (by rw [hj]; simpa using ew) fin
theorem unit1 {k : Nat} {A : Around} (r : Room k A) : A.units + 1 < cLine := by have := r.units; omega
/-! ### steps -/
section
variable {K : PySem.W.Frag} {D : Ends} {σ : St} {H : Hp} {Q : VK} {C : Addr} {m : Str} {n nk : Nat} {sp : Sp} {gV : List V → List V → List V} {E : St → XK} {E0 : XK} {ta te to ti td ty : TE} {t tk : TA} {x y v : V}
theorem i_methSN (h : ta σ H fun x H1 => ∃ a dx fs, x = .ref a ∧ H1 a = some (.ins C dx fs) ∧ fs.lookup m = none ∧ t σ H1 fun vs H2 => tk σ H2 fun zs H3 => vs.length = n ∧ zs.length = nk ∧ sp (gV (x :: vs) zs) H3 Q (E σ)) : tMethSN C m n nk sp gV E ta t tk σ H Q := h
theorem i_augS {tget : V → V → Hp → VK → Prop} {tip : TIp} {tset : TSet} (h : to σ H fun o H1 => ti σ H1 fun i H2 => tget o i H2 fun x H3 => te σ H3 fun y H4 => tip x y H4 fun z H5 => tset o i z H5 fun H6 => D.nx σ H6) : tAugS to ti te tget tip tset D σ H := h
theorem i_getL {p : Addr} {xs : List V} {i : Int} {z : V} (h1 : SqL K H p xs) (h2 : atI xs i = some z) (h : Q z H) : rGetL K (.ref p) (.int i) H Q := ⟨p, xs, i, z, rfl, rfl, h1, h2, h⟩
theorem i_ipI {f : Int → Int → Int} {i j : Int} (h : Q (.int (f i j)) H) : ipI f (.int i) (.int j) H Q := ⟨i, j, rfl, rfl, h⟩
theorem i_din (h : ty σ H fun y H1 => td σ H1 fun x H2 => ∃ a o, x = .ref a ∧ DGet H2 a y o ∧ Q (.bl o.isSome) H2) : tDIn ty td σ H Q := h
theorem i_dnotin (h : ty σ H fun y H1 => td σ H1 fun x H2 => ∃ a o, x = .ref a ∧ DGet H2 a y o ∧ Q (.bl (!o.isSome)) H2) : tDNotIn ty td σ H Q := h
theorem i_dgk {p : Addr} {kvs : List (Key × V)} {k : Key} {R : Option V → Prop} (e : y = kV k) (h1 : H p = some (.dK kvs)) (h : R (valV kvs k)) : ∃ a o, V.ref p = .ref a ∧ DGet H a y o ∧ R o := ⟨p, _, rfl, e ▸ .k h1, h⟩
theorem i_dgkI {p : Addr} {kvs : List (Key × V)} {i : Int} {R : Option V → Prop} (h1 : H p = some (.dK kvs)) (h : R (valV kvs (.inl i))) : ∃ a o, V.ref p = .ref a ∧ DGet H a (.int i) o ∧ R o := ⟨p, _, rfl, .k (k := .inl i) h1, h⟩
theorem i_setDkI {p : Addr} {kvs : List (Key × V)} {i : Int} {HQ : Hp → Prop} (h1 : H p = some (.dK kvs)) (hl : kvs.length < sizeLine) (h : HQ (upd H p (.dK (putK kvs (.inl i) v)))) : rSetD (.ref p) (.int i) v H HQ := ⟨p, _, rfl, .k (k := .inl i) h1 hl, h⟩
theorem i_dgt {p b : Addr} {kvs : List (List Key × V)} {k : List Key} {R : Option V → Prop} (h1 : H p = some (.dT kvs)) (h2 : H b = some (.tup (k.map kV))) (h : R (valV kvs k)) : ∃ a o, V.ref p = .ref a ∧ DGet H a (.ref b) o ∧ R o := ⟨p, _, rfl, .t h1 h2, h⟩
theorem i_setDk {p : Addr} {kvs : List (Key × V)} {k : Key} {HQ : Hp → Prop} (e : x = kV k) (h1 : H p = some (.dK kvs)) (hl : kvs.length < sizeLine) (h : HQ (upd H p (.dK (putK kvs k v)))) : rSetD (.ref p) x v H HQ := ⟨p, _, rfl, e ▸ .k h1 hl, h⟩
theorem i_eqO {neg : Bool} {a dx : Addr} {fs : List (Str × V)} (ha : H a = some (.ins C dx fs)) (hy : isO K y H (fun _ c => c = none ∨ c = some C)) (h : sp [.ref a, y] H (fun v H' => ∃ b, v = .bl b ∧ Q (.bl (if neg then !b else b)) H') E0) : rEqO K C sp E0 neg (.ref a) y H Q := ⟨a, dx, fs, rfl, ha, hy, h⟩
theorem i_lenO {a dx : Addr} {fs : List (Str × V)} (ha : H a = some (.ins C dx fs)) (h : sp [.ref a] H (fun v H' => ∃ k : Int, v = .int k ∧ (0 ≤ k ∧ k < 2 ^ 63) ∧ Q (.int k) H') E0) : rLenO C sp E0 [.ref a] H Q := ⟨a, dx, fs, rfl, ha, h⟩
end
end My
/-! enumerate over a tuple; max, min, sum of a tuple of ints -/
namespace My
open PySem L2
section
open PySem.Spec PySem.Calls
open PyProof.Rows hiding St
set_option maxHeartbeats 4000000 in
theorem meets_enum1 {v : Value} {o : Obj} {H : Heap → Prop} (B : Begins v o H) :
    Meets (Builtin.«enumerate.__new__» ⟨[.type "enumerate", v], []⟩) (fun _ R s => H s.heap ∧
      R (.ok (.ret (.ref (s.heap.push o).objs.size))) { s with heap := (s.heap.push o).push { cls := .type "enumerate", data := .fields #[.none, .bool false, .ref s.heap.objs.size, rawInt 0, .none, .none] } }) :=
  .of_wp fun prog w A R s h => by
    obtain ⟨hp, g, d, tk, os⟩ := s; obtain ⟨h1, h⟩ := h
    have hsub := sub_enumerate
    have q1 : ∀ {A' : Around} {E : Value → Shared → Prop} {Q : Value → Shared → Prop}, Q (.ref hp.objs.size) ⟨hp.push o, g, d, tk, os⟩ → wpAny (model prog w) A' (pyIter v) Q E ⟨hp, g, d, tk, os⟩ :=
      fun q => B.iter prog w _ _ ⟨hp, g, d, tk, os⟩ _ h1 q
    wp_walk using q1
    refine wpAny_stack_any fun st => wpAny_pure ?_
    split
    · rename_i c _ _ _ _ _
      cases (c == Value.type "enumerate")
      · wp_walk using q1
        exact ⟨_, rfl, h⟩
      · wp_walk using q1
        exact ⟨_, rfl, h⟩
    · wp_walk using q1
      exact ⟨_, rfl, h⟩
theorem call_enum1 {prog : Program} {w : World} {A : Around} {E : Value → Shared → Prop} {s : Shared} {v : Value} {o : Obj} {H : Heap → Prop} {Q : Value → Shared → Prop} (B : Begins v o H) (h1 : H s.heap)
    (h : ∀ h', IsEnum h' (s.heap.objs.size + 1) s.heap.objs.size 0 .none → h'.get? s.heap.objs.size = some o → h'.objs.size = s.heap.objs.size + 2 →
      (∀ b o, s.heap.get? b = some o → h'.get? b = some o) → Q (.ref (s.heap.objs.size + 1)) { s with heap := h' }) :
    wpAny (model prog w) A (call (.type "enumerate") [v]) Q E s := by
  refine callType_new F.called_enumerate (by decide) (F.typeCall_enumerate_1 _) (F.newCall_enumerate_1 _) (fun obj => F.args_object_init_2 obj _) F.entry_enumerate_new
    (meets_enum1 B) ⟨h1, ?_⟩
  have hz : (s.heap.push o).objs.size = s.heap.objs.size + 1 := Heap.size_push ..
  show _ ∧ _
  rw [hz]
  have he : IsEnum ((s.heap.push o).push { cls := .type "enumerate", data := .fields #[.none, .bool false, .ref s.heap.objs.size, rawInt 0, .none, .none] }) (s.heap.objs.size + 1) s.heap.objs.size 0 .none := by
    have := Heap.get?_push_size (s.heap.push o) (o := { cls := .type "enumerate", data := .fields #[.none, .bool false, .ref s.heap.objs.size, rawInt 0, .none, .none] }) rfl
    rw [hz] at this; exact this
  refine ⟨⟨_, he, rfl⟩, h _ he (Heap.get?_push_of_some _ (Heap.get?_push_size _ B.free)) (by rw [Heap.size_push, hz]) fun b o x => Heap.get?_push_of_some _ (Heap.get?_push_of_some _ x)⟩
end
/-- the tuple at a as it stands at each turn, the items in new pairs with their places -/
def Itet (K : PySem.W.Frag) (a : Addr) : It :=
  ⟨fun i H => ∃ (xs : List V) (x : V), SqT K H a xs ∧ xs[i]? = some x, fun i H v H' => ∃ T x, v = .ref T ∧ H T = none ∧ H' = upd H T (.tup [.int (i : Nat), x]) ∧ ∀ xs, SqT K H a xs → xs[i]? = some x, fun i H => ∃ xs : List V, SqT K H a xs ∧ xs.length = i⟩
section
open PySem.Spec
open PyProof.Rows hiding St
theorem turn_enumT {P : Program} {w : World} {K : PySem.W.Frag} {elts : List Expr} {kk : Nat} {tpos : Pos} (a e it : Addr) :
    Turn P w K (.Tuple elts kk tpos) (Itet K a) [e, it] e (fun i h => (∃ old, IsEnum h e it ((i : Nat) : Int) old) ∧ h.IsTupleIter it a i ∧ e ≠ it) where
  mem := by simp
  obj := fun i h st b hb => by
    obtain ⟨⟨old, he⟩, ⟨o, ho, hc, hd⟩, _⟩ := st
    have e' : b = e ∨ b = it := by simpa using hb
    rcases e' with z | z
    · rw [z]; exact ⟨_, he, fun v q => nomatch q⟩
    · rw [z]; exact ⟨o, ho, fun v q => by rw [hd] at q; cases q⟩
  keep := fun i h h' st k => let ⟨⟨old, he⟩, hi, hne⟩ := st; ⟨⟨old, k e (by simp) _ he⟩, hi.at fun o q => k it (by simp) o q, hne⟩
  item := by
    intro X hP hw hK hc i pins s σ H E I hf st hg
    subst hP hw hK
    obtain ⟨⟨old, he⟩, hit, hne⟩ := st
    obtain ⟨xs, x, hq, hx⟩ := hg
    obtain ⟨its, rv, p, hz⟩ := I.tuple hq
    obtain ⟨u, hu, ru⟩ := rv.get hx
    have hel : e < s.heap.objs.size := Heap.lt_size he
    have hil : it < s.heap.objs.size := by obtain ⟨_, q, _⟩ := hit; exact Heap.lt_size q
    have pT : s.heap.IsTuple a its.toArray := p
    have hat : a ≠ it := fun z => by
      obtain ⟨o1, g1, c1, _⟩ := pT
      obtain ⟨o2, g2, c2, _⟩ := hit
      rw [z] at g1
      rw [g1] at g2
      cases g2
      rw [c1] at c2
      exact absurd c2 (by decide)
    have hea : e ≠ a := fun z => by
      obtain ⟨o1, g1, c1, _⟩ := pT
      have he' : s.heap.get? e = some _ := he
      rw [← z] at g1
      rw [g1] at he'
      cases he'
      have c1 : Value.type "enumerate" = Value.type "tuple" := c1
      exact absurd c1 (by decide)
    have hlt : i < its.toArray.size := by
      have := (List.getElem?_eq_some_iff.mp hu).1
      simpa using this
    refine wpAny_pyNext_enum_itemD (Draws.tuple (A := X.A.in1) (I.ok.hd hc) it a hat its.toArray) he ⟨hit, pT⟩ hlt hne (by simp [hne, hea]) fun x' h' tk hx' ho st' hT hsz hk => ?_
    obtain rfl : x' = u := by
      have : its[i]? = some x' := by simpa using hx'
      rw [hu] at this
      exact (Option.some.inj this).symm
    refine ⟨_, rfl, wpAny_letOwnedTupleGo_enum (s := { s with heap := h', toks := tk + 1 }) ho fun h'' he' sb => ?_⟩
    have hT2 : h''.get? s.heap.objs.size = some { cls := .type "tuple", data := .seq #[.int i tk, x'] } := (sb.2 _ (Nat.ne_of_gt hel)).trans hT
    have new : ObjOk X.prog X.w (upd H s.heap.objs.size (.tup [.int (i : Nat), x])) h'' s.heap.objs.size (.tup [.int (i : Nat), x]) :=
      ⟨by show 2 ≤ sizeLine; decide, [.int i tk, x'], .cons ⟨_, rfl⟩ (.cons ru .nil), ⟨_, hT2, rfl, _, rfl⟩⟩
    have I1 : Inv X pins σ (upd H s.heap.objs.size (.tup [.int (i : Nat), x])) { s with heap := h'', toks := tk + 1 } :=
      I.turnedNew (ch := [e, it]) (fun b ob hb q => (sb.2 b (fun z => hb (by simp [z]))).trans (hk b ob (fun z => hb (by simp [z])) (fun z => hb (by simp [z])) q)) hf (Nat.le_refl _) new
    refine ⟨.ref s.heap.objs.size, _, I1, rfl, ⟨_, x, rfl, I.hok.fresh (Nat.le_refl _), rfl, fun ys hy => by rw [I.tuple_inj hy hq]; exact hx⟩, ⟨⟨x', ?_⟩, st'.1.at fun o q => (sb.2 it (Ne.symm hne)).trans q, hne⟩, fun b hb => ?_⟩
    · have e1 : ((i + 1 : Nat) : Int) = (i : Int) + 1 := by omega
      rw [e1]; exact he'
    · have hb' : b < s.heap.objs.size := by
        have e' : b = e ∨ b = it := by simpa using hb
        rcases e' with z | z
        · rw [z]; exact hel
        · rw [z]; exact hil
      rw [upd_ne (Nat.ne_of_lt hb')]
      exact (hf b hb).1
  done := by
    intro X hP hw hK hc i pins s σ H E I hf st hg
    subst hP hw hK
    obtain ⟨⟨old, he⟩, hit, hne⟩ := st
    obtain ⟨xs, hq, hx⟩ := hg
    obtain ⟨its, rv, p, hz⟩ := I.tuple hq
    have pT : s.heap.IsTuple a its.toArray := p
    obtain ⟨f0, f1, f2, f3, f4, f5⟩ := hf it (by simp)
    have hl := rv.length
    have hat : a ≠ it := fun z => by
      obtain ⟨o1, g1, c1, _⟩ := pT
      obtain ⟨o2, g2, c2, _⟩ := hit
      rw [z] at g1
      rw [g1] at g2
      cases g2
      rw [c1] at c2
      exact absurd c2 (by decide)
    have hn : i = its.toArray.size := by rw [List.size_toArray]; omega
    exact wpAny_pyNext_enum_endD (Draws.tuple (A := X.A.in1) (I.ok.hd hc) it a hat its.toArray) he ⟨hn ▸ hit, pT⟩ fun h' eb => ⟨rfl, I.turned (t' := s.toks) (fun b o hb q => eb b o hb q) f0 f1 f3 f4 f5⟩
  self := fun A i s Q E st h => let ⟨⟨_, he⟩, _⟩ := st; wpAny_pyIter_enum he h
def iEnumT (K : PySem.W.Frag) (ta : TA) : TI := fun σ H R => ta σ H fun vs H1 => ∃ a xs, vs = [.ref a] ∧ SqT K H1 a xs ∧ R (Itet K a) H1
theorem pi_enumT {X : Cx} {e : Expr} {ta : TA} {p pos tpos : Pos} {elts : List Expr} {kk : Nat} {K : PySem.W.Frag} (hg : Gl X "enumerate") (hm : X.mg "enumerate" = none) (ha : PA X [e] ta) (hs : starEach [e] X.env = [(false, eval e X.env)] := by rfl) (hK : X.K = K := by rfl) :
    PI X (.Tuple elts kk tpos) (.Call (.Name "enumerate" p) [e] [] pos) (iEnumT K ta) := by
  subst hK
  refine ⟨fun pins s σ H R I h => ?_⟩
  refine Call_ (ld_blt I hg hm boot_enumerate (PyProof.Rows.callWith_type1 (thn (ha.run pos pins s σ H _ I h) fun us s1 ⟨vs, H1, I1, r1, q1⟩ => ?_) hs rfl))
  obtain ⟨a, xs, ex, hq, q⟩ := q1
  subst ex
  cases r1 with
  | cons r rr =>
    cases rr
    cases r
    obtain ⟨its, rv, p', hz⟩ := I1.tuple hq
    refine call_enum1 (begins_tuple a its.toArray) p' fun h' he hit hsz hk => wpAny_pyIter_enum he ?_
    have I2 : Inv X pins σ H1 { s1 with heap := h' } := I1.kept (t' := s1.toks) hk
    refine ⟨s1.heap.objs.size + 1, [s1.heap.objs.size + 1, s1.heap.objs.size], _, _, H1, rfl, I2, turn_enumT a (s1.heap.objs.size + 1) s1.heap.objs.size, ⟨⟨.none, he⟩, ⟨_, hit, rfl, rfl⟩, Nat.succ_ne_self _⟩, fun b hb => ?_, q⟩
    have e' : b = s1.heap.objs.size + 1 ∨ b = s1.heap.objs.size := by simpa using hb
    have hle : s1.heap.objs.size ≤ b := by
      rcases e' with z | z
      · rw [z]; exact Nat.le_add_right _ _
      · rw [z]; exact Nat.le_refl _
    exact I1.fpOk hle (I1.hok.fresh hle)
theorem walk_enumT {K : PySem.W.Frag} {a : Addr} {xs : List V} : Walk (Itet K a) xs.length (fun H => SqT K H a xs) (YPair (fun i => some (.int (i : Nat))) (fun i => xs[i]?)) :=
  ⟨fun i H hi q => ⟨xs, xs[i], q, List.getElem?_eq_getElem hi⟩, fun H q => ⟨xs, q, rfl⟩, fun i H v H' hi q ⟨T, x, h1, h2, h3, h4⟩ => ⟨T, .int (i : Nat), x, h1, h2, h3, rfl, h4 xs q⟩⟩
/-! max, sum -/
section
variable {prog : Program} {w : World} {A : Around} {E : Value → Shared → Prop} {s : Shared} {l : Addr}
theorem iterT {items : Array Value} {Q : Value → Shared → Prop} (hl : s.heap.IsTuple l items)
    (h : ∀ s₂ : Shared, s₂ = { s with heap := s.heap.push { cls := .type "tuple_iterator", data := .fields #[.ref l, .int 0 0] } } →
      (s₂.heap.IsTupleIter s.heap.objs.size l 0 ∧ s₂.heap.IsTuple l items) → (∀ b ∈ [s.heap.objs.size, l], b < s₂.heap.objs.size) → l ≠ s.heap.objs.size → Q (.ref s.heap.objs.size) s₂) :
    wpAny (model prog w) A (pyIter (.ref l)) Q E s := by
  have hlt : l < s.heap.objs.size := by obtain ⟨_, e, _⟩ := hl; exact Heap.lt_size e
  refine wpAny_pyIter_tuple hl (h _ rfl ⟨⟨_, Heap.get?_push_size _ rfl, rfl, rfl⟩, hl.push _⟩ (fun b hb => ?_) (Nat.ne_of_lt hlt))
  show b < (s.heap.push _).objs.size
  rw [Heap.size_push]
  rcases List.mem_cons.mp hb with rfl | hb
  · exact Nat.lt_succ_self _
  · rcases List.mem_cons.mp hb with rfl | hb
    · exact Nat.lt_succ_of_lt hlt
    · cases hb
theorem oldT {h' : Heap} {o1 : Obj} (hk : ∀ b o, b ∉ [s.heap.objs.size] → (s.heap.push o1).get? b = some o → h'.get? b = some o) :
    ∀ b o, s.heap.get? b = some o → h'.get? b = some o := fun b o e => by
  refine hk b o (fun hm => ?_) (Heap.get?_push_of_some _ e)
  rcases List.mem_cons.mp hm with e1 | hm
  · exact absurd (e1 ▸ Heap.lt_size e) (Nat.lt_irrefl _)
  · cases hm
theorem max_rawT {its : List Value} {ns : List Int} {Q : Value → Shared → Prop} (hh : A.handled = none) (hl : s.heap.IsTuple l its.toArray) (hi : IntsAre its ns) (hne : 0 < ns.length)
    (h : ∀ h' tk M t', (∀ b o, s.heap.get? b = some o → h'.get? b = some o) → M ∈ ns → (∀ a, a ∈ ns → a ≤ M) → Q (.int M t') { s with heap := h', toks := tk }) : wpAny (model prog w) A (call (.builtin "max") [.ref l]) Q E s := by
  obtain ⟨xs, e⟩ := hi.allInts.items
  have hn : numsOf (intItems xs).toList = ns := by rw [← e]; exact hi.numsOf
  rw [nums_intItems] at hn
  subst hn
  rw [e] at hl
  have hsz : 0 < xs.size := by simpa using hne
  refine call_max_walk (iterT hl fun s₂ e st hfp hlI => ?_)
  subst e
  refine ⟨_, _, _, _, _, _, _, rfl, Walks.tuple (A := A.in1) hh _ l hlI (intItems xs), st, hfp, by simpa [intItems] using hsz, CmpOf.ints_gt (numAt xs) (fun _ _ => intItems_at), fun v h' tk hP hk => ?_⟩
  have hP : (intItems xs)[argBest (fun i j => decide (numAt xs i > numAt xs j)) (xs.size - 1)]? = some v := by simpa [intItems] using hP
  obtain ⟨t, rfl⟩ := intItems_at hP
  obtain ⟨h1, h2⟩ := argBest_gt (numAt xs) (xs.size - 1)
  refine h h' tk _ t (oldT hk) ?_ fun a ha => ?_
  · rw [numAt_eq]; exact PySem.getD_mem (by rw [List.length_map, Array.length_toList]; omega)
  · obtain ⟨j, hj, rfl⟩ := mem_getD ha
    rw [List.length_map, Array.length_toList] at hj
    rw [← numAt_eq]; exact h2 j (by omega)
theorem sum_rawT {its : List Value} {ns : List Int} {Q : Value → Shared → Prop} (hh : A.handled = none) (hl : s.heap.IsTuple l its.toArray) (hi : IntsAre its ns)
    (h : ∀ h' tk t', (∀ b o, s.heap.get? b = some o → h'.get? b = some o) → Q (.int ns.sum t') { s with heap := h', toks := tk }) : wpAny (model prog w) A (call (.builtin "sum") [.ref l]) Q E s := by
  obtain ⟨xs, e⟩ := hi.allInts.items
  have hn : numsOf (intItems xs).toList = ns := by rw [← e]; exact hi.numsOf
  rw [nums_intItems] at hn
  rw [e] at hl
  refine call_sum_walkG (iterT hl fun s₂ e st hfp hlI => ?_)
  subst e
  refine ⟨_, _, _, _, _, _, numAt xs, rfl, Walks.tuple (A := A.in1) hh _ l hlI (intItems xs), st, hfp, (fun _ _ => intItems_at), fun h' tk t' hk => ?_⟩
  have := h h' tk t' (oldT hk)
  rw [← hn] at this
  have e2 : preSum (numAt xs) (intItems xs).size = (xs.toList.map (·.1)).sum := by
    rw [show (intItems xs).size = xs.size by simp [intItems], preSum_eq, List.take_of_length_le (by simp)]
  rw [e2]
  exact this
end
def rMaxT (K : PySem.W.Frag) : List V → Hp → VK → Prop := fun vs H Q => ∃ (a : Addr) (ns : List Int), vs = [V.ref a] ∧ SqT K H a (ns.map V.int) ∧ 0 < ns.length ∧ ∀ m, m ∈ ns → (∀ y, y ∈ ns → y ≤ m) → Q (.int m) H
def rSumT (K : PySem.W.Frag) : List V → Hp → VK → Prop := fun vs H Q => ∃ (a : Addr) (ns : List Int), vs = [V.ref a] ∧ SqT K H a (ns.map V.int) ∧ Q (.int ns.sum) H
theorem cr_maxT {X : Cx} {K : PySem.W.Frag} (hc : X.calm = true) (hK : X.K = K := by rfl) : CallR X (.builtin "max") (rMaxT K) := by
  subst hK
  intro pins s σ H xs us Q I r h
  obtain ⟨a, ns, rfl, hq, hne, q⟩ := h
  obtain ⟨u, rfl, rx⟩ := vals1 r
  cases rx
  obtain ⟨its, rv, p, hz⟩ := I.tuple hq
  exact max_rawT (I.ok.hd hc) (show s.heap.IsTuple a its.toArray from p) rv.ints hne fun h' tk m t' hk h1 h2 => ⟨.int _, H, I.kept hk, ⟨_, rfl⟩, q m h1 h2⟩
theorem cr_sumT {X : Cx} {K : PySem.W.Frag} (hc : X.calm = true) (hK : X.K = K := by rfl) : CallR X (.builtin "sum") (rSumT K) := by
  subst hK
  intro pins s σ H xs us Q I r h
  obtain ⟨a, ns, rfl, hq, q⟩ := h
  obtain ⟨u, rfl, rx⟩ := vals1 r
  cases rx
  obtain ⟨its, rv, p, hz⟩ := I.tuple hq
  exact sum_rawT (I.ok.hd hc) (show s.heap.IsTuple a its.toArray from p) rv.ints fun h' tk t' hk => ⟨.int _, H, I.kept hk, ⟨_, rfl⟩, q⟩
/-- [.. for i, x in enumerate(xs) if ..], xs a tuple: of each place what f says, or nothing -/
theorem lc_enumF {α : Type} {K : PySem.W.Frag} {a : Addr} {xs : List V} {g : TG} {tt : TT} {te : TE} {vs : List Nat} {σ : L2.St} {H1 : Hp} {D : Addr} {Qd : Hp → Prop} (f : Nat → Option α) (R : Hp → V → α → Prop) (mono : ∀ H H' y c acc, H D = some (.lst acc) → SameBut D H H' → R H y c → R H' y c)
    (h0 : SqT K H1 a xs) (hD : H1 D = none) (hl : xs.length ≤ 1000)
    (hs : ∀ (i : Nat) x, xs[i]? = some x → ∀ H T (Q : VK) (Rr : Hp → Prop), Same H1 H → H T = some (.tup [.int i, x]) → (∃ acc, H D = some (.lst acc)) → (∀ c, f i = some c → ∀ y H', Same H H' → R H' y c → Q y H') → (f i = none → ∀ H', Same H H' → Rr H') →
      g (.ref T) (wipe σ vs) H fun σ2 H2 => wipe σ2 vs = wipe σ vs ∧ tt σ2 H2 fun b H3 => if b = true then te σ2 H3 Q else Rr H3)
    (hd : ∀ H (ys : List V), Same H1 H → H D = some (.lst ys) → All2 (R H) ys ((List.range xs.length).filterMap f) → Qd H) :
    ∃ W : Nat → Nat → Hp → Prop, (∃ m, W 0 m (upd H1 D (.lst []))) ∧ ∀ i m H, W i m H →
      ((Itet K a).stop i H ∧ Qd H) ∨ ((Itet K a).go i H ∧ ∃ Nx : Hp → Prop, (∀ H', Nx H' → ∃ m', m' < m ∧ W (i + 1) m' H') ∧ ∀ x H', (Itet K a).yld i H x H' → g x (wipe σ vs) H' fun σ2 H2 => wipe σ2 vs = wipe σ vs ∧ tt σ2 H2 fun b H3 =>
        if b = true then te σ2 H3 fun y H4 => ∃ acc, H4 D = some (.lst acc) ∧ acc.length < sizeLine ∧ Nx (upd H4 D (.lst (acc ++ [y]))) else Nx H3) := by
  have sb : ∀ {H o}, Same H1 H → Same H1 (upd H D o) := fun {H o} s b u e => by
    rw [upd_ne (ne_of_none e hD)]
    exact s b u e
  refine lc_it walk_enumT (fun i H => Same H1 H ∧ ∃ ys, H D = some (.lst ys) ∧ ys.length ≤ i ∧ All2 (R H) ys ((List.range i).filterMap f)) ⟨sb (Same.refl H1), [], upd_same, Nat.le_refl _, All2.nil⟩ (fun i H _ h => SqT.same h.1 h0) ?_ ?_
  · rintro i v H H' hi ⟨s1, ys, e2, e3, e4⟩ ⟨T, x, y, rfl, nT, rfl, hx, hy⟩
    have hx : x = .int (i : Nat) := (Option.some.inj hx).symm
    subst hx
    have s2 : Same H (upd H T (.tup [.int (i : Nat), y])) := same_upd (Same.refl H) nT
    have e2' := s2 _ _ e2
    refine hs i y hy _ T _ _ (s1.trans s2) upd_same ⟨ys, e2'⟩ (fun c hc z H4 s4 hz => ?_) (fun hn H4 s4 => ?_)
    · have e5 := s4 _ _ e2'
      have sD : SameBut D H4 (upd H4 D (.lst (ys ++ [z]))) := SameBut.upd _ _ _
      refine ⟨ys, e5, Nat.lt_of_le_of_lt (Nat.le_trans e3 (Nat.le_of_lt hi)) (small1000 hl), sb ((s1.trans s2).trans s4), _, upd_same, by rw [List.length_append]; show ys.length + 1 ≤ i + 1; omega, ?_⟩
      rw [List.range_succ, List.filterMap_append, List.filterMap_cons, hc]
      refine All2.append (e4.mono fun u w h => mono _ _ _ _ _ e5 sD (mono _ _ _ _ _ e2' (SameBut.of s4) (mono _ _ _ _ _ e2 (SameBut.of s2) h))) (All2.cons (mono _ _ _ _ _ e5 sD hz) All2.nil)
    · refine ⟨(s1.trans s2).trans s4, ys, s4 _ _ e2', by omega, ?_⟩
      rw [List.range_succ, List.filterMap_append, List.filterMap_cons, hn, List.filterMap_nil, List.append_nil]
      exact e4.mono fun u w h => mono _ _ _ _ _ e2' (SameBut.of s4) (mono _ _ _ _ _ e2 (SameBut.of s2) h)
  · rintro H ⟨s1, ys, e2, e3, e4⟩
    exact hd H ys s1 e2 e4
theorem i_enumT {K : PySem.W.Frag} {σ : L2.St} {H : Hp} {A : TA} {R : It → Hp → Prop} (h : A σ H fun vs H1 => ∃ a xs, vs = [.ref a] ∧ SqT K H1 a xs ∧ R (Itet K a) H1) : iEnumT K A σ H R := h
theorem i_enumA {K : PySem.W.Frag} {H : Hp} {a : Addr} {xs : List V} {R : Addr → Prop} (h1 : SqT K H a xs) (h : R a) : ∃ b xs, [V.ref a] = [.ref b] ∧ SqT K H b xs ∧ R b := ⟨a, xs, rfl, h1, h⟩
theorem i_maxT {K : PySem.W.Frag} {H : Hp} {Q : VK} {a : Addr} {ns : List Int} (h1 : SqT K H a (ns.map V.int)) (h2 : 0 < ns.length) (h : ∀ m, m ∈ ns → (∀ y, y ∈ ns → y ≤ m) → Q (.int m) H) : rMaxT K [.ref a] H Q := ⟨a, ns, rfl, h1, h2, h⟩
theorem i_sumT {K : PySem.W.Frag} {H : Hp} {Q : VK} {a : Addr} {ns : List Int} (h1 : SqT K H a (ns.map V.int)) (h : Q (.int ns.sum) H) : rSumT K [.ref a] H Q := ⟨a, ns, rfl, h1, h⟩
end
end My
/-! cuts of rows, xs.insert(i, y), data of all makes -/
namespace My
open PySem L2
theorem cut_take {xs : List V} {i : Nat} : cutV xs none (some (i : Int)) = xs.take i := by
  unfold cutV
  rw [HT.sIx_none, HT.sIx_nat, List.drop_zero, Nat.sub_zero, ← List.take_eq_take_min]
theorem cut_drop {xs : List V} {i : Nat} : cutV xs (some (i : Int)) none = xs.drop i := by
  unfold cutV
  rw [HT.sIx_none, HT.sIx_nat]
  by_cases h : i ≤ xs.length
  · rw [Nat.min_eq_left h, List.take_of_length_le (by rw [List.length_drop]; exact Nat.le_refl _)]
  · rw [Nat.min_eq_right (by omega), List.drop_length, List.drop_of_length_le (by omega)]
    simp
theorem cut_drop1 {xs : List V} {i : Nat} : cutV xs (some ((i : Int) + 1)) none = xs.drop (i + 1) := cut_drop
theorem cut_set {ns : List Int} {i : Nat} {z : Int} (h : i < ns.length) : cutV (ns.map V.int) none (some (i : Int)) ++ [V.int z] ++ cutV (ns.map V.int) (some ((i : Int) + 1)) none = (ns.set i z).map V.int := by
  rw [cut_take, cut_drop1, List.set_eq_take_append_cons_drop, if_pos h, List.map_append, List.map_cons, List.map_take, List.map_drop, List.append_assoc]
  rfl
theorem kn_flat {K : PySem.W.Frag} {H : Hp} {x : V} (h : flatV x = true) : Kn K H x := by
  cases x <;> first | exact trivial | (cases h; done)
theorem log2_le {n : Int} (h0 : 0 ≤ n) (h1 : n ≤ 1000) : n.natAbs.log2 < 9000 := Nat.lt_of_le_of_lt (Nat.log2_le_self _) (by omega)
/-- xs.insert(i, y) -/
def rIns : V → List V → Hp → VK → Prop := fun x vs H Q => ∃ (l : Addr) (xs : List V) (i : Int) (y : V), x = .ref l ∧ vs = [.int i, y] ∧ H l = some (.lst xs) ∧ xs.length < sizeLine ∧ 0 ≤ i ∧ i < 2 ^ 63 ∧ Q .non (upd H l (.lst (xs.take i.toNat ++ [y] ++ xs.drop i.toNat)))
def tIns (K : PySem.W.Frag) (to : TE) (A : TA) : TE := tBM K "list" rIns to A
theorem pe_insK {X : Cx} {K : PySem.W.Frag} {e : Expr} {to : TE} {t : TA} (h : PE X e (tBM X.K "list" rIns to t)) (hK : X.K = K := by rfl) : PE X e (tIns K to t) := by
  subst hK
  exact h
theorem i_ins {K : PySem.W.Frag} {σ : St} {H : Hp} {Q : VK} {to : TE} {A : TA} (h : to σ H fun x H1 => tyV K "list" x H1 ∧ A σ H1 fun vs H2 => rIns x vs H2 Q) : tIns K to A σ H Q := h
theorem i_rins {H : Hp} {Q : VK} {l : Addr} {xs : List V} {i : Int} {y : V} (h1 : H l = some (.lst xs)) (h2 : xs.length < sizeLine) (h3 : 0 ≤ i) (h4 : i < 2 ^ 63) (h : Q .non (upd H l (.lst (xs.take i.toNat ++ [y] ++ xs.drop i.toNat)))) : rIns (.ref l) [.int i, y] H Q := ⟨l, xs, i, y, rfl, rfl, h1, h2, h3, h4, h⟩
end My
/-! x in [l, x]: x of an own class with an own ==, l a list -/
namespace My
open PySem L2
section
open PySem.W Builtin PySem.Calls
open PyProof.Rows hiding St
variable {prog : Program} {w : World} {A : Around} {E : Value → Shared → Prop} {s : Shared} {K : Frag} {x l C L f : Addr} {h₀ : Heap} {m : Str → Option Value} {ox : Obj} {od : Option Obj} {its : Array Value} {n : Nat}
theorem leq_other {Q : Value → Shared → Prop} (X : K.In s.heap) (I : InstAt s.heap x ox C od) (hl : s.heap.IsList l its) (hs : subIn K (.ref C) (.type "list") = some false) (h : Q .notImplemented s) :
    wpAny (model prog w) A (call (.builtin "list.__eq__") [.ref l, .ref x]) Q E s := by
  obtain ⟨ol, el, cl, kl, dl⟩ := hl
  refine GQ.call_here F.slot_list_eq ⟨ol, el, cl⟩ F.entry_list_eq (F.args_list_eq_2 _ _) ?_
  unfold Builtin.«list.__eq__»
  show wpAny _ _ (do
    let (a, [b]) ← slotArgs "__eq__" 1 ⟨[.ref l, .ref x], []⟩ | unsupported "internal:list.compare"
    _) _ _ _
  refine wpAny_bind (m := slotArgs "__eq__" 1 _) (wpAny_pure ?_)
  refine wpAny_bind (m := isInstance _ _) ((show Looks (model prog w) s.heap (isInstance (.ref x) (.type "list")) false from I.type.andThen (looks_subIn X hs)).here ?_)
  exact wpAny_pure h
/-- l == x, l a list, x of an own class -/
theorem rc_lx {Q : Value → Shared → Prop} (hu : A.units < cLine) (Fh : Fr h₀ L s.heap m) (X₀ : K.In h₀) (I : InstAt s.heap x ox C od) (hl : s.heap.IsList l its) (hs : subIn K (.ref C) (.type "list") = some false)
    (he : findIn K (.ref C) "__eq__" = some (some (.ref f))) (hf : isFn K (.ref f) = true)
    (h : wpAny (model prog w) A (call (.ref f) [.ref x, .ref l]) (fun v s' => ∃ k, v = .bool k ∧ Q (.bool k) s') E s) : wpAny (model prog w) A (richCompare .Eq (.ref l) (.ref x)) Q E s := by
  have X := X₀.keeps Fh.keep
  have tl : s.TypeIs (.ref l) "list" := by
    obtain ⟨ol, el, cl, _⟩ := hl
    exact ⟨ol, el, cl⟩
  have one : wpAny (model prog w) A (tryCompare (.ref l) (cmpInfo .Eq).2.1 (.ref x)) (fun r s' => r = none ∧ s' = s) E s := by
    unfold tryCompare
    refine wpAny_bind (wpAny_callSpecialIfBound?_slot tl F.slot_list_eq (leq_other X I hl hs ?_))
    exact wpAny_pure ⟨rfl, rfl⟩
  have two : wpAny (model prog w) A (tryCompare (.ref x) (cmpInfo .Eq).2.2 (.ref l)) (fun r s' => ∃ k, r = some (.bool k) ∧ Q (.bool k) s') E s := by
    unfold tryCompare
    refine wpAny_bind (ifBound_K X I he hf (wpAny_mono h (fun v s' hv => ?_) fun _ _ e => e))
    obtain ⟨k, rfl, hq⟩ := hv
    exact wpAny_pure ⟨k, rfl, hq⟩
  unfold richCompare
  simp only [oneThing_ref]
  refine wpAny_holding (wpAny_bind (wpAny_cRoomFor hu ?_))
  refine wpAny_bind (wpAny_typeOf tl ?_)
  refine wpAny_bind (I.type.here ?_)
  split
  · refine wpAny_bind ((looks_subIn X hs).here ?_)
    simp only [Bool.false_eq_true, if_false]
    refine wpAny_bind (wpAny_mono one (fun r s' z => ?_) fun _ _ e => e)
    obtain ⟨rfl, rfl⟩ := z
    simp only [Bool.not_false, if_true]
    refine wpAny_bind (wpAny_mono two (fun r s' z => ?_) fun _ _ e => e)
    obtain ⟨k, rfl, hq⟩ := z
    exact wpAny_pure hq
  · rename_i q
    simp at q
/-- the loop of `in` over a list, when the second one is it -/
def Is2 (h : Heap) (p : Addr) (u v : Value) : Prop := ∃ (dd : Option Addr) (sl : Array (Option Value)) (k : Nat) (items : Array Value), h.get? p = some { cls := .type "list", dict := dd, data := .seq items k, slots := sl } ∧ items[0]? = some u ∧ items[1]? = some v
theorem loop1 {p : Addr} {u : Value} {R : Except Value Flow → Shared → Prop} (hp : Is2 s.heap p u (.ref x)) (h : R (.ok (.ret (.bool true))) s) :
    wpAny (model prog w) A.in1 (Builtin.«list.__contains__.loop» ⟨[.ref p, .ref x, rawInt 1], []⟩) (GQ.FinOf prog w A R) (fun e s' => R (.error e) s') s := by
  obtain ⟨dd, sl, k, items, hg, _, h1⟩ := hp
  have hb : wpAny (model prog w) A.in1 (eqBool (.ref x) (.ref x)) (fun r s' => r = true ∧ s' = s) (fun e s' => R (.error e) s') s := SeqAt.EqAt.same _ _ _ _ _ ⟨rfl, rfl⟩
  obtain ⟨hp0, g, d, tk, os⟩ := s
  wp_walk using AutoSeq1.wpAny_loadPart' hg
  have e1 : items[(1 : Int).toNat]? = some (.ref x) := h1
  rw [e1]
  refine wpAny_bind (wpAny_mono hb (fun r s' z => ?_) fun _ _ z => z)
  obtain ⟨rfl, rfl⟩ := z
  wp_walk
  exact h
theorem loop0 {p : Addr} {R : Except Value Flow → Shared → Prop} (nlx : l ≠ x) (hp : Is2 s.heap p (.ref l) (.ref x))
    (h : wpAny (model prog w) A.in1 (richCompare .Eq (.ref l) (.ref x)) (fun v s' => v = .bool false ∧ Is2 s'.heap p (.ref l) (.ref x) ∧ R (.ok (.ret (.bool true))) s') (fun e s' => R (.error e) s') s) :
    wpAny (model prog w) A.in1 (Builtin.«list.__contains__.loop» ⟨[.ref p, .ref x, rawInt 0], []⟩) (GQ.FinOf prog w A R) (fun e s' => R (.error e) s') s := by
  have hb : wpAny (model prog w) A.in1 (eqBool (.ref l) (.ref x)) (fun r s' => r = false ∧ Is2 s'.heap p (.ref l) (.ref x) ∧ R (.ok (.ret (.bool true))) s') (fun e s' => R (.error e) s') s :=
    GQ.eqBool_refG nlx (wpAny_mono h (fun v s' z => ⟨false, z.1, rfl, z.2⟩) fun _ _ z => z)
  obtain ⟨dd, sl, k, items, hg, h0, _⟩ := hp
  obtain ⟨hp0, g, d, tk, os⟩ := s
  wp_walk using AutoSeq1.wpAny_loadPart' hg
  have e1 : items[(0 : Int).toNat]? = some (.ref l) := h0
  rw [e1]
  refine wpAny_bind (wpAny_mono hb (fun r s' z => ?_) fun _ _ z => z)
  obtain ⟨rfl, e, q⟩ := z
  have hrec := loop1 (prog := prog) (w := w) (A := A) e q
  obtain ⟨hp2, g2, d2, tk2, os2⟩ := s'
  wp_walk
  exact ⟨plainId_quiet MeetsSeq.plain_contains_loop _, codeAny_builtin MeetsSeq.entry_contains_loop (by
    rw [Around.under_plainId MeetsSeq.plain_contains_loop _]
    exact hrec)⟩
theorem in_lx {p : Addr} {Q : Value → Shared → Prop} (nlx : l ≠ x) (hp : Is2 s.heap p (.ref l) (.ref x))
    (h : wpAny (model prog w) A.in1 (richCompare .Eq (.ref l) (.ref x)) (fun v s' => v = .bool false ∧ Is2 s'.heap p (.ref l) (.ref x) ∧ Q (.bool true) s') E s) : wpAny (model prog w) A (compareOp .In (.ref x) (.ref p)) Q E s := by
  have hT : s.TypeIs (.ref p) "list" := by
    obtain ⟨dd, sl, k, items, hg, _⟩ := hp
    exact ⟨_, hg, rfl⟩
  show wpAny _ _ (do return .bool (← contains (.ref p) (.ref x))) Q E s
  refine wpAny_bind (PySem.wpAny_contains_slot hT F.slot_list_contains (GQ.call_here F.slot_list_contains hT F.entry_list_contains (F.args_list_contains_2 _ _) ?_))
  unfold Builtin.«list.__contains__»
  refine wpAny_bind (m := slotArgs "__contains__" 1 _) (wpAny_pure ?_)
  refine wpAny_pure ⟨plainId_quiet MeetsSeq.plain_contains_loop _, codeAny_builtin MeetsSeq.entry_contains_loop ?_⟩
  rw [Around.under_plainId MeetsSeq.plain_contains_loop _]
  exact loop0 nlx hp (wpAny_mono h (fun v s' z => ⟨z.1, z.2.1, wpAny_truthy_bool (wpAny_pure z.2.2)⟩) fun _ _ z => z)
end
/-- x in [l, x]: x of an own class whose own == of x and the list l tells False -/
def rIn2 (K : PySem.W.Frag) (C : Addr) (sp : Sp) (E : XK) : R2 := fun x y H Q => ∃ a dx fs p l xs, x = .ref a ∧ H a = some (.ins C dx fs) ∧ y = .ref p ∧ H p = some (.lst [.ref l, .ref a]) ∧ SqL K H l xs ∧ l ≠ a ∧ sp [.ref a, .ref l] H (fun v H' => v = .bl false ∧ H' p = some (.lst [.ref l, .ref a]) ∧ Q (.bl true) H') E
section
variable {X : Cx} {CX : CXT} {n : Nat} {f C : Addr} {fd : FuncData} {ps : List Str} {sp : Sp} {E : XK}
theorem is2_of {P : Program} {w : World} {H : Hp} {h : Heap} {p l a : Addr} (hok : HOk P w H h) (e : H p = some (.lst [.ref l, .ref a])) : Is2 h p (.ref l) (.ref a) := by
  obtain ⟨_, its, k, r, g⟩ := (show ObjOk P w H h p (.lst [.ref l, .ref a]) from hok p _ e)
  cases r with
  | cons r1 r =>
    cases r with
    | cons r2 r =>
      cases r
      cases r1
      cases r2
      exact ⟨none, #[], k, _, g, rfl, rfl⟩
theorem op_in2 {K : PySem.W.Frag} (m : Meth X.K C "__eq__" f) (F : FnOk X.prog X.w X.K X.mg X.base CX n f fd ps sp) (hr : Room (n + 2) X.A) (hb : Binds X.K fd ps []) (hx : Passes CX X E) (hs : PySem.W.subIn X.K (.ref C) (.type "list") = some false) (hK : X.K = K := by rfl) : OpR X (compareOp .In) (rIn2 K C sp E) := by
  subst hK
  intro pins s σ H x y v u Q I rx ry h
  obtain ⟨a, dx, fs, p, l, xs, rfl, ha, rfl, hp, hl, nla, h⟩ := h
  cases rx
  cases ry
  obtain ⟨mA, J, _⟩ := ins_get I.hok ha
  obtain ⟨od, J, _⟩ := J.look
  obtain ⟨mm, hF⟩ := I.fr
  obtain ⟨us, r1, p1, _⟩ := I.list hl
  have h1 : Room (n + 1) X.A.in1 := hr.in1
  refine in_lx nla (is2_of I.hok hp) (rc_lx h1.units0 hF I.ok.mod.kin J p1.isList hs m.at_ m.fn (wpAny_mono (run_own F hb hx ⟨h1.mono (Nat.le_succ _), rfl⟩ I (show Vals [V.ref a, .ref l] [Value.ref a, .ref l] from .cons rfl (.cons rfl .nil)) h) (fun v s' z => ?_) fun _ _ z => z))
  obtain ⟨x, H', I', rx, rfl, hp', z⟩ := z
  obtain rfl : v = Value.bool false := rx
  exact ⟨false, rfl, rfl, is2_of I'.hok hp', .bl true, H', I', rfl, z⟩
end
end My
/-! an own == asked within an except suite -/
namespace My
open PySem L2
open L2H (RoomH PinOk cxH)
theorem _root_.L2H.RoomH.units {k : Nat} {A : Around} (r : RoomH k A) : A.units + 64 < cLine := by
  have := r.un
  omega
/-- what a def does where an exception is handled; it raises nothing -/
structure FnP (P : Program) (w : World) (K : PySem.W.Frag) (mg : Str → Option Value) (base : Heap) (k : Nat) (f : Addr) (fd : FuncData) (ps : List Str) (sp : Sp) : Prop where
  len : ∀ vs H Q E, sp vs H Q E → vs.length = ps.length
  run : ∀ (A : Around) (outer : List Env) (s : Shared) (H : Hp) (args : Args) (us : List Value) (vs : List V) (Q : VK) (E : XK) (p : Addr × Obj), RoomH k A → PinOk outer H s p → Env0 P w K mg base A outer s H → BindsTo s fd args (ps.zip us) → Vals vs us → sp vs H Q E →
    codeAny (model P w) A (.call (.ref f) args) (CR CX0 outer P w H s Q E) s
theorem fund_okP {P : Program} {w : World} {K : PySem.W.Frag} {mg : Str → Option Value} {base : Heap} {x qual : Str} {params : Arguments} {body : List Stmt} {scope : Scope} {dvs : List V} {f : Addr} {fd : FuncData} {N ps : List Str} {k : Nat} {sp : Sp}
    (F : FunD K x qual params body scope dvs [] f fd) (S : FnScope N ps scope) (len : ∀ vs H Q E, sp vs H Q E → vs.length = ps.length)
    (hbody : ∀ (cdv : Value) (A : Around) (outer : List Env) (s : Shared) (H : Hp) (vs : List V) (Q : VK) (E : XK) (p : Addr × Obj), RoomH k (A.deeper (PyProof.Rows.envOfC qual scope s.heap.objs.size f cdv)) → sp vs H Q E →
      ∃ t, PSs (cxH CX0 P w K mg base N qual scope f cdv A outer s H E p) body t ∧ t { nx := fun _ H' => Q .non H', rt := Q } (start N vs) H) : FnP P w K mg base (k + 1) f fd ps sp := by
  obtain ⟨oc, od, dV, kV, doc, pm, an, cdv, ct, osl, rfl, look, code, _, _⟩ := F.ex
  refine ⟨len, fun A outer s H args us vs Q E p room pin e1 bound rv wish => ?_⟩
  have eq1 := len _ _ _ _ wish
  have kin := e1.mod.kin.keeps fun b o z => (e1.bs b o z).1
  have nolim := e1.mod.nolimit.keeps fun b o z => (e1.bs b o z).1
  have kinds : ∀ y ∈ ps.zip us, scope.names.lookup y.1 = some .local ∨ (scope.names.lookup y.1 = some .cell ∧ ((cellsFrom (s.heap.objs.size + 1) scope.names []).lookup y.1).isSome = true) := by
    rintro ⟨n, v⟩ hm
    have hn := S.par n (List.of_mem_zip hm).1
    exact hn.imp id fun z => ⟨z, PySem.W.cellsFrom_some _ _ _ (.inl z)⟩
  refine codeAny_call_function room.depth (kin _ _ look) rfl S.co S.gen rfl (PySem.W.codeRec_of kin code) (bound _ _ _ _ ?_)
  refine wpAny_newFunctionEnv_cells S.kind kinds fun env ee s2 called => ?_
  cases ee
  obtain ⟨t, walk, ends⟩ := hbody cdv A outer s H vs Q E p (room.deeper _) wish
  have J0 := L2H.inv_startH (CX := CX0) (E := E) (qual := qual) S pin e1 eq1 rv called
  refine ⟨nolim.keeps called.toInCall.keep, codeAny_func (wpAny_mono (walk.run [] s2 (start N vs) H _ J0 ends) (fun fl s3 z => ?_) fun _ _ z => z)⟩
  match fl, z with
  | .ret u, ⟨v, σ', H', J, rv', q⟩ => exact ⟨v, H', J.os, J.bare, J.base, J.hok, rv', q⟩
  | .next, ⟨σ', H', J, q⟩ => exact ⟨V.non, H', J.os, J.bare, J.base, J.hok, rfl, q⟩
  | .brk, ⟨_, _, _, q⟩ => exact q.elim
  | .cont, ⟨_, _, _, q⟩ => exact q.elim
section
variable {X : Cx} {n : Nat} {f C : Addr} {fd : FuncData} {ps : List Str} {sp : Sp}
theorem run_ownP {p : Addr × Obj} {pins : List (Addr × Obj)} {σ : St} {H : Hp} {s : Shared} {Q : VK} {us : List Value} {vs : List V} (F : FnP X.prog X.w X.K X.mg X.base n f fd ps sp) (hr : RoomH n X.A) (hp : p ∈ X.pn) (hb : Binds X.K fd ps [])
    (I : Inv X pins σ H s) (rv : Vals vs us) (h : sp vs H Q (fun _ _ _ => False)) : wpAny (model X.prog X.w) X.A (call (.ref f) us) (EP X pins σ Q) X.xe s := by
  have lens : us.length = ps.length := rv.length.symm.trans (F.len _ _ _ _ h)
  have bound := hb s us I.kIn (by rw [List.append_nil]; exact lens)
  rw [List.append_nil] at bound
  obtain ⟨g1, g2, g3, g4, g5⟩ := I.pin p (List.mem_append_left _ hp)
  have pin : PinOk X.stack H s p := ⟨g1, g2, fun z => (List.mem_cons.mp (I.stkSub p.1 z)).elim g3 g4, g5⟩
  refine wpAny_call (codeAny_mono (F.run X.A X.stack s H ⟨us, []⟩ us vs Q (fun _ _ _ => False) p hr pin I.env0 bound rv h) fun r s2 z => ?_)
  match r, z with
  | .error e, z => exact (show Passes CX0 X (fun _ _ _ => False) from pass0) pins σ H s e s2 I z
  | .ok (.ret u), z => exact I.after z
  | .ok .next, z => exact z.elim
  | .ok .brk, z => exact z.elim
  | .ok .cont, z => exact z.elim
/-- x == y within a suite: x of C, whose own == is sp -/
theorem op_eqP {p : Addr × Obj} {K : PySem.W.Frag} (m : Meth X.K C "__eq__" f) (F : FnP X.prog X.w X.K X.mg X.base n f fd ps sp) (hr : RoomH n X.A) (hp : p ∈ X.pn) (hb : Binds X.K fd ps []) (q : EqC X.K C) (hK : X.K = K := by rfl) : OpR X (compareOp .Eq) (rEqO K C sp (fun _ _ _ => False) false) := by
  subst hK
  intro pins s σ H x y v u Q I rx ry h
  obtain ⟨a, dx, fs, rfl, ha, hy, h⟩ := h
  cases rx
  obtain ⟨mA, J, _⟩ := ins_get I.hok ha
  obtain ⟨od, J, _⟩ := J.look
  obtain ⟨mm, hF⟩ := I.fr
  obtain ⟨t, hl, hn⟩ := ty_looks q I ry hy
  show wpAny (model X.prog X.w) X.A (richCompare .Eq (.ref a) u) (EP X pins σ Q) X.xe s
  refine PySem.W.cmp_K (op := .Eq) (by have := hr.un; omega) hF I.ok.mod.kin J hl hn m.at_ m.fn (wpAny_mono (run_ownP F hr hp hb I (show Vals [V.ref a, y] [Value.ref a, u] from .cons rfl (.cons ry .nil)) h) (fun v s' z => ?_) fun _ _ z => z)
  obtain ⟨x, H', I', rx, b, rfl, z⟩ := z
  obtain rfl : v = Value.bool b := rx
  exact ⟨.bl b, H', I', rfl, z⟩
theorem roomH_suite {k : Nat} {a : Addr} {pn : List (Addr × Obj)} {X : Cx} (r : Room k X.A) : RoomH k (X.suite a pn).A := ⟨r.dp, r.un⟩
end
end My
/-! texts of numbers: str(n), sep.join(row), f"..{x}.." -/
namespace My
open PySem L2
/-- a number's text -/
def numT (n : Int) : Str := Str.ofString (toString n)
def rStrI : List V → Hp → VK → Prop := fun xs H Q => ∃ i : Int, xs = [.int i] ∧ i.natAbs.log2 < 1920 ∧ Q (.str (numT i)) H
theorem call_strI {X : Cx} : CallR X (.type "str") rStrI := call_str_int
theorem i_strI {i : Int} {H : Hp} {Q : VK} (h1 : i.natAbs.log2 < 1920) (h : Q (.str (numT i)) H) : rStrI [.int i] H Q := ⟨i, rfl, h1, h⟩
def tJoinK (K : PySem.W.Frag) (to te : TE) : TE := fun σ H Q => to σ H fun x H1 => (∃ a, x = .str a) ∧ te σ H1 fun y H2 => ∃ (a : Str) (p : Addr) (ys : List Str), x = .str a ∧ [y] = [.ref p] ∧ (SqL K H2 p (ys.map V.str) ∨ SqT K H2 p (ys.map V.str)) ∧ (ys.map (·.length)).sum + ys.length * a.length ≤ 16777216 ∧ Q (.str (Txt.join a ys)) H2
theorem pe_joinK {X : Cx} {K : PySem.W.Frag} {o e : Expr} {to te : TE} {apos pos : Pos} (ho : PE X o to) (he : PE X e te) (hK : X.K = K := by rfl)
    (hbase : attributeBase o "join" X.env (eval o X.env) = eval o X.env := by rfl) (hline : (apos.endLine == pos.line) = true := by rfl) (hst : starEach [e] X.env = [(false, eval e X.env)] := by rfl) : PE X (.Call (.Attribute o "join" apos) [e] [] pos) (tJoinK K to te) := by
  subst hK
  exact pe_join ho he (hs := hst) (hbase := hbase) (hline := hline)
theorem i_joinK {K : PySem.W.Frag} {to te : TE} {σ : St} {H : Hp} {Q : VK} (h : to σ H fun x H1 => (∃ a, x = .str a) ∧ te σ H1 fun y H2 => ∃ (a : Str) (p : Addr) (ys : List Str), x = .str a ∧ [y] = [.ref p] ∧ (SqL K H2 p (ys.map V.str) ∨ SqT K H2 p (ys.map V.str)) ∧ (ys.map (·.length)).sum + ys.length * a.length ≤ 16777216 ∧ Q (.str (Txt.join a ys)) H2) : tJoinK K to te σ H Q := h
theorem i_joinA {a : Str} {R : Prop} (h : R) : (∃ b, V.str a = .str b) ∧ R := ⟨⟨a, rfl⟩, h⟩
theorem i_joinR {K : PySem.W.Frag} {H : Hp} {R : Str → List Str → Prop} {a : Str} {p : Addr} {ys : List Str} (h1 : SqL K H p (ys.map V.str) ∨ SqT K H p (ys.map V.str)) (h2 : (ys.map (·.length)).sum + ys.length * a.length ≤ 16777216) (h : R a ys) :
    ∃ (b : Str) (q : Addr) (zs : List Str), V.str a = .str b ∧ [V.ref p] = [.ref q] ∧ (SqL K H q (zs.map V.str) ∨ SqT K H q (zs.map V.str)) ∧ (zs.map (·.length)).sum + zs.length * b.length ≤ 16777216 ∧ R b zs := ⟨a, p, ys, rfl, rfl, h1, h2, h⟩
def tFs (ts : List TE) : TE := fun σ H Q => tJs ts Str.empty σ H fun out H1 => Q (.str out) H1
theorem pe_fs {X : Cx} {v1 v2 : Expr} {rest : List Expr} {ts : List TE} {pos : Pos} (h : PJ X (v1 :: v2 :: rest) ts) : PE X (.JoinedStr (v1 :: v2 :: rest) pos) (tFs ts) := pe_joined h
section
variable {σ : St} {H : Hp} {Q : VK} {t te : TE} {ts : List TE} {acc z : Str} {R : Str → Hp → Prop}
theorem i_fs (h : tJs ts Str.empty σ H fun out H1 => Q (.str out) H1) : tFs ts σ H Q := h
theorem i_js0 (h : R acc H) : tJs [] acc σ H R := h
theorem i_js1 (h : t σ H fun x H1 => ∃ y : Str, x = .str y ∧ (acc ++ y).length ≤ sizeLine ∧ tJs ts (acc ++ y) σ H1 R) : tJs (t :: ts) acc σ H R := h
theorem i_jsS (h1 : (acc ++ z).length ≤ sizeLine) (h : tJs ts (acc ++ z) σ H R) : ∃ y : Str, V.str z = .str y ∧ (acc ++ y).length ≤ sizeLine ∧ tJs ts (acc ++ y) σ H R := ⟨z, rfl, h1, h⟩
theorem i_fmt (h : te σ H fun x H1 => (∃ y : Str, x = .str y ∧ y.length ≤ sizeLine ∧ Q (.str y) H1) ∨ ∃ i : Int, x = .int i ∧ i.natAbs.log2 < 1920 ∧ Q (.str (numT i)) H1) : tFmt te σ H Q := h
theorem i_fmtS {S : Str → Prop} {L : Prop} (h1 : z.length ≤ sizeLine) (h : S z) : (∃ y : Str, V.str z = .str y ∧ y.length ≤ sizeLine ∧ S y) ∨ L := .inl ⟨z, rfl, h1, h⟩
end
theorem numT_len {n : Int} (h0 : 0 ≤ n) (h : n < 10 ^ 40) : (numT n).length ≤ 40 := PyProof.Rows.toString_length_le h0 (by decide) h
theorem num_log {n : Int} (h0 : 0 ≤ n) (h : n < 10 ^ 40) : n.natAbs.log2 < 1920 := by
  have h1 : n.natAbs < 2 ^ 140 := by
    have : (10 : Int) ^ 40 < 2 ^ 140 := by decide
    omega
  have : n.natAbs.log2 < 140 := by
    by_cases hz : n.natAbs = 0
    · rw [hz]; decide
    · exact (Nat.log2_lt hz).mpr h1
  omega
/-- the texts of a row of numbers -/
def numsT (ns : List Int) : List Str := ns.map numT
theorem numsT_sum : ∀ {ns : List Int}, (∀ n ∈ ns, 0 ≤ n ∧ n < 10 ^ 40) → ((numsT ns).map (·.length)).sum ≤ ns.length * 40
  | [], _ => Nat.le_refl _
  | n :: ns, h => by
    have h1 := numT_len (h n List.mem_cons_self).1 (h n List.mem_cons_self).2
    have h2 := numsT_sum (ns := ns) fun x hx => h x (List.mem_cons_of_mem _ hx)
    show (numT n).length + ((numsT ns).map (·.length)).sum ≤ (ns.length + 1) * 40
    omega
theorem joinT_len {ns : List Int} {sep : Str} (h : ∀ n ∈ ns, 0 ≤ n ∧ n < 10 ^ 40) (hl : ns.length ≤ 5) (hs : sep.length ≤ 2) : (Txt.join sep (numsT ns)).length ≤ 300 := by
  rw [show Txt.join sep (numsT ns) = Str.join sep (numsT ns) from StrLaws.glued_eq_join sep _]
  have h1 := StrLaws.join_length_le sep (numsT ns)
  have h2 := numsT_sum h
  have h3 : (numsT ns).length = ns.length := List.length_map ..
  rw [h3] at h1
  have h4 : ns.length * sep.length ≤ 5 * 2 := Nat.mul_le_mul hl hs
  omega
theorem joinT_ok {ns : List Int} {sep : Str} (h : ∀ n ∈ ns, 0 ≤ n ∧ n < 10 ^ 40) (hl : ns.length ≤ 5) (hs : sep.length ≤ 2) : ((numsT ns).map (·.length)).sum + (numsT ns).length * sep.length ≤ 16777216 := by
  have h2 := numsT_sum h
  have h3 : (numsT ns).length = ns.length := List.length_map ..
  rw [h3]
  have h4 : ns.length * sep.length ≤ 5 * 2 := Nat.mul_le_mul hl hs
  omega
/-- two readings of one operator -/
def r2or (r1 r2 : R2) : R2 := fun x y H Q => r1 x y H Q ∨ r2 x y H Q
theorem opr_or {X : Cx} {o : Value → Value → Sem Value} {r1 r2 : R2} (h1 : OpR X o r1) (h2 : OpR X o r2) : OpR X o (r2or r1 r2) := by
  intro pins s σ H x y v u Q I rx ry h
  rcases h with h | h
  · exact h1 pins s σ H x y v u Q I rx ry h
  · exact h2 pins s σ H x y v u Q I rx ry h
theorem i_or1 {r1 r2 : R2} {x y : V} {H : Hp} {Q : VK} (h : r1 x y H Q) : r2or r1 r2 x y H Q := .inl h
theorem i_or2 {r1 r2 : R2} {x y : V} {H : Hp} {Q : VK} (h : r2 x y H Q) : r2or r1 r2 x y H Q := .inr h
end My
namespace My
open PySem L2
set_option hygiene false in
local macro_rules | `(tactic| wtm_at "cls") => `(tactic| first | assumption | exact T.c_Counts | exact T.i_Counts | exact T.n_Counts_kept_numbers)
set_option hygiene false in
local macro_rules | `(tactic| wtm_at "xk") => `(tactic| first | exact kit_self | fail)
def top (i : Nat) : Stmt := PySem.Challenge.pw_causehall_k02_counts_told.main.body.getD i (.Pass ⟨0, 0, 0, 0⟩)
abbrev s_NoNumber_init : Stmt := inClass (top 3) 0
abbrev s_NoMember_init : Stmt := inClass (top 4) 0
abbrev s_NoCounts_init : Stmt := inClass (top 5) 0
abbrev s_Unlike_init : Stmt := inClass (top 6) 0
abbrev s_is_whole : Stmt := top 10
abbrev s_are_numbers : Stmt := top 12
abbrev s_Counts_init : Stmt := inClass (top 13) 0
abbrev s_Counts_eq : Stmt := inClass (top 13) 1
abbrev s_Counts_len : Stmt := inClass (top 13) 2
abbrev s_Counts_str : Stmt := inClass (top 13) 3
abbrev s_Counts_repr : Stmt := inClass (top 13) 4
abbrev s_Counts_told : Stmt := inClass (top 13) 5
abbrev s_Counts_need_member : Stmt := inClass (top 13) 6
abbrev s_Counts_of : Stmt := inClass (top 13) 8
abbrev s_Counts_sum_of : Stmt := inClass (top 13) 9
abbrev s_Counts_raised : Stmt := inClass (top 13) 14
abbrev s__law_pool : Stmt := top 15
abbrev s__law_take : Stmt := top 16
abbrev s__law_numbers : Stmt := top 17
abbrev s__law_near : Stmt := top 18
abbrev s__law_whole : Stmt := top 19
abbrev s__law_refused : Stmt := top 20
abbrev s__law_no_member : Stmt := top 21
abbrev s__law_told : Stmt := top 22
abbrev s__law_equal : Stmt := top 23
abbrev s_law : Stmt := top 24
/-- where the defs and the classes of the text stand -/
structure Ad where
  HallError : Addr
  NoNumber : Addr
  NoMember : Addr
  NoCounts : Addr
  Unlike : Addr
  Counts : Addr
  NoNumber_init : Addr
  d_NoNumber_init : FuncData
  NoMember_init : Addr
  d_NoMember_init : FuncData
  NoCounts_init : Addr
  d_NoCounts_init : FuncData
  Unlike_init : Addr
  d_Unlike_init : FuncData
  is_whole : Addr
  d_is_whole : FuncData
  are_numbers : Addr
  d_are_numbers : FuncData
  Counts_init : Addr
  d_Counts_init : FuncData
  Counts_eq : Addr
  d_Counts_eq : FuncData
  Counts_len : Addr
  d_Counts_len : FuncData
  Counts_str : Addr
  d_Counts_str : FuncData
  Counts_repr : Addr
  d_Counts_repr : FuncData
  Counts_told : Addr
  d_Counts_told : FuncData
  Counts_need_member : Addr
  d_Counts_need_member : FuncData
  Counts_of : Addr
  d_Counts_of : FuncData
  Counts_sum_of : Addr
  d_Counts_sum_of : FuncData
  Counts_raised : Addr
  d_Counts_raised : FuncData
  _law_pool : Addr
  d__law_pool : FuncData
  _law_take : Addr
  d__law_take : FuncData
  _law_numbers : Addr
  d__law_numbers : FuncData
  _law_near : Addr
  d__law_near : FuncData
  _law_whole : Addr
  d__law_whole : FuncData
  _law_refused : Addr
  d__law_refused : FuncData
  _law_no_member : Addr
  d__law_no_member : FuncData
  _law_told : Addr
  d__law_told : FuncData
  _law_equal : Addr
  d__law_equal : FuncData
  law : Addr
  d_law : FuncData
/-- what the top has left of them -/
structure Txt (K : PySem.W.Frag) (mg : Str → Option Value) (a : Ad) : Prop where
  m_HallError : mg "HallError" = some (.ref a.HallError)
  e_HallError : XcC K a.HallError
  hs_HallError : PySem.W.specialIn K (.ref a.HallError) "__getattribute__" = some (some (.builtin "type.__getattribute__"))
  hq_HallError : PySem.W.readsIn K a.HallError (.type "type") = true
  hf_HallError : PySem.W.findCls K (.ref a.HallError) (.type "type") "__init__" = some (.val (.builtin "ValueError.__init__"))
  m_NoNumber : mg "NoNumber" = some (.ref a.NoNumber)
  n_NoNumber_found : NoAttr K a.NoNumber "found"
  e_NoNumber : XcC K a.NoNumber
  o_NoNumber : OexC K a.NoNumber
  oi_NoNumber : PySem.W.findIn K (.ref a.NoNumber) "__init__" = some (some (.ref a.NoNumber_init))
  ot_NoNumber : PySem.W.typeIn K (.ref a.NoNumber_init) = some (.type "function")
  u_NoNumber_HallError : PySem.W.subIn K (.ref a.NoNumber) (.ref a.HallError) = some true
  u_NoNumber_NoNumber : PySem.W.subIn K (.ref a.NoNumber) (.ref a.NoNumber) = some true
  u_NoNumber_NoMember : PySem.W.subIn K (.ref a.NoNumber) (.ref a.NoMember) = some false
  u_NoNumber_NoCounts : PySem.W.subIn K (.ref a.NoNumber) (.ref a.NoCounts) = some false
  u_NoNumber_Unlike : PySem.W.subIn K (.ref a.NoNumber) (.ref a.Unlike) = some false
  x_NoNumber_HallError : PySem.W.kitOne K (.ref a.NoNumber) (.ref a.HallError) = some true
  x_NoNumber_NoMember : PySem.W.kitOne K (.ref a.NoNumber) (.ref a.NoMember) = some false
  x_NoNumber_NoCounts : PySem.W.kitOne K (.ref a.NoNumber) (.ref a.NoCounts) = some false
  x_NoNumber_Unlike : PySem.W.kitOne K (.ref a.NoNumber) (.ref a.Unlike) = some false
  m_NoMember : mg "NoMember" = some (.ref a.NoMember)
  n_NoMember_found : NoAttr K a.NoMember "found"
  xv_NoMember : PySem.W.kitOne K (.ref a.NoMember) (.type "ValueError") = some true
  e_NoMember : XcC K a.NoMember
  o_NoMember : OexC K a.NoMember
  oi_NoMember : PySem.W.findIn K (.ref a.NoMember) "__init__" = some (some (.ref a.NoMember_init))
  ot_NoMember : PySem.W.typeIn K (.ref a.NoMember_init) = some (.type "function")
  u_NoMember_HallError : PySem.W.subIn K (.ref a.NoMember) (.ref a.HallError) = some true
  u_NoMember_NoNumber : PySem.W.subIn K (.ref a.NoMember) (.ref a.NoNumber) = some false
  u_NoMember_NoMember : PySem.W.subIn K (.ref a.NoMember) (.ref a.NoMember) = some true
  u_NoMember_NoCounts : PySem.W.subIn K (.ref a.NoMember) (.ref a.NoCounts) = some false
  u_NoMember_Unlike : PySem.W.subIn K (.ref a.NoMember) (.ref a.Unlike) = some false
  x_NoMember_HallError : PySem.W.kitOne K (.ref a.NoMember) (.ref a.HallError) = some true
  x_NoMember_NoNumber : PySem.W.kitOne K (.ref a.NoMember) (.ref a.NoNumber) = some false
  x_NoMember_NoCounts : PySem.W.kitOne K (.ref a.NoMember) (.ref a.NoCounts) = some false
  x_NoMember_Unlike : PySem.W.kitOne K (.ref a.NoMember) (.ref a.Unlike) = some false
  m_NoCounts : mg "NoCounts" = some (.ref a.NoCounts)
  n_NoCounts_found : NoAttr K a.NoCounts "found"
  xv_NoCounts : PySem.W.kitOne K (.ref a.NoCounts) (.type "ValueError") = some true
  e_NoCounts : XcC K a.NoCounts
  o_NoCounts : OexC K a.NoCounts
  oi_NoCounts : PySem.W.findIn K (.ref a.NoCounts) "__init__" = some (some (.ref a.NoCounts_init))
  ot_NoCounts : PySem.W.typeIn K (.ref a.NoCounts_init) = some (.type "function")
  u_NoCounts_HallError : PySem.W.subIn K (.ref a.NoCounts) (.ref a.HallError) = some true
  u_NoCounts_NoNumber : PySem.W.subIn K (.ref a.NoCounts) (.ref a.NoNumber) = some false
  u_NoCounts_NoMember : PySem.W.subIn K (.ref a.NoCounts) (.ref a.NoMember) = some false
  u_NoCounts_NoCounts : PySem.W.subIn K (.ref a.NoCounts) (.ref a.NoCounts) = some true
  u_NoCounts_Unlike : PySem.W.subIn K (.ref a.NoCounts) (.ref a.Unlike) = some false
  x_NoCounts_HallError : PySem.W.kitOne K (.ref a.NoCounts) (.ref a.HallError) = some true
  x_NoCounts_NoNumber : PySem.W.kitOne K (.ref a.NoCounts) (.ref a.NoNumber) = some false
  x_NoCounts_NoMember : PySem.W.kitOne K (.ref a.NoCounts) (.ref a.NoMember) = some false
  x_NoCounts_Unlike : PySem.W.kitOne K (.ref a.NoCounts) (.ref a.Unlike) = some false
  m_Unlike : mg "Unlike" = some (.ref a.Unlike)
  n_Unlike_found : NoAttr K a.Unlike "found"
  e_Unlike : XcC K a.Unlike
  o_Unlike : OexC K a.Unlike
  u_Unlike_HallError : PySem.W.subIn K (.ref a.Unlike) (.ref a.HallError) = some true
  u_Unlike_NoNumber : PySem.W.subIn K (.ref a.Unlike) (.ref a.NoNumber) = some false
  u_Unlike_NoMember : PySem.W.subIn K (.ref a.Unlike) (.ref a.NoMember) = some false
  u_Unlike_NoCounts : PySem.W.subIn K (.ref a.Unlike) (.ref a.NoCounts) = some false
  u_Unlike_Unlike : PySem.W.subIn K (.ref a.Unlike) (.ref a.Unlike) = some true
  x_Unlike_HallError : PySem.W.kitOne K (.ref a.Unlike) (.ref a.HallError) = some true
  x_Unlike_NoNumber : PySem.W.kitOne K (.ref a.Unlike) (.ref a.NoNumber) = some false
  x_Unlike_NoMember : PySem.W.kitOne K (.ref a.Unlike) (.ref a.NoMember) = some false
  x_Unlike_NoCounts : PySem.W.kitOne K (.ref a.Unlike) (.ref a.NoCounts) = some false
  m_Counts : mg "Counts" = some (.ref a.Counts)
  c_Counts : Cls K a.Counts
  i_Counts : IsC K a.Counts
  q_Counts : EqC K a.Counts
  sl_Counts : PySem.W.subIn K (.ref a.Counts) (.type "list") = some false
  nn_Counts : PySem.W.findIn K (.ref a.Counts) "__ne__" = some (some (.builtin "object.__ne__"))
  mk_Counts : Mk K a.Counts a.Counts_init
  n_Counts_kept_numbers : NoAttr K a.Counts "kept_numbers"
  F_NoNumber_init : FunD K "__init__" "NoNumber.__init__" (defArgs s_NoNumber_init) (defBody s_NoNumber_init) (defScope s_NoNumber_init) [] [] a.NoNumber_init a.d_NoNumber_init
  B_NoNumber_init : Binds K a.d_NoNumber_init ["self", "found"] []
  F_NoMember_init : FunD K "__init__" "NoMember.__init__" (defArgs s_NoMember_init) (defBody s_NoMember_init) (defScope s_NoMember_init) [] [] a.NoMember_init a.d_NoMember_init
  B_NoMember_init : Binds K a.d_NoMember_init ["self", "found"] []
  F_NoCounts_init : FunD K "__init__" "NoCounts.__init__" (defArgs s_NoCounts_init) (defBody s_NoCounts_init) (defScope s_NoCounts_init) [] [] a.NoCounts_init a.d_NoCounts_init
  B_NoCounts_init : Binds K a.d_NoCounts_init ["self", "found"] []
  F_Unlike_init : FunD K "__init__" "Unlike.__init__" (defArgs s_Unlike_init) (defBody s_Unlike_init) (defScope s_Unlike_init) [] [] a.Unlike_init a.d_Unlike_init
  F_is_whole : FunD K "is_whole" "is_whole" (defArgs s_is_whole) (defBody s_is_whole) (defScope s_is_whole) [V.non] [] a.is_whole a.d_is_whole
  B_is_whole : Binds K a.d_is_whole ["thing", "low", "high"] []
  m_is_whole : mg "is_whole" = some (.ref a.is_whole)
  B1_is_whole : ∃ ds, Vals [V.non] ds ∧ Binds K a.d_is_whole ["thing", "low", "high"] ds
  F_are_numbers : FunD K "are_numbers" "are_numbers" (defArgs s_are_numbers) (defBody s_are_numbers) (defScope s_are_numbers) [] [] a.are_numbers a.d_are_numbers
  B_are_numbers : Binds K a.d_are_numbers ["thing"] []
  m_are_numbers : mg "are_numbers" = some (.ref a.are_numbers)
  F_Counts_init : FunD K "__init__" "Counts.__init__" (defArgs s_Counts_init) (defBody s_Counts_init) (defScope s_Counts_init) [] [] a.Counts_init a.d_Counts_init
  B_Counts_init : Binds K a.d_Counts_init ["self", "numbers"] []
  F_Counts_eq : FunD K "__eq__" "Counts.__eq__" (defArgs s_Counts_eq) (defBody s_Counts_eq) (defScope s_Counts_eq) [] [] a.Counts_eq a.d_Counts_eq
  B_Counts_eq : Binds K a.d_Counts_eq ["self", "other"] []
  M_Counts_eq : Meth K a.Counts "__eq__" a.Counts_eq
  F_Counts_len : FunD K "__len__" "Counts.__len__" (defArgs s_Counts_len) (defBody s_Counts_len) (defScope s_Counts_len) [] [] a.Counts_len a.d_Counts_len
  B_Counts_len : Binds K a.d_Counts_len ["self"] []
  M_Counts_len : Meth K a.Counts "__len__" a.Counts_len
  F_Counts_str : FunD K "__str__" "Counts.__str__" (defArgs s_Counts_str) (defBody s_Counts_str) (defScope s_Counts_str) [] [] a.Counts_str a.d_Counts_str
  B_Counts_str : Binds K a.d_Counts_str ["self"] []
  M_Counts_str : Meth K a.Counts "__str__" a.Counts_str
  F_Counts_repr : FunD K "__repr__" "Counts.__repr__" (defArgs s_Counts_repr) (defBody s_Counts_repr) (defScope s_Counts_repr) [] [] a.Counts_repr a.d_Counts_repr
  B_Counts_repr : Binds K a.d_Counts_repr ["self"] []
  M_Counts_repr : Meth K a.Counts "__repr__" a.Counts_repr
  F_Counts_told : FunD K "told" "Counts.told" (defArgs s_Counts_told) (defBody s_Counts_told) (defScope s_Counts_told) [] [] a.Counts_told a.d_Counts_told
  B_Counts_told : Binds K a.d_Counts_told ["self"] []
  M_Counts_told : Meth K a.Counts "told" a.Counts_told
  F_Counts_need_member : FunD K "need_member" "Counts.need_member" (defArgs s_Counts_need_member) (defBody s_Counts_need_member) (defScope s_Counts_need_member) [] [] a.Counts_need_member a.d_Counts_need_member
  B_Counts_need_member : Binds K a.d_Counts_need_member ["self", "member"] []
  M_Counts_need_member : Meth K a.Counts "need_member" a.Counts_need_member
  F_Counts_of : FunD K "of" "Counts.of" (defArgs s_Counts_of) (defBody s_Counts_of) (defScope s_Counts_of) [] [] a.Counts_of a.d_Counts_of
  B_Counts_of : Binds K a.d_Counts_of ["self", "member"] []
  M_Counts_of : Meth K a.Counts "of" a.Counts_of
  F_Counts_sum_of : FunD K "sum_of" "Counts.sum_of" (defArgs s_Counts_sum_of) (defBody s_Counts_sum_of) (defScope s_Counts_sum_of) [] [] a.Counts_sum_of a.d_Counts_sum_of
  B_Counts_sum_of : Binds K a.d_Counts_sum_of ["self"] []
  M_Counts_sum_of : Meth K a.Counts "sum_of" a.Counts_sum_of
  F_Counts_raised : FunD K "raised" "Counts.raised" (defArgs s_Counts_raised) (defBody s_Counts_raised) (defScope s_Counts_raised) [V.int 1] [] a.Counts_raised a.d_Counts_raised
  B_Counts_raised : Binds K a.d_Counts_raised ["self", "member", "by"] []
  M_Counts_raised : Meth K a.Counts "raised" a.Counts_raised
  F__law_pool : FunD K "_law_pool" "_law_pool" (defArgs s__law_pool) (defBody s__law_pool) (defScope s__law_pool) [] [] a._law_pool a.d__law_pool
  B__law_pool : Binds K a.d__law_pool ["cell"] []
  m__law_pool : mg "_law_pool" = some (.ref a._law_pool)
  F__law_take : FunD K "_law_take" "_law_take" (defArgs s__law_take) (defBody s__law_take) (defScope s__law_take) [] [] a._law_take a.d__law_take
  B__law_take : Binds K a.d__law_take ["pool", "size"] []
  m__law_take : mg "_law_take" = some (.ref a._law_take)
  F__law_numbers : FunD K "_law_numbers" "_law_numbers" (defArgs s__law_numbers) (defBody s__law_numbers) (defScope s__law_numbers) [] [] a._law_numbers a.d__law_numbers
  B__law_numbers : Binds K a.d__law_numbers ["pool", "members"] []
  m__law_numbers : mg "_law_numbers" = some (.ref a._law_numbers)
  F__law_near : FunD K "_law_near" "_law_near" (defArgs s__law_near) (defBody s__law_near) (defScope s__law_near) [] [] a._law_near a.d__law_near
  B__law_near : Binds K a.d__law_near ["row", "pool"] []
  m__law_near : mg "_law_near" = some (.ref a._law_near)
  F__law_whole : FunD K "_law_whole" "_law_whole" (defArgs s__law_whole) (defBody s__law_whole) (defScope s__law_whole) [] [] a._law_whole a.d__law_whole
  B__law_whole : Binds K a.d__law_whole ["found"] []
  m__law_whole : mg "_law_whole" = some (.ref a._law_whole)
  F__law_refused : FunD K "_law_refused" "_law_refused" (defArgs s__law_refused) (defBody s__law_refused) (defScope s__law_refused) [] [] a._law_refused a.d__law_refused
  B__law_refused : Binds K a.d__law_refused ["thing"] []
  m__law_refused : mg "_law_refused" = some (.ref a._law_refused)
  F__law_no_member : FunD K "_law_no_member" "_law_no_member" (defArgs s__law_no_member) (defBody s__law_no_member) (defScope s__law_no_member) [] [] a._law_no_member a.d__law_no_member
  B__law_no_member : Binds K a.d__law_no_member ["counts", "thing"] []
  m__law_no_member : mg "_law_no_member" = some (.ref a._law_no_member)
  F__law_told : FunD K "_law_told" "_law_told" (defArgs s__law_told) (defBody s__law_told) (defScope s__law_told) [] [] a._law_told a.d__law_told
  B__law_told : Binds K a.d__law_told ["counts", "row"] []
  m__law_told : mg "_law_told" = some (.ref a._law_told)
  F__law_equal : FunD K "_law_equal" "_law_equal" (defArgs s__law_equal) (defBody s__law_equal) (defScope s__law_equal) [] [] a._law_equal a.d__law_equal
  B__law_equal : Binds K a.d__law_equal ["counts", "row", "other"] []
  m__law_equal : mg "_law_equal" = some (.ref a._law_equal)
  F_law : FunD K "law" "law" (defArgs s_law) (defBody s_law) (defScope s_law) [] [] a.law a.d_law
  g_LEAST_MEMBERS : ∃ u, mg "LEAST_MEMBERS" = some u ∧ RelV (V.int 2) u
  g_MOST_MEMBERS : ∃ u, mg "MOST_MEMBERS" = some u ∧ RelV (V.int 5) u
  b_ValueError : mg "ValueError" = none
  b_all : mg "all" = none
  b_bool : mg "bool" = none
  b_int : mg "int" = none
  b_isinstance : mg "isinstance" = none
  b_len : mg "len" = none
  b_list : mg "list" = none
  b_max : mg "max" = none
  b_min : mg "min" = none
  b_range : mg "range" = none
  b_repr : mg "repr" = none
  b_str : mg "str" = none
  b_sum : mg "sum" = none
  b_tuple : mg "tuple" = none
theorem sc_NoNumber_init : FnScope ["self", "found"] ["self", "found"] (defScope s_NoNumber_init) := ⟨rfl, rfl, rfl, by decide +kernel, rfl, by decide +kernel, by decide +kernel⟩
theorem sc_NoMember_init : FnScope ["self", "found"] ["self", "found"] (defScope s_NoMember_init) := ⟨rfl, rfl, rfl, by decide +kernel, rfl, by decide +kernel, by decide +kernel⟩
theorem sc_NoCounts_init : FnScope ["self", "found"] ["self", "found"] (defScope s_NoCounts_init) := ⟨rfl, rfl, rfl, by decide +kernel, rfl, by decide +kernel, by decide +kernel⟩
theorem sc_Unlike_init : FnScope ["self", "found"] ["self", "found"] (defScope s_Unlike_init) := ⟨rfl, rfl, rfl, by decide +kernel, rfl, by decide +kernel, by decide +kernel⟩
theorem sc_is_whole : FnScope ["thing", "low", "high"] ["thing", "low", "high"] (defScope s_is_whole) := ⟨rfl, rfl, rfl, by decide +kernel, rfl, by decide +kernel, by decide +kernel⟩
theorem sc_are_numbers : FnScope ["thing", "number"] ["thing"] (defScope s_are_numbers) := ⟨rfl, rfl, rfl, by decide +kernel, rfl, by decide +kernel, by decide +kernel⟩
theorem sc_Counts_init : FnScope ["self", "numbers"] ["self", "numbers"] (defScope s_Counts_init) := ⟨rfl, rfl, rfl, by decide +kernel, rfl, by decide +kernel, by decide +kernel⟩
theorem sc_Counts_eq : FnScope ["self", "other"] ["self", "other"] (defScope s_Counts_eq) := ⟨rfl, rfl, rfl, by decide +kernel, rfl, by decide +kernel, by decide +kernel⟩
theorem sc_Counts_len : FnScope ["self"] ["self"] (defScope s_Counts_len) := ⟨rfl, rfl, rfl, by decide +kernel, rfl, by decide +kernel, by decide +kernel⟩
theorem sc_Counts_str : FnScope ["self", "number"] ["self"] (defScope s_Counts_str) := ⟨rfl, rfl, rfl, by decide +kernel, rfl, by decide +kernel, by decide +kernel⟩
theorem sc_Counts_repr : FnScope ["self", "row", "number"] ["self"] (defScope s_Counts_repr) := ⟨rfl, rfl, rfl, by decide +kernel, rfl, by decide +kernel, by decide +kernel⟩
theorem sc_Counts_told : FnScope ["self"] ["self"] (defScope s_Counts_told) := ⟨rfl, rfl, rfl, by decide +kernel, rfl, by decide +kernel, by decide +kernel⟩
theorem sc_Counts_need_member : FnScope ["self", "member"] ["self", "member"] (defScope s_Counts_need_member) := ⟨rfl, rfl, rfl, by decide +kernel, rfl, by decide +kernel, by decide +kernel⟩
theorem sc_Counts_of : FnScope ["self", "member"] ["self", "member"] (defScope s_Counts_of) := ⟨rfl, rfl, rfl, by decide +kernel, rfl, by decide +kernel, by decide +kernel⟩
theorem sc_Counts_sum_of : FnScope ["self"] ["self"] (defScope s_Counts_sum_of) := ⟨rfl, rfl, rfl, by decide +kernel, rfl, by decide +kernel, by decide +kernel⟩
theorem sc_Counts_raised : FnScope ["self", "member", "by", "numbers"] ["self", "member", "by"] (defScope s_Counts_raised) := ⟨rfl, rfl, rfl, by decide +kernel, rfl, by decide +kernel, by decide +kernel⟩
theorem sc__law_pool : FnScope ["cell", "number", "k", "mix"] ["cell"] (defScope s__law_pool) := ⟨rfl, rfl, rfl, by decide +kernel, rfl, by decide +kernel, by decide +kernel⟩
theorem sc__law_take : FnScope ["pool", "size", "found"] ["pool", "size"] (defScope s__law_take) := ⟨rfl, rfl, rfl, by decide +kernel, rfl, by decide +kernel, by decide +kernel⟩
theorem sc__law_numbers : FnScope ["pool", "members", "size", "k"] ["pool", "members"] (defScope s__law_numbers) := ⟨rfl, rfl, rfl, by decide +kernel, rfl, by decide +kernel, by decide +kernel⟩
theorem sc__law_near : FnScope ["row", "pool", "other", "number", "step"] ["row", "pool"] (defScope s__law_near) := ⟨rfl, rfl, rfl, by decide +kernel, rfl, by decide +kernel, by decide +kernel⟩
theorem sc__law_whole : FnScope ["found"] ["found"] (defScope s__law_whole) := ⟨rfl, rfl, rfl, by decide +kernel, rfl, by decide +kernel, by decide +kernel⟩
theorem sc__law_refused : FnScope ["thing", "e"] ["thing"] (defScope s__law_refused) := ⟨rfl, rfl, rfl, by decide +kernel, rfl, by decide +kernel, by decide +kernel⟩
theorem sc__law_no_member : FnScope ["counts", "thing", "e"] ["counts", "thing"] (defScope s__law_no_member) := ⟨rfl, rfl, rfl, by decide +kernel, rfl, by decide +kernel, by decide +kernel⟩
theorem sc__law_told : FnScope ["counts", "row", "told", "number", "total", "k", "words", "some", "thing"] ["counts", "row"] (defScope s__law_told) := ⟨rfl, rfl, rfl, by decide +kernel, rfl, by decide +kernel, by decide +kernel⟩
theorem sc__law_equal : FnScope ["counts", "row", "other", "thing"] ["counts", "row", "other"] (defScope s__law_equal) := ⟨rfl, rfl, rfl, by decide +kernel, rfl, by decide +kernel, by decide +kernel⟩
theorem sc_law : FnScope ["script", "cell", "pool", "spoil", "place", "kind", "members", "row", "handed", "counts", "two", "moved", "top", "at", "bad", "some", "thing"] ["script"] (defScope s_law) := ⟨rfl, rfl, rfl, by decide +kernel, rfl, by decide +kernel, by decide +kernel⟩
/-- is x a whole number from lo on, up to hi -/
def isWh (lo : Int) (hi : V) : V → Bool
  | .int n => decide (lo ≤ n) && (match hi with | .int h => decide (n ≤ h) | _ => true)
  | _ => false
def spWhole (K : PySem.W.Frag) : Sp := fun vs H Q _ => ∃ x lo hi, vs = [x, .int lo, hi] ∧ Kn K H x ∧ (hi = .non ∨ ∃ h, hi = .int h) ∧ Q (.bl (isWh lo hi x)) H
def spTake : Sp := fun vs H Q _ => ∃ p m n, vs = [.ref p, .int n] ∧ H p = some (.lst [.int m]) ∧ 0 < n ∧ n.natAbs.log2 < 9000 ∧ ∀ r m' : Int, 0 ≤ r → r < n → Q (.int r) (upd H p (.lst [.int m']))
def spPool : Sp := fun vs H Q _ => ∃ n, vs = [.int n] ∧ ∀ p m, H p = none → Q (.ref p) (upd H p (.lst [.int m]))
section
variable {K : PySem.W.Frag} {H : Hp} {Q : VK} {E : XK} {x : V} {z : Str}
theorem take_use {vs : List V} {p : Addr} {m n : Int} (h1 : H p = some (.lst [.int m])) (h2 : 0 < n) (h3 : n.natAbs.log2 < 9000) (h : ∀ r m' : Int, 0 ≤ r → r < n → Q (.int r) (upd H p (.lst [.int m']))) (he : vs = [.ref p, .int n] := by rfl) : spTake vs H Q E := ⟨p, m, n, he, h1, h2, h3, h⟩
theorem whole_use {vs : List V} {lo : Int} {hi : V} (h1 : Kn K H x) (h2 : hi = .non ∨ ∃ h, hi = .int h) (h : Q (.bl (isWh lo hi x)) H) (he : vs = [x, .int lo, hi] := by rfl) : spWhole K vs H Q E := ⟨x, lo, hi, he, h1, h2, h⟩
theorem wholeN_use {vs : List V} {lo n : Int} (h : Q (.bl (decide (lo ≤ n))) H) (he : vs = [.int n, .int lo, .non] := by rfl) : spWhole K vs H Q E := ⟨_, lo, _, he, trivial, .inl rfl, cast_bl h (by simp [isWh])⟩
theorem wholeH_use {vs : List V} {lo n hi : Int} (h : Q (.bl (decide (lo ≤ n) && decide (n ≤ hi))) H) (he : vs = [.int n, .int lo, .int hi] := by rfl) : spWhole K vs H Q E := ⟨_, lo, _, he, trivial, .inr ⟨hi, rfl⟩, h⟩
theorem pool_use {vs : List V} {n : Int} (h : ∀ p m, H p = none → Q (.ref p) (upd H p (.lst [.int m]))) (he : vs = [.int n] := by rfl) : spPool vs H Q E := ⟨n, he, h⟩
end
/-! steps by the reading's head alone -/
set_option hygiene false in
local macro_rules | `(tactic| wtm_at "h") => `(tactic| with_reducible first
  | refine i_seq ?_ | refine i_asg ?_ | refine i_op ?_ | refine i_name ?_ | refine i_c ?_ | refine i_ifS ?_ | refine i_ret ?_ | refine i_cons ?_ | refine i_nil ?_ | refine i_test ?_ | refine i_tB ?_ | refine i_bl ?_
  | refine i_not ?_ | refine i_and ?_ | refine i_or ?_ | refine i_andV ?_ | refine i_orV ?_ | refine i_notV ?_ | refine i_if ?_ | refine i_next ?_ | refine i_drop ?_ | refine i_retN ?_ | refine i_brk ?_ | refine i_cont ?_
  | refine i_sub ?_ | refine i_gnil ?_ | refine i_gcons ?_ | refine i_un ?_ | refine i_rU ?_ | refine i_rI0 ?_ | refine i_chain ?_ | refine i_addI ?_ | refine i_isB ?_ | refine i_isN ?_ | refine i_isnB ?_ | refine i_isnN ?_ | refine i_inS ?_
  | refine i_for ?_ | refine i_lc ?_ | refine i_iStr ?_ | refine i_itS ?_ | refine i_iList ?_ | refine i_iTup ?_ | refine i_iR1 ?_ | refine i_yes ?_ | refine i_mk (fun x dx ndx nx1 nx nex => ?_) | refine i_disp (fun q hq => ?_) | refine i_tp0 ?_ | refine i_tp1 ?_ | refine i_dnew (fun q hq => ?_) | refine i_dnewT (fun q hq => ?_) | refine i_iSeq ?_ | refine i_fld ?_ | refine i_sfld ?_ | refine i_make ?_ | refine i_meth ?_ | refine i_maxU ?_ | refine i_minU ?_ | refine i_sl ?_ | refine i_po0 ?_ | refine i_po1 ?_ | refine i_poI ?_ | refine i_lst ?_ | refine i_tup ?_ | refine i_cB ?_ | refine i_call ?_ | refine i_callN ?_ | refine i_isoN ?_ | refine i_isoB ?_ | refine i_isoI ?_ | refine i_isoS ?_ | refine i_ifN ?_ | refine i_ifAnd ?_ | fail)
/-! what stands at an address -/
local macro_rules | `(tactic| wtm_at "as") => `(tactic| with_reducible assumption)
local macro_rules | `(tactic| wtm_at "getg") => `(tactic| first
  | wtm_at "as"
  | ((with_reducible refine' upd_same' ?g0); (case g0 => exact rfl))
  | ((with_reducible refine' get_upd ?g1 ?g2); (case g1 => wtm_at "as"); (case g2 => wtm_at "getg"))
  | ((fail_if_success ((with_reducible refine' get_upd ?g1 ?g2); (case g1 => wtm_at "as"))); (with_reducible refine' get_ne ?g1 ?g2); (case g2 => wtm_at "getg"); (case g1 => wtm_at "ne"))
  | ((with_reducible refine' get_same ?g1 ?g2); (case g1 => wtm_at "as"); (case g2 => wtm_at "getg"))
  | ((with_reducible refine' get_but ?g1 ?g3 ?g2); (case g1 => wtm_at "as"); (case g2 => wtm_at "getg"); (case g3 => wtm_at "ne")) | fail)
local macro_rules | `(tactic| wtm_at "get") => `(tactic| ((with_reducible refine' get_o ?gg ?ge); (case gg => wtm_at "getg"); (case ge => exact rfl)))
local macro_rules | `(tactic| wtm_at "ne") => `(tactic| first
  | wtm_at "as"
  | ((with_reducible refine' Ne.symm ?n0); (case n0 => wtm_at "as"))
  | ((with_reducible refine' ne_of_none ?n1 ?n2); (case n2 => wtm_at "as"); (case n1 => wtm_at "getg"))
  | ((with_reducible refine' Ne.symm (ne_of_none ?n1 ?n2)); (case n2 => wtm_at "as"); (case n1 => wtm_at "getg"))
  | ((with_reducible refine' ne_of ?n1 ?n2 ?n3); (case n1 => wtm_at "as"); (case n2 => wtm_at "as"); (case n3 => (intro z; cases z)))
  | ((with_reducible refine' ne_of ?n1 ?n2 ?n3); (case n1 => wtm_at "as"); (case n2 => wtm_at "getg"); (case n3 => (intro z; cases z)))
  | ((with_reducible refine' Ne.symm (ne_of ?n1 ?n2 ?n3)); (case n1 => wtm_at "as"); (case n2 => wtm_at "getg"); (case n3 => (intro z; cases z))) | fail)
local macro_rules | `(tactic| wtm_at "sqf") => `(tactic| first
  | wtm_at "as"
  | ((with_reducible refine' SqL.up ?s1 ?s2); (case s1 => wtm_at "as"); (case s2 => wtm_at "sqf"))
  | ((with_reducible refine' SqT.up ?s1 ?s2); (case s1 => wtm_at "as"); (case s2 => wtm_at "sqf"))
  | ((with_reducible refine' SqL.sm ?s1 ?s2); (case s1 => wtm_at "as"); (case s2 => wtm_at "sqf"))
  | ((with_reducible refine' SqT.same ?s1 ?s2); (case s1 => wtm_at "as"); (case s2 => wtm_at "sqf"))
  | ((fail_if_success ((with_reducible refine' SqL.up ?s1 ?s2); (case s1 => wtm_at "as"))); (with_reducible refine' SqL.un ?s1 ?s2); (case s2 => wtm_at "sqf"); (case s1 => wtm_at "ne"))
  | ((fail_if_success ((with_reducible refine' SqT.up ?s1 ?s2); (case s1 => wtm_at "as"))); (with_reducible refine' SqT.un ?s1 ?s2); (case s2 => wtm_at "sqf"); (case s1 => wtm_at "ne"))
  | ((fail_if_success ((with_reducible refine' SqL.up ?s1 ?s2); (case s1 => wtm_at "as"))); (with_reducible refine' SqL.uk ?s1 ?s3 ?s4 ?s2); (case s2 => wtm_at "sqf"); (case s1 => wtm_at "getg"); (case s3 => (intro ys z; cases z)); (case s4 => (intro b u z; cases z)))
  | ((fail_if_success ((with_reducible refine' SqT.up ?s1 ?s2); (case s1 => wtm_at "as"))); (with_reducible refine' SqT.uk ?s1 ?s3 ?s4 ?s2); (case s2 => wtm_at "sqf"); (case s1 => wtm_at "getg"); (case s3 => (intro ys z; cases z)); (case s4 => (intro b u z; cases z)))
  | ((with_reducible refine' SqL.but ?s1 ?s3 ?s2); (case s1 => wtm_at "as"); (case s2 => wtm_at "sqf"); (case s3 => wtm_at "ne"))
  | ((with_reducible refine' SqT.but ?s1 ?s3 ?s2); (case s1 => wtm_at "as"); (case s2 => wtm_at "sqf"); (case s3 => wtm_at "ne")) | fail)
local macro_rules | `(tactic| wtm_at "sq") => `(tactic| first
  | wtm_at "as"
  | ((with_reducible refine' SqL.of' ?s0 ?s1); (case s0 => wtm_at "getg"); (case s1 => exact rfl))
  | ((with_reducible refine' SqT.of' ?s0 ?s1); (case s0 => wtm_at "getg"); (case s1 => exact rfl))
  | wtm_at "sqf" | fail)
local macro_rules | `(tactic| wtm_at "same") => `(tactic| (intro b o e; wtm_at "get"))
local macro_rules | `(tactic| wtm_at "but") => `(tactic| (intro b o n e; wtm_at "get"))
/-! data -/
local macro_rules | `(tactic| wtm_at "dp") => `(tactic| first | exact Dp.bl _ | exact Dp.int _ | exact Dp.str _ | exact Dp.non | (refine Dp.lst (by wtm_at "sq") ?_; wtm_at "dps") | (refine Dp.tup (by wtm_at "sq") ?_; wtm_at "dps") | fail)
local macro_rules | `(tactic| wtm_at "dps") => `(tactic| first | exact DpAll.nil | (refine DpAll.cons ?hd ?tl; (case hd => wtm_at "dp"); (case tl => wtm_at "dps")) | fail)
/-! steps that ask something besides -/
set_option hygiene false in
local macro_rules | `(tactic| wtm_at "a") => `(tactic| first
  | (with_reducible refine' i_var ?h1 ?_); (case h1 => rfl)
  | (with_reducible refine' i_ixG ?h1 ?h0 ?h2 ?_); (case h1 => wtm_at "getg"); (case h0 => rfl); (case h2 => rfl)
  | (with_reducible refine' i_ixL ?h1 ?h2 ?_); (case h1 => wtm_at "sqf"); (case h2 => rfl)
  | (with_reducible refine' i_ixT ?h1 ?h2 ?_); (case h1 => wtm_at "sqf"); (case h2 => rfl)
  | (with_reducible refine' i_rI ?h1 ?_); (case h1 => first | assumption | decide | omega | exact ⟨by omega, by assumption⟩ | exact ⟨by decide, by decide⟩ | exact cpow (by omega) (by omega) (by omega))
  | (with_reducible refine' i_setL ?h1 ?h2 ?_); (case h1 => wtm_at "get"); (case h2 => rfl)
  | (with_reducible refine' i_eqS ?h1 ?_); (case h1 => rfl)
  | (with_reducible refine' i_neS ?h1 ?_); (case h1 => rfl)
  | (with_reducible refine' i_new ?h1 (fun q hq => ?_)); (case h1 => first | decide | exact Nat.le_of_ble_eq_true rfl | omega)
  | (with_reducible refine' i_sqL ?h1 ?_); (case h1 => wtm_at "sq")
  | (with_reducible refine' i_sqT ?h1 ?_); (case h1 => wtm_at "sq")
  | (with_reducible refine' i_fldR ?h1 ?h2 ?h3 ?h4 ?_); (case h1 => wtm_at "get"); (case h2 => wtm_at "cls"); (case h3 => wtm_at "cls"); (case h4 => first | assumption | rfl)
  | (with_reducible refine' i_sfldR ?h1 ?h2 ?h3 ?h4 ?_); (case h1 => wtm_at "get"); (case h2 => wtm_at "cls"); (case h3 => wtm_at "cls"); (case h4 => first | exact Nat.le_of_ble_eq_true rfl | assumption)
  | (with_reducible refine' i_methR ?h1 ?h2 ?_); (case h1 => wtm_at "get"); (case h2 => first | assumption | rfl)
  | (with_reducible refine' i_tupOfL ?h1 (fun q hq => ?_)); (case h1 => wtm_at "sq")
  | (with_reducible refine' i_tupOfT ?h1 ?_); (case h1 => wtm_at "sq")
  | (with_reducible refine' i_lstOfL ?h1 (fun q hq => ?_)); (case h1 => wtm_at "sq")
  | (with_reducible refine' i_lstOfT ?h1 (fun q hq => ?_)); (case h1 => wtm_at "sq")
  | (with_reducible refine' i_slL ?h1 (fun q hq => ?_)); (case h1 => wtm_at "sq")
  | (with_reducible refine' i_lens ?h1 ?h2 ?_); (case h1 => rfl); (case h2 => rfl)
  | (with_reducible refine' i_itL ?h1 ?_); (case h1 => wtm_at "sq")
  | (with_reducible refine' i_itT ?h1 ?_); (case h1 => wtm_at "sq")
  | (with_reducible refine' i_r1 ?h1 ?_); (case h1 => omega)
  | (with_reducible refine' i_mulI ?h1 ?_); (case h1 => first | assumption | exact mulW64 (by omega) (by omega))
  | (with_reducible refine' i_wipe ?h1 ?_); (case h1 => rfl)
  | (with_reducible refine' i_all ?h1 ?_); (case h1 => wtm_at "sq")
  | (with_reducible refine' i_addS ?h1 ?_); (case h1 => first | assumption | exact line_le (by omega))
  | (with_reducible refine' i_addL ?h1 ?h2 ?h3 (fun q hq => ?_)); (case h1 => wtm_at "get"); (case h2 => wtm_at "get"); (case h3 => first | assumption | exact line_le (by omega) | exact Nat.le_of_lt (line_lt (by simp only [List.length_append, List.length_cons, List.length_nil]; omega)) | decide)
  | (with_reducible refine' i_lenG ?h1 ?h0 ?_); (case h1 => wtm_at "getg"); (case h0 => rfl)
  | (with_reducible refine' i_lenL ?h1 ?_); (case h1 => wtm_at "sqf")
  | (with_reducible refine' i_lenT ?h1 ?_); (case h1 => wtm_at "sqf")
  | (with_reducible refine' i_lenS ?h1 ?_); (case h1 => first | assumption | exact line_le (by omega))
  | (with_reducible refine' i_slS ?h1 ?_); (case h1 => first | assumption | exact line_le (by omega))
  | (with_reducible refine' i_eqLF ?h1 ?h2 ?f1 ?f2 ?_); (case h1 => wtm_at "sq"); (case h2 => wtm_at "sq"); (case f1 => rfl); (case f2 => rfl)
  | (with_reducible refine' i_isiBs ?h1 ?_); (case h1 => wtm_at "get")
  | (with_reducible refine' i_rI ?h1 ?_); (case h1 => exact wide_div (b := 400) (by omega) (by first | decide +kernel | omega) (by decide) (by decide))
  | (with_reducible refine' i_isiB ?h1 ?_); (case h1 => rfl)
  | (with_reducible refine' i_isoG ?h1 ?h0 ?_); (case h1 => wtm_at "getg"); (case h0 => rfl)
  | (with_reducible refine' i_isoC ?h1 ?h2 ?h3 ?_); (case h1 => wtm_at "get"); (case h2 => wtm_at "cls"); (case h3 => wtm_at "cls")
  | (with_reducible refine' i_isoL ?h1 ?_); (case h1 => wtm_at "sqf")
  | (with_reducible refine' i_isoT ?h1 ?_); (case h1 => wtm_at "sqf")
  | wtm_at "if" | fail)
local macro_rules | `(tactic| wtm_at "if") => `(tactic| ((with_reducible refine i_isIf ?_); first
  | (with_reducible refine iteT ?_) | (with_reducible refine iteF ?_) | refine i_tT (by wtm_at "as") ?_ | refine i_tF (by wtm_at "as") ?_ | refine iteT ?_ | refine iteF ?_
  | refine i_decT (by first | assumption | with_reducible rfl | omega) ?_ | refine i_decF (by first | assumption | omega) ?_ | fail))
local macro_rules | `(tactic| wtm_at "go") => `(tactic| repeat' (first | wtm_at "h" | wtm_at "a" | wtm_at "u" | fail))
local macro_rules | `(tactic| wtm_at "gs") => `(tactic| repeat' (first | wtm_at "h" | wtm_at "a" | wtm_at "u" | with_reducible refine i_dec (fun _ => ?_) (fun _ => ?_) | fail))
local macro_rules | `(tactic| wtm_at "kn") => `(tactic| first | wtm_at "as" | exact trivial | ((with_reducible refine' Kn.same ?k1 ?k2); (case k1 => wtm_at "as"); (case k2 => wtm_at "kn")) | ((with_reducible refine' Kn.up ?k1 ?k2); (case k1 => wtm_at "as"); (case k2 => wtm_at "kn")))
set_option hygiene false in
local macro_rules | `(tactic| wtm_at "u") => `(tactic| first
  | ((with_reducible refine' pool_use (fun q m hq => ?_) ?he); (case he => rfl))
  | ((with_reducible refine' wholeN_use ?_ ?he); (case he => rfl))
  | ((with_reducible refine' wholeH_use ?_ ?he); (case he => rfl))
  | ((with_reducible refine' whole_use ?h1 ?h2 ?_ ?he); (case he => rfl); (case h1 => wtm_at "kn"); (case h2 => first | exact .inl rfl | exact .inr ⟨_, rfl⟩ | assumption)) | fail)
set_option hygiene false in
local macro_rules | `(tactic| wtm_at "u") => `(tactic| ((with_reducible refine' take_use ?h1 ?h2 ?h3 (fun r m' hr0 hr1 => ?_) ?he); (case he => rfl); (case h1 => wtm_at "get"); (case h2 => first | decide | assumption); (case h3 => first | decide +kernel | assumption | fail)))
section
variable {P : Program} {w : World} {K : PySem.W.Frag} {mg : Str → Option Value} {base : Heap} {a : Ad}
theorem ok__law_take (T : Txt K mg a) : FnOk P w K mg base CX0 1 a._law_take a.d__law_take ["pool", "size"] (spTake) := by
  refine fund_ok0 T.F__law_take sc__law_take (fun vs H Q E h => ?_) (fun cdv A outer s H vs Q E hr h => ?_)
  · obtain ⟨p, m, n, rfl, hp, h0, h9, k⟩ := h
    rfl
  · obtain ⟨p, m, n, rfl, hp, h0, h9, k⟩ := h
    refine ⟨_, (pss_cons (ps_set (i := 2) sc__law_take.nd rfl (by first | exact Or.inl rfl | exact Or.inr rfl) (pe_op op_modU (pe_ix (ix_U (K := K)) (pv 0) pe_int (fun _ _ => rfl)) (pv 1)))
    (pss_cons (ps_asg (pe_op op_fdivU (pe_ix (ix_U (K := K)) (pv 0) pe_int (fun _ _ => rfl)) (pv 1)) (pg_sub (pv 0) pe_int set_list))
    (pss_one (ps_ret (pv 2))))), ?_⟩
    dsimp only [L2.start, List.map_cons, List.map_nil, List.map, List.length_cons, List.length_nil, Nat.reduceAdd, Nat.reduceSub, List.replicate, List.cons_append, List.nil_append]
    wtm_at "go"
    exact k _ _ (Int.emod_nonneg _ (by omega)) (Int.emod_lt_of_pos _ h0)
theorem ok_is_whole (T : Txt K mg a) : FnOk P w K mg base CX0 1 a.is_whole a.d_is_whole ["thing", "low", "high"] (spWhole K) := by
  refine fund_ok0 T.F_is_whole sc_is_whole (fun vs H Q E h => ?_) (fun cdv A outer s H vs Q E hr h => ?_)
  · obtain ⟨x, lo, hi, rfl, kn, kh, k⟩ := h
    rfl
  · obtain ⟨x, lo, hi, rfl, kn, kh, k⟩ := h
    refine ⟨_, (pss_cons (ps_if (PW.pt (pw_or (pt_not (pt_val (pe_callB (call_isiB .int (K := K)) (by rfl) T.b_isinstance (by decide +kernel) (pa_cons (pv 0) (pa_cons (pe_bltn (v := .ty "int") (u := .type "int") (by rfl) T.b_int (by decide +kernel) rfl) pa_nil))))) (pw_or (pt_val (pe_callB (call_isiB .bl (K := K)) (by rfl) T.b_isinstance (by decide +kernel) (pa_cons (pv 0) (pa_cons (pe_bltn (v := .ty "bool") (u := .type "bool") (by rfl) T.b_bool (by decide +kernel) rfl) pa_nil)))) (pw_or1 (pt_cmpR op_ltU (pv 0) (pv 1) (nomark _)))))) (pss_one (ps_ret pe_bl)) pss_nil)
    (pss_one (ps_ret (pe_or (pe_cmpR op_isU (pv 2) pe_non (nomark _)) (pe_one (pe_cmpR op_leU (pv 0) (pv 2) (nomark _))))))), ?_⟩
    dsimp only [L2.start, List.map_cons, List.map_nil, List.map, List.length_cons, List.length_nil, Nat.reduceAdd, Nat.reduceSub, List.replicate, List.cons_append, List.nil_append]
    cases x <;> first | exact kn.elim | skip
    case ref =>
      wtm_at "go"
      refine i_isoR kn fun f c e1 e2 e3 => ?_
      wtm_at "go"
      exact k
    case int =>
      rcases kh with rfl | ⟨h, rfl⟩
      all_goals wtm_at "gs"
      all_goals refine cast_bl k ?_
      all_goals simp only [isWh]
      all_goals simp_all
      all_goals omega
    all_goals wtm_at "gs"
    all_goals exact k
theorem ok__law_pool (T : Txt K mg a) : FnOk P w K mg base CX0 1 a._law_pool a.d__law_pool ["cell"] (spPool) := by
  refine fund_ok0 T.F__law_pool sc__law_pool (fun vs H Q E h => ?_) (fun cdv A outer s H vs Q E hr h => ?_)
  · obtain ⟨n, rfl, k⟩ := h
    rfl
  · obtain ⟨n, rfl, k⟩ := h
    refine ⟨_, (pss_cons (ps_if (pt_cmpR op_geU (pv 0) (pe_op op_powU pe_int pe_int) (nomark _)) (pss_one (ps_ret (pe_lst (pa_cons (pv 0) pa_nil)))) pss_nil)
    (pss_cons (ps_set (i := 1) sc__law_pool.nd rfl (by first | exact Or.inl rfl | exact Or.inr rfl) pe_int)
    (pss_cons (ps_for PassesOwn.never rfl (pi_range1 (by rfl) T.b_range (pa_cons pe_int pa_nil)) (pg_name (i := 2) sc__law_pool.nd rfl (by first | exact Or.inl rfl | exact Or.inr rfl))
    (pss_cons (ps_set (i := 3) sc__law_pool.nd rfl (by first | exact Or.inl rfl | exact Or.inr rfl) (pe_op op_modU (pe_op op_powU (pe_op (op_addU (K := K)) (pe_op (op_addU (K := K)) (pe_op op_mulU (pe_op op_modU (pv 0) pe_int) pe_int) (pe_op op_mulU pe_int (pv 2))) pe_int) pe_int) pe_int))
    (pss_one (ps_set (i := 1) sc__law_pool.nd rfl (by first | exact Or.inl rfl | exact Or.inr rfl) (pe_op (op_addU (K := K)) (pe_op op_mulU (pv 1) pe_int) (pe_op op_modU (pe_op op_powU (pe_op (op_addU (K := K)) (pe_op op_mulU (pv 3) pe_int) (pv 2)) pe_int) pe_int))))))
    (pss_one (ps_ret (pe_lst (pa_cons (pv 1) pa_nil))))))), ?_⟩
    dsimp only [L2.start, List.map_cons, List.map_nil, List.map, List.length_cons, List.length_nil, Nat.reduceAdd, Nat.reduceSub, List.replicate, List.cons_append, List.nil_append]
    wtm_at "gs"
    · exact k _ _ (by assumption)
    refine for_range (lo := 0) (n := 9) (fun i σ H' => H' = H ∧ ∃ (z : Int) (v1 v2 : Option V), σ = [some (.int n), some (.int z), v1, v2] ∧ 0 ≤ z ∧ z.natAbs < 2 ^ (31 * i)) ⟨rfl, 0, none, none, rfl, by decide, by decide⟩ ?_ ?_
    · rintro i σ _ hi ⟨rfl, z, v1, v2, rfl, h0, h1⟩
      have hq : 2 ^ (31 * (i + 1)) = 2 ^ (31 * i) * 2147483648 := by rw [Nat.mul_add, Nat.pow_add]
      have hp : 2 ^ (31 * i) ≤ 2 ^ 400 := Nat.pow_le_pow_right (by decide) (by omega)
      generalize 2 ^ (31 * i) = q at *
      wtm_at "gs"
      refine i_mulI (mulW (Nat.lt_of_lt_of_le h1 hp) (by decide)) ?_
      wtm_at "gs"
      rw [hq]
      exact ⟨rfl, _, _, _, rfl, pool_next _ _ _ h0 h1⟩
    · rintro σ _ ⟨rfl, z, v1, v2, rfl, h0, h1⟩
      wtm_at "gs"
      exact k _ _ (by assumption)
end

/-! errors: steps -/
theorem exm_eq {K : PySem.W.Frag} {c : Value} {l : List Value} {b d : Bool} (h : PySem.W.exmAny K c l = some b) (e : b = d) : PySem.W.exmAny K c l = some d := e ▸ h
theorem xdAt_of {H : Hp} {dd : Addr} {fs : List (Str × V)} (h : H dd = some (.xd fs)) : XdAt H (some dd) := .inr ⟨dd, fs, rfl, h⟩
theorem kit_eq {K : PySem.W.Frag} {c : Value} {l : List Value} {b d : Bool} (h : PySem.W.kitAny K c l = some b) (e : b = d) : PySem.W.kitAny K c l = some d := e ▸ h
local macro_rules | `(tactic| wtm_at "exm") => `(tactic| first | exact any_nil | ((with_reducible refine' any_cons ?x1 ?x2); (case x1 => wtm_at "exm1"); (case x2 => wtm_at "exm")) | fail)
local macro_rules | `(tactic| wtm_at "kit") => `(tactic| first | exact kany_nil | ((with_reducible refine' kany_cons ?x1 ?x2); (case x1 => wtm_at "xk"); (case x2 => wtm_at "kit")) | fail)
local macro_rules | `(tactic| wtm_at "xd") => `(tactic| ((with_reducible refine' xdAt_of ?xd); (case xd => wtm_at "getg")))
local macro_rules | `(tactic| wtm_at "clv") => `(tactic| first | exact .nil | exact .ty _ | exact .own _ | (refine' .cons ?v1 ?v2; (case v1 => wtm_at "clv"); (case v2 => wtm_at "clv")) | fail)
set_option hygiene false in
local macro_rules | `(tactic| wtm_at "u") => `(tactic| with_reducible first
  | refine i_nn ?_ | refine i_rev ?_ | refine i_raise ?_ | refine i_exc ?_ | refine i_try ?_ | refine i_methS ?_ | refine i_callS ?_ | refine i_makeS ?_ | refine i_goN ?_ | refine i_go0 ?_ | refine i_xfA ?_ | refine i_zipT ?_ | refine i_excV (fun ed hed => ?_) | refine i_maxU ?_ | refine i_minU ?_ | refine i_isiC ?_ | refine i_app ?_ | refine i_intB ?_ | refine i_intI ?_ | fail)
set_option hygiene false in
local macro_rules | `(tactic| wtm_at "u") => `(tactic| first
  | ((with_reducible refine' i_clT (exm_eq ?hb ?hc) (fun ea hea => ?_)); (case hb => wtm_at "exm"); (case hc => exact rfl))
  | ((with_reducible refine' i_clF (exm_eq ?hb ?hc) ?_); (case hb => wtm_at "exm"); (case hc => exact rfl))
  | ((with_reducible refine' i_xf ?T ?no ?h1 ?h2 ?_); (case T => wtm_at "xc"); (case no => wtm_at "xn"); (case h1 => wtm_at "getg"); (case h2 => exact rfl))
  | ((with_reducible refine' i_isX rfl ?T ?xd ?k ?e ?_); (case T => wtm_at "xc"); (case xd => wtm_at "xd"); (case k => wtm_at "clv"); (case e => wtm_at "xk"))
  | ((with_reducible refine' i_isXs ?ht rfl ?T ?xd ?k (kit_eq ?e ?eb) ?_); (case ht => wtm_at "getg"); (case T => wtm_at "xc"); (case xd => wtm_at "xd"); (case k => wtm_at "clv"); (case e => wtm_at "kit"); (case eb => exact rfl))
  | ((with_reducible refine' i_tupT ?h1 ?h2 ?_); (case h1 => wtm_at "sq"); (case h2 => exact rfl))
  | ((with_reducible refine' i_ixL ?h1 ?h2 ?_); (case h1 => wtm_at "sq"); (case h2 => wtm_at "as"))
  | ((with_reducible refine' i_ixT ?h1 ?h2 ?_); (case h1 => wtm_at "sq"); (case h2 => wtm_at "as"))
  | ((with_reducible refine' i_revL ?e ?h1 ?_); (case e => rfl); (case h1 => wtm_at "sq"); intro q hq)
  | ((with_reducible refine' i_rep1 ?h1 ?h2 (fun q hq => ?_)); (case h1 => wtm_at "get"); (case h2 => first | wtm_at "as" | omega | (simp only [List.length_map]; omega)))
  | ((with_reducible refine' i_tyL ?h1 ?_); (case h1 => wtm_at "sq"))
  | ((with_reducible refine' i_rapp ?h1 ?h2 ?_); (case h1 => wtm_at "get"); (case h2 => first | assumption | exact line_lt (by first | omega | (simp only [List.length_append, List.length_map, List.length_cons, List.length_nil]; omega))))
  | ((with_reducible refine' i_kit ?e ?_); (case e => wtm_at "xk"))
  | ((with_reducible refine' i_zipTT ?h1 ?h2 ?_); (case h1 => wtm_at "sq"); (case h2 => wtm_at "sq"))
  | ((with_reducible refine' i_zipLL ?h1 ?h2 ?_); (case h1 => wtm_at "sq"); (case h2 => wtm_at "sq")) | fail)
local macro_rules | `(tactic| wtm_at "rz") => `(tactic| first | assumption | wtm_at "same" | wtm_at "get" | fail)
local macro_rules | `(tactic| wtm_at "nn") => `(tactic| first | wtm_at "as" | exact nn_rep (by first | decide | omega) | fail)
local macro_rules | `(tactic| wtm_at "lenle") => `(tactic| first | wtm_at "as" | omega | (simp only [List.length_replicate, List.length_map, List.length_cons, List.length_nil]; omega))
local macro_rules | `(tactic| wtm_at "noc") => `(tactic| first | wtm_at "as" | ((with_reducible refine' NoC.same ?s ?h); (case h => wtm_at "as"); (case s => wtm_at "same")) | exact NoC.flat rfl | exact NoC.ofG (by wtm_at "getg") rfl | exact NoC.sqL (by wtm_at "sq") | exact NoC.sqT (by wtm_at "sq") | fail)
local macro_rules | `(tactic| wtm_at "nos") => `(tactic| first | wtm_at "as" | ((with_reducible refine' NoSeq.same ?s ?h); (case h => wtm_at "as"); (case s => wtm_at "same")) | exact NoSeq.flat rfl | exact NoSeq.dict (by wtm_at "get") | fail)
set_option hygiene false in
local macro_rules | `(tactic| wtm_at "a") => `(tactic| first
  | ((with_reducible refine' i_isiBsN ?h0 ?hn ?_); (case hn => wtm_at "nos"); (case h0 => wtm_at "get"))
  | ((with_reducible refine' i_isiLN ?hn ?_); (case hn => wtm_at "nos"))
  | ((with_reducible refine' i_isiTN ?hn ?_); (case hn => wtm_at "nos"))
  | ((with_reducible refine' i_isiTN2 ?hn ?_); (case hn => wtm_at "as"))
  | ((with_reducible refine' i_isiCN ?hn ?_); (case hn => wtm_at "noc")) | fail)
local macro_rules | `(tactic| wtm_at "eqv") => `(tactic| first | exact EqV.one | exact EqV.selfB rfl | ((with_reducible refine' EqV.noc ?n); (case n => wtm_at "noc")) | ((with_reducible refine' EqV.selfA ?n); (case n => wtm_at "kn")) | ((with_reducible refine' EqV.nos ?n); (case n => wtm_at "nos")) | exact EqV.flat rfl | fail)
local macro_rules | `(tactic| wtm_at "eqvs") => `(tactic| first | exact EqVs.nil | ((with_reducible refine' EqVs.cons ?e1 ?e2); (case e1 => wtm_at "eqv"); (case e2 => wtm_at "eqvs")) | exact EqVs.nilc | exact EqVs.cnil | fail)
set_option hygiene false in
local macro_rules | `(tactic| wtm_at "u") => `(tactic| first
  | ((with_reducible refine' i_neG (n := 3) ?h1 ?hn ?t ?_); (case h1 => first | exact .inl ⟨by wtm_at "sq", by wtm_at "sq"⟩ | exact .inr ⟨by wtm_at "sq", by wtm_at "sq"⟩); (case t => wtm_at "eqvs"); (case hn => decide))
  | ((with_reducible refine' i_eqG (n := 3) ?h1 ?hn ?t ?_); (case h1 => first | exact .inl ⟨by wtm_at "sq", by wtm_at "sq"⟩ | exact .inr ⟨by wtm_at "sq", by wtm_at "sq"⟩); (case t => wtm_at "eqvs"); (case hn => decide)) | fail)
set_option hygiene false in
local macro_rules | `(tactic| wtm_at "exm1") => `(tactic| first | exact exm_own T.e_HallError T.u_NoCounts_HallError | exact exm_own T.e_NoNumber T.u_NoCounts_NoNumber | exact exm_own T.e_NoMember T.u_NoCounts_NoMember | exact exm_own T.e_NoCounts T.u_NoCounts_NoCounts | exact exm_own T.e_Unlike T.u_NoCounts_Unlike | exact exm_own T.e_HallError T.u_NoNumber_HallError | exact exm_own T.e_NoNumber T.u_NoNumber_NoNumber | exact exm_own T.e_NoMember T.u_NoNumber_NoMember | exact exm_own T.e_NoCounts T.u_NoNumber_NoCounts | exact exm_own T.e_Unlike T.u_NoNumber_Unlike | exact exm_own T.e_HallError T.u_NoMember_HallError | exact exm_own T.e_NoNumber T.u_NoMember_NoNumber | exact exm_own T.e_NoMember T.u_NoMember_NoMember | exact exm_own T.e_NoCounts T.u_NoMember_NoCounts | exact exm_own T.e_Unlike T.u_NoMember_Unlike | exact exm_own T.e_HallError T.u_Unlike_HallError | exact exm_own T.e_NoNumber T.u_Unlike_NoNumber | exact exm_own T.e_NoMember T.u_Unlike_NoMember | exact exm_own T.e_NoCounts T.u_Unlike_NoCounts | exact exm_own T.e_Unlike T.u_Unlike_Unlike | fail)
set_option hygiene false in
local macro_rules | `(tactic| wtm_at "xk") => `(tactic| first | exact kit_self | exact T.x_NoCounts_HallError | exact T.x_NoCounts_NoNumber | exact T.x_NoCounts_NoMember | exact T.x_NoCounts_Unlike | exact T.x_NoNumber_HallError | exact T.x_NoNumber_NoMember | exact T.x_NoNumber_NoCounts | exact T.x_NoNumber_Unlike | exact T.x_NoMember_HallError | exact T.x_NoMember_NoNumber | exact T.x_NoMember_NoCounts | exact T.x_NoMember_Unlike | exact T.x_Unlike_HallError | exact T.x_Unlike_NoNumber | exact T.x_Unlike_NoMember | exact T.x_Unlike_NoCounts | fail)
set_option hygiene false in
local macro_rules | `(tactic| wtm_at "xc") => `(tactic| first | exact T.e_NoCounts | exact T.e_NoNumber | exact T.e_NoMember | exact T.e_Unlike | fail)
set_option hygiene false in
local macro_rules | `(tactic| wtm_at "xn") => `(tactic| first | exact T.n_NoCounts_found | exact T.n_NoNumber_found | exact T.n_NoMember_found | exact T.n_Unlike_found | fail)
set_option hygiene false in
local macro_rules | `(tactic| wtm_at "xk") => `(tactic| first | exact T.xv_NoCounts | exact T.xv_NoMember | fail)
/-- raised: an error of the class C with found = v -/
def Rz (C : Addr) (v : V) (H : Hp) (E : XK) : Prop := ∀ H' d, Same H H' → H' d = some (.xd [("found", v)]) → E (.ref C) (some d) H'
/-- what Counts can be made of -/
def areL (xs : List V) : Bool := decide (2 ≤ xs.length) && (decide (xs.length ≤ 5) && xs.all (isWh 0 .non))
def spAre (K : PySem.W.Frag) : Sp := fun vs H Q _ => ∃ x, vs = [x] ∧ ((∃ p xs, x = .ref p ∧ (SqL K H p xs ∨ SqT K H p xs) ∧ (∀ y ∈ xs, Kn K H y) ∧ xs.length ≤ 1000 ∧ ∀ H', Same H H' → Q (.bl (areL xs)) H') ∨ (NoSeq K H x ∧ ∀ H', Same H H' → Q (.bl false) H'))
/-- at c: Counts of ns -/
def CtAt (K : PySem.W.Frag) (a : Ad) (H : Hp) (c : Addr) (ns : List Int) : Prop := ∃ dx t, H c = some (.ins a.Counts dx [("kept_numbers", .ref t)]) ∧ SqT K H t (ns.map V.int) ∧ (∀ n ∈ ns, 0 ≤ n) ∧ 2 ≤ ns.length ∧ ns.length ≤ 5
theorem CtAt.same {K : PySem.W.Frag} {a : Ad} {H H' : Hp} {c : Addr} {ns : List Int} (s : Same H H') (h : CtAt K a H c ns) : CtAt K a H' c ns := by
  obtain ⟨dx, t, h1, h2, h3⟩ := h
  exact ⟨dx, t, s _ _ h1, SqT.same s h2, h3⟩
theorem CtAt.butL {K : PySem.W.Frag} {a : Ad} {H H' : Hp} {c D : Addr} {ns : List Int} {acc : List V} (hD : H D = some (.lst acc)) (s : SameBut D H H') (h : CtAt K a H c ns) : CtAt K a H' c ns := by
  obtain ⟨dx, t, h1, h2, h3⟩ := h
  exact ⟨dx, t, s _ _ (ne_of h1 hD (by intro z; cases z)) h1, SqT.butL hD s h2, h3⟩
theorem areL_ns {xs : List V} (h : areL xs = true) : ∃ ns : List Int, xs = ns.map V.int ∧ (∀ n ∈ ns, 0 ≤ n) ∧ 2 ≤ ns.length ∧ ns.length ≤ 5 := by
  simp only [areL, Bool.and_eq_true, decide_eq_true_eq] at h
  obtain ⟨h1, h2, h3⟩ := h
  have key : ∀ l : List V, l.all (isWh 0 .non) = true → ∃ ns : List Int, l = ns.map V.int ∧ ∀ n ∈ ns, 0 ≤ n := by
    intro l
    induction l with
    | nil => exact fun _ => ⟨[], rfl, fun _ h => nomatch h⟩
    | cons x l ih =>
      intro h
      rw [List.all_cons, Bool.and_eq_true] at h
      obtain ⟨ns, e, k⟩ := ih h.2
      cases x <;> first | (exact absurd h.1 Bool.false_ne_true) | skip
      rename_i n
      refine ⟨n :: ns, by rw [e]; rfl, fun m hm => ?_⟩
      rcases List.mem_cons.mp hm with rfl | hm
      · have := h.1
        simp only [isWh, Bool.and_true, decide_eq_true_eq] at this
        exact this
      · exact k _ hm
  obtain ⟨ns, e, k⟩ := key xs h3
  subst e
  rw [List.length_map] at h1 h2
  exact ⟨ns, rfl, k, h1, h2⟩
theorem areL_of {ns : List Int} (h0 : ∀ n ∈ ns, 0 ≤ n) (h1 : 2 ≤ ns.length) (h2 : ns.length ≤ 5) : areL (ns.map V.int) = true := by
  simp only [areL, Bool.and_eq_true, decide_eq_true_eq, List.length_map]
  refine ⟨h1, h2, List.all_eq_true.mpr fun x hx => ?_⟩
  obtain ⟨n, hn, rfl⟩ := List.mem_map.mp hx
  simp only [isWh, Bool.and_true, decide_eq_true_eq]
  exact h0 n hn
theorem zw_ge {f : Int → Int → Int} (h : ∀ i j, 0 ≤ i → 0 ≤ j → 0 ≤ f i j) : ∀ {ns ms : List Int}, (∀ n ∈ ns, 0 ≤ n) → (∀ m ∈ ms, 0 ≤ m) → ∀ n ∈ List.zipWith f ns ms, 0 ≤ n
  | [], _, _, _, _, hn => by cases hn
  | _ :: _, [], _, _, _, hn => by cases hn
  | n :: ns, m :: ms, h1, h2, k, hk => by
    rcases List.mem_cons.mp hk with rfl | hk
    · exact h _ _ (h1 _ List.mem_cons_self) (h2 _ List.mem_cons_self)
    · exact zw_ge h (fun x hx => h1 x (List.mem_cons_of_mem _ hx)) (fun x hx => h2 x (List.mem_cons_of_mem _ hx)) k hk
def spCI (K : PySem.W.Frag) (a : Ad) : Sp := fun vs H Q E => ∃ x dx v, vs = [.ref x, v] ∧ H x = some (.ins a.Counts dx []) ∧
  ((∃ p xs, v = .ref p ∧ ((p ≠ x ∧ SqL K H p xs) ∨ SqT K H p xs) ∧ (∀ y ∈ xs, Kn K H y) ∧ xs.length ≤ 1000 ∧ (areL xs = true → ∀ H', SameBut x H H' → ∀ ns, xs = ns.map V.int → CtAt K a H' x ns → Q .non H') ∧ (areL xs = false → Rz a.NoCounts v H E)) ∨ (NoSeq K H v ∧ Rz a.NoCounts v H E))
def spTold (K : PySem.W.Frag) (a : Ad) : Sp := fun vs H Q _ => ∃ c ns, vs = [.ref c] ∧ CtAt K a H c ns ∧ ∀ t, SqT K H t (ns.map V.int) → Q (.ref t) H
/-- asked with another thing: what is due -/
def Lk (K : PySem.W.Frag) (a : Ad) (ns : List Int) (o : V) (H : Hp) (E : XK) (ok : List Int → Prop) : Prop :=
  (∃ c2 ms, o = .ref c2 ∧ CtAt K a H c2 ms ∧ ((ms.length = ns.length ∧ ok ms) ∨ (ms.length ≠ ns.length ∧ Rz a.Unlike o H E))) ∨ (NoC K H o ∧ Rz a.NoCounts o H E)
def spLk (K : PySem.W.Frag) (a : Ad) (ok : List Int → List Int → Hp → VK → Prop) : Sp := fun vs H Q E => ∃ c ns o, vs = [.ref c, o] ∧ CtAt K a H c ns ∧ Lk K a ns o H E fun ms => ok ns ms H Q
abbrev spLike (K : PySem.W.Frag) (a : Ad) : Sp := spLk K a fun _ _ H Q => Q .non H
abbrev spJoin (K : PySem.W.Frag) (a : Ad) (f : Int → Int → Int) : Sp := spLk K a fun ns ms H Q => ∀ H' r, Same H H' → CtAt K a H' r (List.zipWith f ns ms) → Q (.ref r) H'
def covs (ns ms : List Int) : Bool := (List.zipWith (fun n m : Int => decide (m ≤ n)) ns ms).all id
abbrev spCov (K : PySem.W.Frag) (a : Ad) : Sp := spLk K a fun ns ms H Q => ∀ H', Same H H' → Q (.bl (covs ns ms)) H'
theorem covs_self : ∀ ns : List Int, covs ns ns = true
  | [] => rfl
  | n :: ns => by
    show (decide (n ≤ n) && covs ns ns) = true
    rw [covs_self ns, decide_eq_true (Int.le_refl n)]
    rfl
theorem covs_anti : ∀ {ns ms : List Int}, ms.length = ns.length → covs ns ms = true → covs ms ns = true → ns = ms
  | [], [], _, _, _ => rfl
  | [], _ :: _, e, _, _ => by cases e
  | _ :: _, [], e, _, _ => by cases e
  | n :: ns, m :: ms, e, h1, h2 => by
    have h1 : (decide (m ≤ n) && covs ns ms) = true := h1
    have h2 : (decide (n ≤ m) && covs ms ns) = true := h2
    rw [Bool.and_eq_true, decide_eq_true_eq] at h1 h2
    rw [covs_anti (Nat.succ.inj e) h1.2 h2.2, Int.le_antisymm h2.1 h1.1]
def stands (ns ms : List Int) : Str := if ns = ms then "same" else if covs ns ms then "behind" else if covs ms ns then "ahead" else "beside"
abbrev spStands (K : PySem.W.Frag) (a : Ad) : Sp := spLk K a fun ns ms H Q => ∀ H', Same H H' → Q (.str (stands ns ms)) H'
section
variable {K : PySem.W.Frag} {H : Hp} {Q : VK} {E : XK} {x : V} {a : Ad}
theorem are_use {vs : List V} {p : Addr} {xs : List V} (h1 : SqL K H p xs ∨ SqT K H p xs) (h2 : ∀ y ∈ xs, Kn K H y) (h3 : xs.length ≤ 1000) (h : ∀ H', Same H H' → Q (.bl (areL xs)) H') (he : vs = [.ref p] := by rfl) : spAre K vs H Q E := ⟨_, he, .inl ⟨p, xs, rfl, h1, h2, h3, h⟩⟩
theorem areN_use {vs : List V} (h1 : NoSeq K H x) (h : ∀ H', Same H H' → Q (.bl false) H') (he : vs = [x] := by rfl) : spAre K vs H Q E := ⟨x, he, .inr ⟨h1, h⟩⟩
theorem told_use {vs : List V} {c : Addr} {ns : List Int} (h1 : CtAt K a H c ns) (h : ∀ t, SqT K H t (ns.map V.int) → Q (.ref t) H) (he : vs = [.ref c] := by rfl) : spTold K a vs H Q E := ⟨c, ns, he, h1, h⟩
theorem like_ok {vs : List V} {c c2 : Addr} {ns ms : List Int} (h1 : CtAt K a H c ns) (h2 : CtAt K a H c2 ms) (h3 : ms.length = ns.length) (h : Q .non H) (he : vs = [.ref c, .ref c2] := by rfl) : spLike K a vs H Q E := ⟨c, ns, _, he, h1, .inl ⟨c2, ms, rfl, h2, .inl ⟨h3, h⟩⟩⟩
theorem lk_un {ok : List Int → List Int → Hp → VK → Prop} {vs : List V} {c c2 : Addr} {ns ms : List Int} (h1 : CtAt K a H c ns) (h2 : CtAt K a H c2 ms) (h3 : ms.length ≠ ns.length) (h : ∀ H' d, Same H H' → H' d = some (.xd [("found", .ref c2)]) → E (.ref a.Unlike) (some d) H') (he : vs = [.ref c, .ref c2] := by rfl) : spLk K a ok vs H Q E :=
  ⟨c, ns, _, he, h1, .inl ⟨c2, ms, rfl, h2, .inr ⟨h3, h⟩⟩⟩
theorem lk_no {ok : List Int → List Int → Hp → VK → Prop} {vs : List V} {c : Addr} {o : V} {ns : List Int} (h1 : CtAt K a H c ns) (h2 : NoC K H o) (h : ∀ H' d, Same H H' → H' d = some (.xd [("found", o)]) → E (.ref a.NoCounts) (some d) H') (he : vs = [.ref c, o] := by rfl) : spLk K a ok vs H Q E := ⟨c, ns, o, he, h1, .inr ⟨h2, h⟩⟩
theorem join_ok {f : Int → Int → Int} {vs : List V} {c c2 : Addr} {ns ms : List Int} (h1 : CtAt K a H c ns) (h2 : CtAt K a H c2 ms) (h3 : ms.length = ns.length) (h : ∀ H' r, Same H H' → CtAt K a H' r (List.zipWith f ns ms) → Q (.ref r) H') (he : vs = [.ref c, .ref c2] := by rfl) : spJoin K a f vs H Q E := ⟨c, ns, _, he, h1, .inl ⟨c2, ms, rfl, h2, .inl ⟨h3, h⟩⟩⟩
theorem stands_ok {vs : List V} {c c2 : Addr} {ns ms : List Int} (h1 : CtAt K a H c ns) (h2 : CtAt K a H c2 ms) (h3 : ms.length = ns.length) (h : ∀ H', Same H H' → Q (.str (stands ns ms)) H') (he : vs = [.ref c, .ref c2] := by rfl) : spStands K a vs H Q E := ⟨c, ns, _, he, h1, .inl ⟨c2, ms, rfl, h2, .inl ⟨h3, h⟩⟩⟩
theorem cov_ok {vs : List V} {c c2 : Addr} {ns ms : List Int} (h1 : CtAt K a H c ns) (h2 : CtAt K a H c2 ms) (h3 : ms.length = ns.length) (h : ∀ H', Same H H' → Q (.bl (covs ns ms)) H') (he : vs = [.ref c, .ref c2] := by rfl) : spCov K a vs H Q E := ⟨c, ns, _, he, h1, .inl ⟨c2, ms, rfl, h2, .inl ⟨h3, h⟩⟩⟩
theorem eqLF_ns : ∀ ns ms : List Int, eqLF (ns.map V.int) (ms.map V.int) = decide (ns = ms)
  | [], [] => rfl
  | [], _ :: _ => rfl
  | _ :: _, [] => rfl
  | n :: ns, m :: ms => by
    show ((n == m) && eqLF _ _) = _
    rw [eqLF_ns ns ms]
    by_cases h : n = m
    · subst h
      by_cases h2 : ns = ms <;> simp [h2]
    · simp [h]
theorem nb_ns (ns : List Int) : (ns.map V.int).all isNB = true := by
  rw [List.all_map]
  exact List.all_eq_true.mpr fun _ _ => rfl
theorem i_eqTN {p q : Addr} {ns ms : List Int} (h1 : SqT K H p (ns.map V.int)) (h2 : SqT K H q (ms.map V.int)) (h : Q (.bl (decide (ns = ms))) H) : rEqU K (.ref p) (.ref q) H Q := i_eqTF h1 h2 (nb_ns ns) (nb_ns ms) (by rw [eqLF_ns]; exact h)
theorem i_neTN {p q : Addr} {ns ms : List Int} (h1 : SqT K H p (ns.map V.int)) (h2 : SqT K H q (ms.map V.int)) (h : Q (.bl (!decide (ns = ms))) H) : rNeU K (.ref p) (.ref q) H Q := i_neTF h1 h2 (nb_ns ns) (nb_ns ms) (by rw [eqLF_ns]; exact h)
theorem i_isoCt {c : Addr} {ns : List Int} {R : (Kd → Bool) → Option Addr → Prop} (h : CtAt K a H c ns) (k : Cls K a.Counts) (i : IsC K a.Counts) (q : R (fun _ => false) (some a.Counts)) : isO K (.ref c) H R := by
  obtain ⟨dx, t, h1, _⟩ := h
  exact i_isoC h1 k i q
theorem i_methCt {c : Addr} {ns : List Int} {m : Str} {R : Prop} (h1 : CtAt K a H c ns) (h2 : (("kept_numbers" : Str) == m) = false) (h : R) : ∃ b dx fs, V.ref c = .ref b ∧ H b = some (.ins a.Counts dx fs) ∧ fs.lookup m = none ∧ R := by
  obtain ⟨dx, t, g, _⟩ := h1
  refine ⟨c, dx, _, rfl, g, ?_, h⟩
  have : (m == ("kept_numbers" : Str)) = false := by rw [BEq.comm]; exact h2
  simp [List.lookup, this]
theorem ci_use {vs : List V} {x dx p : Addr} {xs : List V} {ns : List Int} (h0 : H x = some (.ins a.Counts dx [])) (h1 : p ≠ x) (h2 : SqL K H p xs ∨ SqT K H p xs) (h3 : xs = ns.map V.int) (h4 : ∀ n ∈ ns, 0 ≤ n) (h5 : 2 ≤ ns.length) (h6 : ns.length ≤ 5) (h : ∀ H', SameBut x H H' → CtAt K a H' x ns → Q .non H') (he : vs = [.ref x, .ref p] := by rfl) : spCI K a vs H Q E := by
  subst h3
  refine ⟨x, dx, _, he, h0, .inl ⟨p, _, rfl, h2.imp (fun z => ⟨h1, z⟩) id, fun y hy => ?_, by rw [List.length_map]; omega, fun _ H' s ms e => ?_, fun e => absurd e (by rw [areL_of h4 h5 h6]; decide)⟩⟩
  · obtain ⟨n, _, rfl⟩ := List.mem_map.mp hy
    exact trivial
  · have : ns = ms := List.map_inj_right (fun _ _ h => by cases h; rfl) |>.mp e
    subst this
    exact h H' s
theorem ciT_use {vs : List V} {x dx p : Addr} {xs : List V} {ns : List Int} (h0 : H x = some (.ins a.Counts dx [])) (h2 : SqT K H p xs) (h3 : xs = ns.map V.int) (h4 : ∀ n ∈ ns, 0 ≤ n) (h5 : 2 ≤ ns.length) (h6 : ns.length ≤ 5) (h : ∀ H', SameBut x H H' → CtAt K a H' x ns → Q .non H') (he : vs = [.ref x, .ref p] := by rfl) : spCI K a vs H Q E := by
  subst h3
  refine ⟨x, dx, _, he, h0, .inl ⟨p, _, rfl, .inr h2, fun y hy => ?_, by rw [List.length_map]; omega, fun _ H' s ms e => ?_, fun e => absurd e (by rw [areL_of h4 h5 h6]; decide)⟩⟩
  · obtain ⟨n, _, rfl⟩ := List.mem_map.mp hy
    exact trivial
  · have : ns = ms := List.map_inj_right (fun _ _ h => by cases h; rfl) |>.mp e
    subst this
    exact h H' s
end
local macro_rules | `(tactic| wtm_at "ct") => `(tactic| first | wtm_at "as" | ((with_reducible refine' CtAt.same ?c1 ?c2); (case c2 => wtm_at "as"); (case c1 => wtm_at "same")) | fail)
set_option hygiene false in
local macro_rules | `(tactic| wtm_at "u") => `(tactic| first
  | ((with_reducible refine' are_use ?h1 ?h2 ?h3 (fun HH sm => ?_) ?he); (case he => rfl); (case h1 => first | wtm_at "as" | exact .inl (by wtm_at "sq") | exact .inr (by wtm_at "sq")); (case h2 => wtm_at "as"); (case h3 => first | wtm_at "as" | exact Nat.le_of_ble_eq_true rfl))
  | ((with_reducible refine' areN_use ?h1 (fun HH sm => ?_) ?he); (case he => rfl); (case h1 => wtm_at "as"))
  | ((with_reducible refine' like_ok ?h1 ?h2 ?h3 ?_ ?he); (case he => rfl); (case h1 => wtm_at "ct"); (case h2 => wtm_at "ct"); (case h3 => wtm_at "as"))
  | ((with_reducible refine' lk_un ?h1 ?h2 ?h3 (fun HH ed sm hed => ?_) ?he); (case he => rfl); (case h1 => wtm_at "ct"); (case h2 => wtm_at "ct"); (case h3 => wtm_at "as"))
  | ((with_reducible refine' lk_no ?h1 ?h2 (fun HH ed sm hed => ?_) ?he); (case he => rfl); (case h1 => wtm_at "ct"); (case h2 => wtm_at "as"))
  | ((with_reducible refine' cov_ok ?h1 ?h2 ?h3 (fun HH sm => ?_) ?he); (case he => rfl); (case h1 => wtm_at "ct"); (case h2 => wtm_at "ct"); (case h3 => first | wtm_at "as" | exact Eq.symm (by wtm_at "as")))
  | ((with_reducible refine' join_ok ?h1 ?h2 ?h3 (fun HH r sm hct => ?_) ?he); (case he => rfl); (case h1 => wtm_at "ct"); (case h2 => wtm_at "ct"); (case h3 => first | wtm_at "as" | exact Eq.symm (by wtm_at "as")))
  | ((with_reducible refine' stands_ok ?h1 ?h2 ?h3 (fun HH sm => ?_) ?he); (case he => rfl); (case h1 => wtm_at "ct"); (case h2 => wtm_at "ct"); (case h3 => first | wtm_at "as" | exact Eq.symm (by wtm_at "as")))
  | ((with_reducible refine' i_isoCt ?h1 ?h2 ?h3 ?_); (case h1 => wtm_at "ct"); (case h2 => wtm_at "cls"); (case h3 => wtm_at "cls"))
  | ((with_reducible refine' i_methCt ?h1 ?h2 ?_); (case h1 => wtm_at "ct"); (case h2 => exact rfl))
  | ((with_reducible refine' i_eqTN ?h1 ?h2 ?_); (case h1 => wtm_at "sq"); (case h2 => wtm_at "sq"))
  | ((with_reducible refine' i_neTN ?h1 ?h2 ?_); (case h1 => wtm_at "sq"); (case h2 => wtm_at "sq"))
  | ((with_reducible refine' ci_use ?h0 ?h1 ?h2 rfl ?h4 ?h5 ?h6 (fun HH sm hct => ?_) ?he); (case he => rfl); (case h0 => wtm_at "getg"); (case h1 => wtm_at "ne"); (case h2 => first | exact .inl (by wtm_at "sq") | exact .inr (by wtm_at "sq")); (case h4 => wtm_at "nn"); (case h5 => wtm_at "lenle"); (case h6 => wtm_at "lenle"))
  | ((with_reducible refine' told_use ?h1 (fun kt hkt => ?_) ?he); (case he => rfl); (case h1 => wtm_at "ct")) | fail)
section
variable {P : Program} {w : World} {K : PySem.W.Frag} {mg : Str → Option Value} {base : Heap} {a : Ad}
theorem ok_NoCounts_init (T : Txt K mg a) : FnOk P w K mg base CX0 1 a.NoCounts_init a.d_NoCounts_init ["self", "found"] (spExI a.NoCounts "found") := by
  refine fund_ok0 T.F_NoCounts_init sc_NoCounts_init (fun vs H Q E h => ?_) (fun cdv A outer s H vs Q E hr h => ?_)
  · obtain ⟨b, v, rfl, h⟩ := h
    rfl
  · exact ⟨_, pss_cons (ps_expr (pe_hinit (by rfl) T.m_HallError T.hs_HallError T.hq_HallError T.hf_HallError (pa_cons (pv 0) (pa_cons pe_str pa_nil)))) (pss_one (ps_ost (pv 0) (pv 1))), exc_read rfl T.o_NoCounts T.n_NoCounts_found h⟩
theorem ok_Unlike_init (T : Txt K mg a) : FnOk P w K mg base CX0 1 a.Unlike_init a.d_Unlike_init ["self", "found"] (spExI a.Unlike "found") := by
  refine fund_ok0 T.F_Unlike_init sc_Unlike_init (fun vs H Q E h => ?_) (fun cdv A outer s H vs Q E hr h => ?_)
  · obtain ⟨b, v, rfl, h⟩ := h
    rfl
  · exact ⟨_, pss_cons (ps_expr (pe_hinit (by rfl) T.m_HallError T.hs_HallError T.hq_HallError T.hf_HallError (pa_cons (pv 0) (pa_cons pe_str pa_nil)))) (pss_one (ps_ost (pv 0) (pv 1))), exc_read rfl T.o_Unlike T.n_Unlike_found h⟩
theorem ok_are_numbers (T : Txt K mg a) : FnOk P w K mg base CX0 2 a.are_numbers a.d_are_numbers ["thing"] (spAre K) := by
  refine fund_ok0 T.F_are_numbers sc_are_numbers (fun vs H Q E h => ?_) (fun cdv A outer s H vs Q E hr h => ?_)
  · obtain ⟨x, rfl, h⟩ := h
    rfl
  · obtain ⟨x, rfl, h⟩ := h
    refine ⟨_, (pss_cons (ps_if (PW.pt (pw_or (pt_not (pt_val (pe_callB (call_isiBs [.lst, .tup] (K := K)) (by rfl) T.b_isinstance (by decide +kernel) (pa_cons (pv 0) (pa_cons (pe_tup (pa_cons (pe_bltn (v := .ty "list") (u := .type "list") (by rfl) T.b_list (by decide +kernel) rfl) (pa_cons (pe_bltn (v := .ty "tuple") (u := .type "tuple") (by rfl) T.b_tuple (by decide +kernel) rfl) pa_nil))) pa_nil))))) (pw_or1 (pt_not (pt_chain op_leU op_leU (pe_globE rfl T.g_LEAST_MEMBERS) (pe_callB (call_lenU (K := K)) (by rfl) T.b_len (by decide +kernel) (pa_cons (pv 0) pa_nil)) (pe_globE rfl T.g_MOST_MEMBERS)))))) (pss_one (ps_ret pe_bl)) pss_nil)
    (pss_one (ps_ret (pe_callB (cr_allK (K := K) rfl) (by rfl) T.b_all (by decide +kernel) (pa_cons (pe_lc (own := [("number", 1)]) rfl sc_are_numbers.nd (pi_seqK (K := K) (pv 0)) (blkOk_by (own := [("number", 1)]) (N := ["thing", "number"]) (sc := defScope s_are_numbers) (by decide +kernel)) (fun _ _ _ _ _ => (pg_name (i := 1) sc_are_numbers.nd rfl (by first | exact Or.inl rfl | exact Or.inr rfl))) (fun _ _ _ _ _ => pts_nil) (fun _ _ _ _ _ => (pe_callD (ok_is_whole (K := K) T) (hr.mono (by decide)) (by rfl) T.m_is_whole T.F_is_whole.kp T.B1_is_whole pass0 (pa_cons (pv 1) (pa_cons pe_int pa_nil))))) pa_nil))))), ?_⟩
    dsimp only [L2.start, List.map_cons, List.map_nil, List.map, List.length_cons, List.length_nil, Nat.reduceAdd, Nat.reduceSub, List.replicate, List.cons_append, List.nil_append]
    rcases h with ⟨p, xs, rfl, hs, kn, hl, k⟩ | ⟨hn, k⟩
    case inr =>
      wtm_at "gs"
      exact k _ (by wtm_at "same")
    have hl' : xs.length ≤ sizeLine := line_le hl
    have fin : ∀ b : Bool, 2 ≤ xs.length → xs.length ≤ 5 → b = xs.all (isWh 0 .non) → b = areL xs := fun b h1 h2 e => by
      show _ = (decide (2 ≤ xs.length) && (decide (xs.length ≤ 5) && _))
      rw [decide_eq_true h1, decide_eq_true h2, e]
      rfl
    have out : ¬ (2 ≤ xs.length ∧ xs.length ≤ 5) → areL xs = false := fun h => by
      unfold areL
      by_cases h1 : 2 ≤ xs.length
      · rw [decide_eq_false (show ¬ xs.length ≤ 5 by omega)]
        simp
      · rw [decide_eq_false h1]
        rfl
    rcases hs with hs | hs
    all_goals
      wtm_at "gs"
      · intro D hD
        first
          | refine' lc_mapL (fun y => .bl (isWh 0 .non y)) ?h0 hD hl (fun x hx H1 Q1 R1 s1 h1 => ?hs) (fun H1 s1 e1 => ?hd)
          | refine' lc_mapT (fun y => .bl (isWh 0 .non y)) ?h0 hD hl (fun x hx H1 Q1 R1 s1 h1 => ?hs) (fun H1 s1 e1 => ?hd)
        case h0 => wtm_at "sq"
        case hs =>
          have kx : Kn K H1 x := ((kn x hx).same (same_upd (Same.refl _) hq)).same s1
          wtm_at "gs"
          exact h1 _ (Same.refl _)
        case hd =>
          have e1 : H1 D = some (.lst ((xs.map (isWh 0 .non)).map V.bl)) := by rw [e1, List.map_map]; rfl
          wtm_at "gs"
          refine cast_bl (k _ (by wtm_at "same")) (fin _ (by omega) (by omega) ?_).symm
          rw [List.all_map]
          rfl
      · exact cast_bl (k _ (by wtm_at "same")) (out (by omega))
      · exact cast_bl (k _ (by wtm_at "same")) (out (by omega))
theorem ok_Counts_init (T : Txt K mg a) : FnOk P w K mg base (L2.CX P w) 3 a.Counts_init a.d_Counts_init ["self", "numbers"] (spCI K a) := by
  refine fund_okX T.F_Counts_init sc_Counts_init (fun vs H Q E h => ?_) (fun cdv A outer s H vs Q E hr tk hp h => ?_)
  · obtain ⟨x, dx, v, rfl, hx, h⟩ := h
    rfl
  · obtain ⟨x, dx, v, rfl, hx, h⟩ := h
    refine ⟨_, (pss_cons (ps_if (pt_not (pt_val (pe_call (ok_are_numbers (K := K) T) (hr.mono (by decide)) (by rfl) T.m_are_numbers T.F_are_numbers.kp T.B_are_numbers .nil pass0 (pa_cons (pv 1) pa_nil)))) (pss_one (ps_raiseM rfl tk (pmk_exc T.o_NoCounts T.oi_NoCounts T.ot_NoCounts (ok_NoCounts_init (K := K) T) (hr.mono (by decide)) T.B_NoCounts_init (by rfl) T.m_NoCounts (pa_cons (pv 1) pa_nil)))) pss_nil)
    (pss_one (ps_fldK (K := K) (pv 0) (pe_callTy (call_tupOf (K := K)) (by rfl) T.b_tuple (by decide +kernel) (pa_cons (pv 1) pa_nil))))), ?_⟩
    clear tk hp
    dsimp only [L2.start, List.map_cons, List.map_nil, List.map, List.length_cons, List.length_nil, Nat.reduceAdd, Nat.reduceSub, List.replicate, List.cons_append, List.nil_append]
    rcases h with ⟨p, xs, rfl, hs, kn, hl, ky, kz⟩ | ⟨hn, kz⟩
    case inr =>
      wtm_at "gs"
      exact kz _ _ (by wtm_at "rz") (by wtm_at "rz")
    cases ha : areL xs with
    | false =>
      have hs2 : SqL K H p xs ∨ SqT K H p xs := hs.imp And.right id
      wtm_at "gs"
      exact kz ha _ _ (by wtm_at "rz") (by wtm_at "rz")
    | true =>
      obtain ⟨ns, rfl, p0, p1, p2⟩ := areL_ns ha
      rcases hs with ⟨np, hs⟩ | hs
      all_goals
        wtm_at "gs"
        exact ky ha _ (by wtm_at "but") _ rfl ⟨_, _, upd_same' rfl, by wtm_at "sq", p0, p1, p2⟩
theorem ok_Counts_told (T : Txt K mg a) : FnOk P w K mg base CX0 1 a.Counts_told a.d_Counts_told ["self"] (spTold K a) := by
  refine fund_ok0 T.F_Counts_told sc_Counts_told (fun vs H Q E h => ?_) (fun cdv A outer s H vs Q E hr h => ?_)
  · obtain ⟨c, ns, rfl, hc, k⟩ := h
    rfl
  · obtain ⟨c, ns, rfl, hc, k⟩ := h
    refine ⟨_, (pss_one (ps_ret (pe_fldK (K := K) (pv 0)))), ?_⟩
    dsimp only [L2.start, List.map_cons, List.map_nil, List.map, List.length_cons, List.length_nil, Nat.reduceAdd, Nat.reduceSub, List.replicate, List.cons_append, List.nil_append]
    obtain ⟨dx, t, h1, h2, h3⟩ := hc
    wtm_at "gs"
    exact k _ h2
end

/-! ### Counts changed: need_member, raised, are_changes, changed, changes_from, == -/
def spNeedM (K : PySem.W.Frag) (a : Ad) : Sp := fun vs H Q E => ∃ c ns x, vs = [.ref c, x] ∧ CtAt K a H c ns ∧ Kn K H x ∧ ((isWh 0 (.int (ns.length - 1)) x = true ∧ Q .non H) ∨ (isWh 0 (.int (ns.length - 1)) x = false ∧ Rz a.NoMember x H E))
def spRaised (K : PySem.W.Frag) (a : Ad) : Sp := fun vs H Q E => ∃ c ns x y, vs = [.ref c, x, y] ∧ CtAt K a H c ns ∧ Kn K H x ∧ Kn K H y ∧ (
  (isWh 0 (.int (ns.length - 1)) x = false ∧ Rz a.NoMember x H E) ∨
  (∃ i : Nat, x = .int i ∧ i < ns.length ∧ ((isWh 0 .non y = false ∧ Rz a.NoNumber y H E) ∨
    (∃ j : Int, y = .int j ∧ 0 ≤ j ∧ ∀ H' r, Same H H' → CtAt K a H' r (ns.set i (ns.getD i 0 + j)) → Q (.ref r) H'))))
theorem atI_N {ns : List Int} {i : Nat} (h : i < ns.length) : atI (ns.map V.int) (i : Int) = some (.int (ns.getD i 0)) := by
  have := atI_D h
  rwa [Int.zero_add] at this
theorem ixN_nat {i n : Nat} (h : i < n) : ixN n (i : Int) = some i := by
  unfold ixN
  rw [if_pos (by omega), if_pos (by omega)]
  simp
theorem map_set_int {ns : List Int} {i : Nat} {z : Int} : (ns.set i z).map V.int = (ns.map V.int).set i (.int z) := List.map_set
theorem getD_mem {ns : List Int} {i : Nat} (h : i < ns.length) : ns.getD i 0 ∈ ns := by
  rw [List.getD_eq_getElem?_getD, List.getElem?_eq_getElem h]
  exact List.getElem_mem h
theorem needM_ok {K : PySem.W.Frag} {a : Ad} {H : Hp} {Q : VK} {E : XK} {vs : List V} {c : Addr} {ns : List Int} {x : V} (h1 : CtAt K a H c ns) (h2 : Kn K H x) (h3 : isWh 0 (.int (ns.length - 1)) x = true) (h : Q .non H) (he : vs = [.ref c, x] := by rfl) : spNeedM K a vs H Q E := ⟨c, ns, x, he, h1, h2, .inl ⟨h3, h⟩⟩
theorem needM_no {K : PySem.W.Frag} {a : Ad} {H : Hp} {Q : VK} {E : XK} {vs : List V} {c : Addr} {ns : List Int} {x : V} (h1 : CtAt K a H c ns) (h2 : Kn K H x) (h3 : isWh 0 (.int (ns.length - 1)) x = false) (h : ∀ H' d, Same H H' → H' d = some (.xd [("found", x)]) → E (.ref a.NoMember) (some d) H') (he : vs = [.ref c, x] := by rfl) : spNeedM K a vs H Q E := ⟨c, ns, x, he, h1, h2, .inr ⟨h3, h⟩⟩
local macro_rules | `(tactic| wtm_at "kn") => `(tactic| first | wtm_at "as" | exact trivial | ((with_reducible refine' Kn.same ?k1 ?k2); (case k1 => wtm_at "same"); (case k2 => wtm_at "as")) | fail)
set_option hygiene false in
local macro_rules | `(tactic| wtm_at "u") => `(tactic| first
  | ((with_reducible refine' needM_ok ?h1 ?h2 ?h3 ?_ ?he); (case he => rfl); (case h1 => wtm_at "ct"); (case h3 => wtm_at "as"); (case h2 => wtm_at "kn"))
  | ((with_reducible refine' needM_no ?h1 ?h2 ?h3 (fun HH ed sm hed => ?_) ?he); (case he => rfl); (case h1 => wtm_at "ct"); (case h3 => wtm_at "as"); (case h2 => wtm_at "kn"))
  | with_reducible refine i_methSN ?_ | with_reducible refine i_augS ?_ | with_reducible refine i_ipI ?_ | with_reducible refine i_din ?_ | with_reducible refine i_dnotin ?_ | with_reducible refine i_enumT ?_
  | ((with_reducible refine' i_getL ?h1 ?h2 ?_); (case h1 => wtm_at "sq"); (case h2 => wtm_at "as"))
  | ((with_reducible refine' i_enumA ?h1 ?_); (case h1 => wtm_at "sq"))
  | ((with_reducible refine' i_dgkI ?h1 ?_); (case h1 => wtm_at "get"))
  | ((with_reducible refine' i_setDkI ?h1 ?hl ?_); (case h1 => wtm_at "get"); (case hl => exact line_lt (by omega)))
  | ((with_reducible refine' i_isiTN2 ?hn ?_); (case hn => wtm_at "as")) | fail)
section
variable {P : Program} {w : World} {K : PySem.W.Frag} {mg : Str → Option Value} {base : Heap} {a : Ad}
theorem ok_NoMember_init (T : Txt K mg a) : FnOk P w K mg base CX0 1 a.NoMember_init a.d_NoMember_init ["self", "found"] (spExI a.NoMember "found") := by
  refine fund_ok0 T.F_NoMember_init sc_NoMember_init (fun vs H Q E h => ?_) (fun cdv A outer s H vs Q E hr h => ?_)
  · obtain ⟨b, v, rfl, h⟩ := h
    rfl
  · exact ⟨_, pss_cons (ps_expr (pe_hinit (by rfl) T.m_HallError T.hs_HallError T.hq_HallError T.hf_HallError (pa_cons (pv 0) (pa_cons pe_str pa_nil)))) (pss_one (ps_ost (pv 0) (pv 1))), exc_read rfl T.o_NoMember T.n_NoMember_found h⟩
theorem ok_NoNumber_init (T : Txt K mg a) : FnOk P w K mg base CX0 1 a.NoNumber_init a.d_NoNumber_init ["self", "found"] (spExI a.NoNumber "found") := by
  refine fund_ok0 T.F_NoNumber_init sc_NoNumber_init (fun vs H Q E h => ?_) (fun cdv A outer s H vs Q E hr h => ?_)
  · obtain ⟨b, v, rfl, h⟩ := h
    rfl
  · exact ⟨_, pss_cons (ps_expr (pe_hinit (by rfl) T.m_HallError T.hs_HallError T.hq_HallError T.hf_HallError (pa_cons (pv 0) (pa_cons pe_str pa_nil)))) (pss_one (ps_ost (pv 0) (pv 1))), exc_read rfl T.o_NoNumber T.n_NoNumber_found h⟩
theorem ok_Counts_need_member (T : Txt K mg a) : FnOk P w K mg base (L2.CX P w) 3 a.Counts_need_member a.d_Counts_need_member ["self", "member"] (spNeedM K a) := by
  refine fund_okX T.F_Counts_need_member sc_Counts_need_member (fun vs H Q E h => ?_) (fun cdv A outer s H vs Q E hr tk hp h => ?_)
  · obtain ⟨c, ns, x, rfl, hc, kn, h⟩ := h
    rfl
  · obtain ⟨c, ns, x, rfl, hc, kn, h⟩ := h
    refine ⟨_, (pss_one (ps_if (pt_not (pt_val (pe_call (ok_is_whole (K := K) T) (hr.mono (by decide)) (by rfl) T.m_is_whole T.F_is_whole.kp T.B_is_whole .nil pass0 (pa_cons (pv 1) (pa_cons pe_int (pa_cons (pe_op op_subU (pe_callB (call_lenU (K := K)) (by rfl) T.b_len (by decide +kernel) (pa_cons (pe_fldK (K := K) (pv 0)) pa_nil)) pe_int) pa_nil)))))) (pss_one (ps_raiseM rfl tk (pmk_exc T.o_NoMember T.oi_NoMember T.ot_NoMember (ok_NoMember_init (K := K) T) (hr.mono (by decide)) T.B_NoMember_init (by rfl) T.m_NoMember (pa_cons (pv 1) pa_nil)))) pss_nil)), ?_⟩
    clear tk hp
    dsimp only [L2.start, List.map_cons, List.map_nil, List.map, List.length_cons, List.length_nil, Nat.reduceAdd, Nat.reduceSub, List.replicate, List.cons_append, List.nil_append]
    obtain ⟨dx, t, h1, h2, h3⟩ := id hc
    have ln : (ns.map V.int).length = ns.length := List.length_map ..
    rcases h with ⟨e, k⟩ | ⟨e, k⟩
    all_goals rw [← ln] at e
    all_goals wtm_at "gs"
    · exact k
    · exact k _ _ (by wtm_at "rz") (by wtm_at "rz")
theorem ok_Counts_raised (T : Txt K mg a) : FnOk P w K mg base (L2.CX P w) 5 a.Counts_raised a.d_Counts_raised ["self", "member", "by"] (spRaised K a) := by
  refine fund_okX T.F_Counts_raised sc_Counts_raised (fun vs H Q E h => ?_) (fun cdv A outer s H vs Q E hr tk hp h => ?_)
  · obtain ⟨c, ns, x, y, rfl, hc, kx, ky, h⟩ := h
    rfl
  · obtain ⟨c, ns, x, y, rfl, hc, kx, ky, h⟩ := h
    refine ⟨_, (pss_cons (ps_expr (pe_methS (pv 0) T.c_Counts T.M_Counts_need_member (ok_Counts_need_member (K := K) T) (hr.mono (by decide)) T.B_Counts_need_member .nil (passAt tk) (pa_cons (pv 1) pa_nil)))
    (pss_cons (ps_if (pt_not (pt_val (pe_callD (ok_is_whole (K := K) T) (hr.mono (by decide)) (by rfl) T.m_is_whole T.F_is_whole.kp T.B1_is_whole pass0 (pa_cons (pv 2) (pa_cons pe_int pa_nil))))) (pss_one (ps_raiseM rfl tk (pmk_exc T.o_NoNumber T.oi_NoNumber T.ot_NoNumber (ok_NoNumber_init (K := K) T) (hr.mono (by decide)) T.B_NoNumber_init (by rfl) T.m_NoNumber (pa_cons (pv 2) pa_nil)))) pss_nil)
    (pss_cons (ps_set (i := 3) sc_Counts_raised.nd rfl (by first | exact Or.inl rfl | exact Or.inr rfl) (pe_callTy (call_lstOf (K := K)) (by rfl) T.b_list (by decide +kernel) (pa_cons (pe_fldK (K := K) (pv 0)) pa_nil)))
    (pss_cons (ps_augS (pv 3) (pv 1) (get_list (K := K)) (pv 2) ip_add set_list)
    (pss_one (ps_ret (pe_makeS T.mk_Counts (ok_Counts_init (K := K) T) (hr.mono (by decide)) (by rfl) T.m_Counts T.B_Counts_init .nil (passAt tk) (pa_cons (pv 3) pa_nil)))))))), ?_⟩
    clear tk hp
    dsimp only [L2.start, List.map_cons, List.map_nil, List.map, List.length_cons, List.length_nil, Nat.reduceAdd, Nat.reduceSub, List.replicate, List.cons_append, List.nil_append]
    obtain ⟨dx, t, h1, h2, h3⟩ := id hc
    have ln : (ns.map V.int).length = ns.length := List.length_map ..
    rcases h with ⟨e, k⟩ | ⟨i, rfl, hi, h⟩
    · wtm_at "gs"
      exact k _ _ (by wtm_at "rz") (by wtm_at "rz")
    have e : isWh 0 (.int (ns.length - 1)) (.int i) = true := by
      simp [isWh]
      omega
    rcases h with ⟨e2, k⟩ | ⟨j, rfl, hj, k⟩
    · wtm_at "gs"
      exact k _ _ (by wtm_at "rz") (by wtm_at "rz")
    · have a1 := atI_N hi
      wtm_at "gs"
      refine i_setL (by wtm_at "get") (by rw [ln]; exact ixN_nat hi) ?_
      rw [← map_set_int]
      have l2 : (ns.set i (ns.getD i 0 + j)).length = ns.length := List.length_set
      have g2 : ∀ n ∈ ns.set i (ns.getD i 0 + j), 0 ≤ n := fun n hn => by
        rcases List.mem_or_eq_of_mem_set hn with h | h
        · exact h3.1 n h
        · have := h3.1 _ (getD_mem hi)
          omega
      wtm_at "gs"
      exact k _ _ (by wtm_at "same") hct
end
/-- a change's two parts, of so many members -/
def chk (m : Int) : V → V → Option (Int × Int)
  | .int i, .int c => if 0 ≤ i ∧ i ≤ m - 1 ∧ 0 ≤ c then some (i, c) else none
  | _, _ => none
def ChB (K : PySem.W.Frag) (H : Hp) (m : Int) (x : V) (o : Option (Int × Int)) : Prop :=
  (∃ t mv cv, x = .ref t ∧ SqT K H t [mv, cv] ∧ Kn K H mv ∧ Kn K H cv ∧ o = chk m mv cv) ∨ (∃ t ys, x = .ref t ∧ SqT K H t ys ∧ ys.length ≠ 2 ∧ o = none) ∨ (NoTup K H x ∧ o = none)
theorem ChB.same {K : PySem.W.Frag} {H H' : Hp} {m : Int} {x : V} {o : Option (Int × Int)} (s : Same H H') (h : ChB K H m x o) : ChB K H' m x o := by
  rcases h with ⟨t, mv, cv, e, h1, h2, h3, h4⟩ | ⟨t, ys, e, h1, h2, h3⟩ | ⟨h1, h2⟩
  · exact .inl ⟨t, mv, cv, e, SqT.same s h1, h2.same s, h3.same s, h4⟩
  · exact .inr (.inl ⟨t, ys, e, SqT.same s h1, h2, h3⟩)
  · exact .inr (.inr ⟨h1.same s, h2⟩)
def okR : List Int → List (Option (Int × Int)) → Bool
  | _, [] => true
  | _, none :: _ => false
  | s, some (i, _) :: os => if i ∈ s then false else okR (i :: s) os
theorem okR_drop {s : List Int} {os : List (Option (Int × Int))} {n : Nat} {o : Option (Int × Int)} (h : os[n]? = some o) : okR s (os.drop n) = okR s (o :: os.drop (n + 1)) := by
  have hn := (List.getElem?_eq_some_iff.mp h).1
  rw [List.drop_eq_getElem_cons hn, (List.getElem?_eq_some_iff.mp h).2]
theorem chk_m {m : Int} {mv cv : V} (h : isWh 0 (.int (m - 1)) mv = false) : chk m mv cv = none := by
  cases mv <;> first | rfl | skip
  cases cv <;> first | rfl | skip
  rename_i i c
  simp only [isWh, Bool.and_eq_false_iff, decide_eq_false_iff_not] at h
  exact if_neg (by omega)
theorem chk_c {m : Int} {mv cv : V} (h : isWh 0 .non cv = false) : chk m mv cv = none := by
  cases mv <;> first | rfl | skip
  cases cv <;> first | rfl | skip
  rename_i i c
  simp only [isWh, Bool.and_true, decide_eq_false_iff_not] at h
  exact if_neg (by omega)
theorem chk_ok {m : Int} {mv cv : V} (h1 : isWh 0 (.int (m - 1)) mv = true) (h2 : isWh 0 .non cv = true) : ∃ i c, mv = .int i ∧ cv = .int c ∧ (0 ≤ i ∧ i ≤ m - 1 ∧ 0 ≤ c) ∧ chk m mv cv = some (i, c) := by
  cases mv <;> first | (cases h1; done) | skip
  cases cv <;> first | (cases h2; done) | skip
  rename_i i c
  simp only [isWh, Bool.and_eq_true, decide_eq_true_eq] at h1
  simp only [isWh, Bool.and_true, decide_eq_true_eq] at h2
  exact ⟨i, c, rfl, rfl, ⟨h1.1, h1.2, h2⟩, if_pos ⟨h1.1, h1.2, h2⟩⟩
theorem putK_len {kvs : List (Key × V)} {k : Key} {v : V} : (putK kvs k v).length ≤ kvs.length + 1 := by
  unfold putK
  split
  · rw [List.length_map]; omega
  · rw [List.length_append]; exact Nat.le_refl _
def spAreC (K : PySem.W.Frag) : Sp := fun vs H Q _ => ∃ (x : V) (m : Int), vs = [x, .int m] ∧ ((NoSeq K H x ∧ ∀ H', Same H H' → Q (.bl false) H') ∨
  ∃ p xs os, x = .ref p ∧ (SqL K H p xs ∨ SqT K H p xs) ∧ All2 (ChB K H m) xs os ∧ xs.length ≤ 1000 ∧ ∀ H', Same H H' → Q (.bl (okR [] os)) H')
section
variable {P : Program} {w : World} {K : PySem.W.Frag} {mg : Str → Option Value} {base : Heap} {a : Ad}
end
theorem chk_some {m : Int} {mv cv : V} {i c : Int} (h : chk m mv cv = some (i, c)) : mv = .int i ∧ cv = .int c ∧ 0 ≤ i ∧ i ≤ m - 1 ∧ 0 ≤ c := by
  cases mv <;> first | (cases h; done) | skip
  cases cv <;> first | (cases h; done) | skip
  rename_i i' c'
  unfold chk at h
  simp only at h
  split at h
  · rename_i hb
    cases h
    exact ⟨rfl, rfl, hb⟩
  · cases h
theorem chB_some {K : PySem.W.Frag} {H : Hp} {m : Int} {x : V} {p : Int × Int} (h : ChB K H m x (some p)) : ∃ t, x = .ref t ∧ SqT K H t [.int p.1, .int p.2] ∧ 0 ≤ p.1 ∧ p.1 ≤ m - 1 ∧ 0 ≤ p.2 := by
  rcases h with ⟨t, mv, cv, e, h1, _, _, h4⟩ | ⟨_, _, _, _, _, h⟩ | ⟨_, h⟩
  · obtain ⟨rfl, rfl, hb⟩ := chk_some (i := p.1) (c := p.2) h4.symm
    exact ⟨t, e, h1, hb⟩
  · cases h
  · cases h
/-- Counts changed -/
def apc (ns : List Int) (cs : List (Int × Int)) : List Int := cs.foldl (fun l c => l.set c.1.toNat c.2) ns
theorem apc_len : ∀ (cs : List (Int × Int)) (ns : List Int), (apc ns cs).length = ns.length
  | [], _ => rfl
  | c :: cs, ns => (apc_len cs (ns.set c.1.toNat c.2)).trans List.length_set
theorem apc_take {ns : List Int} {cs : List (Int × Int)} {i : Nat} {c : Int × Int} (h : cs[i]? = some c) : apc ns (cs.take (i + 1)) = (apc ns (cs.take i)).set c.1.toNat c.2 := by
  unfold apc
  rw [take_succ_get h, List.foldl_append]
  rfl
theorem apc_ge : ∀ (cs : List (Int × Int)) (ns : List Int), (∀ n ∈ ns, 0 ≤ n) → (∀ c ∈ cs, 0 ≤ c.2) → ∀ n ∈ apc ns cs, 0 ≤ n
  | [], _, h, _ => h
  | c :: cs, ns, h, k => apc_ge cs (ns.set c.1.toNat c.2) (fun n hn => by
      rcases List.mem_or_eq_of_mem_set hn with h' | h'
      · exact h n h'
      · rw [h']; exact k c List.mem_cons_self) fun d hd => k d (List.mem_cons_of_mem _ hd)
/-- the changes from ms to ns -/
def chg (ns ms : List Int) : List (Int × Int) := (List.range ns.length).filterMap fun i => if ns.getD i 0 = ms.getD i 0 then none else some ((i : Int), ns.getD i 0)
/-- at y: a tuple of two ints -/
def PrAt (K : PySem.W.Frag) (H : Hp) (y : V) (c : Int × Int) : Prop := ∃ t, y = .ref t ∧ SqT K H t [.int c.1, .int c.2]
theorem PrAt.butL {K : PySem.W.Frag} {H H' : Hp} {D : Addr} {acc : List V} {y : V} {c : Int × Int} (hD : H D = some (.lst acc)) (s : SameBut D H H') (h : PrAt K H y c) : PrAt K H' y c := by
  obtain ⟨t, e, h⟩ := h
  exact ⟨t, e, SqT.butL hD s h⟩
def spChanged (K : PySem.W.Frag) (a : Ad) : Sp := fun vs H Q E => ∃ c ns x, vs = [.ref c, x] ∧ CtAt K a H c ns ∧ ((NoSeq K H x ∧ Rz a.NoCounts x H E) ∨
  (∃ p xs os, x = .ref p ∧ (SqL K H p xs ∨ SqT K H p xs) ∧ xs.length ≤ 1000 ∧ All2 (ChB K H ns.length) xs os ∧ okR [] os = false ∧ Rz a.NoCounts x H E) ∨
  (∃ p xs cs, x = .ref p ∧ (SqL K H p xs ∨ SqT K H p xs) ∧ xs.length ≤ 1000 ∧ All2 (fun x c => ChB K H ns.length x (some c)) xs cs ∧ okR [] (cs.map some) = true ∧ ∀ H' r, Same H H' → CtAt K a H' r (apc ns cs) → Q (.ref r) H'))
abbrev spChg (K : PySem.W.Frag) (a : Ad) : Sp := spLk K a fun ns ms H Q => ∀ H' r ys, Same H H' → H r = none → H' r = some (.lst ys) → All2 (PrAt K H') ys (chg ns ms) → Q (.ref r) H'
def spCEq (K : PySem.W.Frag) (a : Ad) : Sp := fun vs H Q _ => ∃ c ns o, vs = [.ref c, o] ∧ CtAt K a H c ns ∧ ((∃ c2 ms, o = .ref c2 ∧ CtAt K a H c2 ms ∧ ∀ H', Same H H' → Q (.bl (decide (ns = ms))) H') ∨ (NoC K H o ∧ ∀ H', Same H H' → Q (.bl false) H'))
theorem areC_no {K : PySem.W.Frag} {H : Hp} {Q : VK} {E : XK} {vs : List V} {x : V} {m : Int} (h1 : NoSeq K H x) (h : ∀ H', Same H H' → Q (.bl false) H') (he : vs = [x, .int m] := by rfl) : spAreC K vs H Q E := ⟨x, m, he, .inl ⟨h1, h⟩⟩
theorem areC_sq {K : PySem.W.Frag} {H : Hp} {Q : VK} {E : XK} {vs : List V} {p : Addr} {m : Int} {xs : List V} {os : List (Option (Int × Int))} (h1 : SqL K H p xs ∨ SqT K H p xs) (h2 : All2 (ChB K H m) xs os) (h3 : xs.length ≤ 1000) (h : ∀ H', Same H H' → Q (.bl (okR [] os)) H') (he : vs = [.ref p, .int m] := by rfl) : spAreC K vs H Q E :=
  ⟨_, m, he, .inr ⟨p, xs, os, rfl, h1, h2, h3, h⟩⟩
set_option hygiene false in
local macro_rules | `(tactic| wtm_at "u") => `(tactic| first
  | ((with_reducible refine' areC_no ?h1 (fun HH sm => ?_) ?he); (case he => rfl); (case h1 => wtm_at "nos"))
  | ((with_reducible refine' areC_sq ?h1 ?h2 ?h3 (fun HH sm => ?_) ?he); (case he => rfl); (case h1 => first | wtm_at "as" | exact .inl (by wtm_at "sq") | exact .inr (by wtm_at "sq")); (case h2 => wtm_at "as"); (case h3 => wtm_at "as")) | fail)
section
variable {P : Program} {w : World} {K : PySem.W.Frag} {mg : Str → Option Value} {base : Heap} {a : Ad}
theorem ok_Counts_eq (T : Txt K mg a) : FnOk P w K mg base CX0 1 a.Counts_eq a.d_Counts_eq ["self", "other"] (spCEq K a) := by
  refine fund_ok0 T.F_Counts_eq sc_Counts_eq (fun vs H Q E h => ?_) (fun cdv A outer s H vs Q E hr h => ?_)
  · obtain ⟨c, ns, o, rfl, hc, h⟩ := h
    rfl
  · obtain ⟨c, ns, o, rfl, hc, h⟩ := h
    refine ⟨_, (pss_one (ps_ret (pe_and (pe_callB (call_isiC (K := K) T.i_Counts) (by rfl) T.b_isinstance (by decide +kernel) (pa_cons (pv 1) (pa_cons (pe_glob rfl T.m_Counts (show RelV (V.ref a.Counts) _ from rfl)) pa_nil))) (pe_one (pe_cmpR (op_eqU hr.units (K := K)) (pe_fldK (K := K) (pv 0)) (pe_fldK (K := K) (pv 1)) (nomark _)))))), ?_⟩
    dsimp only [L2.start, List.map_cons, List.map_nil, List.map, List.length_cons, List.length_nil, Nat.reduceAdd, Nat.reduceSub, List.replicate, List.cons_append, List.nil_append]
    obtain ⟨dx, t, h1, h2, h3⟩ := id hc
    rcases h with ⟨c2, ms, rfl, hc2, k⟩ | ⟨hn, k⟩
    · obtain ⟨dx2, t2, g1, g2, g3⟩ := id hc2
      wtm_at "gs"
      exact k _ (Same.refl _)
    · wtm_at "gs"
      exact k _ (Same.refl _)
end

/-! new things: the heap behind is a name of its own -/
theorem abs_new {H HN : Hp} {q : Addr} {o : HO} (hq : H q = none) (hE : upd H q o = HN) : Same H HN ∧ HN q = some o := by subst hE; exact ⟨same_upd (Same.refl _) hq, upd_same⟩
theorem abs_set {H HN : Hp} {q : Addr} {o : HO} (hE : upd H q o = HN) : SameBut q H HN ∧ HN q = some o := by subst hE; exact ⟨SameBut.upd _ _ _, upd_same⟩
set_option hygiene false in
local macro_rules | `(tactic| wtm_at "absn") => `(tactic| ((generalize hE : upd _ q _ = HN); (obtain ⟨sa, hg⟩ := abs_new hq hE); (clear hE)))
set_option hygiene false in
local macro_rules | `(tactic| wtm_at "abss") => `(tactic| ((generalize hE : upd _ _ _ = HN); (obtain ⟨sb, hg⟩ := abs_set hE); (clear hE)))
set_option hygiene false in
local macro_rules | `(tactic| wtm_at "n") => `(tactic| first
  | ((with_reducible refine' i_new ?h1 (fun q hq => ?_)); (case h1 => first | decide | exact Nat.le_of_ble_eq_true rfl | omega); wtm_at "absn")
  | ((with_reducible refine i_dnew (fun q hq => ?_)); wtm_at "absn")
  | ((with_reducible refine i_dnewT (fun q hq => ?_)); wtm_at "absn")
  | ((with_reducible refine' i_tupOfL ?h1 (fun q hq => ?_)); (case h1 => wtm_at "sq"); wtm_at "absn")
  | ((with_reducible refine' i_lstOfL ?h1 (fun q hq => ?_)); (case h1 => wtm_at "sq"); wtm_at "absn")
  | ((with_reducible refine' i_lstOfT ?h1 (fun q hq => ?_)); (case h1 => wtm_at "sq"); wtm_at "absn")
  | ((with_reducible refine' i_slL ?h1 (fun q hq => ?_)); (case h1 => wtm_at "sq"); wtm_at "absn")
  | ((with_reducible refine' i_addL ?h1 ?h2 ?h3 (fun q hq => ?_)); (case h1 => wtm_at "get"); (case h2 => wtm_at "get"); (case h3 => first | assumption | exact line_le (by omega) | exact Nat.le_of_lt (line_lt (by simp only [List.length_append, List.length_cons, List.length_nil]; omega)) | decide); wtm_at "absn")
  | ((with_reducible refine' i_rep1 ?h1 ?h2 (fun q hq => ?_)); (case h1 => wtm_at "get"); (case h2 => first | wtm_at "as" | omega | (simp only [List.length_map]; omega)); wtm_at "absn")
  | ((with_reducible refine' i_setL ?h1 ?h2 ?_); (case h1 => wtm_at "get"); (case h2 => rfl); wtm_at "abss")
  | ((with_reducible refine' i_rapp ?h1 ?h2 ?_); (case h1 => wtm_at "get"); (case h2 => first | assumption | exact line_lt (by first | omega | (simp only [List.length_append, List.length_map, List.length_cons, List.length_nil]; omega))); wtm_at "abss") | fail)
local macro_rules | `(tactic| wtm_at "go") => `(tactic| repeat' (first | wtm_at "n" | wtm_at "h" | wtm_at "a" | wtm_at "u" | fail))
local macro_rules | `(tactic| wtm_at "gs") => `(tactic| repeat' (first | wtm_at "n" | wtm_at "h" | wtm_at "a" | wtm_at "u" | with_reducible refine i_dec (fun _ => ?_) (fun _ => ?_) | fail))
/-! a join: what follows is shown once -/
theorem seq_rest {t u : TS} {D : Ends} {σ : St} {H : Hp} (J : St → Hp → Prop) (h1 : ∀ σ' H', J σ' H' → u D σ' H') (h2 : ∀ R : St → Hp → Prop, (∀ σ' H', J σ' H' → R σ' H') → t { D with nx := R } σ H) : tSeq t u D σ H := h2 _ h1
theorem i_seqIf {tc : TT} {t u v : TS} {D : Ends} {σ : St} {H : Hp} (h : tSeq (tIfS tc t u) v D σ H) : tSeq (tIfS tc t u) v D σ H := h
local macro_rules | `(tactic| wtm_at "gi") => `(tactic| repeat' ((fail_if_success (with_reducible refine i_seqIf ?_)); first | wtm_at "n" | wtm_at "h" | wtm_at "a" | wtm_at "u" | with_reducible refine i_dec (fun _ => ?_) (fun _ => ?_) | fail))
theorem i_strO {C : Addr} {sp : Sp} {H : Hp} {Q : VK} {a dx : Addr} {fs : List (Str × V)} (ha : H a = some (.ins C dx fs)) (h : sp [.ref a] H (fun v H' => ∃ z : Str, v = .str z ∧ Q (.str z) H') E0) : rStrO C sp E0 [.ref a] H Q := ⟨a, dx, fs, rfl, ha, h⟩
theorem i_lenOC {K : PySem.W.Frag} {a : Ad} {sp : Sp} {H : Hp} {Q : VK} {c : Addr} {ns : List Int} (hc : CtAt K a H c ns) (h : sp [.ref c] H (fun v H' => ∃ k : Int, v = .int k ∧ (0 ≤ k ∧ k < 2 ^ 63) ∧ Q (.int k) H') E0) : rLenO a.Counts sp E0 [.ref c] H Q := by
  obtain ⟨dx, t, h1, _⟩ := hc
  exact ⟨c, dx, _, rfl, h1, h⟩
theorem i_strOC {K : PySem.W.Frag} {a : Ad} {sp : Sp} {H : Hp} {Q : VK} {c : Addr} {ns : List Int} (hc : CtAt K a H c ns) (h : sp [.ref c] H (fun v H' => ∃ z : Str, v = .str z ∧ Q (.str z) H') E0) : rStrO a.Counts sp E0 [.ref c] H Q := by
  obtain ⟨dx, t, h1, _⟩ := hc
  exact ⟨c, dx, _, rfl, h1, h⟩
theorem i_exI {H : Hp} {Q : VK} {k : Int} (h1 : 0 ≤ k ∧ k < 2 ^ 63) (h : Q (.int k) H) : ∃ j : Int, V.int k = .int j ∧ (0 ≤ j ∧ j < 2 ^ 63) ∧ Q (.int j) H := ⟨k, rfl, h1, h⟩
theorem i_szA {z : Str} {R : Prop} (h1 : z.length ≤ sizeLine) (h : R) : z.length ≤ sizeLine ∧ R := ⟨h1, h⟩
theorem i_exS {H : Hp} {Q : VK} {z : Str} (h : Q (.str z) H) : ∃ y : Str, V.str z = .str y ∧ Q (.str y) H := ⟨z, rfl, h⟩
set_option hygiene false in
local macro_rules | `(tactic| wtm_at "u") => `(tactic| first
  | with_reducible refine i_joinK ?_ | with_reducible refine i_joinA ?_ | with_reducible refine i_fs ?_ | with_reducible refine i_js1 ?_ | with_reducible refine i_js0 ?_ | with_reducible refine i_fmt ?_ | with_reducible refine i_exS ?_
  | ((with_reducible refine' i_strI ?h1 ?_); (case h1 => wtm_at "as"))
  | ((with_reducible refine' i_fmtS ?h1 ?_); (case h1 => first | wtm_at "as" | exact line_le (by omega)))
  | ((with_reducible refine' i_jsS ?h1 ?_); (case h1 => first | wtm_at "as" | exact line_le (by simp only [len_app] at *; omega)))
  | ((with_reducible refine' i_exI ?h1 ?_); (case h1 => omega))
  | ((with_reducible refine' i_szA ?h1 ?_); (case h1 => first | wtm_at "as" | exact line_le (by omega) | exact line_le (by simp only [len_app]; omega)))
  | ((with_reducible refine' i_addS ?h1 ?_); (case h1 => first | wtm_at "as" | exact line_le (by omega) | exact line_le (by simp only [len_app]; omega)))
  | ((with_reducible refine' i_sumT ?h1 ?_); (case h1 => wtm_at "sq"))
  | ((with_reducible refine' i_lenOC ?h1 ?_); (case h1 => wtm_at "ct"))
  | ((with_reducible refine' i_strOC ?h1 ?_); (case h1 => wtm_at "ct")) | fail)
/-- numbers whose texts are short -/
def Sm (ns : List Int) : Prop := ∀ n ∈ ns, 0 ≤ n ∧ n < 10 ^ 40
def txtV : V → V
  | .int n => .str (numT n)
  | _ => .non
theorem txt_map (ns : List Int) : (ns.map V.int).map txtV = (numsT ns).map V.str := by
  unfold numsT
  rw [List.map_map, List.map_map]
  rfl
abbrev ctStr (ns : List Int) : Str := Txt.join " " (numsT ns)
abbrev ctRepr (ns : List Int) : Str := Str.empty ++ "Counts(" ++ Txt.join ", " (numsT ns) ++ ")"
def spLenC (K : PySem.W.Frag) (a : Ad) : Sp := fun vs H Q E => ∃ (c : Addr) (ns : List Int), vs = [.ref c] ∧ (CtAt K a H c ns) ∧ (Q (.int (ns.length : Nat)) H)
theorem spLenC_u1 {K : PySem.W.Frag} {a : Ad} {H : Hp} {Q : VK} {E : XK} {vs : List V} {c : Addr} {ns : List Int} (g0 : CtAt K a H c ns) (k : Q (.int (ns.length : Nat)) H) (he : vs = [.ref c] := by rfl) : spLenC K a vs H Q E := ⟨c, ns, he, g0, k⟩
set_option hygiene false in
local macro_rules | `(tactic| wtm_at "u") => `(tactic| first
  | ((with_reducible refine' spLenC_u1 ?g0 ?_ ?he); (case he => rfl); (case g0 => wtm_at "ct")) | fail)
def spSumC (K : PySem.W.Frag) (a : Ad) : Sp := fun vs H Q E => ∃ (c : Addr) (ns : List Int), vs = [.ref c] ∧ (CtAt K a H c ns) ∧ (Q (.int ns.sum) H)
theorem spSumC_u1 {K : PySem.W.Frag} {a : Ad} {H : Hp} {Q : VK} {E : XK} {vs : List V} {c : Addr} {ns : List Int} (g0 : CtAt K a H c ns) (k : Q (.int ns.sum) H) (he : vs = [.ref c] := by rfl) : spSumC K a vs H Q E := ⟨c, ns, he, g0, k⟩
set_option hygiene false in
local macro_rules | `(tactic| wtm_at "u") => `(tactic| first
  | ((with_reducible refine' spSumC_u1 ?g0 ?_ ?he); (case he => rfl); (case g0 => wtm_at "ct")) | fail)
def spOf (K : PySem.W.Frag) (a : Ad) : Sp := fun vs H Q E => ∃ (c : Addr) (ns : List Int) (x : V), vs = [.ref c, x] ∧ (CtAt K a H c ns) ∧ ((∃ (i : Nat), (x = .int i) ∧ (i < ns.length) ∧ (Q (.int (ns.getD i 0)) H)) ∨ ((Kn K H x) ∧ (isWh 0 (.int (ns.length - 1)) x = false) ∧ (∀ HH ed, Same H HH → HH ed = some (.xd [("found", x)]) → E (.ref a.NoMember) (some ed) HH)))
theorem spOf_u1 {K : PySem.W.Frag} {a : Ad} {H : Hp} {Q : VK} {E : XK} {vs : List V} {c : Addr} {ns : List Int} {x : V} {i : Nat} (g0 : CtAt K a H c ns) (g1 : x = .int i) (g2 : i < ns.length) (k : Q (.int (ns.getD i 0)) H) (he : vs = [.ref c, x] := by rfl) : spOf K a vs H Q E := ⟨c, ns, x, he, g0, .inl ⟨i, g1, g2, k⟩⟩
theorem spOf_u2 {K : PySem.W.Frag} {a : Ad} {H : Hp} {Q : VK} {E : XK} {vs : List V} {c : Addr} {ns : List Int} {x : V} (g0 : CtAt K a H c ns) (g1 : Kn K H x) (g2 : isWh 0 (.int (ns.length - 1)) x = false) (k : ∀ HH ed, Same H HH → HH ed = some (.xd [("found", x)]) → E (.ref a.NoMember) (some ed) HH) (he : vs = [.ref c, x] := by rfl) : spOf K a vs H Q E := ⟨c, ns, x, he, g0, .inr (⟨g1, g2, k⟩)⟩
set_option hygiene false in
local macro_rules | `(tactic| wtm_at "u") => `(tactic| first
  | ((with_reducible refine' spOf_u1 ?g0 ?g1 ?g2 ?_ ?he); (case he => rfl); (case g0 => wtm_at "ct"); (case g1 => exact rfl); (case g2 => wtm_at "as"))
  | ((with_reducible refine' spOf_u2 ?g0 ?g1 ?g2 (fun HH ed sm hed => ?_) ?he); (case he => rfl); (case g0 => wtm_at "ct"); (case g1 => wtm_at "kn"); (case g2 => wtm_at "as")) | fail)
def spStrC (K : PySem.W.Frag) (a : Ad) : Sp := fun vs H Q E => ∃ (c : Addr) (ns : List Int), vs = [.ref c] ∧ (CtAt K a H c ns) ∧ (Sm ns) ∧ (∀ HH, (Same H HH) → Q (.str (ctStr ns)) HH)
theorem spStrC_u1 {K : PySem.W.Frag} {a : Ad} {H : Hp} {Q : VK} {E : XK} {vs : List V} {c : Addr} {ns : List Int} (g0 : CtAt K a H c ns) (g1 : Sm ns) (k : ∀ HH, (Same H HH) → Q (.str (ctStr ns)) HH) (he : vs = [.ref c] := by rfl) : spStrC K a vs H Q E := ⟨c, ns, he, g0, g1, k⟩
set_option hygiene false in
local macro_rules | `(tactic| wtm_at "u") => `(tactic| first
  | ((with_reducible refine' spStrC_u1 ?g0 ?g1 (fun HH sm => ?_) ?he); (case he => rfl); (case g0 => wtm_at "ct"); (case g1 => wtm_at "as")) | fail)
def spReprC (K : PySem.W.Frag) (a : Ad) : Sp := fun vs H Q E => ∃ (c : Addr) (ns : List Int), vs = [.ref c] ∧ (CtAt K a H c ns) ∧ (Sm ns) ∧ (∀ HH, (Same H HH) → Q (.str (ctRepr ns)) HH)
theorem spReprC_u1 {K : PySem.W.Frag} {a : Ad} {H : Hp} {Q : VK} {E : XK} {vs : List V} {c : Addr} {ns : List Int} (g0 : CtAt K a H c ns) (g1 : Sm ns) (k : ∀ HH, (Same H HH) → Q (.str (ctRepr ns)) HH) (he : vs = [.ref c] := by rfl) : spReprC K a vs H Q E := ⟨c, ns, he, g0, g1, k⟩
set_option hygiene false in
local macro_rules | `(tactic| wtm_at "u") => `(tactic| first
  | ((with_reducible refine' spReprC_u1 ?g0 ?g1 (fun HH sm => ?_) ?he); (case he => rfl); (case g0 => wtm_at "ct"); (case g1 => wtm_at "as")) | fail)
section
variable {P : Program} {w : World} {K : PySem.W.Frag} {mg : Str → Option Value} {base : Heap} {a : Ad}
theorem ok_Counts_len (T : Txt K mg a) : FnOk P w K mg base CX0 1 a.Counts_len a.d_Counts_len ["self"] (spLenC K a) := by
  refine fund_ok0 T.F_Counts_len sc_Counts_len (fun vs H Q E h => ?_) (fun cdv A outer s H vs Q E hr h => ?_)
  · obtain ⟨c, ns, rfl, hc, k⟩ := h
    rfl
  · obtain ⟨c, ns, rfl, hc, k⟩ := h
    refine ⟨_, (pss_one (ps_ret (pe_callB (call_lenU (K := K)) (by rfl) T.b_len (by decide +kernel) (pa_cons (pe_fldK (K := K) (pv 0)) pa_nil)))), ?_⟩
    dsimp only [L2.start, List.map_cons, List.map_nil, List.map, List.length_cons, List.length_nil, Nat.reduceAdd, Nat.reduceSub, List.replicate, List.cons_append, List.nil_append]
    obtain ⟨dx, t, h1, h2, h3⟩ := id hc
    have ln : (ns.map V.int).length = ns.length := List.length_map ..
    wtm_at "gs"
    exact cast_v k (by rw [ln])
theorem ok_Counts_sum_of (T : Txt K mg a) : FnOk P w K mg base CX0 1 a.Counts_sum_of a.d_Counts_sum_of ["self"] (spSumC K a) := by
  refine fund_ok0 T.F_Counts_sum_of sc_Counts_sum_of (fun vs H Q E h => ?_) (fun cdv A outer s H vs Q E hr h => ?_)
  · obtain ⟨c, ns, rfl, hc, k⟩ := h
    rfl
  · obtain ⟨c, ns, rfl, hc, k⟩ := h
    refine ⟨_, (pss_one (ps_ret (pe_callB (cr_sumT (K := K) rfl) (by rfl) T.b_sum (by decide +kernel) (pa_cons (pe_fldK (K := K) (pv 0)) pa_nil)))), ?_⟩
    dsimp only [L2.start, List.map_cons, List.map_nil, List.map, List.length_cons, List.length_nil, Nat.reduceAdd, Nat.reduceSub, List.replicate, List.cons_append, List.nil_append]
    obtain ⟨dx, t, h1, h2, h3⟩ := id hc
    wtm_at "gs"
    exact k
theorem ok_Counts_of (T : Txt K mg a) : FnOk P w K mg base (L2.CX P w) 4 a.Counts_of a.d_Counts_of ["self", "member"] (spOf K a) := by
  refine fund_okX T.F_Counts_of sc_Counts_of (fun vs H Q E h => ?_) (fun cdv A outer s H vs Q E hr tk hp h => ?_)
  · obtain ⟨c, ns, x, rfl, hc, h⟩ := h
    rfl
  · obtain ⟨c, ns, x, rfl, hc, h⟩ := h
    refine ⟨_, (pss_cons (ps_expr (pe_methS (pv 0) T.c_Counts T.M_Counts_need_member (ok_Counts_need_member (K := K) T) (hr.mono (by decide)) T.B_Counts_need_member .nil (passAt tk) (pa_cons (pv 1) pa_nil)))
    (pss_one (ps_ret (pe_ix (ix_U (K := K)) (pe_fldK (K := K) (pv 0)) (pv 1) (fun _ _ => rfl))))), ?_⟩
    clear tk hp
    dsimp only [L2.start, List.map_cons, List.map_nil, List.map, List.length_cons, List.length_nil, Nat.reduceAdd, Nat.reduceSub, List.replicate, List.cons_append, List.nil_append]
    rcases h with ⟨i, rfl, hi, k⟩ | ⟨kx, hw, k⟩
    · obtain ⟨dx, t, h1, h2, h3⟩ := id hc
      have a1 := atI_N hi
      have e : isWh 0 (.int (ns.length - 1)) (.int i) = true := by
        simp [isWh]
        omega
      wtm_at "gs"
      exact k
    · obtain ⟨dx, t, h1, h2, h3⟩ := id hc
      wtm_at "gs"
      exact k _ _ (by wtm_at "rz") (by wtm_at "rz")
theorem ok_Counts_str (T : Txt K mg a) : FnOk P w K mg base CX0 1 a.Counts_str a.d_Counts_str ["self"] (spStrC K a) := by
  refine fund_ok0 T.F_Counts_str sc_Counts_str (fun vs H Q E h => ?_) (fun cdv A outer s H vs Q E hr h => ?_)
  · obtain ⟨c, ns, rfl, hc, hb, k⟩ := h
    rfl
  · obtain ⟨c, ns, rfl, hc, hb, k⟩ := h
    refine ⟨_, (pss_one (ps_ret (pe_joinK (K := K) pe_str (pe_lc (own := [("number", 1)]) rfl sc_Counts_str.nd (pi_tupK (K := K) (pe_fldK (K := K) (pv 0))) (blkOk_by (own := [("number", 1)]) (N := ["self", "number"]) (sc := defScope s_Counts_str) (by decide +kernel)) (fun _ _ _ _ _ => (pg_name (i := 1) sc_Counts_str.nd rfl (by first | exact Or.inl rfl | exact Or.inr rfl))) (fun _ _ _ _ _ => pts_nil) (fun _ _ _ _ _ => (pe_callTy call_strI (by rfl) T.b_str (by decide +kernel) (pa_cons (pv 1) pa_nil))))))), ?_⟩
    dsimp only [L2.start, List.map_cons, List.map_nil, List.map, List.length_cons, List.length_nil, Nat.reduceAdd, Nat.reduceSub, List.replicate, List.cons_append, List.nil_append]
    obtain ⟨dx, t, h1, h2, h3, p1, p2⟩ := id hc
    have ln : (ns.map V.int).length = ns.length := List.length_map ..
    wtm_at "gs"
    intro D hD
    refine' lc_mapT txtV ?l1 hD ?l2 (fun x hx H1 Q1 R1 s1 k1 => ?l3) (fun H1 s1 e1 => ?l4)
    case l1 => wtm_at "sq"
    case l2 => omega
    case l3 =>
      obtain ⟨n, hn, rfl⟩ := List.mem_map.mp hx
      have g1 := num_log (hb n hn).1 (hb n hn).2
      wtm_at "gs"
      exact k1 _ (Same.refl _)
    case l4 =>
      rw [txt_map] at e1
      refine i_joinR (.inl (.of e1)) (joinT_ok hb p2 (by decide)) ?_
      wtm_at "gs"
      exact k _ s1
theorem ok_Counts_repr (T : Txt K mg a) : FnOk P w K mg base CX0 1 a.Counts_repr a.d_Counts_repr ["self"] (spReprC K a) := by
  refine fund_ok0 T.F_Counts_repr sc_Counts_repr (fun vs H Q E h => ?_) (fun cdv A outer s H vs Q E hr h => ?_)
  · obtain ⟨c, ns, rfl, hc, hb, k⟩ := h
    rfl
  · obtain ⟨c, ns, rfl, hc, hb, k⟩ := h
    refine ⟨_, (pss_cons (ps_set (i := 1) sc_Counts_repr.nd rfl (by first | exact Or.inl rfl | exact Or.inr rfl) (pe_joinK (K := K) pe_str (pe_lc (own := [("number", 2)]) rfl sc_Counts_repr.nd (pi_tupK (K := K) (pe_fldK (K := K) (pv 0))) (blkOk_by (own := [("number", 2)]) (N := ["self", "row", "number"]) (sc := defScope s_Counts_repr) (by decide +kernel)) (fun _ _ _ _ _ => (pg_name (i := 2) sc_Counts_repr.nd rfl (by first | exact Or.inl rfl | exact Or.inr rfl))) (fun _ _ _ _ _ => pts_nil) (fun _ _ _ _ _ => (pe_callTy call_strI (by rfl) T.b_str (by decide +kernel) (pa_cons (pv 2) pa_nil))))))
    (pss_one (ps_ret (pe_fs (.cons pe_str (.cons (pe_fmt (pv 1)) (.cons pe_str .nil))))))), ?_⟩
    dsimp only [L2.start, List.map_cons, List.map_nil, List.map, List.length_cons, List.length_nil, Nat.reduceAdd, Nat.reduceSub, List.replicate, List.cons_append, List.nil_append]
    obtain ⟨dx, t, h1, h2, h3, p1, p2⟩ := id hc
    have ln : (ns.map V.int).length = ns.length := List.length_map ..
    wtm_at "gs"
    intro D hD
    refine' lc_mapT txtV ?l1 hD ?l2 (fun x hx H1 Q1 R1 s1 k1 => ?l3) (fun H1 s1 e1 => ?l4)
    case l1 => wtm_at "sq"
    case l2 => omega
    case l3 =>
      obtain ⟨n, hn, rfl⟩ := List.mem_map.mp hx
      have g1 := num_log (hb n hn).1 (hb n hn).2
      wtm_at "gs"
      exact k1 _ (Same.refl _)
    case l4 =>
      rw [txt_map] at e1
      have jl := joinT_len (sep := ", ") hb p2 (by decide)
      have z7 : (Str.ofString "Counts(").length = 7 := rfl
      have z1 : (Str.ofString ")").length = 1 := rfl
      have z0 : Str.empty.length = 0 := rfl
      refine i_joinR (.inl (.of e1)) (joinT_ok (sep := ", ") hb p2 (by decide)) ?_
      wtm_at "gs"
      exact k _ s1
end
set_option hygiene false in
local macro_rules | `(tactic| wtm_at "n") => `(tactic| first
  | ((with_reducible refine' take_use ?h1 ?h2 ?h3 (fun r m' hr0 hr1 => ?_) ?he); (case he => rfl); (case h1 => wtm_at "get"); (case h2 => first | decide | assumption | omega); (case h3 => first | assumption | exact log2_le (by omega) (by omega) | decide +kernel); wtm_at "abss")
  | ((with_reducible refine' pool_use (fun q m hq => ?_) ?he); (case he => rfl); wtm_at "absn") | fail)
theorem ints_ofP {Pn : Int → Prop} : ∀ {ys : List V}, (∀ y ∈ ys, ∃ n : Int, y = .int n ∧ Pn n) → ∃ ns : List Int, ys = ns.map V.int ∧ ∀ x ∈ ns, Pn x
  | [], _ => ⟨[], rfl, fun _ h => nomatch h⟩
  | y :: ys, h => by
    obtain ⟨n, rfl, hn⟩ := h y List.mem_cons_self
    obtain ⟨ns, rfl, k⟩ := ints_ofP fun z hz => h z (List.mem_cons_of_mem _ hz)
    exact ⟨n :: ns, rfl, fun x hx => by
      rcases List.mem_cons.mp hx with rfl | hx
      · exact hn
      · exact k x hx⟩
theorem eqv_kn {K : PySem.W.Frag} {H H' : Hp} {x : V} {n : Nat} (h : Kn K H x) : EqV K H' n x x true := by
  cases x <;> first | exact .one | exact EqV.selfB rfl | exact h.elim
theorem eqS_self {x : V} (h : flatV x = true) : eqS x x = some true := by
  cases x <;> first | (simp [eqS]; done) | (cases h; done)
/-- a row of n drawn numbers; the pool at p goes on -/
def spNums  : Sp := fun vs H Q E => ∃ (p : Addr) (m n : Int), vs = [.ref p, .int n] ∧ (H p = some (.lst [.int m])) ∧ (0 ≤ n) ∧ (n ≤ 1000) ∧ (∀ HH m' r (ns : List Int), (SameBut p H HH) → (HH p = some (.lst [.int m'])) → (H r = none) → (HH r = some (.lst (ns.map V.int))) → ((ns.length : Int) = n) → (∀ x ∈ ns, 0 ≤ x ∧ x < 10 ^ 30) → Q (.ref r) HH)
theorem spNums_u1  {H : Hp} {Q : VK} {E : XK} {vs : List V} {p : Addr} {m n : Int} (g0 : H p = some (.lst [.int m])) (g1 : 0 ≤ n) (g2 : n ≤ 1000) (k : ∀ HH m' r (ns : List Int), (SameBut p H HH) → (HH p = some (.lst [.int m'])) → (H r = none) → (HH r = some (.lst (ns.map V.int))) → ((ns.length : Int) = n) → (∀ x ∈ ns, 0 ≤ x ∧ x < 10 ^ 30) → Q (.ref r) HH) (he : vs = [.ref p, .int n] := by rfl) : spNums vs H Q E := ⟨p, m, n, he, g0, g1, g2, k⟩
set_option hygiene false in
local macro_rules | `(tactic| wtm_at "u") => `(tactic| first
  | ((with_reducible refine' spNums_u1 ?g0 ?g1 ?g2 (fun HH m' r ns sb hp' nr hr hl' hge => ?_) ?he); (case he => rfl); (case g0 => wtm_at "get"); (case g1 => omega); (case g2 => omega)) | fail)
def spNear (K : PySem.W.Frag) : Sp := fun vs H Q E => ∃ (u p : Addr) (m : Int) (ns : List Int), vs = [.ref u, .ref p] ∧ (SqL K H u (ns.map V.int)) ∧ (H p = some (.lst [.int m])) ∧ (u ≠ p) ∧ (ns.length ≤ 100) ∧ (∀ HH m' r (ms : List Int), (SameBut p H HH) → (HH p = some (.lst [.int m'])) → (H r = none) → (HH r = some (.lst (ms.map V.int))) → (ms.length = ns.length) → (∀ x ∈ ms, 0 ≤ x ∧ x < 10 ^ 30) → Q (.ref r) HH)
theorem spNear_u1 {K : PySem.W.Frag} {H : Hp} {Q : VK} {E : XK} {vs : List V} {u p : Addr} {m : Int} {ns : List Int} (g0 : SqL K H u (ns.map V.int)) (g1 : H p = some (.lst [.int m])) (g2 : u ≠ p) (g3 : ns.length ≤ 100) (k : ∀ HH m' r (ms : List Int), (SameBut p H HH) → (HH p = some (.lst [.int m'])) → (H r = none) → (HH r = some (.lst (ms.map V.int))) → (ms.length = ns.length) → (∀ x ∈ ms, 0 ≤ x ∧ x < 10 ^ 30) → Q (.ref r) HH) (he : vs = [.ref u, .ref p] := by rfl) : spNear K vs H Q E := ⟨u, p, m, ns, he, g0, g1, g2, g3, k⟩
set_option hygiene false in
local macro_rules | `(tactic| wtm_at "u") => `(tactic| first
  | ((with_reducible refine' spNear_u1 ?g0 ?g1 ?g2 ?g3 (fun HH m' r ms sb hp' nr hr hl' hge => ?_) ?he); (case he => rfl); (case g0 => wtm_at "sq"); (case g1 => wtm_at "get"); (case g2 => wtm_at "ne"); (case g3 => omega)) | fail)
def spWholeI  : Sp := fun vs H Q E => ∃ (n : Int), vs = [.int n] ∧ (Q (.bl true) H)
theorem spWholeI_u1  {H : Hp} {Q : VK} {E : XK} {vs : List V} {n : Int}  (k : Q (.bl true) H) (he : vs = [.int n] := by rfl) : spWholeI vs H Q E := ⟨n, he, k⟩
set_option hygiene false in
local macro_rules | `(tactic| wtm_at "u") => `(tactic| first
  | ((with_reducible refine' spWholeI_u1  ?_ ?he); (case he => rfl)) | fail)
def spRefd (K : PySem.W.Frag) (a : Ad) : Sp := fun vs H Q E => ∃ (x : V), vs = [x] ∧ ((∃ (p : Addr) (xs : List V), (x = .ref p) ∧ (H p = some (.lst xs)) ∧ (∀ y ∈ xs, Kn K H y) ∧ (xs.length ≤ 900) ∧ (areL xs = false) ∧ (∀ HH ys, (SameBut p H HH) → (HH p = some (.lst ys)) → Q (.bl true) HH)) ∨ (∃ (p : Addr) (xs : List V), (x = .ref p) ∧ (H p = some (.tup xs)) ∧ (∀ y ∈ xs, Kn K H y) ∧ (xs.length ≤ 900) ∧ (areL xs = false) ∧ (∀ HH, (Same H HH) → Q (.bl true) HH)) ∨ ((NoSeq K H x) ∧ (flatV x = true ∨ (∃ p kvs, x = .ref p ∧ H p = some (.dK kvs) ∧ ∀ z ∈ kvs, valV kvs z.1 = some z.2 ∧ flatB z.2 = true) ∨ (∃ c ns, x = .ref c ∧ CtAt K a H c ns)) ∧ (∀ HH, (Same H HH) → Q (.bl true) HH)))
theorem spRefd_u1 {K : PySem.W.Frag} {a : Ad} {H : Hp} {Q : VK} {E : XK} {vs : List V} {x : V} {p : Addr} {xs : List V} (g0 : x = .ref p) (g1 : H p = some (.lst xs)) (g2 : ∀ y ∈ xs, Kn K H y) (g3 : xs.length ≤ 900) (g4 : areL xs = false) (k : ∀ HH ys, (SameBut p H HH) → (HH p = some (.lst ys)) → Q (.bl true) HH) (he : vs = [x] := by rfl) : spRefd K a vs H Q E := ⟨x, he, .inl ⟨p, xs, g0, g1, g2, g3, g4, k⟩⟩
theorem spRefd_u2 {K : PySem.W.Frag} {a : Ad} {H : Hp} {Q : VK} {E : XK} {vs : List V} {x : V} {p : Addr} {xs : List V} (g0 : x = .ref p) (g1 : H p = some (.tup xs)) (g2 : ∀ y ∈ xs, Kn K H y) (g3 : xs.length ≤ 900) (g4 : areL xs = false) (k : ∀ HH, (Same H HH) → Q (.bl true) HH) (he : vs = [x] := by rfl) : spRefd K a vs H Q E := ⟨x, he, .inr (.inl ⟨p, xs, g0, g1, g2, g3, g4, k⟩)⟩
theorem spRefd_u3 {K : PySem.W.Frag} {a : Ad} {H : Hp} {Q : VK} {E : XK} {vs : List V} {x : V} (g0 : NoSeq K H x) (g1 : flatV x = true ∨ (∃ p kvs, x = .ref p ∧ H p = some (.dK kvs) ∧ ∀ z ∈ kvs, valV kvs z.1 = some z.2 ∧ flatB z.2 = true) ∨ (∃ c ns, x = .ref c ∧ CtAt K a H c ns)) (k : ∀ HH, (Same H HH) → Q (.bl true) HH) (he : vs = [x] := by rfl) : spRefd K a vs H Q E := ⟨x, he, .inr (.inr (⟨g0, g1, k⟩))⟩
set_option hygiene false in
local macro_rules | `(tactic| wtm_at "u") => `(tactic| first
  | ((with_reducible refine' spRefd_u1 ?g0 ?g1 ?g2 ?g3 ?g4 (fun HH ys sb hp' => ?_) ?he); (case he => rfl); (case g0 => exact rfl); (case g1 => wtm_at "get"); (case g2 => wtm_at "as"); (case g3 => wtm_at "as"); (case g4 => wtm_at "as"))
  | ((with_reducible refine' spRefd_u2 ?g0 ?g1 ?g2 ?g3 ?g4 (fun HH sm => ?_) ?he); (case he => rfl); (case g0 => exact rfl); (case g1 => wtm_at "get"); (case g2 => wtm_at "as"); (case g3 => wtm_at "as"); (case g4 => wtm_at "as"))
  | ((with_reducible refine' spRefd_u3 ?g0 ?g1 (fun HH sm => ?_) ?he); (case he => rfl); (case g0 => wtm_at "as"); (case g1 => wtm_at "as")) | fail)
def spNoM (K : PySem.W.Frag) (a : Ad) : Sp := fun vs H Q E => ∃ (c : Addr) (ns : List Int) (x : V), vs = [.ref c, x] ∧ (CtAt K a H c ns) ∧ (Kn K H x) ∧ (isWh 0 (.int (ns.length - 1)) x = false) ∧ (flatV x = true ∨ (∃ p xs, x = .ref p ∧ (SqL K H p xs ∨ SqT K H p xs) ∧ ∀ y ∈ xs, flatV y = true) ∨ (∃ c ns, x = .ref c ∧ CtAt K a H c ns)) ∧ (∀ HH, (Same H HH) → Q (.bl true) HH)
theorem spNoM_u1 {K : PySem.W.Frag} {a : Ad} {H : Hp} {Q : VK} {E : XK} {vs : List V} {c : Addr} {ns : List Int} {x : V} (g0 : CtAt K a H c ns) (g1 : Kn K H x) (g2 : isWh 0 (.int (ns.length - 1)) x = false) (g3 : flatV x = true ∨ (∃ p xs, x = .ref p ∧ (SqL K H p xs ∨ SqT K H p xs) ∧ ∀ y ∈ xs, flatV y = true) ∨ (∃ c ns, x = .ref c ∧ CtAt K a H c ns)) (k : ∀ HH, (Same H HH) → Q (.bl true) HH) (he : vs = [.ref c, x] := by rfl) : spNoM K a vs H Q E := ⟨c, ns, x, he, g0, g1, g2, g3, k⟩
set_option hygiene false in
local macro_rules | `(tactic| wtm_at "u") => `(tactic| first
  | ((with_reducible refine' spNoM_u1 ?g0 ?g1 ?g2 ?g3 (fun HH sm => ?_) ?he); (case he => rfl); (case g0 => wtm_at "ct"); (case g1 => wtm_at "kn"); (case g2 => wtm_at "as"); (case g3 => wtm_at "as")) | fail)
theorem kn_ct {K : PySem.W.Frag} {a : Ad} {H : Hp} {c : Addr} {ns : List Int} (h : CtAt K a H c ns) (k : Cls K a.Counts) (i : IsC K a.Counts) : Kn K H (.ref c) := by
  obtain ⟨dx, t, h1, _⟩ := h
  exact .ofG h1 ⟨k, i⟩
theorem eqP_ct {K : PySem.W.Frag} {a : Ad} {H : Hp} {Q : VK} {c : Addr} {ns : List Int} (h1 : CtAt K a H c ns) (h3 : Cls K a.Counts) (h4 : IsC K a.Counts) (h : ∀ H', Same H H' → Q (.bl true) H') : rEqO K a.Counts (spCEq K a) (fun _ _ _ => False) false (.ref c) (.ref c) H Q := by
  obtain ⟨dx, t, g1, g2⟩ := id h1
  exact ⟨c, dx, _, rfl, g1, i_isoC g1 h3 h4 (.inr rfl), ⟨c, ns, _, rfl, h1, .inl ⟨c, ns, rfl, h1, fun H' s => ⟨true, by rw [decide_eq_true rfl], h H' s⟩⟩⟩⟩
section
variable {P : Program} {w : World} {K : PySem.W.Frag} {mg : Str → Option Value} {base : Heap} {a : Ad}
theorem okp_Counts_eq (T : Txt K mg a) : FnP P w K mg base 1 a.Counts_eq a.d_Counts_eq ["self", "other"] (spCEq K a) := by
  refine fund_okP T.F_Counts_eq sc_Counts_eq (fun vs H Q E h => ?_) (fun cdv A outer s H vs Q E p hr h => ?_)
  · obtain ⟨c, ns, o, rfl, hc, h⟩ := h
    rfl
  · obtain ⟨c, ns, o, rfl, hc, h⟩ := h
    refine ⟨_, (pss_one (ps_ret (pe_and (pe_callB (call_isiC (K := K) T.i_Counts) (by rfl) T.b_isinstance (by decide +kernel) (pa_cons (pv 1) (pa_cons (pe_glob rfl T.m_Counts (show RelV (V.ref a.Counts) _ from rfl)) pa_nil))) (pe_one (pe_cmpR (op_eqU hr.units (K := K)) (pe_fldK (K := K) (pv 0)) (pe_fldK (K := K) (pv 1)) (nomark _)))))), ?_⟩
    dsimp only [L2.start, List.map_cons, List.map_nil, List.map, List.length_cons, List.length_nil, Nat.reduceAdd, Nat.reduceSub, List.replicate, List.cons_append, List.nil_append]
    obtain ⟨dx, t, h1, h2, h3⟩ := id hc
    rcases h with ⟨c2, ms, rfl, hc2, k⟩ | ⟨hn, k⟩
    · obtain ⟨dx2, t2, g1, g2, g3⟩ := id hc2
      wtm_at "gs"
      exact k _ (Same.refl _)
    · wtm_at "gs"
      exact k _ (Same.refl _)
theorem ok__law_numbers (T : Txt K mg a) : FnOk P w K mg base CX0 2 a._law_numbers a.d__law_numbers ["pool", "members"] (spNums) := by
  refine fund_ok0 T.F__law_numbers sc__law_numbers (fun vs H Q E h => ?_) (fun cdv A outer s H vs Q E hr h => ?_)
  · obtain ⟨p, m, n, rfl, hp, h0, h9, k⟩ := h
    rfl
  · obtain ⟨p, m, n, rfl, hp, h0, h9, k⟩ := h
    refine ⟨_, (pss_cons (ps_set (i := 2) sc__law_numbers.nd rfl (by first | exact Or.inl rfl | exact Or.inr rfl) (pe_ix (ix_U (K := K)) (pe_lst (pa_cons pe_int (pa_cons pe_int (pa_cons pe_int (pa_cons (pe_op op_powU pe_int pe_int) pa_nil))))) (pe_call (ok__law_take (K := K) T) (hr.mono (by decide)) (by rfl) T.m__law_take T.F__law_take.kp T.B__law_take .nil pass0 (pa_cons (pv 0) (pa_cons pe_int pa_nil))) (fun _ _ => rfl)))
    (pss_one (ps_ret (pe_lc (own := [("k", 3)]) rfl sc__law_numbers.nd (pi_range1 (by rfl) T.b_range (pa_cons (pv 1) pa_nil)) (blkOk_by (own := [("k", 3)]) (N := ["pool", "members", "size", "k"]) (sc := defScope s__law_numbers) (by decide +kernel)) (fun _ _ _ _ _ => (pg_name (i := 3) sc__law_numbers.nd rfl (by first | exact Or.inl rfl | exact Or.inr rfl))) (fun _ _ _ _ _ => pts_nil) (fun _ _ _ _ _ => (pe_call (ok__law_take (K := K) T) (hr.mono (by decide)) (by rfl) T.m__law_take T.F__law_take.kp T.B__law_take .nil pass0 (pa_cons (pv 0) (pa_cons (pv 2) pa_nil)))))))), ?_⟩
    dsimp only [L2.start, List.map_cons, List.map_nil, List.map, List.length_cons, List.length_nil, Nat.reduceAdd, Nat.reduceSub, List.replicate, List.cons_append, List.nil_append]
    wtm_at "gs"
    have key : ∃ s : Int, atI [V.int 2, V.int 4, V.int 30, V.int (10 ^ Int.toNat 30)] r = some (.int s) ∧ 0 < s ∧ s.natAbs.log2 < 9000 ∧ s ≤ 10 ^ 30 := by
      obtain rfl | rfl | rfl | rfl : r = 0 ∨ r = 1 ∨ r = 2 ∨ r = 3 := by omega
      · exact ⟨2, rfl, by decide, by decide +kernel, by decide⟩
      · exact ⟨4, rfl, by decide, by decide +kernel, by decide⟩
      · exact ⟨30, rfl, by decide, by decide +kernel, by decide⟩
      · exact ⟨10 ^ 30, rfl, by decide, by decide +kernel, by decide⟩
    obtain ⟨s, hat, hs0, hs9, hs30⟩ := key
    refine i_ixL (by wtm_at "sq") hat ?_
    wtm_at "gs"
    intro D hD
    refine' lc_pool (p := p) (fun y => ∃ n : Int, y = .int n ∧ 0 ≤ n ∧ n < 10 ^ 30) walk_range ?hl (fun _ => trivial) ?hp hD (fun i hi H1 m1 Q1 R1 s1 e1 k1 => ?hs) (fun H1 m1 ys s1 e1 e2 e3 e4 => ?hd)
    case hl => omega
    case hp => wtm_at "get"
    case hs =>
      wtm_at "gs"
      exact k1 _ _ _ (by wtm_at "but") (by wtm_at "get") ⟨_, rfl, hr0, by omega⟩
    case hd =>
      obtain ⟨ns, rfl, hns⟩ := ints_ofP (Pn := fun n => 0 ≤ n ∧ n < 10 ^ 30) e4
      rw [List.length_map] at e3
      exact k _ _ _ ns (by wtm_at "but") e1 (by first | exact none_but (show SameBut p H HN from by wtm_at "but") (by wtm_at "get") hD) e2 (by omega) hns
theorem ok__law_near (T : Txt K mg a) : FnOk P w K mg base CX0 2 a._law_near a.d__law_near ["row", "pool"] (spNear K) := by
  refine fund_ok0 T.F__law_near sc__law_near (fun vs H Q E h => ?_) (fun cdv A outer s H vs Q E hr h => ?_)
  · obtain ⟨u, p, m, ns, rfl, hu, hp, nup, hl, k⟩ := h
    rfl
  · obtain ⟨u, p, m, ns, rfl, hu, hp, nup, hl, k⟩ := h
    refine ⟨_, (pss_cons (ps_set (i := 2) sc__law_near.nd rfl (by first | exact Or.inl rfl | exact Or.inr rfl) (pe_lst pa_nil))
    (pss_cons (ps_for PassesOwn.never rfl (pi_listK (K := K) (pv 0)) (pg_name (i := 3) sc__law_near.nd rfl (by first | exact Or.inl rfl | exact Or.inr rfl))
    (pss_cons (ps_set (i := 4) sc__law_near.nd rfl (by first | exact Or.inl rfl | exact Or.inr rfl) (pe_ix (ix_U (K := K)) (pe_lst (pa_cons pe_int (pa_cons pe_int (pa_cons (pe_un un_neg pe_int) (pa_cons pe_int (pa_cons pe_int pa_nil)))))) (pe_call (ok__law_take (K := K) T) (hr.mono (by decide)) (by rfl) T.m__law_take T.F__law_take.kp T.B__law_take .nil pass0 (pa_cons (pv 1) (pa_cons pe_int pa_nil))) (fun _ _ => rfl)))
    (pss_one (ps_expr (pe_appK (K := K) (pe_bm PySem.F.plainAttrs_list PySem.F.slot_list_append PySem.F.type_list_append mt_append (pv 2) (pa_cons (pe_callB (call_minU rfl) (by rfl) T.b_min (by decide +kernel) (pa_cons (pe_op op_subU (pe_op op_powU pe_int pe_int) pe_int) (pa_cons (pe_callB (call_maxU rfl) (by rfl) T.b_max (by decide +kernel) (pa_cons pe_int (pa_cons (pe_op (op_addU (K := K)) (pv 3) (pv 4)) pa_nil))) pa_nil))) pa_nil)))))))
    (pss_one (ps_ret (pv 2))))), ?_⟩
    dsimp only [L2.start, List.map_cons, List.map_nil, List.map, List.length_cons, List.length_nil, Nat.reduceAdd, Nat.reduceSub, List.replicate, List.cons_append, List.nil_append]
    wtm_at "gs"
    rename Addr => o
    rename H o = none => ho
    refine for_list (xs := ns.map V.int) (fun i σ H' => ∃ (v4 v5 : Option V) (m' : Int) (ms : List Int), σ = [some (.ref u), some (.ref p), some (.ref o), v4, v5] ∧ SameBut p H H' ∧ H' p = some (.lst [.int m']) ∧ H' o = some (.lst (ms.map V.int)) ∧ ms.length = i ∧ ∀ x ∈ ms, 0 ≤ x ∧ x < 10 ^ 30) ?hi (fun i σ H' hi h => ?hc) (fun i y σ H' hi h => ?hs) (fun σ H' h => ?hd)
    case hi => exact ⟨none, none, m, [], rfl, by wtm_at "but", by wtm_at "get", by wtm_at "get", rfl, fun _ h => nomatch h⟩
    case hc =>
      obtain ⟨v4, v5, m', ms, rfl, s1, e1, e2, e3, e4⟩ := h
      exact SqL.but s1 nup hu
    case hd =>
      obtain ⟨v4, v5, m', ms, rfl, s1, e1, e2, e3, e4⟩ := h
      wtm_at "gs"
      exact k _ _ _ ms s1 e1 ho e2 (by rw [e3, List.length_map]) e4
    case hs =>
      obtain ⟨v4, v5, m', ms, rfl, s1, e1, e2, e3, e4⟩ := h
      obtain ⟨n, _, rfl, _⟩ := map_int_at hi
      have key : ∀ r : Int, 0 ≤ r → r < 5 → ∃ s : Int, atI [V.int 0, V.int 1, V.int (-1), V.int 0, V.int 7] r = some (.int s) := fun r h1 h2 => by
        obtain rfl | rfl | rfl | rfl | rfl : r = 0 ∨ r = 1 ∨ r = 2 ∨ r = 3 ∨ r = 4 := by omega
        all_goals exact ⟨_, rfl⟩
      have lms : ms.length < ns.length := by
        have := (List.getElem?_eq_some_iff.mp hi).1
        rw [List.length_map] at this
        omega
      wtm_at "gs"
      obtain ⟨s, hat⟩ := key _ hr0 hr1
      refine i_ixL (by wtm_at "sq") hat ?_
      wtm_at "gs"
      have hz : (0 : Int) ≤ minP (10 ^ Int.toNat 30 - 1) (maxP 0 (n + s)) ∧ minP (10 ^ Int.toNat 30 - 1) (maxP 0 (n + s)) < 10 ^ 30 := by
        have h30 : (10 : Int) ^ Int.toNat 30 = 10 ^ 30 := rfl
        rw [minP_eq, maxP_eq, h30]
        omega
      refine' ⟨some (.int n), some (.int s), m', ms ++ [minP (10 ^ Int.toNat 30 - 1) (maxP 0 (n + s))], rfl, ?q1, ?q2, ?q3, ?q4, fun x hx => ?q5⟩
      case q1 => wtm_at "but"
      case q2 => wtm_at "get"
      case q3 =>
        rw [List.map_append]
        wtm_at "get"
      case q4 => rw [List.length_append, e3]; rfl
      case q5 =>
        rcases List.mem_append.mp hx with h | h
        · exact e4 x h
        · rw [List.mem_singleton.mp h]
          exact hz
theorem ok__law_whole (T : Txt K mg a) : FnOk P w K mg base CX0 1 a._law_whole a.d__law_whole ["found"] (spWholeI) := by
  refine fund_ok0 T.F__law_whole sc__law_whole (fun vs H Q E h => ?_) (fun cdv A outer s H vs Q E hr h => ?_)
  · obtain ⟨n, rfl, k⟩ := h
    rfl
  · obtain ⟨n, rfl, k⟩ := h
    refine ⟨_, (pss_one (ps_ret (pe_and (pe_callB (call_isiB .int (K := K)) (by rfl) T.b_isinstance (by decide +kernel) (pa_cons (pv 0) (pa_cons (pe_bltn (v := .ty "int") (u := .type "int") (by rfl) T.b_int (by decide +kernel) rfl) pa_nil))) (pe_one (pe_not (pe_callB (call_isiB .bl (K := K)) (by rfl) T.b_isinstance (by decide +kernel) (pa_cons (pv 0) (pa_cons (pe_bltn (v := .ty "bool") (u := .type "bool") (by rfl) T.b_bool (by decide +kernel) rfl) pa_nil)))))))), ?_⟩
    dsimp only [L2.start, List.map_cons, List.map_nil, List.map, List.length_cons, List.length_nil, Nat.reduceAdd, Nat.reduceSub, List.replicate, List.cons_append, List.nil_append]
    wtm_at "gs"
    exact k
theorem ok__law_refused (T : Txt K mg a) : FnOk P w K mg base CX0 5 a._law_refused a.d__law_refused ["thing"] (spRefd K a) := by
  refine fund_ok0 T.F__law_refused sc__law_refused (fun vs H Q E h => ?_) (fun cdv A outer s H vs Q E hr h => ?_)
  · obtain ⟨x, rfl, h⟩ := h
    rfl
  · obtain ⟨x, rfl, h⟩ := h
    refine ⟨_, (pss_cons (ps_tryM rfl rfl sc__law_refused.nd takes0 (fun W pn xe tk hp => (pss_one (ps_expr (pe_makeS T.mk_Counts (ok_Counts_init (K := K) T) (hr.mono (by decide)) (by rfl) T.m_Counts T.B_Counts_init .nil (passAt tk) (pa_cons (pv 0) pa_nil)))))
    (.named (i := 1) rfl rfl (.one ⟨by rfl, by decide, .inl T.m_NoCounts⟩) (fun ea oe cls ed pn hz hf => (pss_cons (ps_if (pt_val (pe_callB (call_isiB .lst (K := K)) (by rfl) T.b_isinstance (by decide +kernel) (pa_cons (pv 0) (pa_cons (pe_bltn (v := .ty "list") (u := .type "list") (by rfl) T.b_list (by decide +kernel) rfl) pa_nil)))) (pss_one (ps_expr (pe_appK (K := K) (pe_bm PySem.F.plainAttrs_list PySem.F.slot_list_append PySem.F.type_list_append mt_append (pv 0) (pa_cons pe_str pa_nil))))) pss_nil)
    (pss_one (ps_ret (pe_and (pe_cmpR (opr_or (op_eqU hr.units (K := K)) (opr_or (op_eq_dictA hr.units0) (op_eqP (n := 1) (p := (ea, oe)) (K := K) T.M_Counts_eq (okp_Counts_eq (K := K) T) (roomH_suite (hr.mono (j := 1) (by decide))) List.mem_cons_self T.B_Counts_eq T.q_Counts))) (pe_xfA (K := K) hz hf (pv 1)) (pv 0) (nomark _)) (pe_and (pe_callB (call_isX (K := K) hz hf) (by rfl) T.b_isinstance (by decide +kernel) (pa_cons (pv 1) (pa_cons (pe_glob rfl T.m_HallError (show RelV (V.ref a.HallError) _ from rfl)) pa_nil))) (pe_one (pe_not (pe_callB (call_isXs (K := K) hz hf) (by rfl) T.b_isinstance (by decide +kernel) (pa_cons (pv 1) (pa_cons (pe_tup (pa_cons (pe_glob rfl T.m_Unlike (show RelV (V.ref a.Unlike) _ from rfl)) (pa_cons (pe_glob rfl T.m_NoMember (show RelV (V.ref a.NoMember) _ from rfl)) pa_nil))) pa_nil))))))))))) .nil) pss_nil)
    (pss_one (ps_ret pe_bl))), ?_⟩
    dsimp only [L2.start, List.map_cons, List.map_nil, List.map, List.length_cons, List.length_nil, Nat.reduceAdd, Nat.reduceSub, List.replicate, List.cons_append, List.nil_append]
    rcases h with ⟨p, xs, rfl, hp, kn, hl, ha, k⟩ | ⟨p, xs, rfl, hp, kn, hl, ha, k⟩ | ⟨hn, hd, k⟩
    · wtm_at "gs"
      refine ⟨_, _, _, rfl, by wtm_at "get", .inl ⟨p, xs, rfl, .inl ⟨?_, by wtm_at "sq"⟩, fun y hy => ?_, by omega, fun e => absurd e (by rw [ha]; decide), fun _ => fun HH ed sm hed => ?_⟩⟩
      · wtm_at "ne"
      · exact (kn y hy).same (by wtm_at "same")
      have hpH : HH p = some (.lst xs) := by wtm_at "get"
      wtm_at "gs"
      refine i_or1 (i_eqG (n := 3) (.inl ⟨by wtm_at "sq", by wtm_at "sq"⟩) (by decide) (EqVs.selfs fun y hy => ?_) ?_)
      · rcases List.mem_append.mp hy with hy | hy
        · exact eqv_kn (kn y hy)
        · rw [List.mem_singleton.mp hy]
          exact EqV.selfB rfl
      wtm_at "gs"
      exact k _ _ (by wtm_at "but") (by wtm_at "get")
    · wtm_at "gs"
      refine ⟨_, _, _, rfl, by wtm_at "get", .inl ⟨p, xs, rfl, .inr (by wtm_at "sq"), fun y hy => ?_, by omega, fun e => absurd e (by rw [ha]; decide), fun _ => fun HH ed sm hed => ?_⟩⟩
      · exact (kn y hy).same (by wtm_at "same")
      have hpH : HH p = some (.tup xs) := by wtm_at "get"
      wtm_at "gs"
      refine i_or1 (i_eqG (n := 3) (.inr ⟨by wtm_at "sq", by wtm_at "sq"⟩) (by decide) (EqVs.selfs fun y hy => eqv_kn (kn y hy)) ?_)
      wtm_at "gs"
      exact k _ (by wtm_at "same")
    · wtm_at "gs"
      refine ⟨_, _, _, rfl, by wtm_at "get", .inr ⟨hn.same (by wtm_at "same"), fun HH ed sm hed => ?_⟩⟩
      have s1 : Same H HH := by wtm_at "same"
      have hn1 := hn.same s1
      wtm_at "gs"
      rcases hd with hd | ⟨p, kvs, rfl, hp, hk⟩ | ⟨c, ns, rfl, hc⟩
      · refine i_or1 (i_eqS (eqS_self hd) ?_)
        wtm_at "gs"
        exact k _ (by wtm_at "same")
      · have hp1 := s1 _ _ hp
        refine i_or2 (i_or1 ⟨p, p, kvs, kvs, rfl, rfl, by wtm_at "get", by wtm_at "get", rfl, hk, ?_⟩)
        wtm_at "gs"
        exact k _ (by wtm_at "same")
      · have hc1 := hc.same s1
        refine i_or2 (i_or2 (eqP_ct hc1 T.c_Counts T.i_Counts fun H' sH => ?_))
        wtm_at "gs"
        exact k _ (by wtm_at "same")
theorem ok__law_no_member (T : Txt K mg a) : FnOk P w K mg base CX0 5 a._law_no_member a.d__law_no_member ["counts", "thing"] (spNoM K a) := by
  refine fund_ok0 T.F__law_no_member sc__law_no_member (fun vs H Q E h => ?_) (fun cdv A outer s H vs Q E hr h => ?_)
  · obtain ⟨c, ns, x, rfl, hc, kx, hw, hx, k⟩ := h
    rfl
  · obtain ⟨c, ns, x, rfl, hc, kx, hw, hx, k⟩ := h
    refine ⟨_, (pss_cons (ps_tryM rfl rfl sc__law_no_member.nd takes0 (fun W pn xe tk hp => (pss_one (ps_expr (pe_methS (pv 0) T.c_Counts T.M_Counts_of (ok_Counts_of (K := K) T) (hr.mono (by decide)) T.B_Counts_of .nil (passAt tk) (pa_cons (pv 1) pa_nil)))))
    (.named (i := 2) rfl rfl (.one ⟨by rfl, by decide, .inl T.m_NoMember⟩) (fun ea oe cls ed pn hz hf => (pss_one (ps_ret (pe_and (pe_cmpR (opr_or (op_eqU hr.units (K := K)) (op_eqP (n := 1) (p := (ea, oe)) (K := K) T.M_Counts_eq (okp_Counts_eq (K := K) T) (roomH_suite (hr.mono (j := 1) (by decide))) List.mem_cons_self T.B_Counts_eq T.q_Counts)) (pe_xfA (K := K) hz hf (pv 2)) (pv 1) (nomark _)) (pe_and (pe_callB (call_isX (K := K) hz hf) (by rfl) T.b_isinstance (by decide +kernel) (pa_cons (pv 2) (pa_cons (pe_bltn (v := .ty "ValueError") (u := .type "ValueError") (by rfl) T.b_ValueError (by decide +kernel) rfl) pa_nil))) (pe_one (pe_not (pe_callB (call_isX (K := K) hz hf) (by rfl) T.b_isinstance (by decide +kernel) (pa_cons (pv 2) (pa_cons (pe_glob rfl T.m_NoCounts (show RelV (V.ref a.NoCounts) _ from rfl)) pa_nil)))))))))) .nil) pss_nil)
    (pss_one (ps_ret pe_bl))), ?_⟩
    dsimp only [L2.start, List.map_cons, List.map_nil, List.map, List.length_cons, List.length_nil, Nat.reduceAdd, Nat.reduceSub, List.replicate, List.cons_append, List.nil_append]
    wtm_at "gs"
    have s1 : Same H HH := by wtm_at "same"
    rcases hx with hx | ⟨p, xs, rfl, hp, hf⟩ | ⟨d, ms, rfl, hd⟩
    · refine i_or1 (i_eqS (eqS_self hx) ?_)
      wtm_at "gs"
      exact k _ s1
    · rcases hp with hp | hp
      · refine i_or1 (i_eqG (n := 3) (.inl ⟨SqL.sm s1 hp, SqL.sm s1 hp⟩) (by decide) (EqVs.selfs fun y hy => EqV.selfB (hf y hy)) ?_)
        wtm_at "gs"
        exact k _ s1
      · refine i_or1 (i_eqG (n := 3) (.inr ⟨SqT.same s1 hp, SqT.same s1 hp⟩) (by decide) (EqVs.selfs fun y hy => EqV.selfB (hf y hy)) ?_)
        wtm_at "gs"
        exact k _ s1
    · refine i_or2 (eqP_ct (hd.same s1) T.c_Counts T.i_Counts fun H' sH => ?_)
      wtm_at "gs"
      exact k _ (s1.trans sH)
end
theorem i_rg {k : Int} {R : Prop} (h1 : 0 ≤ k) (h2 : k < 2 ^ 63) (h : R) : (0 ≤ k ∧ k < 2 ^ 63) ∧ R := ⟨⟨h1, h2⟩, h⟩
theorem i_neZ {K : PySem.W.Frag} {H : Hp} {Q : VK} {y z : Str} (e : y = z) (h : Q (.bl false) H) : rNeU K (.str y) (.str z) H Q := by
  subst e
  exact i_neS (eqS_self rfl) h
set_option hygiene false in
local macro_rules | `(tactic| wtm_at "u") => `(tactic| first
  | ((with_reducible refine' i_rg ?h1 ?h2 ?_); (case h1 => omega); (case h2 => omega))
  | ((with_reducible refine' i_neZ ?e ?_); (case e => first | with_reducible rfl | wtm_at "as")) | fail)
theorem sum_take {ns : List Int} {i : Nat} (h : i < ns.length) : (ns.take (i + 1)).sum = (ns.take i).sum + ns.getD i 0 := by
  rw [take_succ_get (show ns[i]? = some (ns.getD i 0) by rw [List.getD_eq_getElem?_getD, List.getElem?_eq_getElem h]; rfl), List.sum_append]
  simp
def spToldL (K : PySem.W.Frag) (a : Ad) : Sp := fun vs H Q E => ∃ (c u : Addr) (ns : List Int), vs = [.ref c, .ref u] ∧ (CtAt K a H c ns) ∧ (SqL K H u (ns.map V.int)) ∧ (Sm ns) ∧ (∀ HH, (Same H HH) → Q (.bl true) HH)
theorem spToldL_u1 {K : PySem.W.Frag} {a : Ad} {H : Hp} {Q : VK} {E : XK} {vs : List V} {c u : Addr} {ns : List Int} (g0 : CtAt K a H c ns) (g1 : SqL K H u (ns.map V.int)) (g2 : Sm ns) (k : ∀ HH, (Same H HH) → Q (.bl true) HH) (he : vs = [.ref c, .ref u] := by rfl) : spToldL K a vs H Q E := ⟨c, u, ns, he, g0, g1, g2, k⟩
set_option hygiene false in
local macro_rules | `(tactic| wtm_at "u") => `(tactic| first
  | ((with_reducible refine' spToldL_u1 ?g0 ?g1 ?g2 (fun HH sm => ?_) ?he); (case he => rfl); (case g0 => wtm_at "ct"); (case g1 => wtm_at "sq"); (case g2 => wtm_at "as")) | fail)
section
variable {P : Program} {w : World} {K : PySem.W.Frag} {mg : Str → Option Value} {base : Heap} {a : Ad}
theorem ok__law_told (T : Txt K mg a) : FnOk P w K mg base CX0 6 a._law_told a.d__law_told ["counts", "row"] (spToldL K a) := by
  refine fund_ok0 T.F__law_told sc__law_told (fun vs H Q E h => ?_) (fun cdv A outer s H vs Q E hr h => ?_)
  · obtain ⟨c, u, ns, rfl, hc, hu, hb, k⟩ := h
    rfl
  · obtain ⟨c, u, ns, rfl, hc, hu, hb, k⟩ := h
    refine ⟨_, (pss_cons (ps_set (i := 2) sc__law_told.nd rfl (by first | exact Or.inl rfl | exact Or.inr rfl) (pe_meth0 (pv 0) T.c_Counts T.M_Counts_told (ok_Counts_told (K := K) T) (hr.mono (by decide)) T.B_Counts_told .nil pass0))
    (pss_cons (ps_if (PW.pt (pw_or (pt_not (pt_val (pe_callB (call_isiB .tup (K := K)) (by rfl) T.b_isinstance (by decide +kernel) (pa_cons (pv 2) (pa_cons (pe_bltn (v := .ty "tuple") (u := .type "tuple") (by rfl) T.b_tuple (by decide +kernel) rfl) pa_nil))))) (pw_or (pt_cmpR (op_neU hr.units (K := K)) (pv 2) (pe_callTy (call_tupOf (K := K)) (by rfl) T.b_tuple (by decide +kernel) (pa_cons (pv 1) pa_nil)) (nomark _)) (pw_or1 (pt_not (pt_val (pe_callB (cr_allK (K := K) rfl) (by rfl) T.b_all (by decide +kernel) (pa_cons (pe_lc (own := [("number", 3)]) rfl sc__law_told.nd (pi_tupK (K := K) (pv 2)) (blkOk_by (own := [("number", 3)]) (N := ["counts", "row", "told", "number", "total", "k", "words", "some", "thing"]) (sc := defScope s__law_told) (by decide +kernel)) (fun _ _ _ _ _ => (pg_name (i := 3) sc__law_told.nd rfl (by first | exact Or.inl rfl | exact Or.inr rfl))) (fun _ _ _ _ _ => pts_nil) (fun _ _ _ _ _ => (pe_call (ok__law_whole (K := K) T) (hr.mono (by decide)) (by rfl) T.m__law_whole T.F__law_whole.kp T.B__law_whole .nil pass0 (pa_cons (pv 3) pa_nil)))) pa_nil)))))))) (pss_one (ps_ret pe_bl)) pss_nil)
    (pss_cons (ps_set (i := 4) sc__law_told.nd rfl (by first | exact Or.inl rfl | exact Or.inr rfl) pe_int)
    (pss_cons (ps_for PassesOwn.never rfl (pi_range1 (by rfl) T.b_range (pa_cons (pe_callB (call_lenU (K := K)) (by rfl) T.b_len (by decide +kernel) (pa_cons (pv 1) pa_nil)) pa_nil)) (pg_name (i := 5) sc__law_told.nd rfl (by first | exact Or.inl rfl | exact Or.inr rfl))
    (pss_cons (ps_if (PW.pt (pw_or (pt_cmpR (op_neU hr.units (K := K)) (pe_methS (pv 0) T.c_Counts T.M_Counts_of (ok_Counts_of (K := K) T) (hr.mono (by decide)) T.B_Counts_of .nil (passAt takes0) (pa_cons (pv 5) pa_nil)) (pe_ix (ix_U (K := K)) (pv 1) (pv 5) (fun _ _ => rfl)) (nomark _)) (pw_or1 (pt_not (pt_val (pe_call (ok__law_whole (K := K) T) (hr.mono (by decide)) (by rfl) T.m__law_whole T.F__law_whole.kp T.B__law_whole .nil pass0 (pa_cons (pe_methS (pv 0) T.c_Counts T.M_Counts_of (ok_Counts_of (K := K) T) (hr.mono (by decide)) T.B_Counts_of .nil (passAt takes0) (pa_cons (pv 5) pa_nil)) pa_nil))))))) (pss_one (ps_ret pe_bl)) pss_nil)
    (pss_one (ps_set (i := 4) sc__law_told.nd rfl (by first | exact Or.inl rfl | exact Or.inr rfl) (pe_op (op_addU (K := K)) (pv 4) (pe_ix (ix_U (K := K)) (pv 1) (pv 5) (fun _ _ => rfl)))))))
    (pss_cons (ps_if (PW.pt (pw_or (pt_not (pt_val (pe_call (ok__law_whole (K := K) T) (hr.mono (by decide)) (by rfl) T.m__law_whole T.F__law_whole.kp T.B__law_whole .nil pass0 (pa_cons (pe_meth0 (pv 0) T.c_Counts T.M_Counts_sum_of (ok_Counts_sum_of (K := K) T) (hr.mono (by decide)) T.B_Counts_sum_of .nil pass0) pa_nil)))) (pw_or (pt_cmpR (op_neU hr.units (K := K)) (pe_meth0 (pv 0) T.c_Counts T.M_Counts_sum_of (ok_Counts_sum_of (K := K) T) (hr.mono (by decide)) T.B_Counts_sum_of .nil pass0) (pv 4) (nomark _)) (pw_or1 (pt_cmpR (op_neU hr.units (K := K)) (pe_callB (call_lenO T.M_Counts_len (ok_Counts_len (K := K) T) (hr.mono (by decide)) T.B_Counts_len pass0) (by rfl) T.b_len (by decide +kernel) (pa_cons (pv 0) pa_nil)) (pe_callB (call_lenU (K := K)) (by rfl) T.b_len (by decide +kernel) (pa_cons (pv 1) pa_nil)) (nomark _)))))) (pss_one (ps_ret pe_bl)) pss_nil)
    (pss_cons (ps_setLc (i := 6) (own := [("number", 3)]) rfl sc__law_told.nd rfl rfl (sw_true rfl rfl rfl (by decide +kernel)) (pi_listK (K := K) (pv 1)) (blkOk_by (own := [("number", 3)]) (N := ["counts", "row", "told", "number", "total", "k", "words", "some", "thing"]) (sc := defScope s__law_told) (by decide +kernel)) (fun _ _ _ _ _ => (pg_name (i := 3) sc__law_told.nd rfl (by first | exact Or.inl rfl | exact Or.inr rfl))) (fun _ _ _ _ _ => pts_nil) (fun _ _ _ _ _ => (pe_callTy call_strI (by rfl) T.b_str (by decide +kernel) (pa_cons (pv 3) pa_nil))))
    (pss_cons (ps_if (PW.pt (pw_or (pt_cmpR (op_neU hr.units (K := K)) (pe_callTy (call_strO T.M_Counts_str (ok_Counts_str (K := K) T) (hr.mono (by decide)) T.B_Counts_str pass0) (by rfl) T.b_str (by decide +kernel) (pa_cons (pv 0) pa_nil)) (pe_joinK (K := K) pe_str (pv 6)) (nomark _)) (pw_or1 (pt_cmpR (op_neU hr.units (K := K)) (pe_callB (call_reprO T.M_Counts_repr (ok_Counts_repr (K := K) T) (hr.mono (by decide)) T.B_Counts_repr pass0) (by rfl) T.b_repr (by decide +kernel) (pa_cons (pv 0) pa_nil)) (pe_op (op_addU (K := K)) (pe_op (op_addU (K := K)) pe_str (pe_joinK (K := K) pe_str (pv 6))) pe_str) (nomark _))))) (pss_one (ps_ret pe_bl)) pss_nil)
    (pss_cons (ps_set (i := 7) sc__law_told.nd rfl (by first | exact Or.inl rfl | exact Or.inr rfl) (pe_lst (pa_cons (pe_callB (call_lenU (K := K)) (by rfl) T.b_len (by decide +kernel) (pa_cons (pv 1) pa_nil)) (pa_cons (pe_un un_neg pe_int) (pa_cons pe_non (pa_cons pe_bl (pa_cons pe_str (pa_cons (pe_lst (pa_cons pe_int pa_nil)) (pa_cons (pe_tup (pa_cons pe_int pa_nil)) (pa_cons (pe_op op_powU pe_int pe_int) (pa_cons (pv 0) pa_nil)))))))))))
    (pss_one (ps_ret (pe_callB (cr_allK (K := K) rfl) (by rfl) T.b_all (by decide +kernel) (pa_cons (pe_lc (own := [("thing", 8)]) rfl sc__law_told.nd (pi_listK (K := K) (pv 7)) (blkOk_by (own := [("thing", 8)]) (N := ["counts", "row", "told", "number", "total", "k", "words", "some", "thing"]) (sc := defScope s__law_told) (by decide +kernel)) (fun _ _ _ _ _ => (pg_name (i := 8) sc__law_told.nd rfl (by first | exact Or.inl rfl | exact Or.inr rfl))) (fun _ _ _ _ _ => pts_nil) (fun _ _ _ _ _ => (pe_call (ok__law_no_member (K := K) T) (hr.mono (by decide)) (by rfl) T.m__law_no_member T.F__law_no_member.kp T.B__law_no_member .nil pass0 (pa_cons (pv 0) (pa_cons (pv 8) pa_nil))))) pa_nil)))))))))))), ?_⟩
    dsimp only [L2.start, List.map_cons, List.map_nil, List.map, List.length_cons, List.length_nil, Nat.reduceAdd, Nat.reduceSub, List.replicate, List.cons_append, List.nil_append]
    have ln : (ns.map V.int).length = ns.length := List.length_map ..
    obtain ⟨_, _, _, _, p0, p1, p2⟩ := id hc
    wtm_at "gs"
    intro D hD
    refine' lc_mapT (fun _ => .bl true) ?l1 hD ?l2 (fun x hx H1 Q1 R1 s1 k1 => ?l3) (fun H1 s1 e1 => ?l4)
    case l1 => wtm_at "sq"
    case l2 => omega
    case l3 =>
      obtain ⟨n, hn, rfl⟩ := List.mem_map.mp hx
      wtm_at "gs"
      exact k1 _ (Same.refl _)
    case l4 =>
      have e1 : H1 D = some (.lst ((ns.map fun _ => true).map V.bl)) := by
        rw [e1, List.map_map, List.map_map]
        rfl
      have ea : (ns.map fun _ => true).all id = true := by simp
      have sH1 : Same H H1 := by wtm_at "same"
      have hc1 := hc.same sH1
      have hu1 := SqL.sm sH1 hu
      wtm_at "gs"
      rw [ln, Int.toNat_natCast]
      refine for_range (lo := 0) (n := ns.length) (fun i σ H' => ∃ (v5 : Option V), σ = [some (.ref c), some (.ref u), some (.ref kt), none, some (.int (ns.take i).sum), v5, none, none, none] ∧ Same H1 H') ⟨none, rfl, Same.refl _⟩ (fun i σ H2 hi hP => ?_) (fun σ H2 hP => ?_)
      · obtain ⟨v5, rfl, s2⟩ := hP
        have hc2 := hc1.same s2
        have hu2 := SqL.sm s2 hu1
        have a1 := atI_D hi
        have i0 : (0 : Int) + (i : Int) = ((i : Nat) : Int) := Int.zero_add _
        rw [i0] at a1
        have st := sum_take hi
        simp only [Int.zero_add] at a1 ⊢
        wtm_at "gs"
        refine' ⟨some (.int i), ?a1, ?a2⟩
        case a1 => rw [st]; rfl
        case a2 => wtm_at "same"
      · obtain ⟨v5, rfl, s2⟩ := hP
        rw [List.take_length]
        have hc2 := hc1.same s2
        have hu2 := SqL.sm s2 hu1
        have s02 := sH1.trans s2
        clear hc1 hu1 e1 s1 s2 sH1
        have ez : Str.empty ++ "Counts(" ++ Txt.join ", " (numsT ns) ++ ")" = "Counts(" ++ Txt.join ", " (numsT ns) ++ ")" := rfl
        wtm_at "gs"
        intro D2 hD2
        refine' lc_mapL txtV ?m1 hD2 ?m2 (fun x hx H3 Q3 R3 s3 k3 => ?m3) (fun H3 s3 e3 => ?m4)
        case m1 => wtm_at "sq"
        case m2 => omega
        case m3 =>
          obtain ⟨n, hn, rfl⟩ := List.mem_map.mp hx
          have g1 := num_log (hb n hn).1 (hb n hn).2
          wtm_at "gs"
          exact k3 _ (Same.refl _)
        case m4 =>
          rw [txt_map] at e3
          have jl := joinT_len (sep := ", ") hb p2 (by decide)
          have z7 : (Str.ofString "Counts(").length = 7 := rfl
          have z1 : (Str.ofString ")").length = 1 := rfl
          have z0 : Str.empty.length = 0 := rfl
          have s23 : Same H2 H3 := by wtm_at "same"
          have hc3 := hc2.same s23
          have hu3 := SqL.sm s23 hu2
          have s03 := s02.trans s23
          clear hc2 hu2 s02 s3 s23
          wtm_at "gs"
          refine' i_joinR (K := K) ?j1 (joinT_ok (sep := " ") hb p2 (by decide)) ?j2
          case j1 => exact .inl (by wtm_at "sq")
          wtm_at "gs"
          refine' i_joinR (K := K) ?j3 (joinT_ok (sep := ", ") hb p2 (by decide)) ?j4
          case j3 => exact .inl (by wtm_at "sq")
          wtm_at "gs"
          intro D3 hD3
          refine' lc_mapL (fun _ => .bl true) ?n2 hD3 ?n3 (fun x hx H5 Q5 R5 s5 k5 => ?n4) (fun H5 s5 e5 => ?n5)
          case n2 => wtm_at "sq"
          case n3 => exact Nat.le_of_ble_eq_true rfl
          case n4 =>
            have hc4 : CtAt K a HN c ns := by wtm_at "ct"
            have hT : Kn K HN x ∧ isWh 0 (.int (ns.length - 1)) x = false ∧ (flatV x = true ∨ (∃ p xs, x = .ref p ∧ (SqL K HN p xs ∨ SqT K HN p xs) ∧ ∀ y ∈ xs, flatV y = true) ∨ (∃ c ns, x = .ref c ∧ CtAt K a HN c ns)) := by
              simp only [List.mem_cons, List.mem_nil_iff, or_false] at hx
              rcases hx with rfl | rfl | rfl | rfl | rfl | rfl | rfl | rfl | rfl
              · exact ⟨trivial, by rw [ln]; simp only [isWh, Bool.and_eq_false_iff, decide_eq_false_iff_not]; omega, .inl rfl⟩
              · exact ⟨trivial, rfl, .inl rfl⟩
              · exact ⟨trivial, rfl, .inl rfl⟩
              · exact ⟨trivial, rfl, .inl rfl⟩
              · exact ⟨trivial, rfl, .inl rfl⟩
              · exact ⟨.ofG (o := .lst [.int 0]) (by wtm_at "getg") trivial, rfl, .inr (.inl ⟨_, [.int 0], rfl, .inl (by wtm_at "sq"), by simp [flatV]⟩)⟩
              · exact ⟨.ofG (o := .tup [.int 0]) (by wtm_at "getg") trivial, rfl, .inr (.inl ⟨_, [.int 0], rfl, .inr (by wtm_at "sq"), by simp [flatV]⟩)⟩
              · have hten : (5 : Int) < 10 ^ Int.toNat 29 := by decide +kernel
                refine ⟨trivial, ?_, .inl rfl⟩
                simp only [isWh, Bool.and_eq_false_iff, decide_eq_false_iff_not]
                omega
              · exact ⟨kn_ct hc4 (by wtm_at "cls") (by wtm_at "cls"), rfl, .inr (.inr ⟨c, ns, rfl, hc4⟩)⟩
            obtain ⟨t1, t2, t3⟩ := hT
            have t1 := t1.same s5
            have t3 : flatV x = true ∨ (∃ p xs, x = .ref p ∧ (SqL K H5 p xs ∨ SqT K H5 p xs) ∧ ∀ y ∈ xs, flatV y = true) ∨ (∃ c ns, x = .ref c ∧ CtAt K a H5 c ns) := by
              rcases t3 with t3 | ⟨p, xs, e, h, f⟩ | ⟨d, ms, e, h⟩
              · exact .inl t3
              · exact .inr (.inl ⟨p, xs, e, h.imp (SqL.sm s5) (SqT.same s5), f⟩)
              · exact .inr (.inr ⟨d, ms, e, h.same s5⟩)
            have hc5 := hc4.same s5
            clear hx hc4
            wtm_at "gs"
            exact k5 _ (by wtm_at "same")
          case n5 =>
            have e5 : H5 D3 = some (.lst (([true, true, true, true, true, true, true, true, true]).map V.bl)) := e5
            wtm_at "gs"
            exact k _ (by wtm_at "same")
end
theorem eqO_T {K : PySem.W.Frag} {a : Ad} {H : Hp} {Q : VK} {c d : Addr} {ns ms : List Int} (h1 : CtAt K a H c ns) (h2 : CtAt K a H d ms) (h3 : Cls K a.Counts) (h4 : IsC K a.Counts) (h : ∀ H', Same H H' → Q (.bl (decide (ns = ms))) H') : rEqO K a.Counts (spCEq K a) E0 false (.ref c) (.ref d) H Q := by
  obtain ⟨dx, t, g1, g2⟩ := id h1
  obtain ⟨dx2, t2, g3, g4⟩ := id h2
  exact i_eqO g1 (i_isoC g3 h3 h4 (.inr rfl)) ⟨c, ns, _, rfl, h1, .inl ⟨d, ms, rfl, h2, fun H' s => ⟨_, rfl, h H' s⟩⟩⟩
theorem neO_T {K : PySem.W.Frag} {a : Ad} {H : Hp} {Q : VK} {c d : Addr} {ns ms : List Int} (h1 : CtAt K a H c ns) (h2 : CtAt K a H d ms) (h3 : Cls K a.Counts) (h4 : IsC K a.Counts) (h : ∀ H', Same H H' → Q (.bl (!decide (ns = ms))) H') : rEqO K a.Counts (spCEq K a) E0 true (.ref c) (.ref d) H Q := by
  obtain ⟨dx, t, g1, g2⟩ := id h1
  obtain ⟨dx2, t2, g3, g4⟩ := id h2
  exact i_eqO g1 (i_isoC g3 h3 h4 (.inr rfl)) ⟨c, ns, _, rfl, h1, .inl ⟨d, ms, rfl, h2, fun H' s => ⟨_, rfl, h H' s⟩⟩⟩
theorem eqO_N {K : PySem.W.Frag} {a : Ad} {H : Hp} {Q : VK} {c : Addr} {x : V} {ns : List Int} (h1 : CtAt K a H c ns) (h2 : NoC K H x) (h : ∀ H', Same H H' → Q (.bl false) H') : rEqO K a.Counts (spCEq K a) E0 false (.ref c) x H Q := by
  obtain ⟨dx, t, g1, g2⟩ := id h1
  exact i_eqO g1 (isO_mono h2 fun _ _ e => .inl e) ⟨c, ns, _, rfl, h1, .inr ⟨h2, fun H' s => ⟨_, rfl, h H' s⟩⟩⟩
theorem i_eqLN {K : PySem.W.Frag} {H : Hp} {Q : VK} {p q : Addr} {ns ms : List Int} (h1 : SqL K H p (ns.map V.int)) (h2 : SqL K H q (ms.map V.int)) (h : Q (.bl (decide (ns = ms))) H) : rEqU K (.ref p) (.ref q) H Q := i_eqLF h1 h2 (nb_ns ns) (nb_ns ms) (by rw [eqLF_ns]; exact h)
theorem i_neLN {K : PySem.W.Frag} {H : Hp} {Q : VK} {p q : Addr} {ns ms : List Int} (h1 : SqL K H p (ns.map V.int)) (h2 : SqL K H q (ms.map V.int)) (h : Q (.bl (!decide (ns = ms))) H) : rNeU K (.ref p) (.ref q) H Q := i_neLF h1 h2 (nb_ns ns) (nb_ns ms) (by rw [eqLF_ns]; exact h)
theorem i_neBB {K : PySem.W.Frag} {H : Hp} {Q : VK} {b : Bool} (h : Q (.bl false) H) : rNeU K (.bl b) (.bl b) H Q := i_neS (eqS_self rfl) h
theorem i_in2 {K : PySem.W.Frag} {a : Ad} {H : Hp} {Q : VK} {c p v : Addr} {xs : List V} {ns : List Int} (h1 : CtAt K a H c ns) (h2 : H p = some (.lst [.ref v, .ref c])) (h3 : SqL K H v xs) (h4 : v ≠ c) (h : ∀ H', Same H H' → Q (.bl true) H') : rIn2 K a.Counts (spCEq K a) E0 (.ref c) (.ref p) H Q := by
  obtain ⟨dx, t, g1, g2⟩ := id h1
  exact ⟨c, dx, _, p, v, xs, rfl, g1, rfl, h2, h3, h4, c, ns, _, rfl, h1, .inr ⟨NoC.sqL h3, fun H' s => ⟨rfl, s _ _ h2, h H' s⟩⟩⟩
set_option hygiene false in
local macro_rules | `(tactic| wtm_at "u") => `(tactic| first
  | ((with_reducible refine' eqO_T ?h1 ?h2 ?h3 ?h4 (fun HH sm => ?_)); (case h1 => wtm_at "ct"); (case h2 => wtm_at "ct"); (case h3 => wtm_at "cls"); (case h4 => wtm_at "cls"))
  | ((with_reducible refine' neO_T ?h1 ?h2 ?h3 ?h4 (fun HH sm => ?_)); (case h1 => wtm_at "ct"); (case h2 => wtm_at "ct"); (case h3 => wtm_at "cls"); (case h4 => wtm_at "cls"))
  | ((with_reducible refine' eqO_N ?h1 ?h2 (fun HH sm => ?_)); (case h1 => wtm_at "ct"); (case h2 => wtm_at "noc"))
  | ((with_reducible refine' i_eqLN ?h1 ?h2 ?_); (case h1 => wtm_at "sq"); (case h2 => wtm_at "sq"))
  | ((with_reducible refine' i_neLN ?h1 ?h2 ?_); (case h1 => wtm_at "sq"); (case h2 => wtm_at "sq"))
  | ((with_reducible refine' i_in2 ?h1 ?h2 ?h3 ?h4 (fun HH sm => ?_)); (case h1 => wtm_at "ct"); (case h2 => wtm_at "get"); (case h3 => wtm_at "sq"); (case h4 => wtm_at "ne"))
  | with_reducible refine i_neBB ?_ | fail)
def spEqual (K : PySem.W.Frag) (a : Ad) : Sp := fun vs H Q E => ∃ (c u v : Addr) (ns ms : List Int), vs = [.ref c, .ref u, .ref v] ∧ (CtAt K a H c ns) ∧ (H u = some (.lst (ns.map V.int))) ∧ (H v = some (.lst (ms.map V.int))) ∧ (ms.length = ns.length) ∧ (Sm ns) ∧ (∀ x ∈ ms, 0 ≤ x) ∧ (v ≠ c) ∧ (∀ HH, (Same H HH) → Q (.bl true) HH)
theorem spEqual_u1 {K : PySem.W.Frag} {a : Ad} {H : Hp} {Q : VK} {E : XK} {vs : List V} {c u v : Addr} {ns ms : List Int} (g0 : CtAt K a H c ns) (g1 : H u = some (.lst (ns.map V.int))) (g2 : H v = some (.lst (ms.map V.int))) (g3 : ms.length = ns.length) (g4 : Sm ns) (g5 : ∀ x ∈ ms, 0 ≤ x) (g6 : v ≠ c) (k : ∀ HH, (Same H HH) → Q (.bl true) HH) (he : vs = [.ref c, .ref u, .ref v] := by rfl) : spEqual K a vs H Q E := ⟨c, u, v, ns, ms, he, g0, g1, g2, g3, g4, g5, g6, k⟩
set_option hygiene false in
local macro_rules | `(tactic| wtm_at "u") => `(tactic| first
  | ((with_reducible refine' spEqual_u1 ?g0 ?g1 ?g2 ?g3 ?g4 ?g5 ?g6 (fun HH sm => ?_) ?he); (case he => rfl); (case g0 => wtm_at "ct"); (case g1 => wtm_at "get"); (case g2 => wtm_at "get"); (case g3 => wtm_at "as"); (case g4 => wtm_at "as"); (case g5 => wtm_at "as"); (case g6 => wtm_at "ne")) | fail)
section
variable {P : Program} {w : World} {K : PySem.W.Frag} {mg : Str → Option Value} {base : Heap} {a : Ad}
theorem ok__law_equal (T : Txt K mg a) : FnOk P w K mg base CX0 5 a._law_equal a.d__law_equal ["counts", "row", "other"] (spEqual K a) := by
  refine fund_ok0 T.F__law_equal sc__law_equal (fun vs H Q E h => ?_) (fun cdv A outer s H vs Q E hr h => ?_)
  · obtain ⟨c, u, v, ns, ms, rfl, hc, hu, hv, e, hb, hm, nvc, k⟩ := h
    rfl
  · obtain ⟨c, u, v, ns, ms, rfl, hc, hu, hv, e, hb, hm, nvc, k⟩ := h
    refine ⟨_, (pss_cons (ps_if (PW.pt (pw_or (pt_not (pt_cmpR (op_eqO (K := K) T.M_Counts_eq (ok_Counts_eq (K := K) T) (hr.mono (by decide)) T.B_Counts_eq pass0 T.q_Counts) (pv 0) (pe_makeS T.mk_Counts (ok_Counts_init (K := K) T) (hr.mono (by decide)) (by rfl) T.m_Counts T.B_Counts_init .nil (passAt takes0) (pa_cons (pe_callTy (call_tupOf (K := K)) (by rfl) T.b_tuple (by decide +kernel) (pa_cons (pv 1) pa_nil)) pa_nil)) (nomark _))) (pw_or1 (pt_cmpR (op_neO (K := K) T.M_Counts_eq (ok_Counts_eq (K := K) T) (hr.mono (by decide)) T.B_Counts_eq pass0 T.q_Counts T.nn_Counts T.i_Counts) (pv 0) (pe_makeS T.mk_Counts (ok_Counts_init (K := K) T) (hr.mono (by decide)) (by rfl) T.m_Counts T.B_Counts_init .nil (passAt takes0) (pa_cons (pe_callTy (call_lstOf (K := K)) (by rfl) T.b_list (by decide +kernel) (pa_cons (pv 1) pa_nil)) pa_nil)) (nomark _))))) (pss_one (ps_ret pe_bl)) pss_nil)
    (pss_cons (ps_if (PW.pt (pw_or (pt_cmpR (op_neU hr.units (K := K)) (pe_cmpR (op_eqO (K := K) T.M_Counts_eq (ok_Counts_eq (K := K) T) (hr.mono (by decide)) T.B_Counts_eq pass0 T.q_Counts) (pv 0) (pe_makeS T.mk_Counts (ok_Counts_init (K := K) T) (hr.mono (by decide)) (by rfl) T.m_Counts T.B_Counts_init .nil (passAt takes0) (pa_cons (pv 2) pa_nil)) (nomark _)) (pe_cmpR (op_eqU hr.units (K := K)) (pv 1) (pv 2) (nomark _)) (nomark _)) (pw_or1 (pt_cmpR (op_neU hr.units (K := K)) (pe_cmpR (op_neO (K := K) T.M_Counts_eq (ok_Counts_eq (K := K) T) (hr.mono (by decide)) T.B_Counts_eq pass0 T.q_Counts T.nn_Counts T.i_Counts) (pv 0) (pe_makeS T.mk_Counts (ok_Counts_init (K := K) T) (hr.mono (by decide)) (by rfl) T.m_Counts T.B_Counts_init .nil (passAt takes0) (pa_cons (pv 2) pa_nil)) (nomark _)) (pe_cmpR (op_neU hr.units (K := K)) (pv 1) (pv 2) (nomark _)) (nomark _))))) (pss_one (ps_ret pe_bl)) pss_nil)
    (pss_cons (ps_for PassesOwn.never rfl (pi_listK (K := K) (pe_lst (pa_cons (pe_callTy (call_tupOf (K := K)) (by rfl) T.b_tuple (by decide +kernel) (pa_cons (pv 1) pa_nil)) (pa_cons (pe_callTy (call_lstOf (K := K)) (by rfl) T.b_list (by decide +kernel) (pa_cons (pv 1) pa_nil)) (pa_cons (pe_callTy (call_strO T.M_Counts_str (ok_Counts_str (K := K) T) (hr.mono (by decide)) T.B_Counts_str pass0) (by rfl) T.b_str (by decide +kernel) (pa_cons (pv 0) pa_nil)) (pa_cons pe_non (pa_cons (pe_callB (call_lenU (K := K)) (by rfl) T.b_len (by decide +kernel) (pa_cons (pv 1) pa_nil)) (pa_cons (pe_ix (ix_U (K := K)) (pv 1) pe_int (fun _ _ => rfl)) pa_nil)))))))) (pg_name (i := 3) sc__law_equal.nd rfl (by first | exact Or.inl rfl | exact Or.inr rfl))
    (pss_one (ps_if (pt_cmpR (op_eqO (K := K) T.M_Counts_eq (ok_Counts_eq (K := K) T) (hr.mono (by decide)) T.B_Counts_eq pass0 T.q_Counts) (pv 0) (pv 3) (nomark _)) (pss_one (ps_ret pe_bl)) pss_nil)))
    (pss_cons (ps_if (PW.pt (pw_and (pt_cmpR op_ltU (pe_callB (call_lenU (K := K)) (by rfl) T.b_len (by decide +kernel) (pa_cons (pv 1) pa_nil)) pe_int (nomark _)) (pw_and1 (PW.pt (pw_or (pt_cmpR (op_eqO (K := K) T.M_Counts_eq (ok_Counts_eq (K := K) T) (hr.mono (by decide)) T.B_Counts_eq pass0 T.q_Counts) (pv 0) (pe_makeS T.mk_Counts (ok_Counts_init (K := K) T) (hr.mono (by decide)) (by rfl) T.m_Counts T.B_Counts_init .nil (passAt takes0) (pa_cons (pe_op (op_addU (K := K)) (pv 1) (pe_lst (pa_cons pe_int pa_nil))) pa_nil)) (nomark _)) (pw_or1 (pt_cmpR (op_eqO (K := K) T.M_Counts_eq (ok_Counts_eq (K := K) T) (hr.mono (by decide)) T.B_Counts_eq pass0 T.q_Counts) (pe_makeS T.mk_Counts (ok_Counts_init (K := K) T) (hr.mono (by decide)) (by rfl) T.m_Counts T.B_Counts_init .nil (passAt takes0) (pa_cons (pe_op (op_addU (K := K)) (pe_lst (pa_cons pe_int pa_nil)) (pv 1)) pa_nil)) (pv 0) (nomark _)))))))) (pss_one (ps_ret pe_bl)) pss_nil)
    (pss_one (ps_ret (pe_cmpR (op_in2 (n := 1) (K := K) T.M_Counts_eq (ok_Counts_eq (K := K) T) (hr.mono (j := 1 + 2) (by decide)) T.B_Counts_eq pass0 T.sl_Counts) (pv 0) (pe_lst (pa_cons (pv 2) (pa_cons (pv 0) pa_nil))) (by rfl)))))))), ?_⟩
    dsimp only [L2.start, List.map_cons, List.map_nil, List.map, List.length_cons, List.length_nil, Nat.reduceAdd, Nat.reduceSub, List.replicate, List.cons_append, List.nil_append]
    have ln : (ns.map V.int).length = ns.length := List.length_map ..
    obtain ⟨_, _, _, _, p0, p1, p2⟩ := id hc
    have q1 : 2 ≤ ms.length := by omega
    have q2 : ms.length ≤ 5 := by omega
    have a1 : atI (ns.map V.int) 0 = some (.int (ns.getD 0 0)) := atI_N (i := 0) (by omega)
    wtm_at "gs"
    have hcN := hc.same (show Same H HN from by wtm_at "same")
    have huN := (show Same H HN from by wtm_at "same") _ _ hu
    have hvN := (show Same H HN from by wtm_at "same") _ _ hv
    refine' for_predH (fun σ _ => ∃ (v3 : Option V), σ = [some (.ref c), some (.ref u), some (.ref v), v3]) (fun H x => NoC K H x) ?b1 ?b2 ⟨_, rfl⟩ (fun x σ H2 hx hS s2 => ?b3) (fun σ H2 hS s2 => ?b4)
    case b1 => wtm_at "sq"
    case b2 =>
      intro x hx
      simp only [List.mem_cons, List.mem_nil_iff, or_false] at hx
      rcases hx with rfl | rfl | rfl | rfl | rfl | rfl
      all_goals first
        | exact NoC.flat rfl
        | ((refine' NoC.ofG ?f1 ?f2); (case f1 => wtm_at "getg"); (case f2 => exact rfl))
    case b3 =>
      obtain ⟨v3, rfl⟩ := hS
      have hc2 := hcN.same s2
      have hx := hx.same s2
      wtm_at "gs"
      exact ⟨⟨_, rfl⟩, by wtm_at "same"⟩
    case b4 =>
      obtain ⟨v3, rfl⟩ := hS
      have hc2 := hcN.same s2
      have hu2 := s2 _ _ huN
      have hv2 := s2 _ _ hvN
      have s02 := (show Same H HN from by wtm_at "same").trans s2
      clear hcN huN hvN s2 hc hu hv
      have n1 : ¬ ns = ns ++ [0] := fun z => by
        have := congrArg List.length z
        simp at this
      have n2 : ¬ 0 :: ns = ns := fun z => by
        have := congrArg List.length z
        simp at this
      have m1 : ns.map V.int ++ [V.int 0] = (ns ++ [0]).map V.int := by simp
      have m2 : [V.int 0] ++ ns.map V.int = (0 :: ns).map V.int := rfl
      have g1 : ∀ n ∈ ns ++ [0], 0 ≤ n := fun n hn => by
        rcases List.mem_append.mp hn with h | h
        · exact p0 n h
        · rw [List.mem_singleton.mp h]; decide
      have g2 : ∀ n ∈ 0 :: ns, 0 ≤ n := fun n hn => by
        rcases List.mem_cons.mp hn with h | h
        · rw [h]; decide
        · exact p0 n h
      wtm_at "gs"
      · have hgq : HN q = some (.lst ((ns ++ [0]).map V.int)) := by
          rw [← m1]
          wtm_at "get"
        refine' ci_use (p := q) (xs := (ns ++ [0]).map V.int) (ns := ns ++ [0]) ?w0 ?w1 ?w2 rfl g1 ?w5 ?w6 (fun HH sm hct => ?w7)
        case w0 => wtm_at "getg"
        case w1 => wtm_at "ne"
        case w2 => exact .inl (by wtm_at "sq")
        case w5 => simp only [List.length_append, List.length_cons, List.length_nil]; omega
        case w6 => simp only [List.length_append, List.length_cons, List.length_nil]; omega
        wtm_at "gs"
        have hgr : HN q = some (.lst ((0 :: ns).map V.int)) := by
          rw [← m2]
          wtm_at "get"
        refine' ci_use (p := q) (xs := (0 :: ns).map V.int) (ns := 0 :: ns) ?u0 ?u1 ?u2 rfl g2 ?u5 ?u6 (fun HH sm hct => ?u7)
        case u0 => wtm_at "getg"
        case u1 => wtm_at "ne"
        case u2 => exact .inl (by wtm_at "sq")
        case u5 => simp only [List.length_cons]; omega
        case u6 => simp only [List.length_cons]; omega
        wtm_at "gs"
        all_goals trace_state
        exact k _ (by wtm_at "same")
      · exact k _ (by wtm_at "same")
end
theorem CtAt.but {K : PySem.W.Frag} {a : Ad} {H H' : Hp} {p c : Addr} {l : List V} {ns : List Int} (hp : H p = some (.lst l)) (s : SameBut p H H') (h : CtAt K a H c ns) : CtAt K a H' c ns := by
  obtain ⟨dx, t, h1, h2, h3⟩ := h
  exact ⟨dx, t, s _ _ (fun z => by rw [z, hp] at h1; cases h1) h1, SqT.butL hp s h2, h3⟩
local macro_rules | `(tactic| wtm_at "ct") => `(tactic| first | wtm_at "as" | ((with_reducible refine' CtAt.but ?c3 ?c1 ?c2); (case c1 => wtm_at "as"); (case c3 => wtm_at "get"); (case c2 => wtm_at "ct")) | ((with_reducible refine' CtAt.same ?c1 ?c2); (case c1 => wtm_at "as"); (case c2 => wtm_at "ct")) | ((with_reducible refine' CtAt.same ?c1 ?c2); (case c2 => wtm_at "as"); (case c1 => wtm_at "same")) | fail)
theorem atI_last {ns : List Int} (h : 0 < ns.length) : ∃ z, atI (ns.map V.int) (-1) = some (.int z) := by
  have h1 : ixN (ns.map V.int).length (-1) = some (ns.length - 1) := by
    unfold ixN
    rw [List.length_map, if_neg (by decide), if_pos (by omega)]
    congr 1
    omega
  refine ⟨ns.getD (ns.length - 1) 0, ?_⟩
  unfold atI
  rw [h1]
  show (ns.map V.int)[ns.length - 1]? = _
  rw [List.getElem?_map, List.getElem?_eq_getElem (show ns.length - 1 < ns.length by omega), List.getD_eq_getElem?_getD, List.getElem?_eq_getElem (show ns.length - 1 < ns.length by omega)]
  rfl
theorem ci_two {K : PySem.W.Frag} {a : Ad} {H : Hp} {Q : VK} {E : XK} {vs : List V} {x dx p : Addr} {i j : Int} (h0 : H x = some (.ins a.Counts dx [])) (h1 : p ≠ x) (h2 : SqL K H p [.int i, .int j] ∨ SqT K H p [.int i, .int j]) (hi : 0 ≤ i) (hj : 0 ≤ j) (h : ∀ H', SameBut x H H' → CtAt K a H' x [i, j] → Q .non H') (he : vs = [.ref x, .ref p] := by rfl) : spCI K a vs H Q E :=
  ci_use (ns := [i, j]) h0 h1 h2 rfl (fun n hn => by
    simp only [List.mem_cons, List.mem_nil_iff, or_false] at hn
    rcases hn with rfl | rfl
    · exact hi
    · exact hj) (Nat.le_of_ble_eq_true rfl) (Nat.le_of_ble_eq_true rfl) h he
theorem raised_0 {K : PySem.W.Frag} {a : Ad} {H : Hp} {Q : VK} {E : XK} {vs : List V} {c : Addr} {ns : List Int} {j : Int} (h1 : CtAt K a H c ns) (hj : 0 ≤ j) (h : ∀ H' r, Same H H' → CtAt K a H' r (ns.set 0 (ns.getD 0 0 + j)) → Q (.ref r) H') (he : vs = [.ref c, .int 0, .int j] := by rfl) : spRaised K a vs H Q E := by
  have hl : 0 < ns.length := by
    obtain ⟨_, _, _, _, _, h, _⟩ := id h1
    omega
  exact ⟨c, ns, _, _, he, h1, trivial, trivial, .inr ⟨0, rfl, hl, .inr ⟨j, rfl, hj, h⟩⟩⟩
set_option hygiene false in
local macro_rules | `(tactic| wtm_at "u") => `(tactic| first
  | ((with_reducible refine' raised_0 ?h1 ?hj (fun HH r sm hct => ?_) ?he); (case he => rfl); (case h1 => wtm_at "ct"); (case hj => wtm_at "as"))
  | ((with_reducible refine' ciT_use ?h0 ?h2 rfl ?h4 ?h5 ?h6 (fun HH sm hct => ?_) ?he); (case he => rfl); (case h0 => wtm_at "getg"); (case h2 => wtm_at "sq"); (case h4 => wtm_at "nn"); (case h5 => wtm_at "lenle"); (case h6 => wtm_at "lenle"))
  | ((with_reducible refine' ci_two ?h0 ?h1 ?h2 ?h3 ?h4 (fun HH sm hct => ?_) ?he); (case he => rfl); (case h0 => wtm_at "getg"); (case h2 => first | exact .inl (by wtm_at "sq") | exact .inr (by wtm_at "sq")); (case h1 => wtm_at "ne"); (case h3 => omega); (case h4 => omega)) | fail)
theorem i_ixA {K : PySem.W.Frag} {H : Hp} {Q : VK} {p : Addr} {xs : List V} {n : Int} (h1 : H p = some (.lst xs)) (h0 : 0 ≤ n) (h2 : n < xs.length) (h : ∀ w, w ∈ xs → Q w H) : rIxU K (.ref p) (.int n) H Q := by
  obtain ⟨v, hm, _, e⟩ := atI_in h0 h2
  exact ⟨xs, v, .inl (.of h1), e, h v hm⟩
theorem lc_mapB {K : PySem.W.Frag} {a p : Addr} {xs : List V} {g : TG} {tt : TT} {te : TE} {vs : List Nat} {σ : St} {H1 : Hp} {D : Addr} {Qd : Hp → Prop} (f : V → V) (Pp : Nat → Hp → Prop) (hT : ∀ H, SameBut p H1 H → SqL K H a xs) (hD : H1 D = none) (hDp : D ≠ p) (hl : xs.length ≤ 1000) (hP : Pp 0 H1) (mono : ∀ i H o, Pp i H → Pp i (upd H D o))
    (hs : ∀ i x, xs[i]? = some x → ∀ H (Q : VK) (R : Hp → Prop), SameBut p H1 H → Pp i H → (∀ H', SameBut p H H' → Pp (i + 1) H' → Q (f x) H') → g x (wipe σ vs) H fun σ2 H2 => wipe σ2 vs = wipe σ vs ∧ tt σ2 H2 fun b H3 => if b = true then te σ2 H3 Q else R H3)
    (hd : ∀ H, SameBut p H1 H → H D = some (.lst (xs.map f)) → Qd H) :
    ∃ W : Nat → Nat → Hp → Prop, (∃ m, W 0 m (upd H1 D (.lst []))) ∧ ∀ i m H, W i m H →
      ((Itl K a).stop i H ∧ Qd H) ∨ ((Itl K a).go i H ∧ ∃ Nx : Hp → Prop, (∀ H', Nx H' → ∃ m', m' < m ∧ W (i + 1) m' H') ∧ ∀ x H', (Itl K a).yld i H x H' → g x (wipe σ vs) H' fun σ2 H2 => wipe σ2 vs = wipe σ vs ∧ tt σ2 H2 fun b H3 =>
        if b = true then te σ2 H3 fun y H4 => ∃ acc, H4 D = some (.lst acc) ∧ acc.length < sizeLine ∧ Nx (upd H4 D (.lst (acc ++ [y]))) else Nx H3) := by
  have sb : ∀ {H o}, SameBut p H1 H → SameBut p H1 (upd H D o) := fun {H o} s b u n e => by
    rw [upd_ne (ne_of_none e hD)]
    exact s b u n e
  refine lc_it walk_list (fun i H => SameBut p H1 H ∧ H D = some (.lst ((xs.take i).map f)) ∧ Pp i H) ⟨sb (SameBut.refl _ _), upd_same, mono _ _ _ hP⟩ (fun i H _ h => hT _ h.1) ?_ ?_
  · rintro i x H H' hi ⟨s1, e1, pp⟩ ⟨rfl, hx⟩
    refine hs i x hx _ _ _ s1 pp (fun H4 s4 pp4 => ?_)
    refine ⟨_, s4 _ _ hDp e1, ?_, sb (s1.trans s4), ?_, mono _ _ _ pp4⟩
    · rw [List.length_map, List.length_take]
      exact Nat.lt_of_le_of_lt (Nat.min_le_right _ _) (small1000 hl)
    · rw [upd_same, take_succ_get hx, List.map_append]
      rfl
  · rintro H ⟨s1, e1, _⟩
    rw [List.take_length] at e1
    exact hd H s1 e1
theorem kn_3 {K : PySem.W.Frag} {H : Hp} {b : V} (h : flatV b = true ∨ ∃ q7 o7, b = .ref q7 ∧ H q7 = some o7 ∧ (o7 = .lst [.int 0] ∨ o7 = .tup [.int 0])) : Kn K H b := by
  rcases h with h | ⟨q7, o7, rfl, h, rfl | rfl⟩
  · exact kn_flat h
  · exact .ofG h trivial
  · exact .ofG h trivial
theorem kn_bad {K : PySem.W.Frag} {H : Hp} {ns : List Int} {b : V} {i j k l : Option Int} (hb : Kn K H b) : ∀ y ∈ cutV (ns.map V.int) i j ++ [b] ++ cutV (ns.map V.int) k l, Kn K H y := fun y hy => by
  have key : ∀ i j, y ∈ cutV (ns.map V.int) i j → Kn K H y := fun i j h => by
    obtain ⟨n, _, rfl⟩ := List.mem_map.mp (List.mem_of_mem_drop (List.mem_of_mem_take h))
    exact trivial
  rcases List.mem_append.mp hy with hy | hy
  · rcases List.mem_append.mp hy with hy | hy
    · exact key _ _ hy
    · rw [List.mem_singleton.mp hy]; exact hb
  · exact key _ _ hy
theorem areL_bad {xs ys : List V} {b : V} (h : isWh 0 .non b = false) : areL (xs ++ [b] ++ ys) = false := by
  unfold areL
  rw [List.all_append, List.all_append, List.all_cons, h]
  simp
theorem areL_len {xs : List V} (h : ¬ (2 ≤ (xs.length : Int) ∧ (xs.length : Int) ≤ 5)) : areL xs = false := by
  unfold areL
  by_cases h1 : 2 ≤ xs.length
  · rw [decide_eq_false (show ¬ xs.length ≤ 5 by omega)]
    simp
  · rw [decide_eq_false h1]
    rfl
def spLaw (K : PySem.W.Frag) : Sp := fun vs H Q _ => ∃ (p : Addr) (ns : List Int), vs = [.ref p] ∧ SqL K H p (ns.map V.int) ∧ ns.length ≤ 63 ∧ ∀ H', Q (.bl true) H'
section
variable {P : Program} {w : World} {K : PySem.W.Frag} {mg : Str → Option Value} {base : Heap} {a : Ad}
theorem ok_law (T : Txt K mg a) : FnOk P w K mg base CX0 7 a.law a.d_law ["script"] (spLaw K) := by
  refine fund_ok0 T.F_law sc_law (fun vs H Q E h => ?_) (fun cdv A outer s H vs Q E hr h => ?_)
  · obtain ⟨p, ns, rfl, hS, hl, k⟩ := h
    rfl
  · obtain ⟨p, ns, rfl, hS, hl, k⟩ := h
    refine ⟨_, (pss_cons (ps_for PassesOwn.never rfl (pi_listK (K := K) (pe_op (op_addU (K := K)) (pe_slice (sl_U (K := K)) (pv 0) po_none (po_some pe_int)) (pe_lst (pa_cons pe_int pa_nil)))) (pg_name (i := 1) sc_law.nd rfl (by first | exact Or.inl rfl | exact Or.inr rfl))
    (pss_cons (ps_set (i := 2) sc_law.nd rfl (by first | exact Or.inl rfl | exact Or.inr rfl) (pe_call (ok__law_pool (K := K) T) (hr.mono (by decide)) (by rfl) T.m__law_pool T.F__law_pool.kp T.B__law_pool .nil pass0 (pa_cons (pv 1) pa_nil)))
    (pss_cons (ps_set (i := 3) sc_law.nd rfl (by first | exact Or.inl rfl | exact Or.inr rfl) (pe_call (ok__law_take (K := K) T) (hr.mono (by decide)) (by rfl) T.m__law_take T.F__law_take.kp T.B__law_take .nil pass0 (pa_cons (pv 2) (pa_cons pe_int pa_nil))))
    (pss_cons (ps_set (i := 4) sc_law.nd rfl (by first | exact Or.inl rfl | exact Or.inr rfl) (pe_call (ok__law_take (K := K) T) (hr.mono (by decide)) (by rfl) T.m__law_take T.F__law_take.kp T.B__law_take .nil pass0 (pa_cons (pv 2) (pa_cons pe_int pa_nil))))
    (pss_cons (ps_set (i := 5) sc_law.nd rfl (by first | exact Or.inl rfl | exact Or.inr rfl) (pe_call (ok__law_take (K := K) T) (hr.mono (by decide)) (by rfl) T.m__law_take T.F__law_take.kp T.B__law_take .nil pass0 (pa_cons (pv 2) (pa_cons pe_int pa_nil))))
    (pss_cons (ps_set (i := 6) sc_law.nd rfl (by first | exact Or.inl rfl | exact Or.inr rfl) (pe_call (ok__law_take (K := K) T) (hr.mono (by decide)) (by rfl) T.m__law_take T.F__law_take.kp T.B__law_take .nil pass0 (pa_cons (pv 2) (pa_cons pe_int pa_nil))))
    (pss_cons (ps_set (i := 7) sc_law.nd rfl (by first | exact Or.inl rfl | exact Or.inr rfl) (pe_call (ok__law_numbers (K := K) T) (hr.mono (by decide)) (by rfl) T.m__law_numbers T.F__law_numbers.kp T.B__law_numbers .nil pass0 (pa_cons (pv 2) (pa_cons (pv 6) pa_nil))))
    (pss_cons (ps_if (pt_not (pt_chain op_leU op_leU pe_int (pv 6) pe_int)) (pss_cons (ps_if (pt_not (pt_val (pe_call (ok__law_refused (K := K) T) (hr.mono (by decide)) (by rfl) T.m__law_refused T.F__law_refused.kp T.B__law_refused .nil pass0 (pa_cons (pe_ix (ix_U (K := K)) (pe_lst (pa_cons (pe_callTy (call_lstOf (K := K)) (by rfl) T.b_list (by decide +kernel) (pa_cons (pv 7) pa_nil)) (pa_cons (pe_callTy (call_tupOf (K := K)) (by rfl) T.b_tuple (by decide +kernel) (pa_cons (pv 7) pa_nil)) pa_nil))) (pv 5) (fun _ _ => rfl)) pa_nil)))) (pss_one (ps_ret pe_bl)) pss_nil)
    (pss_one (ps_set (i := 7) sc_law.nd rfl (by first | exact Or.inl rfl | exact Or.inr rfl) (pe_call (ok__law_numbers (K := K) T) (hr.mono (by decide)) (by rfl) T.m__law_numbers T.F__law_numbers.kp T.B__law_numbers .nil pass0 (pa_cons (pv 2) (pa_cons (pe_op (op_addU (K := K)) pe_int (pe_op op_modU (pv 6) pe_int)) pa_nil)))))) pss_nil)
    (pss_cons (ps_set (i := 8) sc_law.nd rfl (by first | exact Or.inl rfl | exact Or.inr rfl) (pe_ix (ix_U (K := K)) (pe_lst (pa_cons (pe_callTy (call_lstOf (K := K)) (by rfl) T.b_list (by decide +kernel) (pa_cons (pv 7) pa_nil)) (pa_cons (pe_callTy (call_tupOf (K := K)) (by rfl) T.b_tuple (by decide +kernel) (pa_cons (pv 7) pa_nil)) pa_nil))) (pv 5) (fun _ _ => rfl)))
    (pss_cons (ps_set (i := 9) sc_law.nd rfl (by first | exact Or.inl rfl | exact Or.inr rfl) (pe_makeS T.mk_Counts (ok_Counts_init (K := K) T) (hr.mono (by decide)) (by rfl) T.m_Counts T.B_Counts_init .nil (passAt takes0) (pa_cons (pv 8) pa_nil)))
    (pss_cons (ps_if (pt_cmpR (op_eqU hr.units (K := K)) (pv 5) pe_int (nomark _)) (pss_cons (ps_asg pe_int (pg_sub (pv 8) (pe_op op_modU (pv 4) (pe_callB (call_lenU (K := K)) (by rfl) T.b_len (by decide +kernel) (pa_cons (pv 8) pa_nil))) set_list))
    (pss_one (ps_expr (pe_appK (K := K) (pe_bm PySem.F.plainAttrs_list PySem.F.slot_list_append PySem.F.type_list_append mt_append (pv 8) (pa_cons pe_int pa_nil)))))) pss_nil)
    (pss_cons (ps_if (PW.pt (pw_or (pt_not (pt_val (pe_call (ok__law_told (K := K) T) (hr.mono (by decide)) (by rfl) T.m__law_told T.F__law_told.kp T.B__law_told .nil pass0 (pa_cons (pv 9) (pa_cons (pv 7) pa_nil))))) (pw_or1 (pt_not (pt_val (pe_call (ok__law_equal (K := K) T) (hr.mono (by decide)) (by rfl) T.m__law_equal T.F__law_equal.kp T.B__law_equal .nil pass0 (pa_cons (pv 9) (pa_cons (pv 7) (pa_cons (pe_call (ok__law_near (K := K) T) (hr.mono (by decide)) (by rfl) T.m__law_near T.F__law_near.kp T.B__law_near .nil pass0 (pa_cons (pv 7) (pa_cons (pv 2) pa_nil))) pa_nil))))))))) (pss_one (ps_ret pe_bl)) pss_nil)
    (pss_cons (ps_set (i := 10) sc_law.nd rfl (by first | exact Or.inl rfl | exact Or.inr rfl) (pe_lst (pa_cons (pe_op (op_addU (K := K)) pe_int (pe_op op_modU (pe_ix (ix_U (K := K)) (pv 7) pe_int (fun _ _ => rfl)) pe_int)) (pa_cons (pe_op (op_addU (K := K)) pe_int (pe_op op_modU (pe_ix (ix_U (K := K)) (pv 7) (pe_un un_neg pe_int) (fun _ _ => rfl)) pe_int)) pa_nil))))
    (pss_cons (ps_set (i := 11) sc_law.nd rfl (by first | exact Or.inl rfl | exact Or.inr rfl) (pe_lst (pa_cons (pe_op (op_addU (K := K)) (pe_op op_mulU (pe_ix (ix_U (K := K)) (pv 10) pe_int (fun _ _ => rfl)) pe_int) (pe_op op_fdivU (pe_ix (ix_U (K := K)) (pv 10) pe_int (fun _ _ => rfl)) pe_int)) (pa_cons (pe_op op_modU (pe_ix (ix_U (K := K)) (pv 10) pe_int (fun _ _ => rfl)) pe_int) pa_nil))))
    (pss_cons (ps_set (i := 12) sc_law.nd rfl (by first | exact Or.inl rfl | exact Or.inr rfl) (pe_methS (pe_makeS T.mk_Counts (ok_Counts_init (K := K) T) (hr.mono (by decide)) (by rfl) T.m_Counts T.B_Counts_init .nil (passAt takes0) (pa_cons (pe_op op_mulU (pe_lst (pa_cons (pe_op op_subU (pe_op op_powU pe_int pe_int) pe_int) pa_nil)) (pe_callB (call_lenU (K := K)) (by rfl) T.b_len (by decide +kernel) (pa_cons (pv 7) pa_nil))) pa_nil)) T.c_Counts T.M_Counts_raised (ok_Counts_raised (K := K) T) (hr.mono (by decide)) T.B_Counts_raised .nil (passAt takes0) (pa_cons pe_int (pa_cons (pe_op op_subU (pe_op op_powU pe_int pe_int) pe_int) pa_nil))))
    (pss_cons (ps_if (PW.pt (pw_or (pt_cmpR (op_eqO (K := K) T.M_Counts_eq (ok_Counts_eq (K := K) T) (hr.mono (by decide)) T.B_Counts_eq pass0 T.q_Counts) (pe_makeS T.mk_Counts (ok_Counts_init (K := K) T) (hr.mono (by decide)) (by rfl) T.m_Counts T.B_Counts_init .nil (passAt takes0) (pa_cons (pv 10) pa_nil)) (pe_makeS T.mk_Counts (ok_Counts_init (K := K) T) (hr.mono (by decide)) (by rfl) T.m_Counts T.B_Counts_init .nil (passAt takes0) (pa_cons (pv 11) pa_nil)) (nomark _)) (pw_or (pt_cmpR (op_neO (K := K) T.M_Counts_eq (ok_Counts_eq (K := K) T) (hr.mono (by decide)) T.B_Counts_eq pass0 T.q_Counts T.nn_Counts T.i_Counts) (pe_makeS T.mk_Counts (ok_Counts_init (K := K) T) (hr.mono (by decide)) (by rfl) T.m_Counts T.B_Counts_init .nil (passAt takes0) (pa_cons (pv 10) pa_nil)) (pe_makeS T.mk_Counts (ok_Counts_init (K := K) T) (hr.mono (by decide)) (by rfl) T.m_Counts T.B_Counts_init .nil (passAt takes0) (pa_cons (pe_callTy (call_tupOf (K := K)) (by rfl) T.b_tuple (by decide +kernel) (pa_cons (pv 10) pa_nil)) pa_nil)) (nomark _)) (pw_or1 (pt_cmpR (op_neO (K := K) T.M_Counts_eq (ok_Counts_eq (K := K) T) (hr.mono (by decide)) T.B_Counts_eq pass0 T.q_Counts T.nn_Counts T.i_Counts) (pe_makeS T.mk_Counts (ok_Counts_init (K := K) T) (hr.mono (by decide)) (by rfl) T.m_Counts T.B_Counts_init .nil (passAt takes0) (pa_cons (pe_meth0 (pv 12) T.c_Counts T.M_Counts_told (ok_Counts_told (K := K) T) (hr.mono (by decide)) T.B_Counts_told .nil pass0) pa_nil)) (pv 12) (nomark _)))))) (pss_one (ps_ret pe_bl)) pss_nil)
    (pss_cons (ps_set (i := 13) sc_law.nd rfl (by first | exact Or.inl rfl | exact Or.inr rfl) (pe_op op_modU (pv 4) (pe_callB (call_lenU (K := K)) (by rfl) T.b_len (by decide +kernel) (pa_cons (pv 7) pa_nil))))
    (pss_cons (ps_set (i := 14) sc_law.nd rfl (by first | exact Or.inl rfl | exact Or.inr rfl) (pe_ix (ix_U (K := K)) (pe_lst (pa_cons (pe_un un_neg pe_int) (pa_cons pe_bl (pa_cons pe_str (pa_cons pe_non (pa_cons (pe_lst (pa_cons pe_int pa_nil)) (pa_cons (pe_op op_subU (pe_un un_neg pe_int) (pe_op op_fdivU (pe_ix (ix_U (K := K)) (pv 7) (pv 13) (fun _ _ => rfl)) pe_int)) (pa_cons (pe_tup (pa_cons pe_int pa_nil)) (pa_cons pe_bl pa_nil))))))))) (pv 3) (fun _ _ => rfl)))
    (pss_cons (ps_if (pt_not (pt_val (pe_call (ok__law_refused (K := K) T) (hr.mono (by decide)) (by rfl) T.m__law_refused T.F__law_refused.kp T.B__law_refused .nil pass0 (pa_cons (pe_op (op_addU (K := K)) (pe_op (op_addU (K := K)) (pe_slice (sl_U (K := K)) (pv 7) po_none (po_some (pv 13))) (pe_lst (pa_cons (pv 14) pa_nil))) (pe_slice (sl_U (K := K)) (pv 7) (po_some (pe_op (op_addU (K := K)) (pv 13) pe_int)) po_none)) pa_nil)))) (pss_one (ps_ret pe_bl)) pss_nil)
    (pss_one (ps_if (PW.pt (pw_or (pt_not (pt_val (pe_call (ok__law_refused (K := K) T) (hr.mono (by decide)) (by rfl) T.m__law_refused T.F__law_refused.kp T.B__law_refused .nil pass0 (pa_cons (pe_callTy (call_tupOf (K := K)) (by rfl) T.b_tuple (by decide +kernel) (pa_cons (pe_op (op_addU (K := K)) (pe_op (op_addU (K := K)) (pe_slice (sl_U (K := K)) (pv 7) po_none (po_some (pv 13))) (pe_lst (pa_cons (pv 14) pa_nil))) (pe_slice (sl_U (K := K)) (pv 7) (po_some (pe_op (op_addU (K := K)) (pv 13) pe_int)) po_none)) pa_nil)) pa_nil)))) (pw_or1 (pt_not (pt_val (pe_call (ok__law_told (K := K) T) (hr.mono (by decide)) (by rfl) T.m__law_told T.F__law_told.kp T.B__law_told .nil pass0 (pa_cons (pv 9) (pa_cons (pv 7) pa_nil)))))))) (pss_one (ps_ret pe_bl)) pss_nil)))))))))))))))))))))
    (pss_cons (ps_set (i := 15) sc_law.nd rfl (by first | exact Or.inl rfl | exact Or.inr rfl) (pe_lst (pa_cons pe_non (pa_cons pe_int (pa_cons pe_bl (pa_cons pe_str (pa_cons pe_dnewK (pa_cons (pe_disp (pps_cons pe_int pe_int (pps_cons pe_int pe_int pps_nil)) (by rfl) (by rfl) (fun z => by cases z) (by decide)) (pa_cons (pe_makeS T.mk_Counts (ok_Counts_init (K := K) T) (hr.mono (by decide)) (by rfl) T.m_Counts T.B_Counts_init .nil (passAt takes0) (pa_cons (pe_lst (pa_cons pe_int (pa_cons pe_int pa_nil))) pa_nil)) (pa_cons (pe_lst (pa_cons (pe_makeS T.mk_Counts (ok_Counts_init (K := K) T) (hr.mono (by decide)) (by rfl) T.m_Counts T.B_Counts_init .nil (passAt takes0) (pa_cons (pe_lst (pa_cons pe_int (pa_cons pe_int pa_nil))) pa_nil)) (pa_cons pe_int pa_nil))) pa_nil))))))))))
    (pss_one (ps_ret (pe_callB (cr_allK (K := K) rfl) (by rfl) T.b_all (by decide +kernel) (pa_cons (pe_lc (own := [("thing", 16)]) rfl sc_law.nd (pi_listK (K := K) (pv 15)) (blkOk_by (own := [("thing", 16)]) (N := ["script", "cell", "pool", "spoil", "place", "kind", "members", "row", "handed", "counts", "two", "moved", "top", "at", "bad", "some", "thing"]) (sc := defScope s_law) (by decide +kernel)) (fun _ _ _ _ _ => (pg_name (i := 16) sc_law.nd rfl (by first | exact Or.inl rfl | exact Or.inr rfl))) (fun _ _ _ _ _ => pts_nil) (fun _ _ _ _ _ => (pe_call (ok__law_refused (K := K) T) (hr.mono (by decide)) (by rfl) T.m__law_refused T.F__law_refused.kp T.B__law_refused .nil pass0 (pa_cons (pv 16) pa_nil)))) pa_nil)))))), ?_⟩
    dsimp only [L2.start, List.map_cons, List.map_nil, List.map, List.length_cons, List.length_nil, Nat.reduceAdd, Nat.reduceSub, List.replicate, List.cons_append, List.nil_append]
    have hc := cutV_length (ns.map V.int) none (some 30)
    rw [List.length_map] at hc
    wtm_at "gs"
    refine' for_pred (K := K) (fun σ => ∃ v1 v2 v3 v4 v5 v6 v7 v8 v9 v10 v11 v12 v13 v14, σ = [some (.ref p), v1, v2, v3, v4, v5, v6, v7, v8, v9, v10, v11, v12, v13, v14, none, none]) (fun _ y => ∃ n, y = .int n) ?hL ?hp ⟨_, _, _, _, _, _, _, _, _, _, _, _, _, _, rfl⟩ (fun y σ H3 hy hs s3 => ?hs) (fun σ H3 hs s3 => ?hd)
    case hL => wtm_at "sq"
    case hp =>
      intro y hy
      rcases List.mem_append.mp hy with hy | hy
      · obtain ⟨n, _, rfl⟩ := List.mem_map.mp (List.mem_of_mem_drop (List.mem_of_mem_take hy))
        exact ⟨n, rfl⟩
      · exact ⟨6, List.mem_singleton.mp hy⟩
    case hs =>
      obtain ⟨v1, v2, v3, v4, v5, v6, v7, v8, v9, v10, v11, v12, v13, v14, rfl⟩ := hs
      obtain ⟨n, rfl⟩ := hy
      clear hc hl k hS
      wtm_at "gi"
      rename_i Ha hga sp m1 sp0 sp1 Hb sbb hgb pl m2 pl0 pl1 Hc sbc hgc kd m3 kd0 kd1 Hd sbd hgd mm m4 sbe
      have sbH : SameBut q H3 HH := by wtm_at "but"
      have nrq : r ≠ q := by wtm_at "ne"
      clear hg hgd hgc hgb hga sbb sbc sbd sbe sb nr
      with_reducible refine i_seqIf ?_
      refine seq_rest (fun σ H' => ∃ (r : Addr) (ns : List Int) (m9 : Int) (v8 v9 v10 v11 v12 v13 v14 : Option V), σ = [some (.ref p), some (.int n), some (.ref q), some (.int sp), some (.int pl), some (.int kd), some (.int mm), some (.ref r), v8, v9, v10, v11, v12, v13, v14, none, none] ∧ SameBut q H3 H' ∧ H' q = some (.lst [.int m9]) ∧ H' r = some (.lst (ns.map V.int)) ∧ r ≠ q ∧ 2 ≤ ns.length ∧ ns.length ≤ 5 ∧ (∀ x ∈ ns, 0 ≤ x ∧ x < 10 ^ 30)) (fun σ H' hP => ?rest) (fun R rest => ?now)
      case now =>
        have ln : (ns.map V.int).length = ns.length := List.length_map ..
        rcases Classical.em (2 ≤ mm ∧ mm ≤ 5) with ⟨g2, g5⟩ | gB
        · wtm_at "gs"
          exact rest _ _ ⟨r, ns, m', _, _, _, _, _, _, _, rfl, sbH, hp', hr, nrq, by omega, by omega, hge⟩
        have ha : areL (ns.map V.int) = false := areL_len (by omega)
        have hkn : ∀ (H : Hp), ∀ y ∈ ns.map V.int, Kn K H y := fun H y hy => by
          obtain ⟨z, _, rfl⟩ := List.mem_map.mp hy
          exact trivial
        have hl9 : (ns.map V.int).length ≤ 900 := by omega
        wtm_at "gs"
        all_goals try (exfalso; omega)
        all_goals
          have hkN := hkn HN
          obtain rfl | rfl : kd = 0 ∨ kd = 1 := by omega
          · wtm_at "gs"
            refine' rest _ _ ⟨r, ns, m', _, _, _, _, _, _, _, rfl, ?y1, hp', hr, ?y2, by omega, by omega, hge⟩
            case y1 => wtm_at "but"
            case y2 => wtm_at "ne"
          · wtm_at "gs"
            refine' rest _ _ ⟨r, ns, m', _, _, _, _, _, _, _, rfl, ?z1, hp', hr, ?z2, by omega, by omega, hge⟩
            case z1 => wtm_at "but"
            case z2 => wtm_at "ne"
      case rest =>
        obtain ⟨r, ns, m9, v8, v9, v10, v11, v12, v13, v14, rfl, sbR, hqR, hrR, nrq, l2, l5, hge⟩ := hP
        have ln : (ns.map V.int).length = ns.length := List.length_map ..
        have hge0 : ∀ x ∈ ns, 0 ≤ x := fun x hx => (hge x hx).1
        have hsm : Sm ns := fun x hx => ⟨(hge x hx).1, Int.lt_trans (hge x hx).2 (by decide)⟩
        rename Hp => HR
        clear hp' hr sbH hl'
        refine seq_rest (fun σ H' => ∃ (hq : Addr) (v9 v10 v11 v12 v13 v14 : Option V), σ = [some (.ref p), some (.int n), some (.ref q), some (.int sp), some (.int pl), some (.int kd), some (.int mm), some (.ref r), some (.ref hq), v9, v10, v11, v12, v13, v14, none, none] ∧ SameBut q H3 H' ∧ H' q = some (.lst [.int m9]) ∧ H' r = some (.lst (ns.map V.int)) ∧ hq ≠ r ∧ hq ≠ q ∧ H3 hq = none ∧ ((kd = 0 ∧ H' hq = some (.lst (ns.map V.int))) ∨ (kd = 1 ∧ H' hq = some (.tup (ns.map V.int))))) (fun σ H' hP => ?rest1) (fun R rest => ?now1)
        case now1 =>
          obtain rfl | rfl : kd = 0 ∨ kd = 1 := by omega
          all_goals wtm_at "gs"
          · refine' rest _ _ ⟨_, _, _, _, _, _, _, rfl, ?e1, ?e2, ?e3, ?e4, ?e5, ?e7, .inl ⟨rfl, ?e6⟩⟩
            case e1 => wtm_at "but"
            case e2 => wtm_at "get"
            case e3 => wtm_at "get"
            case e4 => wtm_at "ne"
            case e5 => wtm_at "ne"
            case e6 => wtm_at "get"
            case e7 => exact none_but sbR hqR (by first | assumption | (refine none_same ?_ (by assumption); wtm_at "same"))
          · refine' rest _ _ ⟨_, _, _, _, _, _, _, rfl, ?e1, ?e2, ?e3, ?e4, ?e5, ?e7, .inr ⟨rfl, ?e6⟩⟩
            case e1 => wtm_at "but"
            case e2 => wtm_at "get"
            case e3 => wtm_at "get"
            case e4 => wtm_at "ne"
            case e5 => wtm_at "ne"
            case e6 => wtm_at "get"
            case e7 => exact none_but sbR hqR (by first | assumption | (refine none_same ?_ (by assumption); wtm_at "same"))
        case rest1 =>
          obtain ⟨hq5, v9, v10, v11, v12, v13, v14, rfl, sb1, hq1, hr1, n1, n2, n3, hK⟩ := hP
          clear sbR hqR hrR
          refine seq_rest (fun σ H' => ∃ (c : Addr) (v10 v11 v12 v13 v14 : Option V), σ = [some (.ref p), some (.int n), some (.ref q), some (.int sp), some (.int pl), some (.int kd), some (.int mm), some (.ref r), some (.ref hq5), some (.ref c), v10, v11, v12, v13, v14, none, none] ∧ SameBut q H3 H' ∧ H' q = some (.lst [.int m9]) ∧ H' r = some (.lst (ns.map V.int)) ∧ CtAt K a H' c ns ∧ ((kd = 0 ∧ H' hq5 = some (.lst (ns.map V.int))) ∨ (kd = 1 ∧ H' hq5 = some (.tup (ns.map V.int))))) (fun σ H' hP => ?rest2) (fun R rest => ?now2)
          case now2 =>
            rcases hK with ⟨rfl, hK⟩ | ⟨rfl, hK⟩
            all_goals wtm_at "gs"
            · refine' rest _ _ ⟨_, _, _, _, _, _, rfl, ?e1, ?e2, ?e3, hct, .inl ⟨rfl, ?e6⟩⟩
              case e1 => wtm_at "but"
              case e2 => wtm_at "get"
              case e3 => wtm_at "get"
              case e6 => wtm_at "get"
            · refine' rest _ _ ⟨_, _, _, _, _, _, rfl, ?e1, ?e2, ?e3, hct, .inr ⟨rfl, ?e6⟩⟩
              case e1 => wtm_at "but"
              case e2 => wtm_at "get"
              case e3 => wtm_at "get"
              case e6 => wtm_at "get"
          case rest2 =>
            obtain ⟨c, v10, v11, v12, v13, v14, rfl, sb2, hq2, hr2, hc2, hK⟩ := hP
            clear sb1 hq1 hr1
            refine seq_rest (fun σ H' => ∃ (v10 v11 v12 v13 v14 : Option V), σ = [some (.ref p), some (.int n), some (.ref q), some (.int sp), some (.int pl), some (.int kd), some (.int mm), some (.ref r), some (.ref hq5), some (.ref c), v10, v11, v12, v13, v14, none, none] ∧ SameBut q H3 H' ∧ H' q = some (.lst [.int m9]) ∧ H' r = some (.lst (ns.map V.int)) ∧ CtAt K a H' c ns) (fun σ H' hP => ?rest3) (fun R rest => ?now3)
            case now3 =>
              rcases hK with ⟨rfl, hK2⟩ | ⟨rfl, hK2⟩
              · wtm_at "gs"
                have hne : 0 < ns.length := by omega
                have i1 := Int.emod_nonneg pl (show ((ns.map V.int).length : Int) ≠ 0 by omega)
                have i2 := Int.emod_lt_of_pos pl (show (0 : Int) < ((ns.map V.int).length : Int) by omega)
                obtain ⟨j, hj⟩ : ∃ j : Nat, pl % ((ns.map V.int).length : Int) = j := ⟨(pl % ((ns.map V.int).length : Int)).toNat, by omega⟩
                rw [hj]
                refine i_setL (by wtm_at "get") (ixN_nat (by omega)) ?_
                wtm_at "abss"
                have hcS : CtAt K a HN c ns := CtAt.but hK2 sb hc2
                have hgS := hg
                have lz : ((ns.map V.int).set j (V.int 77)).length ≤ 5 := by rw [List.length_set]; omega
                wtm_at "gs"
                refine' rest _ _ ⟨_, _, _, _, _, rfl, ?e1, ?e2, ?e3, ?e4⟩
                case e1 => wtm_at "but"
                case e2 => wtm_at "get"
                case e3 => wtm_at "get"
                case e4 => exact CtAt.but hgS sb hcS
              · wtm_at "gs"
                exact rest _ _ ⟨_, _, _, _, _, rfl, sb2, hq2, hr2, hc2⟩
            case rest3 =>
              obtain ⟨v10, v11, v12, v13, v14, rfl, sb3, hq3, hr3, hc3⟩ := hP
              clear sb2 hq2 hr2 hc2 hK
              have sbW : SameBut q H3 H' ∧ True := ⟨sb3, trivial⟩
              obtain ⟨dxc, tc, hcI, _⟩ := id hc3
              clear sb3
              have a0 : atI (ns.map V.int) 0 = some (.int (ns.getD 0 0)) := atI_N (i := 0) (by omega)
              obtain ⟨zL, aL⟩ := atI_last (show 0 < ns.length by omega)
              obtain ⟨z0, hz0⟩ : ∃ z0, z0 = ns.getD 0 0 := ⟨_, rfl⟩
              rw [← hz0] at a0
              clear hz0
              have b1 := Int.emod_nonneg z0 (show (9 : Int) ≠ 0 by decide)
              have b2 := Int.emod_lt_of_pos z0 (show (0 : Int) < 9 by decide)
              have b3 := Int.emod_nonneg zL (show (90 : Int) ≠ 0 by decide)
              have b4 := Int.emod_lt_of_pos zL (show (0 : Int) < 90 by decide)
              have hne : ¬ [1 + z0 % 9, 10 + zL % 90] = [(1 + z0 % 9) * 10 + (10 + zL % 90) / 10, (10 + zL % 90) % 10] := fun z => by
                have := (List.cons.inj z).1
                omega
              have hz : (0 : Int) ≤ 10 ^ Int.toNat 30 - 1 := by decide +kernel
              have i1 := Int.emod_nonneg pl (show ((ns.map V.int).length : Int) ≠ 0 by omega)
              have i2 := Int.emod_lt_of_pos pl (show (0 : Int) < ((ns.map V.int).length : Int) by omega)
              obtain ⟨j, hj⟩ : ∃ j : Nat, pl % ((ns.map V.int).length : Int) = j := ⟨(pl % ((ns.map V.int).length : Int)).toNat, by omega⟩
              have hjn : j < ns.length := by omega
              have aJ : atI (ns.map V.int) (pl % ((ns.map V.int).length : Int)) = some (.int (ns.getD j 0)) := by rw [hj]; exact atI_N hjn
              have gJ := hge0 _ (getD_mem hjn)
              wtm_at "gs"
              have hgm : ∀ x ∈ ms, 0 ≤ x := fun x hx => (hge x hx).1
              have hrN := sb _ _ nrq (sm _ _ hr3)
              have hcN := CtAt.but (sm _ _ hq3) sb (hc3.same sm)
              have fin : ∀ H9, Same HH H9 → Same _ H9 := fun H9 s9 => s3.trans (((sbW.1.trans ((SameBut.of sm).trans sb)).trans (.of s9)).same hq)
              wtm_at "gs"
              rename CtAt K a _ r _ => hTop
              obtain ⟨_, _, _, _, t0, t1, t2⟩ := id hTop
              wtm_at "gs"
              refine i_ixA hg sp0 (show sp < 8 from sp1) (fun b hbm => ?_)
              have hW : isWh 0 .non b = false ∧ (flatV b = true ∨ ∃ q7 o7, b = .ref q7 ∧ HN q7 = some o7 ∧ (o7 = .lst [.int 0] ∨ o7 = .tup [.int 0])) := by
                simp only [List.mem_cons, List.mem_nil_iff, or_false] at hbm
                rcases hbm with rfl | rfl | rfl | rfl | rfl | rfl | rfl | rfl
                · exact ⟨rfl, .inl rfl⟩
                · exact ⟨rfl, .inl rfl⟩
                · exact ⟨rfl, .inl rfl⟩
                · exact ⟨rfl, .inl rfl⟩
                · exact ⟨rfl, .inr ⟨_, .lst [.int 0], rfl, by wtm_at "getg", .inl rfl⟩⟩
                · refine ⟨?_, .inl rfl⟩
                  simp only [isWh, Bool.and_true, decide_eq_false_iff_not]
                  omega
                · exact ⟨rfl, .inr ⟨_, .tup [.int 0], rfl, by wtm_at "getg", .inr rfl⟩⟩
                · exact ⟨rfl, .inl rfl⟩
              clear hbm
              obtain ⟨hW1, hW2⟩ := hW
              have hArF : areL (cutV (ns.map V.int) none (some (pl % ((ns.map V.int).length : Int))) ++ [b] ++ cutV (ns.map V.int) (some (pl % ((ns.map V.int).length : Int) + 1)) none) = false := areL_bad hW1
              have cA := cutV_length (ns.map V.int) none (some (pl % ((ns.map V.int).length : Int)))
              have cB := cutV_length (ns.map V.int) (some (pl % ((ns.map V.int).length : Int) + 1)) none
              wtm_at "gs"
              have hW3 : flatV b = true ∨ ∃ q7 o7, b = .ref q7 ∧ HN q7 = some o7 ∧ (o7 = .lst [.int 0] ∨ o7 = .tup [.int 0]) := by
                rcases hW2 with h | ⟨q7, o7, rfl, h, ho⟩
                · exact .inl h
                · exact .inr ⟨q7, o7, rfl, by wtm_at "getg", ho⟩
              refine' spRefd_u1 rfl ?k0 (kn_bad (kn_3 hW3)) ?k2 hArF (fun HH ys sb hp' => ?k9)
              case k0 => wtm_at "get"
              case k2 =>
                simp only [List.length_append, List.length_cons, List.length_nil]
                omega
              wtm_at "gs"
              have hW4 : flatV b = true ∨ ∃ q7 o7, b = .ref q7 ∧ HN q7 = some o7 ∧ (o7 = .lst [.int 0] ∨ o7 = .tup [.int 0]) := by
                clear hW3
                rcases hW2 with h | ⟨q7, o7, rfl, h, ho⟩
                · exact .inl h
                · exact .inr ⟨q7, o7, rfl, by wtm_at "getg", ho⟩
              refine' spRefd_u2 rfl ?k3 (kn_bad (kn_3 hW4)) ?k4 hArF (fun HH sm => ?k8)
              case k3 => wtm_at "get"
              case k4 =>
                simp only [List.length_append, List.length_cons, List.length_nil]
                omega
              wtm_at "gs"
              exact ⟨⟨_, _, _, _, _, _, _, _, _, _, _, _, _, _, rfl⟩, fin _ (by wtm_at "same")⟩
    case hd =>
      obtain ⟨v1, v2, v3, v4, v5, v6, v7, v8, v9, v10, v11, v12, v13, v14, rfl⟩ := hs
      wtm_at "gs"
      refine ⟨upd_same, [(.inl 0, .int 1), (.inl 1, .int 2)], rfl, by decide, ?_⟩
      rw [upd_upd]
      wtm_at "absn"
      wtm_at "gs"
      intro D hD
      rename_i qa hqa Ha saa hga qb hqb Hb sab hgb qc hqc Hc sac hgc xc dxc ndxc nx1c nxc nexc Hd smc hctc qd hqd He sad hgd p8 hp8 H8 sa8 hg8
      have hgA := hg
      have hpN : HN p8 = some (.lst [.ref x, .int 3]) := by wtm_at "get"
      have nq8 : q ≠ p8 := by wtm_at "ne"
      have nD8 : D ≠ p8 := by wtm_at "ne"
      have fT : ∀ (i : Nat) (y : V), [V.non, .int 7, .bl true, .str (Str.ofString "1 2"), .ref qa, .ref qb, .ref xc, .ref p8][i]? = some y → (i = 7 ∧ y = .ref p8) ∨ (i < 7 ∧ (flatV y = true ∨ (∃ p kvs, y = .ref p ∧ p ≠ p8 ∧ HN p = some (.dK kvs) ∧ ∀ z ∈ kvs, valV kvs z.1 = some z.2 ∧ flatB z.2 = true) ∨ (∃ c ns, y = .ref c ∧ CtAt K a HN c ns))) := by
        intro i y hy
        obtain rfl | rfl | rfl | rfl | rfl | rfl | rfl | rfl | hi : i = 0 ∨ i = 1 ∨ i = 2 ∨ i = 3 ∨ i = 4 ∨ i = 5 ∨ i = 6 ∨ i = 7 ∨ 8 ≤ i := by omega
        · cases hy; exact .inr ⟨by omega, .inl rfl⟩
        · cases hy; exact .inr ⟨by omega, .inl rfl⟩
        · cases hy; exact .inr ⟨by omega, .inl rfl⟩
        · cases hy; exact .inr ⟨by omega, .inl rfl⟩
        · cases hy; exact .inr ⟨by omega, .inr (.inl ⟨_, [], rfl, by wtm_at "ne", by wtm_at "get", fun _ h => nomatch h⟩)⟩
        · cases hy; exact .inr ⟨by omega, .inr (.inl ⟨_, mergeK [] [(.inl 0, .int 1), (.inl 1, .int 2)], rfl, by wtm_at "ne", by wtm_at "get", by decide⟩)⟩
        · cases hy; exact .inr ⟨by omega, .inr (.inr ⟨_, [1, 2], rfl, by wtm_at "ct"⟩)⟩
        · cases hy; exact .inl ⟨rfl, rfl⟩
        · rw [List.getElem?_eq_none (by simpa using hi)] at hy
          cases hy
      have hctN : CtAt K a HN x [1, 2] := by wtm_at "ct"
      refine' lc_mapB (p := p8) (fun _ => .bl true) (fun i H => i ≤ 7 → H p8 = some (.lst [.ref x, .int 3])) (fun H9 s9 => .of (s9 _ _ nq8 hgA)) hD nD8 (Nat.le_of_ble_eq_true rfl) (fun _ => hpN) (fun i H o h hi => by rw [upd_ne (Ne.symm nD8)]; exact h hi) (fun i y hi H5 Q5 R5 s5 pp k5 => ?t5) (fun H5 s5 e5 => ?t6)
      case t5 =>
        have hct5 := CtAt.but hpN s5 hctN
        rcases fT i y hi with ⟨rfl, rfl⟩ | ⟨h7, hy⟩
        · have hp5 := pp (Nat.le_refl _)
          clear fT hi pp
          wtm_at "gs"
          refine' spRefd_u1 rfl ?zk0 (fun z hz => ?zk1) ?zk2 ?zk3 (fun HH ys sb hp' => ?zk9)
          case zk0 => wtm_at "get"
          case zk1 =>
            simp only [List.mem_cons, List.mem_nil_iff, or_false] at hz
            rcases hz with rfl | rfl
            · exact kn_ct hct5 (by wtm_at "cls") (by wtm_at "cls")
            · exact trivial
          case zk2 => exact Nat.le_of_ble_eq_true rfl
          case zk3 => rfl
          case zk9 => exact k5 _ sb (fun h => absurd h (by decide))
        · have hp5 := pp (by omega)
          have hy5 : NoSeq K H5 y ∧ (flatV y = true ∨ (∃ p kvs, y = .ref p ∧ H5 p = some (.dK kvs) ∧ ∀ z ∈ kvs, valV kvs z.1 = some z.2 ∧ flatB z.2 = true) ∨ (∃ c ns, y = .ref c ∧ CtAt K a H5 c ns)) := by
            rcases hy with h | ⟨p9, kvs, rfl, np, h, hk⟩ | ⟨c9, ns9, rfl, h⟩
            · exact ⟨NoSeq.flat h, .inl h⟩
            · exact ⟨NoSeq.dict (s5 _ _ np h), .inr (.inl ⟨p9, kvs, rfl, s5 _ _ np h, hk⟩)⟩
            · have h5 := CtAt.but hpN s5 h
              exact ⟨i_isoCt h5 (by wtm_at "cls") (by wtm_at "cls") ⟨rfl, rfl⟩, .inr (.inr ⟨c9, ns9, rfl, h5⟩)⟩
          obtain ⟨hyn, hyk⟩ := hy5
          clear fT hi pp hy
          wtm_at "gs"
          exact k5 _ (.of sm) (fun _ => sm _ _ hp5)
      case t6 =>
        have e5 : H5 D = some (.lst (([true, true, true, true, true, true, true, true]).map V.bl)) := e5
        wtm_at "gs"
        exact k _
end
theorem all_mk {l : PySem.W.OpenLaw} {w : World} {K : PySem.W.Frag} {h : Heap} {mg : Str → Option Value} {fa : Addr} (X : K.In h) (G : h.Ns mainGlobals mg) (hfa : mg "law" = some (.ref fa))
    {C0 C1 C2 C3 C4 C5 f1 f2 f3 f4 f5 f6 f7 f8 f9 f10 f11 f12 f13 f15 f16 f21 f24 f25 f26 f27 f28 f29 f30 f31 f32 f33 : Addr}
    {od1 an1 od2 an2 od3 an3 od4 an4 od5 an5 od6 an6 od7 an7 od8 an8 od9 an9 od10 an10 od11 an11 od12 an12 od13 an13 od15 an15 od16 an16 od21 an21 od24 an24 od25 an25 od26 an26 od27 an27 od28 an28 od29 an29 od30 an30 od31 an31 od32 an32 od33 an33 : Option Addr} {sl1 sl2 sl3 sl4 sl5 sl6 sl7 sl8 sl9 sl10 sl11 sl12 sl13 sl15 sl16 sl21 sl24 sl25 sl26 sl27 sl28 sl29 sl30 sl31 sl32 sl33 : Array (Option Value)} {oc1 dV1 kV1 dc1 pm1 cd1 ct1 oc2 dV2 kV2 dc2 pm2 cd2 ct2 oc3 dV3 kV3 dc3 pm3 cd3 ct3 oc4 dV4 kV4 dc4 pm4 cd4 ct4 oc5 dV5 kV5 dc5 pm5 cd5 ct5 oc6 dV6 kV6 dc6 pm6 cd6 ct6 oc7 dV7 kV7 dc7 pm7 cd7 ct7 oc8 dV8 kV8 dc8 pm8 cd8 ct8 oc9 dV9 kV9 dc9 pm9 cd9 ct9 oc10 dV10 kV10 dc10 pm10 cd10 ct10 oc11 dV11 kV11 dc11 pm11 cd11 ct11 oc12 dV12 kV12 dc12 pm12 cd12 ct12 oc13 dV13 kV13 dc13 pm13 cd13 ct13 oc15 dV15 kV15 dc15 pm15 cd15 ct15 oc16 dV16 kV16 dc16 pm16 cd16 ct16 oc21 dV21 kV21 dc21 pm21 cd21 ct21 oc24 dV24 kV24 dc24 pm24 cd24 ct24 oc25 dV25 kV25 dc25 pm25 cd25 ct25 oc26 dV26 kV26 dc26 pm26 cd26 ct26 oc27 dV27 kV27 dc27 pm27 cd27 ct27 oc28 dV28 kV28 dc28 pm28 cd28 ct28 oc29 dV29 kV29 dc29 pm29 cd29 ct29 oc30 dV30 kV30 dc30 pm30 cd30 ct30 oc31 dV31 kV31 dc31 pm31 cd31 ct31 oc32 dV32 kV32 dc32 pm32 cd32 ct32 oc33 dV33 kV33 dc33 pm33 cd33 ct33 : Value}
    {T5 T21 : Addr} {cT5 cT21 : Value} {dT5 dT21 : Option Addr} {its5 its21 : List Value} {n5 n21 : Nat} {sT5 sT21 : Array (Option Value)}
    {nmx1 nmx2 nmx3 nmx4 qx1 qx2 qx3 qx4 : Str} {Nx1 Nx2 Nx3 Nx4 : Addr} {bsx1 bsx2 bsx3 bsx4 bmx1 bmx2 bmx3 bmx4 subx1 subx2 subx3 subx4 : List Value} {snx1 snx2 snx3 snx4 : List Str} {abx1 abx2 abx3 abx4 : Bool} {colx1 colx2 colx3 colx4 : Option Bool} {ddx1 ddx2 ddx3 ddx4 : Option Addr} {k0x1 k0x2 k0x3 k0x4 k1x1 k1x2 k1x3 k1x4 k2x1 k2x2 k2x3 k2x4 k3x1 k3x2 k3x3 k3x4 k5x1 k5x2 k5x3 k5x4 : Option Value}
    {gv0 gv1 : Value}
    (aC0 : PySem.W.nsIn K mainGlobals "HallError" = some (some (.ref C0)))
    (aC1 : PySem.W.nsIn K mainGlobals "NoNumber" = some (some (.ref C1)))
    (aC2 : PySem.W.nsIn K mainGlobals "NoMember" = some (some (.ref C2)))
    (aC3 : PySem.W.nsIn K mainGlobals "NoCounts" = some (some (.ref C3)))
    (aC4 : PySem.W.nsIn K mainGlobals "Unlike" = some (some (.ref C4)))
    (aC5 : PySem.W.nsIn K mainGlobals "Counts" = some (some (.ref C5)))
    (a1 : PySem.W.findIn K (.ref C1) "__init__" = some (some (.ref f1)))
    (i1 : PySem.W.isFn K (.ref f1) = true)
    (l1 : K.lookup f1 = some ⟨oc1, od1, .func (PySem.W.fnOf "__init__" "NoNumber.__init__" (defArgs s_NoNumber_init) (defBody s_NoNumber_init) (defScope s_NoNumber_init) dV1 kV1 dc1 pm1 an1 cd1 ct1), sl1⟩)
    (c1 : PySem.W.codeIn K cd1 "NoNumber.__init__" = true)
    (k1 : PySem.W.keepIn K (.ref f1) = true)
    (q1 : dV1 = .none)
    (a2 : PySem.W.findIn K (.ref C2) "__init__" = some (some (.ref f2)))
    (i2 : PySem.W.isFn K (.ref f2) = true)
    (l2 : K.lookup f2 = some ⟨oc2, od2, .func (PySem.W.fnOf "__init__" "NoMember.__init__" (defArgs s_NoMember_init) (defBody s_NoMember_init) (defScope s_NoMember_init) dV2 kV2 dc2 pm2 an2 cd2 ct2), sl2⟩)
    (c2 : PySem.W.codeIn K cd2 "NoMember.__init__" = true)
    (k2 : PySem.W.keepIn K (.ref f2) = true)
    (q2 : dV2 = .none)
    (a3 : PySem.W.findIn K (.ref C3) "__init__" = some (some (.ref f3)))
    (i3 : PySem.W.isFn K (.ref f3) = true)
    (l3 : K.lookup f3 = some ⟨oc3, od3, .func (PySem.W.fnOf "__init__" "NoCounts.__init__" (defArgs s_NoCounts_init) (defBody s_NoCounts_init) (defScope s_NoCounts_init) dV3 kV3 dc3 pm3 an3 cd3 ct3), sl3⟩)
    (c3 : PySem.W.codeIn K cd3 "NoCounts.__init__" = true)
    (k3 : PySem.W.keepIn K (.ref f3) = true)
    (q3 : dV3 = .none)
    (a4 : PySem.W.findIn K (.ref C4) "__init__" = some (some (.ref f4)))
    (i4 : PySem.W.isFn K (.ref f4) = true)
    (l4 : K.lookup f4 = some ⟨oc4, od4, .func (PySem.W.fnOf "__init__" "Unlike.__init__" (defArgs s_Unlike_init) (defBody s_Unlike_init) (defScope s_Unlike_init) dV4 kV4 dc4 pm4 an4 cd4 ct4), sl4⟩)
    (c4 : PySem.W.codeIn K cd4 "Unlike.__init__" = true)
    (k4 : PySem.W.keepIn K (.ref f4) = true)
    (q4 : dV4 = .none)
    (a5 : PySem.W.nsIn K mainGlobals "is_whole" = some (some (.ref f5)))
    (l5 : K.lookup f5 = some ⟨oc5, od5, .func (PySem.W.fnOf "is_whole" "is_whole" (defArgs s_is_whole) (defBody s_is_whole) (defScope s_is_whole) dV5 kV5 dc5 pm5 an5 cd5 ct5), sl5⟩)
    (c5 : PySem.W.codeIn K cd5 "is_whole" = true)
    (k5 : PySem.W.keepIn K (.ref f5) = true)
    (q5 : dV5 = .ref T5)
    (r5 : K.lookup T5 = some ⟨cT5, dT5, .seq its5.toArray n5, sT5⟩)
    (s5 : Vals [V.non] its5)
    (a6 : PySem.W.nsIn K mainGlobals "are_numbers" = some (some (.ref f6)))
    (l6 : K.lookup f6 = some ⟨oc6, od6, .func (PySem.W.fnOf "are_numbers" "are_numbers" (defArgs s_are_numbers) (defBody s_are_numbers) (defScope s_are_numbers) dV6 kV6 dc6 pm6 an6 cd6 ct6), sl6⟩)
    (c6 : PySem.W.codeIn K cd6 "are_numbers" = true)
    (k6 : PySem.W.keepIn K (.ref f6) = true)
    (q6 : dV6 = .none)
    (a7 : PySem.W.findIn K (.ref C5) "__init__" = some (some (.ref f7)))
    (i7 : PySem.W.isFn K (.ref f7) = true)
    (l7 : K.lookup f7 = some ⟨oc7, od7, .func (PySem.W.fnOf "__init__" "Counts.__init__" (defArgs s_Counts_init) (defBody s_Counts_init) (defScope s_Counts_init) dV7 kV7 dc7 pm7 an7 cd7 ct7), sl7⟩)
    (c7 : PySem.W.codeIn K cd7 "Counts.__init__" = true)
    (k7 : PySem.W.keepIn K (.ref f7) = true)
    (q7 : dV7 = .none)
    (a8 : PySem.W.findIn K (.ref C5) "__eq__" = some (some (.ref f8)))
    (i8 : PySem.W.isFn K (.ref f8) = true)
    (l8 : K.lookup f8 = some ⟨oc8, od8, .func (PySem.W.fnOf "__eq__" "Counts.__eq__" (defArgs s_Counts_eq) (defBody s_Counts_eq) (defScope s_Counts_eq) dV8 kV8 dc8 pm8 an8 cd8 ct8), sl8⟩)
    (c8 : PySem.W.codeIn K cd8 "Counts.__eq__" = true)
    (k8 : PySem.W.keepIn K (.ref f8) = true)
    (q8 : dV8 = .none)
    (a9 : PySem.W.findIn K (.ref C5) "__len__" = some (some (.ref f9)))
    (i9 : PySem.W.isFn K (.ref f9) = true)
    (l9 : K.lookup f9 = some ⟨oc9, od9, .func (PySem.W.fnOf "__len__" "Counts.__len__" (defArgs s_Counts_len) (defBody s_Counts_len) (defScope s_Counts_len) dV9 kV9 dc9 pm9 an9 cd9 ct9), sl9⟩)
    (c9 : PySem.W.codeIn K cd9 "Counts.__len__" = true)
    (k9 : PySem.W.keepIn K (.ref f9) = true)
    (q9 : dV9 = .none)
    (a10 : PySem.W.findIn K (.ref C5) "__str__" = some (some (.ref f10)))
    (i10 : PySem.W.isFn K (.ref f10) = true)
    (l10 : K.lookup f10 = some ⟨oc10, od10, .func (PySem.W.fnOf "__str__" "Counts.__str__" (defArgs s_Counts_str) (defBody s_Counts_str) (defScope s_Counts_str) dV10 kV10 dc10 pm10 an10 cd10 ct10), sl10⟩)
    (c10 : PySem.W.codeIn K cd10 "Counts.__str__" = true)
    (k10 : PySem.W.keepIn K (.ref f10) = true)
    (q10 : dV10 = .none)
    (a11 : PySem.W.findIn K (.ref C5) "__repr__" = some (some (.ref f11)))
    (i11 : PySem.W.isFn K (.ref f11) = true)
    (l11 : K.lookup f11 = some ⟨oc11, od11, .func (PySem.W.fnOf "__repr__" "Counts.__repr__" (defArgs s_Counts_repr) (defBody s_Counts_repr) (defScope s_Counts_repr) dV11 kV11 dc11 pm11 an11 cd11 ct11), sl11⟩)
    (c11 : PySem.W.codeIn K cd11 "Counts.__repr__" = true)
    (k11 : PySem.W.keepIn K (.ref f11) = true)
    (q11 : dV11 = .none)
    (a12 : PySem.W.findIn K (.ref C5) "told" = some (some (.ref f12)))
    (i12 : PySem.W.isFn K (.ref f12) = true)
    (l12 : K.lookup f12 = some ⟨oc12, od12, .func (PySem.W.fnOf "told" "Counts.told" (defArgs s_Counts_told) (defBody s_Counts_told) (defScope s_Counts_told) dV12 kV12 dc12 pm12 an12 cd12 ct12), sl12⟩)
    (c12 : PySem.W.codeIn K cd12 "Counts.told" = true)
    (k12 : PySem.W.keepIn K (.ref f12) = true)
    (q12 : dV12 = .none)
    (a13 : PySem.W.findIn K (.ref C5) "need_member" = some (some (.ref f13)))
    (i13 : PySem.W.isFn K (.ref f13) = true)
    (l13 : K.lookup f13 = some ⟨oc13, od13, .func (PySem.W.fnOf "need_member" "Counts.need_member" (defArgs s_Counts_need_member) (defBody s_Counts_need_member) (defScope s_Counts_need_member) dV13 kV13 dc13 pm13 an13 cd13 ct13), sl13⟩)
    (c13 : PySem.W.codeIn K cd13 "Counts.need_member" = true)
    (k13 : PySem.W.keepIn K (.ref f13) = true)
    (q13 : dV13 = .none)
    (a15 : PySem.W.findIn K (.ref C5) "of" = some (some (.ref f15)))
    (i15 : PySem.W.isFn K (.ref f15) = true)
    (l15 : K.lookup f15 = some ⟨oc15, od15, .func (PySem.W.fnOf "of" "Counts.of" (defArgs s_Counts_of) (defBody s_Counts_of) (defScope s_Counts_of) dV15 kV15 dc15 pm15 an15 cd15 ct15), sl15⟩)
    (c15 : PySem.W.codeIn K cd15 "Counts.of" = true)
    (k15 : PySem.W.keepIn K (.ref f15) = true)
    (q15 : dV15 = .none)
    (a16 : PySem.W.findIn K (.ref C5) "sum_of" = some (some (.ref f16)))
    (i16 : PySem.W.isFn K (.ref f16) = true)
    (l16 : K.lookup f16 = some ⟨oc16, od16, .func (PySem.W.fnOf "sum_of" "Counts.sum_of" (defArgs s_Counts_sum_of) (defBody s_Counts_sum_of) (defScope s_Counts_sum_of) dV16 kV16 dc16 pm16 an16 cd16 ct16), sl16⟩)
    (c16 : PySem.W.codeIn K cd16 "Counts.sum_of" = true)
    (k16 : PySem.W.keepIn K (.ref f16) = true)
    (q16 : dV16 = .none)
    (a21 : PySem.W.findIn K (.ref C5) "raised" = some (some (.ref f21)))
    (i21 : PySem.W.isFn K (.ref f21) = true)
    (l21 : K.lookup f21 = some ⟨oc21, od21, .func (PySem.W.fnOf "raised" "Counts.raised" (defArgs s_Counts_raised) (defBody s_Counts_raised) (defScope s_Counts_raised) dV21 kV21 dc21 pm21 an21 cd21 ct21), sl21⟩)
    (c21 : PySem.W.codeIn K cd21 "Counts.raised" = true)
    (k21 : PySem.W.keepIn K (.ref f21) = true)
    (q21 : dV21 = .ref T21)
    (r21 : K.lookup T21 = some ⟨cT21, dT21, .seq its21.toArray n21, sT21⟩)
    (s21 : Vals [V.int 1] its21)
    (a24 : PySem.W.nsIn K mainGlobals "_law_pool" = some (some (.ref f24)))
    (l24 : K.lookup f24 = some ⟨oc24, od24, .func (PySem.W.fnOf "_law_pool" "_law_pool" (defArgs s__law_pool) (defBody s__law_pool) (defScope s__law_pool) dV24 kV24 dc24 pm24 an24 cd24 ct24), sl24⟩)
    (c24 : PySem.W.codeIn K cd24 "_law_pool" = true)
    (k24 : PySem.W.keepIn K (.ref f24) = true)
    (q24 : dV24 = .none)
    (a25 : PySem.W.nsIn K mainGlobals "_law_take" = some (some (.ref f25)))
    (l25 : K.lookup f25 = some ⟨oc25, od25, .func (PySem.W.fnOf "_law_take" "_law_take" (defArgs s__law_take) (defBody s__law_take) (defScope s__law_take) dV25 kV25 dc25 pm25 an25 cd25 ct25), sl25⟩)
    (c25 : PySem.W.codeIn K cd25 "_law_take" = true)
    (k25 : PySem.W.keepIn K (.ref f25) = true)
    (q25 : dV25 = .none)
    (a26 : PySem.W.nsIn K mainGlobals "_law_numbers" = some (some (.ref f26)))
    (l26 : K.lookup f26 = some ⟨oc26, od26, .func (PySem.W.fnOf "_law_numbers" "_law_numbers" (defArgs s__law_numbers) (defBody s__law_numbers) (defScope s__law_numbers) dV26 kV26 dc26 pm26 an26 cd26 ct26), sl26⟩)
    (c26 : PySem.W.codeIn K cd26 "_law_numbers" = true)
    (k26 : PySem.W.keepIn K (.ref f26) = true)
    (q26 : dV26 = .none)
    (a27 : PySem.W.nsIn K mainGlobals "_law_near" = some (some (.ref f27)))
    (l27 : K.lookup f27 = some ⟨oc27, od27, .func (PySem.W.fnOf "_law_near" "_law_near" (defArgs s__law_near) (defBody s__law_near) (defScope s__law_near) dV27 kV27 dc27 pm27 an27 cd27 ct27), sl27⟩)
    (c27 : PySem.W.codeIn K cd27 "_law_near" = true)
    (k27 : PySem.W.keepIn K (.ref f27) = true)
    (q27 : dV27 = .none)
    (a28 : PySem.W.nsIn K mainGlobals "_law_whole" = some (some (.ref f28)))
    (l28 : K.lookup f28 = some ⟨oc28, od28, .func (PySem.W.fnOf "_law_whole" "_law_whole" (defArgs s__law_whole) (defBody s__law_whole) (defScope s__law_whole) dV28 kV28 dc28 pm28 an28 cd28 ct28), sl28⟩)
    (c28 : PySem.W.codeIn K cd28 "_law_whole" = true)
    (k28 : PySem.W.keepIn K (.ref f28) = true)
    (q28 : dV28 = .none)
    (a29 : PySem.W.nsIn K mainGlobals "_law_refused" = some (some (.ref f29)))
    (l29 : K.lookup f29 = some ⟨oc29, od29, .func (PySem.W.fnOf "_law_refused" "_law_refused" (defArgs s__law_refused) (defBody s__law_refused) (defScope s__law_refused) dV29 kV29 dc29 pm29 an29 cd29 ct29), sl29⟩)
    (c29 : PySem.W.codeIn K cd29 "_law_refused" = true)
    (k29 : PySem.W.keepIn K (.ref f29) = true)
    (q29 : dV29 = .none)
    (a30 : PySem.W.nsIn K mainGlobals "_law_no_member" = some (some (.ref f30)))
    (l30 : K.lookup f30 = some ⟨oc30, od30, .func (PySem.W.fnOf "_law_no_member" "_law_no_member" (defArgs s__law_no_member) (defBody s__law_no_member) (defScope s__law_no_member) dV30 kV30 dc30 pm30 an30 cd30 ct30), sl30⟩)
    (c30 : PySem.W.codeIn K cd30 "_law_no_member" = true)
    (k30 : PySem.W.keepIn K (.ref f30) = true)
    (q30 : dV30 = .none)
    (a31 : PySem.W.nsIn K mainGlobals "_law_told" = some (some (.ref f31)))
    (l31 : K.lookup f31 = some ⟨oc31, od31, .func (PySem.W.fnOf "_law_told" "_law_told" (defArgs s__law_told) (defBody s__law_told) (defScope s__law_told) dV31 kV31 dc31 pm31 an31 cd31 ct31), sl31⟩)
    (c31 : PySem.W.codeIn K cd31 "_law_told" = true)
    (k31 : PySem.W.keepIn K (.ref f31) = true)
    (q31 : dV31 = .none)
    (a32 : PySem.W.nsIn K mainGlobals "_law_equal" = some (some (.ref f32)))
    (l32 : K.lookup f32 = some ⟨oc32, od32, .func (PySem.W.fnOf "_law_equal" "_law_equal" (defArgs s__law_equal) (defBody s__law_equal) (defScope s__law_equal) dV32 kV32 dc32 pm32 an32 cd32 ct32), sl32⟩)
    (c32 : PySem.W.codeIn K cd32 "_law_equal" = true)
    (k32 : PySem.W.keepIn K (.ref f32) = true)
    (q32 : dV32 = .none)
    (a33 : PySem.W.nsIn K mainGlobals "law" = some (some (.ref f33)))
    (l33 : K.lookup f33 = some ⟨oc33, od33, .func (PySem.W.fnOf "law" "law" (defArgs s_law) (defBody s_law) (defScope s_law) dV33 kV33 dc33 pm33 an33 cd33 ct33), sl33⟩)
    (c33 : PySem.W.codeIn K cd33 "law" = true)
    (k33 : PySem.W.keepIn K (.ref f33) = true)
    (q33 : dV33 = .none)
    (gl0 : PySem.W.nsIn K mainGlobals "LEAST_MEMBERS" = some (some gv0))
    (gr0 : RelV (V.int 2) gv0)
    (gl1 : PySem.W.nsIn K mainGlobals "MOST_MEMBERS" = some (some gv1))
    (gr1 : RelV (V.int 5) gv1)
    (ga0 : PySem.W.findIn K (.ref C0) "__getattribute__" = some (some (.builtin "BaseException.__getattribute__")))
    (ga1 : PySem.W.findIn K (.ref C1) "__getattribute__" = some (some (.builtin "BaseException.__getattribute__")))
    (ga2 : PySem.W.findIn K (.ref C2) "__getattribute__" = some (some (.builtin "BaseException.__getattribute__")))
    (ga3 : PySem.W.findIn K (.ref C3) "__getattribute__" = some (some (.builtin "BaseException.__getattribute__")))
    (ga4 : PySem.W.findIn K (.ref C4) "__getattribute__" = some (some (.builtin "BaseException.__getattribute__")))
    (gg0 : PySem.W.findIn K (.ref C0) "__getattr__" = some none)
    (gg1 : PySem.W.findIn K (.ref C1) "__getattr__" = some none)
    (gg2 : PySem.W.findIn K (.ref C2) "__getattr__" = some none)
    (gg3 : PySem.W.findIn K (.ref C3) "__getattr__" = some none)
    (gg4 : PySem.W.findIn K (.ref C4) "__getattr__" = some none)
    (hd0 : PySem.W.hasDictIn K C0 = true)
    (hd1 : PySem.W.hasDictIn K C1 = true)
    (hd2 : PySem.W.hasDictIn K C2 = true)
    (hd3 : PySem.W.hasDictIn K C3 = true)
    (hd4 : PySem.W.hasDictIn K C4 = true)
    (hd5 : PySem.W.hasDictIn K C5 = true)
    (hf0 : PySem.W.findCls K (.ref C0) (.type "type") "__init__" = some (.val (.builtin "ValueError.__init__")))
    (hn : PySem.W.specialIn K (.builtin "object.__class__") "__get__" = some (some (.builtin "getset_descriptor.__get__")))
    (hq0 : PySem.W.readsIn K C0 (.type "type") = true)
    (hs0 : PySem.W.specialIn K (.ref C0) "__getattribute__" = some (some (.builtin "type.__getattribute__")))
    (htk : PySem.W.takesIn K (.builtin "object.__class__") = some true)
    (ia0 : PySem.W.findIn K (.ref C0) "__class__" = some (some (.builtin "object.__class__")))
    (ia1 : PySem.W.findIn K (.ref C1) "__class__" = some (some (.builtin "object.__class__")))
    (ia2 : PySem.W.findIn K (.ref C2) "__class__" = some (some (.builtin "object.__class__")))
    (ia3 : PySem.W.findIn K (.ref C3) "__class__" = some (some (.builtin "object.__class__")))
    (ia4 : PySem.W.findIn K (.ref C4) "__class__" = some (some (.builtin "object.__class__")))
    (ia5 : PySem.W.findIn K (.ref C5) "__class__" = some (some (.builtin "object.__class__")))
    (ic0 : PySem.W.isClsIn K C0 = true)
    (ic1 : PySem.W.isClsIn K C1 = true)
    (ic2 : PySem.W.isClsIn K C2 = true)
    (ic3 : PySem.W.isClsIn K C3 = true)
    (ic4 : PySem.W.isClsIn K C4 = true)
    (ic5 : PySem.W.isClsIn K C5 = true)
    (ii5NoneType : PySem.W.subIn K (.type "NoneType") (.ref C5) = some false)
    (ii5bool : PySem.W.subIn K (.type "bool") (.ref C5) = some false)
    (ii5dict : PySem.W.subIn K (.type "dict") (.ref C5) = some false)
    (ii5int : PySem.W.subIn K (.type "int") (.ref C5) = some false)
    (ii5list : PySem.W.subIn K (.type "list") (.ref C5) = some false)
    (ii5str : PySem.W.subIn K (.type "str") (.ref C5) = some false)
    (ii5tuple : PySem.W.subIn K (.type "tuple") (.ref C5) = some false)
    (im0 : PySem.W.mroIn K C0 (.type "object") = some true)
    (im1 : PySem.W.mroIn K C1 (.type "object") = some true)
    (im2 : PySem.W.mroIn K C2 (.type "object") = some true)
    (im3 : PySem.W.mroIn K C3 (.type "object") = some true)
    (im4 : PySem.W.mroIn K C4 (.type "object") = some true)
    (im5 : PySem.W.mroIn K C5 (.type "object") = some true)
    (io5bool : PySem.W.subIn K (.ref C5) (.type "bool") = some false)
    (io5dict : PySem.W.subIn K (.ref C5) (.type "dict") = some false)
    (io5int : PySem.W.subIn K (.ref C5) (.type "int") = some false)
    (io5list : PySem.W.subIn K (.ref C5) (.type "list") = some false)
    (io5str : PySem.W.subIn K (.ref C5) (.type "str") = some false)
    (io5tuple : PySem.W.subIn K (.ref C5) (.type "tuple") = some false)
    (it0 : PySem.W.typeIn K (.ref C0) = some (.type "type"))
    (it1 : PySem.W.typeIn K (.ref C1) = some (.type "type"))
    (it2 : PySem.W.typeIn K (.ref C2) = some (.type "type"))
    (it3 : PySem.W.typeIn K (.ref C3) = some (.type "type"))
    (it4 : PySem.W.typeIn K (.ref C4) = some (.type "type"))
    (it5 : PySem.W.typeIn K (.ref C5) = some (.type "type"))
    (kc1 : PySem.W.keepIn K (.ref C1) = true)
    (kc2 : PySem.W.keepIn K (.ref C2) = true)
    (kc3 : PySem.W.keepIn K (.ref C3) = true)
    (kc4 : PySem.W.keepIn K (.ref C4) = true)
    (kc5 : PySem.W.keepIn K (.ref C5) = true)
    (mk5 : PySem.W.makesIn K C5 = true)
    (n1_found : PySem.W.findIn K (.ref C1) "found" = some none)
    (n2_found : PySem.W.findIn K (.ref C2) "found" = some none)
    (n3_found : PySem.W.findIn K (.ref C3) "found" = some none)
    (n4_found : PySem.W.findIn K (.ref C4) "found" = some none)
    (n5_kept_numbers : PySem.W.findIn K (.ref C5) "kept_numbers" = some none)
    (ne1_0 : (Value.ref C1 == Value.ref C0) = false)
    (ne1_2 : (Value.ref C1 == Value.ref C2) = false)
    (ne1_3 : (Value.ref C1 == Value.ref C3) = false)
    (ne1_4 : (Value.ref C1 == Value.ref C4) = false)
    (ne2_0 : (Value.ref C2 == Value.ref C0) = false)
    (ne2_1 : (Value.ref C2 == Value.ref C1) = false)
    (ne2_3 : (Value.ref C2 == Value.ref C3) = false)
    (ne2_4 : (Value.ref C2 == Value.ref C4) = false)
    (ne3_0 : (Value.ref C3 == Value.ref C0) = false)
    (ne3_1 : (Value.ref C3 == Value.ref C1) = false)
    (ne3_2 : (Value.ref C3 == Value.ref C2) = false)
    (ne3_4 : (Value.ref C3 == Value.ref C4) = false)
    (ne4_0 : (Value.ref C4 == Value.ref C0) = false)
    (ne4_1 : (Value.ref C4 == Value.ref C1) = false)
    (ne4_2 : (Value.ref C4 == Value.ref C2) = false)
    (ne4_3 : (Value.ref C4 == Value.ref C3) = false)
    (nn5 : PySem.W.findIn K (.ref C5) "__ne__" = some (some (.builtin "object.__ne__")))
    (pg5 : PySem.W.plainGet K C5 Str.empty = true)
    (po5 : PySem.W.plainOver K C5 = true)
    (sa1 : PySem.W.findIn K (.ref C1) "__setattr__" = some (some (.builtin "object.__setattr__")))
    (sa2 : PySem.W.findIn K (.ref C2) "__setattr__" = some (some (.builtin "object.__setattr__")))
    (sa3 : PySem.W.findIn K (.ref C3) "__setattr__" = some (some (.builtin "object.__setattr__")))
    (sa4 : PySem.W.findIn K (.ref C4) "__setattr__" = some (some (.builtin "object.__setattr__")))
    (sa5 : PySem.W.findIn K (.ref C5) "__setattr__" = some (some (.builtin "object.__setattr__")))
    (sx0 : PySem.W.subIn K (.ref C0) (.type "BaseException") = some true)
    (sx1 : PySem.W.subIn K (.ref C1) (.type "BaseException") = some true)
    (sx2 : PySem.W.subIn K (.ref C2) (.type "BaseException") = some true)
    (sx3 : PySem.W.subIn K (.ref C3) (.type "BaseException") = some true)
    (sx4 : PySem.W.subIn K (.ref C4) (.type "BaseException") = some true)
    (tf1 : PySem.W.typeIn K (.ref f1) = some (.type "function"))
    (tf2 : PySem.W.typeIn K (.ref f2) = some (.type "function"))
    (tf3 : PySem.W.typeIn K (.ref f3) = some (.type "function"))
    (x1_0 : PySem.W.subIn K (.ref C1) (.ref C0) = some true)
    (x1_1 : PySem.W.subIn K (.ref C1) (.ref C1) = some true)
    (x1_2 : PySem.W.subIn K (.ref C1) (.ref C2) = some false)
    (x1_3 : PySem.W.subIn K (.ref C1) (.ref C3) = some false)
    (x1_4 : PySem.W.subIn K (.ref C1) (.ref C4) = some false)
    (x2_0 : PySem.W.subIn K (.ref C2) (.ref C0) = some true)
    (x2_1 : PySem.W.subIn K (.ref C2) (.ref C1) = some false)
    (x2_2 : PySem.W.subIn K (.ref C2) (.ref C2) = some true)
    (x2_3 : PySem.W.subIn K (.ref C2) (.ref C3) = some false)
    (x2_4 : PySem.W.subIn K (.ref C2) (.ref C4) = some false)
    (x3_0 : PySem.W.subIn K (.ref C3) (.ref C0) = some true)
    (x3_1 : PySem.W.subIn K (.ref C3) (.ref C1) = some false)
    (x3_2 : PySem.W.subIn K (.ref C3) (.ref C2) = some false)
    (x3_3 : PySem.W.subIn K (.ref C3) (.ref C3) = some true)
    (x3_4 : PySem.W.subIn K (.ref C3) (.ref C4) = some false)
    (x4_0 : PySem.W.subIn K (.ref C4) (.ref C0) = some true)
    (x4_1 : PySem.W.subIn K (.ref C4) (.ref C1) = some false)
    (x4_2 : PySem.W.subIn K (.ref C4) (.ref C2) = some false)
    (x4_3 : PySem.W.subIn K (.ref C4) (.ref C3) = some false)
    (x4_4 : PySem.W.subIn K (.ref C4) (.ref C4) = some true)
    (xL1 : K.lookup C1 = some (excClassObj nmx1 qx1 C1 Nx1 bsx1 bmx1 true snx1 subx1 abx1 colx1 ddx1 k0x1 k1x1 k2x1 k3x1 k5x1 "ValueError.__new__"))
    (xL2 : K.lookup C2 = some (excClassObj nmx2 qx2 C2 Nx2 bsx2 bmx2 true snx2 subx2 abx2 colx2 ddx2 k0x2 k1x2 k2x2 k3x2 k5x2 "ValueError.__new__"))
    (xL3 : K.lookup C3 = some (excClassObj nmx3 qx3 C3 Nx3 bsx3 bmx3 true snx3 subx3 abx3 colx3 ddx3 k0x3 k1x3 k2x3 k3x3 k5x3 "ValueError.__new__"))
    (xL4 : K.lookup C4 = some (excClassObj nmx4 qx4 C4 Nx4 bsx4 bmx4 true snx4 subx4 abx4 colx4 ddx4 k0x4 k1x4 k2x4 k3x4 k5x4 "ValueError.__new__"))
    (xM1 : PySem.HandSPX.refsVE bmx1 = true)
    (xM2 : PySem.HandSPX.refsVE bmx2 = true)
    (xM3 : PySem.HandSPX.refsVE bmx3 = true)
    (xM4 : PySem.HandSPX.refsVE bmx4 = true)
    (xv2 : PySem.W.subIn K (.ref C2) (.type "ValueError") = some true)
    (xv3 : PySem.W.subIn K (.ref C3) (.type "ValueError") = some true)
    (z19 : PySem.W.nsIn K mainGlobals "all" = some none)
    (z21 : PySem.W.nsIn K mainGlobals "bool" = some none)
    (z22 : PySem.W.nsIn K mainGlobals "int" = some none)
    (z24 : PySem.W.nsIn K mainGlobals "isinstance" = some none)
    (z25 : PySem.W.nsIn K mainGlobals "len" = some none)
    (z26 : PySem.W.nsIn K mainGlobals "list" = some none)
    (z27 : PySem.W.nsIn K mainGlobals "max" = some none)
    (z28 : PySem.W.nsIn K mainGlobals "min" = some none)
    (z29 : PySem.W.nsIn K mainGlobals "range" = some none)
    (z30 : PySem.W.nsIn K mainGlobals "repr" = some none)
    (z31 : PySem.W.nsIn K mainGlobals "str" = some none)
    (z32 : PySem.W.nsIn K mainGlobals "sum" = some none)
    (z33 : PySem.W.nsIn K mainGlobals "tuple" = some none)
    (z8 : PySem.W.nsIn K mainGlobals "ValueError" = some none)
    : ∃ fd : FuncData, (∀ (s : Shared) (v : Value), BindsTo s fd ⟨[v], []⟩ [("script", v)]) ∧ ∀ base : Heap, K.In base → base.Ns mainGlobals mg → FnOk l.prog w K mg base CX0 7 fa fd ["script"] (spLaw K) := by
  have e := hfa.symm.trans (PySem.W.mg_of X G a33)
  cases e
  have T : Txt K mg { HallError := C0, NoNumber := C1, NoMember := C2, NoCounts := C3, Unlike := C4, Counts := C5, NoNumber_init := f1, d_NoNumber_init := PySem.W.fnOf "__init__" "NoNumber.__init__" (defArgs s_NoNumber_init) (defBody s_NoNumber_init) (defScope s_NoNumber_init) dV1 kV1 dc1 pm1 an1 cd1 ct1, NoMember_init := f2, d_NoMember_init := PySem.W.fnOf "__init__" "NoMember.__init__" (defArgs s_NoMember_init) (defBody s_NoMember_init) (defScope s_NoMember_init) dV2 kV2 dc2 pm2 an2 cd2 ct2, NoCounts_init := f3, d_NoCounts_init := PySem.W.fnOf "__init__" "NoCounts.__init__" (defArgs s_NoCounts_init) (defBody s_NoCounts_init) (defScope s_NoCounts_init) dV3 kV3 dc3 pm3 an3 cd3 ct3, Unlike_init := f4, d_Unlike_init := PySem.W.fnOf "__init__" "Unlike.__init__" (defArgs s_Unlike_init) (defBody s_Unlike_init) (defScope s_Unlike_init) dV4 kV4 dc4 pm4 an4 cd4 ct4, is_whole := f5, d_is_whole := PySem.W.fnOf "is_whole" "is_whole" (defArgs s_is_whole) (defBody s_is_whole) (defScope s_is_whole) dV5 kV5 dc5 pm5 an5 cd5 ct5, are_numbers := f6, d_are_numbers := PySem.W.fnOf "are_numbers" "are_numbers" (defArgs s_are_numbers) (defBody s_are_numbers) (defScope s_are_numbers) dV6 kV6 dc6 pm6 an6 cd6 ct6, Counts_init := f7, d_Counts_init := PySem.W.fnOf "__init__" "Counts.__init__" (defArgs s_Counts_init) (defBody s_Counts_init) (defScope s_Counts_init) dV7 kV7 dc7 pm7 an7 cd7 ct7, Counts_eq := f8, d_Counts_eq := PySem.W.fnOf "__eq__" "Counts.__eq__" (defArgs s_Counts_eq) (defBody s_Counts_eq) (defScope s_Counts_eq) dV8 kV8 dc8 pm8 an8 cd8 ct8, Counts_len := f9, d_Counts_len := PySem.W.fnOf "__len__" "Counts.__len__" (defArgs s_Counts_len) (defBody s_Counts_len) (defScope s_Counts_len) dV9 kV9 dc9 pm9 an9 cd9 ct9, Counts_str := f10, d_Counts_str := PySem.W.fnOf "__str__" "Counts.__str__" (defArgs s_Counts_str) (defBody s_Counts_str) (defScope s_Counts_str) dV10 kV10 dc10 pm10 an10 cd10 ct10, Counts_repr := f11, d_Counts_repr := PySem.W.fnOf "__repr__" "Counts.__repr__" (defArgs s_Counts_repr) (defBody s_Counts_repr) (defScope s_Counts_repr) dV11 kV11 dc11 pm11 an11 cd11 ct11, Counts_told := f12, d_Counts_told := PySem.W.fnOf "told" "Counts.told" (defArgs s_Counts_told) (defBody s_Counts_told) (defScope s_Counts_told) dV12 kV12 dc12 pm12 an12 cd12 ct12, Counts_need_member := f13, d_Counts_need_member := PySem.W.fnOf "need_member" "Counts.need_member" (defArgs s_Counts_need_member) (defBody s_Counts_need_member) (defScope s_Counts_need_member) dV13 kV13 dc13 pm13 an13 cd13 ct13, Counts_of := f15, d_Counts_of := PySem.W.fnOf "of" "Counts.of" (defArgs s_Counts_of) (defBody s_Counts_of) (defScope s_Counts_of) dV15 kV15 dc15 pm15 an15 cd15 ct15, Counts_sum_of := f16, d_Counts_sum_of := PySem.W.fnOf "sum_of" "Counts.sum_of" (defArgs s_Counts_sum_of) (defBody s_Counts_sum_of) (defScope s_Counts_sum_of) dV16 kV16 dc16 pm16 an16 cd16 ct16, Counts_raised := f21, d_Counts_raised := PySem.W.fnOf "raised" "Counts.raised" (defArgs s_Counts_raised) (defBody s_Counts_raised) (defScope s_Counts_raised) dV21 kV21 dc21 pm21 an21 cd21 ct21, _law_pool := f24, d__law_pool := PySem.W.fnOf "_law_pool" "_law_pool" (defArgs s__law_pool) (defBody s__law_pool) (defScope s__law_pool) dV24 kV24 dc24 pm24 an24 cd24 ct24, _law_take := f25, d__law_take := PySem.W.fnOf "_law_take" "_law_take" (defArgs s__law_take) (defBody s__law_take) (defScope s__law_take) dV25 kV25 dc25 pm25 an25 cd25 ct25, _law_numbers := f26, d__law_numbers := PySem.W.fnOf "_law_numbers" "_law_numbers" (defArgs s__law_numbers) (defBody s__law_numbers) (defScope s__law_numbers) dV26 kV26 dc26 pm26 an26 cd26 ct26, _law_near := f27, d__law_near := PySem.W.fnOf "_law_near" "_law_near" (defArgs s__law_near) (defBody s__law_near) (defScope s__law_near) dV27 kV27 dc27 pm27 an27 cd27 ct27, _law_whole := f28, d__law_whole := PySem.W.fnOf "_law_whole" "_law_whole" (defArgs s__law_whole) (defBody s__law_whole) (defScope s__law_whole) dV28 kV28 dc28 pm28 an28 cd28 ct28, _law_refused := f29, d__law_refused := PySem.W.fnOf "_law_refused" "_law_refused" (defArgs s__law_refused) (defBody s__law_refused) (defScope s__law_refused) dV29 kV29 dc29 pm29 an29 cd29 ct29, _law_no_member := f30, d__law_no_member := PySem.W.fnOf "_law_no_member" "_law_no_member" (defArgs s__law_no_member) (defBody s__law_no_member) (defScope s__law_no_member) dV30 kV30 dc30 pm30 an30 cd30 ct30, _law_told := f31, d__law_told := PySem.W.fnOf "_law_told" "_law_told" (defArgs s__law_told) (defBody s__law_told) (defScope s__law_told) dV31 kV31 dc31 pm31 an31 cd31 ct31, _law_equal := f32, d__law_equal := PySem.W.fnOf "_law_equal" "_law_equal" (defArgs s__law_equal) (defBody s__law_equal) (defScope s__law_equal) dV32 kV32 dc32 pm32 an32 cd32 ct32, law := fa, d_law := PySem.W.fnOf "law" "law" (defArgs s_law) (defBody s_law) (defScope s_law) dV33 kV33 dc33 pm33 an33 cd33 ct33 } := {
    m_HallError := PySem.W.mg_of X G aC0,
    e_HallError := ⟨ga0, gg0, sx0, hd0, ia0, hn, htk, im0, it0⟩,
    hs_HallError := hs0,
    hq_HallError := hq0,
    hf_HallError := hf0,
    m_NoNumber := PySem.W.mg_of X G aC1,
    n_NoNumber_found := n1_found,
    e_NoNumber := ⟨ga1, gg1, sx1, hd1, ia1, hn, htk, im1, it1⟩,
    o_NoNumber := ⟨⟨_, _, _, _, _, _, _, _, _, _, _, _, _, _, _, xL1, xM1⟩, sa1, sx1, it1, kc1⟩,
    oi_NoNumber := a1,
    ot_NoNumber := tf1,
    u_NoNumber_HallError := x1_0,
    u_NoNumber_NoNumber := x1_1,
    u_NoNumber_NoMember := x1_2,
    u_NoNumber_NoCounts := x1_3,
    u_NoNumber_Unlike := x1_4,
    x_NoNumber_HallError := kit_in ne1_0 ic0 it0 x1_0,
    x_NoNumber_NoMember := kit_in ne1_2 ic2 it2 x1_2,
    x_NoNumber_NoCounts := kit_in ne1_3 ic3 it3 x1_3,
    x_NoNumber_Unlike := kit_in ne1_4 ic4 it4 x1_4,
    m_NoMember := PySem.W.mg_of X G aC2,
    n_NoMember_found := n2_found,
    xv_NoMember := kit_out (by decide +kernel) xv2,
    e_NoMember := ⟨ga2, gg2, sx2, hd2, ia2, hn, htk, im2, it2⟩,
    o_NoMember := ⟨⟨_, _, _, _, _, _, _, _, _, _, _, _, _, _, _, xL2, xM2⟩, sa2, sx2, it2, kc2⟩,
    oi_NoMember := a2,
    ot_NoMember := tf2,
    u_NoMember_HallError := x2_0,
    u_NoMember_NoNumber := x2_1,
    u_NoMember_NoMember := x2_2,
    u_NoMember_NoCounts := x2_3,
    u_NoMember_Unlike := x2_4,
    x_NoMember_HallError := kit_in ne2_0 ic0 it0 x2_0,
    x_NoMember_NoNumber := kit_in ne2_1 ic1 it1 x2_1,
    x_NoMember_NoCounts := kit_in ne2_3 ic3 it3 x2_3,
    x_NoMember_Unlike := kit_in ne2_4 ic4 it4 x2_4,
    m_NoCounts := PySem.W.mg_of X G aC3,
    n_NoCounts_found := n3_found,
    xv_NoCounts := kit_out (by decide +kernel) xv3,
    e_NoCounts := ⟨ga3, gg3, sx3, hd3, ia3, hn, htk, im3, it3⟩,
    o_NoCounts := ⟨⟨_, _, _, _, _, _, _, _, _, _, _, _, _, _, _, xL3, xM3⟩, sa3, sx3, it3, kc3⟩,
    oi_NoCounts := a3,
    ot_NoCounts := tf3,
    u_NoCounts_HallError := x3_0,
    u_NoCounts_NoNumber := x3_1,
    u_NoCounts_NoMember := x3_2,
    u_NoCounts_NoCounts := x3_3,
    u_NoCounts_Unlike := x3_4,
    x_NoCounts_HallError := kit_in ne3_0 ic0 it0 x3_0,
    x_NoCounts_NoNumber := kit_in ne3_1 ic1 it1 x3_1,
    x_NoCounts_NoMember := kit_in ne3_2 ic2 it2 x3_2,
    x_NoCounts_Unlike := kit_in ne3_4 ic4 it4 x3_4,
    m_Unlike := PySem.W.mg_of X G aC4,
    n_Unlike_found := n4_found,
    e_Unlike := ⟨ga4, gg4, sx4, hd4, ia4, hn, htk, im4, it4⟩,
    o_Unlike := ⟨⟨_, _, _, _, _, _, _, _, _, _, _, _, _, _, _, xL4, xM4⟩, sa4, sx4, it4, kc4⟩,
    u_Unlike_HallError := x4_0,
    u_Unlike_NoNumber := x4_1,
    u_Unlike_NoMember := x4_2,
    u_Unlike_NoCounts := x4_3,
    u_Unlike_Unlike := x4_4,
    x_Unlike_HallError := kit_in ne4_0 ic0 it0 x4_0,
    x_Unlike_NoNumber := kit_in ne4_1 ic1 it1 x4_1,
    x_Unlike_NoMember := kit_in ne4_2 ic2 it2 x4_2,
    x_Unlike_NoCounts := kit_in ne4_3 ic3 it3 x4_3,
    m_Counts := PySem.W.mg_of X G aC5,
    c_Counts := ⟨pg5, hd5, po5, sa5⟩,
    i_Counts := ⟨ia5, hn, htk, im5, fun d => by cases d <;> first | exact kit_out (by decide +kernel) io5int | exact kit_out (by decide +kernel) io5bool | exact kit_out (by decide +kernel) io5str | exact kit_out (by decide +kernel) io5list | exact kit_out (by decide +kernel) io5tuple | exact kit_out (by decide +kernel) io5dict, fun t ht => by
      simp only [List.mem_cons, List.not_mem_nil, or_false] at ht
      rcases ht with rfl | rfl | rfl | rfl | rfl | rfl | rfl
      all_goals first | exact kit_in rfl ic5 it5 ii5NoneType | exact kit_in rfl ic5 it5 ii5int | exact kit_in rfl ic5 it5 ii5bool | exact kit_in rfl ic5 it5 ii5str | exact kit_in rfl ic5 it5 ii5list | exact kit_in rfl ic5 it5 ii5tuple | exact kit_in rfl ic5 it5 ii5dict⟩,
    q_Counts := fun t ht => by
      simp only [List.mem_cons, List.not_mem_nil, or_false] at ht
      rcases ht with rfl | rfl | rfl | rfl | rfl | rfl | rfl
      all_goals first | exact ii5NoneType | exact ii5int | exact ii5bool | exact ii5str | exact ii5list | exact ii5tuple | exact ii5dict,
    sl_Counts := io5list,
    nn_Counts := nn5,
    mk_Counts := ⟨mk5, a7, i7, kc5⟩,
    n_Counts_kept_numbers := n5_kept_numbers,
    F_NoNumber_init := (fund_mk (K := K) (x := "__init__") (qual := "NoNumber.__init__") (st := s_NoNumber_init) (dvs := []) l1 c1 k1 (.inl ⟨rfl, q1⟩)),
    B_NoNumber_init := fund_all0 (fund_mk (K := K) (x := "__init__") (qual := "NoNumber.__init__") (st := s_NoNumber_init) (dvs := []) l1 c1 k1 (.inl ⟨rfl, q1⟩)) (fun _ _ _ _ _ _ us hl => match us, hl with | [_, _], _ => rfl),
    F_NoMember_init := (fund_mk (K := K) (x := "__init__") (qual := "NoMember.__init__") (st := s_NoMember_init) (dvs := []) l2 c2 k2 (.inl ⟨rfl, q2⟩)),
    B_NoMember_init := fund_all0 (fund_mk (K := K) (x := "__init__") (qual := "NoMember.__init__") (st := s_NoMember_init) (dvs := []) l2 c2 k2 (.inl ⟨rfl, q2⟩)) (fun _ _ _ _ _ _ us hl => match us, hl with | [_, _], _ => rfl),
    F_NoCounts_init := (fund_mk (K := K) (x := "__init__") (qual := "NoCounts.__init__") (st := s_NoCounts_init) (dvs := []) l3 c3 k3 (.inl ⟨rfl, q3⟩)),
    B_NoCounts_init := fund_all0 (fund_mk (K := K) (x := "__init__") (qual := "NoCounts.__init__") (st := s_NoCounts_init) (dvs := []) l3 c3 k3 (.inl ⟨rfl, q3⟩)) (fun _ _ _ _ _ _ us hl => match us, hl with | [_, _], _ => rfl),
    F_Unlike_init := (fund_mk (K := K) (x := "__init__") (qual := "Unlike.__init__") (st := s_Unlike_init) (dvs := []) l4 c4 k4 (.inl ⟨rfl, q4⟩)),
    F_is_whole := (fund_mk (K := K) (x := "is_whole") (qual := "is_whole") (st := s_is_whole) (dvs := [V.non]) l5 c5 k5 (dfl_mk q5 r5 rfl s5 (by simp))),
    B_is_whole := fund_allD (fund_mk (K := K) (x := "is_whole") (qual := "is_whole") (st := s_is_whole) (dvs := [V.non]) l5 c5 k5 (dfl_mk q5 r5 rfl s5 (by simp))) (by simp) (fun _ _ _ _ _ _ _ us its hl h2 => match us, its, hl, h2 with | [_, _, _], [_], _, _ => ⟨_, rfl, rfl⟩),
    m_is_whole := PySem.W.mg_of X G a5,
    B1_is_whole := FunD.binds1 (fund_mk (K := K) (x := "is_whole") (qual := "is_whole") (st := s_is_whole) (dvs := [V.non]) l5 c5 k5 (dfl_mk q5 r5 rfl s5 (by simp))) 2 0 (by simp) (by decide) (fun _ _ _ _ _ _ _ us its h1 h2 => match us, its, h1, h2 with | [_, _], [_], _, _ => ⟨_, rfl, rfl⟩),
    F_are_numbers := (fund_mk (K := K) (x := "are_numbers") (qual := "are_numbers") (st := s_are_numbers) (dvs := []) l6 c6 k6 (.inl ⟨rfl, q6⟩)),
    B_are_numbers := fund_all0 (fund_mk (K := K) (x := "are_numbers") (qual := "are_numbers") (st := s_are_numbers) (dvs := []) l6 c6 k6 (.inl ⟨rfl, q6⟩)) (fun _ _ _ _ _ _ us hl => match us, hl with | [_], _ => rfl),
    m_are_numbers := PySem.W.mg_of X G a6,
    F_Counts_init := (fund_mk (K := K) (x := "__init__") (qual := "Counts.__init__") (st := s_Counts_init) (dvs := []) l7 c7 k7 (.inl ⟨rfl, q7⟩)),
    B_Counts_init := fund_all0 (fund_mk (K := K) (x := "__init__") (qual := "Counts.__init__") (st := s_Counts_init) (dvs := []) l7 c7 k7 (.inl ⟨rfl, q7⟩)) (fun _ _ _ _ _ _ us hl => match us, hl with | [_, _], _ => rfl),
    F_Counts_eq := (fund_mk (K := K) (x := "__eq__") (qual := "Counts.__eq__") (st := s_Counts_eq) (dvs := []) l8 c8 k8 (.inl ⟨rfl, q8⟩)),
    B_Counts_eq := fund_all0 (fund_mk (K := K) (x := "__eq__") (qual := "Counts.__eq__") (st := s_Counts_eq) (dvs := []) l8 c8 k8 (.inl ⟨rfl, q8⟩)) (fun _ _ _ _ _ _ us hl => match us, hl with | [_, _], _ => rfl),
    M_Counts_eq := ⟨a8, i8, k8⟩,
    F_Counts_len := (fund_mk (K := K) (x := "__len__") (qual := "Counts.__len__") (st := s_Counts_len) (dvs := []) l9 c9 k9 (.inl ⟨rfl, q9⟩)),
    B_Counts_len := fund_all0 (fund_mk (K := K) (x := "__len__") (qual := "Counts.__len__") (st := s_Counts_len) (dvs := []) l9 c9 k9 (.inl ⟨rfl, q9⟩)) (fun _ _ _ _ _ _ us hl => match us, hl with | [_], _ => rfl),
    M_Counts_len := ⟨a9, i9, k9⟩,
    F_Counts_str := (fund_mk (K := K) (x := "__str__") (qual := "Counts.__str__") (st := s_Counts_str) (dvs := []) l10 c10 k10 (.inl ⟨rfl, q10⟩)),
    B_Counts_str := fund_all0 (fund_mk (K := K) (x := "__str__") (qual := "Counts.__str__") (st := s_Counts_str) (dvs := []) l10 c10 k10 (.inl ⟨rfl, q10⟩)) (fun _ _ _ _ _ _ us hl => match us, hl with | [_], _ => rfl),
    M_Counts_str := ⟨a10, i10, k10⟩,
    F_Counts_repr := (fund_mk (K := K) (x := "__repr__") (qual := "Counts.__repr__") (st := s_Counts_repr) (dvs := []) l11 c11 k11 (.inl ⟨rfl, q11⟩)),
    B_Counts_repr := fund_all0 (fund_mk (K := K) (x := "__repr__") (qual := "Counts.__repr__") (st := s_Counts_repr) (dvs := []) l11 c11 k11 (.inl ⟨rfl, q11⟩)) (fun _ _ _ _ _ _ us hl => match us, hl with | [_], _ => rfl),
    M_Counts_repr := ⟨a11, i11, k11⟩,
    F_Counts_told := (fund_mk (K := K) (x := "told") (qual := "Counts.told") (st := s_Counts_told) (dvs := []) l12 c12 k12 (.inl ⟨rfl, q12⟩)),
    B_Counts_told := fund_all0 (fund_mk (K := K) (x := "told") (qual := "Counts.told") (st := s_Counts_told) (dvs := []) l12 c12 k12 (.inl ⟨rfl, q12⟩)) (fun _ _ _ _ _ _ us hl => match us, hl with | [_], _ => rfl),
    M_Counts_told := ⟨a12, i12, k12⟩,
    F_Counts_need_member := (fund_mk (K := K) (x := "need_member") (qual := "Counts.need_member") (st := s_Counts_need_member) (dvs := []) l13 c13 k13 (.inl ⟨rfl, q13⟩)),
    B_Counts_need_member := fund_all0 (fund_mk (K := K) (x := "need_member") (qual := "Counts.need_member") (st := s_Counts_need_member) (dvs := []) l13 c13 k13 (.inl ⟨rfl, q13⟩)) (fun _ _ _ _ _ _ us hl => match us, hl with | [_, _], _ => rfl),
    M_Counts_need_member := ⟨a13, i13, k13⟩,
    F_Counts_of := (fund_mk (K := K) (x := "of") (qual := "Counts.of") (st := s_Counts_of) (dvs := []) l15 c15 k15 (.inl ⟨rfl, q15⟩)),
    B_Counts_of := fund_all0 (fund_mk (K := K) (x := "of") (qual := "Counts.of") (st := s_Counts_of) (dvs := []) l15 c15 k15 (.inl ⟨rfl, q15⟩)) (fun _ _ _ _ _ _ us hl => match us, hl with | [_, _], _ => rfl),
    M_Counts_of := ⟨a15, i15, k15⟩,
    F_Counts_sum_of := (fund_mk (K := K) (x := "sum_of") (qual := "Counts.sum_of") (st := s_Counts_sum_of) (dvs := []) l16 c16 k16 (.inl ⟨rfl, q16⟩)),
    B_Counts_sum_of := fund_all0 (fund_mk (K := K) (x := "sum_of") (qual := "Counts.sum_of") (st := s_Counts_sum_of) (dvs := []) l16 c16 k16 (.inl ⟨rfl, q16⟩)) (fun _ _ _ _ _ _ us hl => match us, hl with | [_], _ => rfl),
    M_Counts_sum_of := ⟨a16, i16, k16⟩,
    F_Counts_raised := (fund_mk (K := K) (x := "raised") (qual := "Counts.raised") (st := s_Counts_raised) (dvs := [V.int 1]) l21 c21 k21 (dfl_mk q21 r21 rfl s21 (by simp))),
    B_Counts_raised := fund_allD (fund_mk (K := K) (x := "raised") (qual := "Counts.raised") (st := s_Counts_raised) (dvs := [V.int 1]) l21 c21 k21 (dfl_mk q21 r21 rfl s21 (by simp))) (by simp) (fun _ _ _ _ _ _ _ us its hl h2 => match us, its, hl, h2 with | [_, _, _], [_], _, _ => ⟨_, rfl, rfl⟩),
    M_Counts_raised := ⟨a21, i21, k21⟩,
    F__law_pool := (fund_mk (K := K) (x := "_law_pool") (qual := "_law_pool") (st := s__law_pool) (dvs := []) l24 c24 k24 (.inl ⟨rfl, q24⟩)),
    B__law_pool := fund_all0 (fund_mk (K := K) (x := "_law_pool") (qual := "_law_pool") (st := s__law_pool) (dvs := []) l24 c24 k24 (.inl ⟨rfl, q24⟩)) (fun _ _ _ _ _ _ us hl => match us, hl with | [_], _ => rfl),
    m__law_pool := PySem.W.mg_of X G a24,
    F__law_take := (fund_mk (K := K) (x := "_law_take") (qual := "_law_take") (st := s__law_take) (dvs := []) l25 c25 k25 (.inl ⟨rfl, q25⟩)),
    B__law_take := fund_all0 (fund_mk (K := K) (x := "_law_take") (qual := "_law_take") (st := s__law_take) (dvs := []) l25 c25 k25 (.inl ⟨rfl, q25⟩)) (fun _ _ _ _ _ _ us hl => match us, hl with | [_, _], _ => rfl),
    m__law_take := PySem.W.mg_of X G a25,
    F__law_numbers := (fund_mk (K := K) (x := "_law_numbers") (qual := "_law_numbers") (st := s__law_numbers) (dvs := []) l26 c26 k26 (.inl ⟨rfl, q26⟩)),
    B__law_numbers := fund_all0 (fund_mk (K := K) (x := "_law_numbers") (qual := "_law_numbers") (st := s__law_numbers) (dvs := []) l26 c26 k26 (.inl ⟨rfl, q26⟩)) (fun _ _ _ _ _ _ us hl => match us, hl with | [_, _], _ => rfl),
    m__law_numbers := PySem.W.mg_of X G a26,
    F__law_near := (fund_mk (K := K) (x := "_law_near") (qual := "_law_near") (st := s__law_near) (dvs := []) l27 c27 k27 (.inl ⟨rfl, q27⟩)),
    B__law_near := fund_all0 (fund_mk (K := K) (x := "_law_near") (qual := "_law_near") (st := s__law_near) (dvs := []) l27 c27 k27 (.inl ⟨rfl, q27⟩)) (fun _ _ _ _ _ _ us hl => match us, hl with | [_, _], _ => rfl),
    m__law_near := PySem.W.mg_of X G a27,
    F__law_whole := (fund_mk (K := K) (x := "_law_whole") (qual := "_law_whole") (st := s__law_whole) (dvs := []) l28 c28 k28 (.inl ⟨rfl, q28⟩)),
    B__law_whole := fund_all0 (fund_mk (K := K) (x := "_law_whole") (qual := "_law_whole") (st := s__law_whole) (dvs := []) l28 c28 k28 (.inl ⟨rfl, q28⟩)) (fun _ _ _ _ _ _ us hl => match us, hl with | [_], _ => rfl),
    m__law_whole := PySem.W.mg_of X G a28,
    F__law_refused := (fund_mk (K := K) (x := "_law_refused") (qual := "_law_refused") (st := s__law_refused) (dvs := []) l29 c29 k29 (.inl ⟨rfl, q29⟩)),
    B__law_refused := fund_all0 (fund_mk (K := K) (x := "_law_refused") (qual := "_law_refused") (st := s__law_refused) (dvs := []) l29 c29 k29 (.inl ⟨rfl, q29⟩)) (fun _ _ _ _ _ _ us hl => match us, hl with | [_], _ => rfl),
    m__law_refused := PySem.W.mg_of X G a29,
    F__law_no_member := (fund_mk (K := K) (x := "_law_no_member") (qual := "_law_no_member") (st := s__law_no_member) (dvs := []) l30 c30 k30 (.inl ⟨rfl, q30⟩)),
    B__law_no_member := fund_all0 (fund_mk (K := K) (x := "_law_no_member") (qual := "_law_no_member") (st := s__law_no_member) (dvs := []) l30 c30 k30 (.inl ⟨rfl, q30⟩)) (fun _ _ _ _ _ _ us hl => match us, hl with | [_, _], _ => rfl),
    m__law_no_member := PySem.W.mg_of X G a30,
    F__law_told := (fund_mk (K := K) (x := "_law_told") (qual := "_law_told") (st := s__law_told) (dvs := []) l31 c31 k31 (.inl ⟨rfl, q31⟩)),
    B__law_told := fund_all0 (fund_mk (K := K) (x := "_law_told") (qual := "_law_told") (st := s__law_told) (dvs := []) l31 c31 k31 (.inl ⟨rfl, q31⟩)) (fun _ _ _ _ _ _ us hl => match us, hl with | [_, _], _ => rfl),
    m__law_told := PySem.W.mg_of X G a31,
    F__law_equal := (fund_mk (K := K) (x := "_law_equal") (qual := "_law_equal") (st := s__law_equal) (dvs := []) l32 c32 k32 (.inl ⟨rfl, q32⟩)),
    B__law_equal := fund_all0 (fund_mk (K := K) (x := "_law_equal") (qual := "_law_equal") (st := s__law_equal) (dvs := []) l32 c32 k32 (.inl ⟨rfl, q32⟩)) (fun _ _ _ _ _ _ us hl => match us, hl with | [_, _, _], _ => rfl),
    m__law_equal := PySem.W.mg_of X G a32,
    F_law := (fund_mk (K := K) (x := "law") (qual := "law") (st := s_law) (dvs := []) l33 c33 k33 (.inl ⟨rfl, q33⟩)),
    g_LEAST_MEMBERS := ⟨_, PySem.W.mg_of X G gl0, gr0⟩,
    g_MOST_MEMBERS := ⟨_, PySem.W.mg_of X G gl1, gr1⟩,
    b_ValueError := PySem.W.mg_none_of X G z8,
    b_all := PySem.W.mg_none_of X G z19,
    b_bool := PySem.W.mg_none_of X G z21,
    b_int := PySem.W.mg_none_of X G z22,
    b_isinstance := PySem.W.mg_none_of X G z24,
    b_len := PySem.W.mg_none_of X G z25,
    b_list := PySem.W.mg_none_of X G z26,
    b_max := PySem.W.mg_none_of X G z27,
    b_min := PySem.W.mg_none_of X G z28,
    b_range := PySem.W.mg_none_of X G z29,
    b_repr := PySem.W.mg_none_of X G z30,
    b_str := PySem.W.mg_none_of X G z31,
    b_sum := PySem.W.mg_none_of X G z32,
    b_tuple := PySem.W.mg_none_of X G z33
  }
  exact ⟨_, fun s v => (fund_mk (K := K) (x := "law") (qual := "law") (st := s_law) (dvs := []) l33 c33 k33 (.inl ⟨rfl, q33⟩)).bindsA (ps := ["script"]) (fun _ _ _ _ _ _ us hl => match us, hl with | [_], _ => rfl) s [v] rfl, fun base _ _ => ok_law T⟩
theorem walk {l : PySem.W.OpenLaw} {q : Program} {loose : List Str} {XP : (Str → Option Value) → Heap → Prop} {YP : World → Heap → Prop} {d : DefRec} {K : Params → PySem.W.Frag} (hn : l.most = some 63) (hdf : d.params.defaults = [])
    (hY : ∀ (w : World) (h : Heap), YP w h → (K w.params).In h)
    (F : ∀ (w : World) (mg : Str → Option Value) (fa : Addr) (h : Heap), (K w.params).In h → h.Ns mainGlobals mg → mg d.name = some (.ref fa) →
      ∃ fd : FuncData, (∀ (s : Shared) (u : Value), BindsTo s fd ⟨[u], []⟩ [("script", u)]) ∧ ∀ base : Heap, (K w.params).In base → base.Ns mainGlobals mg → FnOk l.prog w (K w.params) mg base CX0 7 fa fd ["script"] (spLaw (K w.params))) :
    PySem.W.WalkO q loose XP YP l.row.toRowW d [] (fun f vs => PySem.call f vs) :=
  L2.walk_of (n := 63) (k := 7) (x := "script") (CX := fun _ => CX0) (sp := fun w => spLaw (K w.params)) hn (by decide) hdf ⟨rfl, by decide, by decide⟩ hY F (fun _ _ b ns hl _ hS => ⟨b, ns, rfl, hS, hl, fun _ => rfl⟩) fun _ _ _ _ _ z => z
end My
open PySem PySem.W PyProof.Rows
set_option maxRecDepth 100000 in
set_option maxHeartbeats 0 in
theorem PySem.Challenge.cw_causehall_k02_counts_told_holds : PySem.Challenge.rw_causehall_k02_counts_told.Holds := by
  w_on; o_law; k_head; (case hw => w_witness2)
  k_fill
  refine My.walk (l := PySem.Challenge.rw_causehall_k02_counts_told) rfl rfl (fun w h Y => PySem.W.kIn_of Y) ?F
  case F =>
    intro w mg fa h KX G hmg
    refine' My.all_mk KX G hmg ?aC0 ?aC1 ?aC2 ?aC3 ?aC4 ?aC5 ?a1 ?i1 ?l1 ?c1 ?k1 ?q1 ?a2 ?i2 ?l2 ?c2 ?k2 ?q2 ?a3 ?i3 ?l3 ?c3 ?k3 ?q3 ?a4 ?i4 ?l4 ?c4 ?k4 ?q4 ?a5 ?l5 ?c5 ?k5 ?q5 ?r5 ?s5 ?a6 ?l6 ?c6 ?k6 ?q6 ?a7 ?i7 ?l7 ?c7 ?k7 ?q7 ?a8 ?i8 ?l8 ?c8 ?k8 ?q8 ?a9 ?i9 ?l9 ?c9 ?k9 ?q9 ?a10 ?i10 ?l10 ?c10 ?k10 ?q10 ?a11 ?i11 ?l11 ?c11 ?k11 ?q11 ?a12 ?i12 ?l12 ?c12 ?k12 ?q12 ?a13 ?i13 ?l13 ?c13 ?k13 ?q13 ?a15 ?i15 ?l15 ?c15 ?k15 ?q15 ?a16 ?i16 ?l16 ?c16 ?k16 ?q16 ?a21 ?i21 ?l21 ?c21 ?k21 ?q21 ?r21 ?s21 ?a24 ?l24 ?c24 ?k24 ?q24 ?a25 ?l25 ?c25 ?k25 ?q25 ?a26 ?l26 ?c26 ?k26 ?q26 ?a27 ?l27 ?c27 ?k27 ?q27 ?a28 ?l28 ?c28 ?k28 ?q28 ?a29 ?l29 ?c29 ?k29 ?q29 ?a30 ?l30 ?c30 ?k30 ?q30 ?a31 ?l31 ?c31 ?k31 ?q31 ?a32 ?l32 ?c32 ?k32 ?q32 ?a33 ?l33 ?c33 ?k33 ?q33 ?gl0 ?gr0 ?gl1 ?gr1 ?ga0 ?ga1 ?ga2 ?ga3 ?ga4 ?gg0 ?gg1 ?gg2 ?gg3 ?gg4 ?hd0 ?hd1 ?hd2 ?hd3 ?hd4 ?hd5 ?hf0 ?hn ?hq0 ?hs0 ?htk ?ia0 ?ia1 ?ia2 ?ia3 ?ia4 ?ia5 ?ic0 ?ic1 ?ic2 ?ic3 ?ic4 ?ic5 ?ii5NoneType ?ii5bool ?ii5dict ?ii5int ?ii5list ?ii5str ?ii5tuple ?im0 ?im1 ?im2 ?im3 ?im4 ?im5 ?io5bool ?io5dict ?io5int ?io5list ?io5str ?io5tuple ?it0 ?it1 ?it2 ?it3 ?it4 ?it5 ?kc1 ?kc2 ?kc3 ?kc4 ?kc5 ?mk5 ?n1_found ?n2_found ?n3_found ?n4_found ?n5_kept_numbers ?ne1_0 ?ne1_2 ?ne1_3 ?ne1_4 ?ne2_0 ?ne2_1 ?ne2_3 ?ne2_4 ?ne3_0 ?ne3_1 ?ne3_2 ?ne3_4 ?ne4_0 ?ne4_1 ?ne4_2 ?ne4_3 ?nn5 ?pg5 ?po5 ?sa1 ?sa2 ?sa3 ?sa4 ?sa5 ?sx0 ?sx1 ?sx2 ?sx3 ?sx4 ?tf1 ?tf2 ?tf3 ?x1_0 ?x1_1 ?x1_2 ?x1_3 ?x1_4 ?x2_0 ?x2_1 ?x2_2 ?x2_3 ?x2_4 ?x3_0 ?x3_1 ?x3_2 ?x3_3 ?x3_4 ?x4_0 ?x4_1 ?x4_2 ?x4_3 ?x4_4 ?xL1 ?xL2 ?xL3 ?xL4 ?xM1 ?xM2 ?xM3 ?xM4 ?xv2 ?xv3 ?z19 ?z21 ?z22 ?z24 ?z25 ?z26 ?z27 ?z28 ?z29 ?z30 ?z31 ?z32 ?z33 ?z8
    (case aC0 => k_is)
    (case aC1 => k_is)
    (case aC2 => k_is)
    (case aC3 => k_is)
    (case aC4 => k_is)
    (case aC5 => k_is)
    (case a1 => k_is)
    (case i1 => k_is)
    (case l1 => k_is)
    (case c1 => k_is)
    (case k1 => k_is)
    (case q1 => rfl)
    (case a2 => k_is)
    (case i2 => k_is)
    (case l2 => k_is)
    (case c2 => k_is)
    (case k2 => k_is)
    (case q2 => rfl)
    (case a3 => k_is)
    (case i3 => k_is)
    (case l3 => k_is)
    (case c3 => k_is)
    (case k3 => k_is)
    (case q3 => rfl)
    (case a4 => k_is)
    (case i4 => k_is)
    (case l4 => k_is)
    (case c4 => k_is)
    (case k4 => k_is)
    (case q4 => rfl)
    (case a5 => k_is)
    (case l5 => k_is)
    (case c5 => k_is)
    (case k5 => k_is)
    (case q5 => rfl)
    (case r5 => k_is)
    (case s5 => exact .cons rfl (.nil))
    (case a6 => k_is)
    (case l6 => k_is)
    (case c6 => k_is)
    (case k6 => k_is)
    (case q6 => rfl)
    (case a7 => k_is)
    (case i7 => k_is)
    (case l7 => k_is)
    (case c7 => k_is)
    (case k7 => k_is)
    (case q7 => rfl)
    (case a8 => k_is)
    (case i8 => k_is)
    (case l8 => k_is)
    (case c8 => k_is)
    (case k8 => k_is)
    (case q8 => rfl)
    (case a9 => k_is)
    (case i9 => k_is)
    (case l9 => k_is)
    (case c9 => k_is)
    (case k9 => k_is)
    (case q9 => rfl)
    (case a10 => k_is)
    (case i10 => k_is)
    (case l10 => k_is)
    (case c10 => k_is)
    (case k10 => k_is)
    (case q10 => rfl)
    (case a11 => k_is)
    (case i11 => k_is)
    (case l11 => k_is)
    (case c11 => k_is)
    (case k11 => k_is)
    (case q11 => rfl)
    (case a12 => k_is)
    (case i12 => k_is)
    (case l12 => k_is)
    (case c12 => k_is)
    (case k12 => k_is)
    (case q12 => rfl)
    (case a13 => k_is)
    (case i13 => k_is)
    (case l13 => k_is)
    (case c13 => k_is)
    (case k13 => k_is)
    (case q13 => rfl)
    (case a15 => k_is)
    (case i15 => k_is)
    (case l15 => k_is)
    (case c15 => k_is)
    (case k15 => k_is)
    (case q15 => rfl)
    (case a16 => k_is)
    (case i16 => k_is)
    (case l16 => k_is)
    (case c16 => k_is)
    (case k16 => k_is)
    (case q16 => rfl)
    (case a21 => k_is)
    (case i21 => k_is)
    (case l21 => k_is)
    (case c21 => k_is)
    (case k21 => k_is)
    (case q21 => rfl)
    (case r21 => k_is)
    (case s21 => exact .cons ⟨_, rfl⟩ (.nil))
    (case a24 => k_is)
    (case l24 => k_is)
    (case c24 => k_is)
    (case k24 => k_is)
    (case q24 => rfl)
    (case a25 => k_is)
    (case l25 => k_is)
    (case c25 => k_is)
    (case k25 => k_is)
    (case q25 => rfl)
    (case a26 => k_is)
    (case l26 => k_is)
    (case c26 => k_is)
    (case k26 => k_is)
    (case q26 => rfl)
    (case a27 => k_is)
    (case l27 => k_is)
    (case c27 => k_is)
    (case k27 => k_is)
    (case q27 => rfl)
    (case a28 => k_is)
    (case l28 => k_is)
    (case c28 => k_is)
    (case k28 => k_is)
    (case q28 => rfl)
    (case a29 => k_is)
    (case l29 => k_is)
    (case c29 => k_is)
    (case k29 => k_is)
    (case q29 => rfl)
    (case a30 => k_is)
    (case l30 => k_is)
    (case c30 => k_is)
    (case k30 => k_is)
    (case q30 => rfl)
    (case a31 => k_is)
    (case l31 => k_is)
    (case c31 => k_is)
    (case k31 => k_is)
    (case q31 => rfl)
    (case a32 => k_is)
    (case l32 => k_is)
    (case c32 => k_is)
    (case k32 => k_is)
    (case q32 => rfl)
    (case a33 => k_is)
    (case l33 => k_is)
    (case c33 => k_is)
    (case k33 => k_is)
    (case q33 => rfl)
    (case gl0 => k_is)
    (case gr0 => exact ⟨_, rfl⟩)
    (case gl1 => k_is)
    (case gr1 => exact ⟨_, rfl⟩)
    (case ga0 => k_is)
    (case ga1 => k_is)
    (case ga2 => k_is)
    (case ga3 => k_is)
    (case ga4 => k_is)
    (case gg0 => k_is)
    (case gg1 => k_is)
    (case gg2 => k_is)
    (case gg3 => k_is)
    (case gg4 => k_is)
    (case hd0 => k_is)
    (case hd1 => k_is)
    (case hd2 => k_is)
    (case hd3 => k_is)
    (case hd4 => k_is)
    (case hd5 => k_is)
    (case hf0 => k_is)
    (case hn => k_is)
    (case hq0 => k_is)
    (case hs0 => k_is)
    (case htk => k_is)
    (case ia0 => k_is)
    (case ia1 => k_is)
    (case ia2 => k_is)
    (case ia3 => k_is)
    (case ia4 => k_is)
    (case ia5 => k_is)
    (case ic0 => k_is)
    (case ic1 => k_is)
    (case ic2 => k_is)
    (case ic3 => k_is)
    (case ic4 => k_is)
    (case ic5 => k_is)
    (case ii5NoneType => k_is)
    (case ii5bool => k_is)
    (case ii5dict => k_is)
    (case ii5int => k_is)
    (case ii5list => k_is)
    (case ii5str => k_is)
    (case ii5tuple => k_is)
    (case im0 => k_is)
    (case im1 => k_is)
    (case im2 => k_is)
    (case im3 => k_is)
    (case im4 => k_is)
    (case im5 => k_is)
    (case io5bool => k_is)
    (case io5dict => k_is)
    (case io5int => k_is)
    (case io5list => k_is)
    (case io5str => k_is)
    (case io5tuple => k_is)
    (case it0 => k_is)
    (case it1 => k_is)
    (case it2 => k_is)
    (case it3 => k_is)
    (case it4 => k_is)
    (case it5 => k_is)
    (case kc1 => k_is)
    (case kc2 => k_is)
    (case kc3 => k_is)
    (case kc4 => k_is)
    (case kc5 => k_is)
    (case mk5 => k_is)
    (case n1_found => k_is)
    (case n2_found => k_is)
    (case n3_found => k_is)
    (case n4_found => k_is)
    (case n5_kept_numbers => k_is)
    (case ne1_0 => rfl)
    (case ne1_2 => rfl)
    (case ne1_3 => rfl)
    (case ne1_4 => rfl)
    (case ne2_0 => rfl)
    (case ne2_1 => rfl)
    (case ne2_3 => rfl)
    (case ne2_4 => rfl)
    (case ne3_0 => rfl)
    (case ne3_1 => rfl)
    (case ne3_2 => rfl)
    (case ne3_4 => rfl)
    (case ne4_0 => rfl)
    (case ne4_1 => rfl)
    (case ne4_2 => rfl)
    (case ne4_3 => rfl)
    (case nn5 => k_is)
    (case pg5 => k_is)
    (case po5 => k_is)
    (case sa1 => k_is)
    (case sa2 => k_is)
    (case sa3 => k_is)
    (case sa4 => k_is)
    (case sa5 => k_is)
    (case sx0 => k_is)
    (case sx1 => k_is)
    (case sx2 => k_is)
    (case sx3 => k_is)
    (case sx4 => k_is)
    (case tf1 => k_is)
    (case tf2 => k_is)
    (case tf3 => k_is)
    (case x1_0 => k_is)
    (case x1_1 => k_is)
    (case x1_2 => k_is)
    (case x1_3 => k_is)
    (case x1_4 => k_is)
    (case x2_0 => k_is)
    (case x2_1 => k_is)
    (case x2_2 => k_is)
    (case x2_3 => k_is)
    (case x2_4 => k_is)
    (case x3_0 => k_is)
    (case x3_1 => k_is)
    (case x3_2 => k_is)
    (case x3_3 => k_is)
    (case x3_4 => k_is)
    (case x4_0 => k_is)
    (case x4_1 => k_is)
    (case x4_2 => k_is)
    (case x4_3 => k_is)
    (case x4_4 => k_is)
    (case xL1 => k_is)
    (case xL2 => k_is)
    (case xL3 => k_is)
    (case xL4 => k_is)
    (case xM1 => exact rfl)
    (case xM2 => exact rfl)
    (case xM3 => exact rfl)
    (case xM4 => exact rfl)
    (case xv2 => k_is)
    (case xv3 => k_is)
    (case z19 => k_is)
    (case z21 => k_is)
    (case z22 => k_is)
    (case z24 => k_is)
    (case z25 => k_is)
    (case z26 => k_is)
    (case z27 => k_is)
    (case z28 => k_is)
    (case z29 => k_is)
    (case z30 => k_is)
    (case z31 => k_is)
    (case z32 => k_is)
    (case z33 => k_is)
    (case z8 => k_is)
#print axioms PySem.Challenge.cw_causehall_k02_counts_told_holds

