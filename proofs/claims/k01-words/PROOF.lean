import PyProof.Rows.All
import Wide.All
import OpenK.AllK
import Wide.FinOn
import HandS.ForMost
import HandS.Wide
import HandS.IsInst
import HandS.Style
import HandS.Defaults
import HandS.Walk
import KE.IntTextLaws
import PySem.Challenge.RW_causehall_k01_words
set_option Elab.async false
set_option maxRecDepth 100000
set_option maxHeartbeats 4000000
/-! My own small layer: rules of one name for what several of the layer's rules say, told apart by the values. -/
namespace My
open PySem L2
/-- a is seen as o: a list, a tuple (by whatever stands there), anything else as it is tracked -/
def Obs (K : PySem.W.Frag) (H : Hp) (a : Addr) : HO → Prop
  | .lst xs => SqL K H a xs
  | .tup xs => SqT K H a xs
  | o => H a = some o
theorem Obs.of {K : PySem.W.Frag} {H : Hp} {a : Addr} {o : HO} (h : H a = some o) : Obs K H a o := by
  cases o <;> first | exact h | exact Or.inl (Or.inl h)
/-- of two numbers the greater, the lesser, as max and min tell them -/
def maxP (i j : Int) : Int := if j > i then j else i
def minP (i j : Int) : Int := if j < i then j else i
theorem maxP_eq (i j : Int) : maxP i j = max i j := by unfold maxP; omega
theorem minP_eq (i j : Int) : minP i j = min i j := by unfold minP; omega
def rMaxU : List V → Hp → VK → Prop := fun xs H Q => ∃ i j, xs = [.int i, .int j] ∧ Q (.int (maxP i j)) H
def rMinU : List V → Hp → VK → Prop := fun xs H Q => ∃ i j, xs = [.int i, .int j] ∧ Q (.int (minP i j)) H
section
variable {X : Cx}
/-! ### operators -/
def rAddU (K : PySem.W.Frag) : R2 := fun x y H Q => match x, y with
  | .int i, .int j => Q (.int (i + j)) H
  | .str i, .str j => i.length + j.length ≤ sizeLine ∧ Q (.str (i ++ j)) H
  | .ref a, .ref b => (∃ xs ys, H a = some (.lst xs) ∧ H b = some (.lst ys) ∧ xs.length + ys.length ≤ sizeLine ∧ ∀ p, H p = none → Q (.ref p) (upd H p (.lst (xs ++ ys))))
      ∨ rCatT K (.ref a) (.ref b) H Q
  | _, _ => False
theorem op_addU {K : PySem.W.Frag} (hK : X.K = K := by rfl) : OpR X (binaryOp .Add) (rAddU K) := by
  subst hK
  intro pins s σ H x y v u Q I rx ry h
  cases x <;> cases y <;> first | exact False.elim h | skip
  · exact op_add pins s σ H _ _ v u Q I rx ry ⟨_, _, rfl, rfl, h⟩
  · exact op_add_str pins s σ H _ _ v u Q I rx ry ⟨_, _, rfl, rfl, h.1, h.2⟩
  · rcases h with ⟨xs, ys, h1, h2, h3, h4⟩ | h
    · exact op_cat pins s σ H _ _ v u Q I rx ry ⟨_, _, xs, ys, rfl, rfl, h1, h2, h3, h4⟩
    · exact op_catT pins s σ H _ _ v u Q I rx ry h
theorem op_subU : OpR X (binaryOp .Sub) (rI0 fun i j => .int (i - j)) := op_sub
def rMulU : R2 := fun x y H Q => match x, y with
  | .int i, .int j => CMulW i j ∧ Q (.int (i * j)) H
  | .ref a, .int k => rRep (.ref a) (.int k) H Q
  | _, _ => False
theorem op_mulU : OpR X (binaryOp .Mult) rMulU := by
  intro pins s σ H x y v u Q I rx ry h
  cases x <;> cases y <;> first | exact False.elim h | skip
  · exact op_mulW pins s σ H _ _ v u Q I rx ry ⟨_, _, rfl, rfl, h.1, h.2⟩
  · exact op_rep pins s σ H _ _ v u Q I rx ry h
theorem op_fdivU : OpR X (binaryOp .FloorDiv) (rI CDivW fun i j => .int (i / j)) := op_fdivW
theorem op_modU : OpR X (binaryOp .Mod) (rI (fun _ j => 0 < j) fun i j => .int (i % j)) := op_mod
theorem op_powU : OpR X (binaryOp .Pow) (rI CPow fun i j => .int (i ^ j.toNat)) := op_pow
/-! ### comparisons -/
theorem op_ltU : OpR X (compareOp .Lt) (rI0 fun i j => .bl (decide (i < j))) := op_lt
theorem op_leU : OpR X (compareOp .LtE) (rI0 fun i j => .bl (decide (i ≤ j))) := op_le
theorem op_gtU : OpR X (compareOp .Gt) (rI0 fun i j => .bl (decide (j < i))) := op_gt
theorem op_geU : OpR X (compareOp .GtE) (rI0 fun i j => .bl (decide (j ≤ i))) := op_ge
/-- what == says of two flat things -/
def eqS : V → V → Option Bool
  | .int i, .int j => some (decide (i = j))
  | .bl i, .bl j => some (decide (i = j))
  | .str i, .str j => some (decide (i = j))
  | .non, .non => some true
  | .int _, .non | .non, .int _ | .int _, .str _ | .str _, .int _ | .str _, .non | .non, .str _ | .bl _, .non | .non, .bl _ | .bl _, .str _ | .str _, .bl _ => some false
  | _, _ => none
theorem eqS_scal : ∀ {x y : V} {b : Bool}, eqS x y = some b → scal x y = true ∧ decide (x = y) = b := by
  intro x y b h
  cases x <;> cases y <;> first | (cases h; done) | (cases Option.some.inj h; exact ⟨rfl, by simp⟩)
def rEqU (K : PySem.W.Frag) : R2 := fun x y H Q => match eqS x y with
  | some b => Q (.bl b) H
  | none => rEqD K x y H Q
def rNeU (K : PySem.W.Frag) : R2 := fun x y H Q => match eqS x y with
  | some b => Q (.bl (!b)) H
  | none => rNeD K x y H Q
theorem op_eqU (hu : X.A.units + 64 < cLine) {K : PySem.W.Frag} (hK : X.K = K := by rfl) : OpR X (compareOp .Eq) (rEqU K) := by
  subst hK
  intro pins s σ H x y v u Q I rx ry h
  unfold rEqU at h
  split at h
  · rename_i b e
    obtain ⟨e1, e2⟩ := eqS_scal e
    exact op_eq pins s σ H _ _ v u Q I rx ry ⟨e1, by rw [e2]; exact h⟩
  · exact op_eqD hu pins s σ H _ _ v u Q I rx ry h
theorem op_neU (hu : X.A.units + 64 < cLine) {K : PySem.W.Frag} (hK : X.K = K := by rfl) : OpR X (compareOp .NotEq) (rNeU K) := by
  subst hK
  intro pins s σ H x y v u Q I rx ry h
  unfold rNeU at h
  split at h
  · rename_i b e
    obtain ⟨e1, e2⟩ := eqS_scal e
    exact op_ne pins s σ H _ _ v u Q I rx ry ⟨e1, by rw [e2]; exact h⟩
  · exact op_neD hu pins s σ H _ _ v u Q I rx ry h
def rIsU : R2 := fun x y H Q => match x, y with
  | .bl a, .bl b => Q (.bl (decide (a = b))) H
  | x, .non => Q (.bl (decide (x = .non))) H
  | .ref a, .ref b => ∃ oa ob, H a = some oa ∧ isObj oa = true ∧ H b = some ob ∧ isObj ob = true ∧ Q (.bl (decide (a = b))) H
  | _, _ => False
def rIsnU : R2 := fun x y H Q => match x, y with
  | .bl a, .bl b => Q (.bl (!decide (a = b))) H
  | x, .non => Q (.bl (!decide (x = .non))) H
  | .ref a, .ref b => ∃ oa ob, H a = some oa ∧ isObj oa = true ∧ H b = some ob ∧ isObj ob = true ∧ Q (.bl (!decide (a = b))) H
  | _, _ => False
theorem op_isU : OpR X (compareOp .Is) rIsU := by
  intro pins s σ H x y v u Q I rx ry h
  cases y <;> cases x <;> first
    | exact False.elim h
    | exact op_isN pins s σ H _ _ v u Q I rx ry ⟨rfl, h⟩
    | exact op_isBl pins s σ H _ _ v u Q I rx ry ⟨_, _, rfl, rfl, h⟩
    | exact op_is_ref pins s σ H _ _ v u Q I rx ry (let ⟨oa, ob, h1, h2, h3, h4, h5⟩ := h; ⟨_, _, oa, ob, rfl, rfl, h1, h2, h3, h4, h5⟩)
theorem op_isnU : OpR X (compareOp .IsNot) rIsnU := by
  intro pins s σ H x y v u Q I rx ry h
  cases y <;> cases x <;> first
    | exact False.elim h
    | exact op_notN pins s σ H _ _ v u Q I rx ry ⟨rfl, h⟩
    | exact op_notBl pins s σ H _ _ v u Q I rx ry ⟨_, _, rfl, rfl, h⟩
    | exact op_isnot_ref pins s σ H _ _ v u Q I rx ry (let ⟨oa, ob, h1, h2, h3, h4, h5⟩ := h; ⟨_, _, oa, ob, rfl, rfl, h1, h2, h3, h4, h5⟩)
/-- one sign in a text; a flat thing in a list or a tuple -/
def rInU (K : PySem.W.Frag) : R2 := fun x y H Q => match y with
  | .str z => ∃ c : Nat, x = .str ⟨#[c]⟩ ∧ Q (.bl (decide (c ∈ z.cps.toList))) H
  | _ => rIn K false x y H Q
theorem op_inU {K : PySem.W.Frag} (hK : X.K = K := by rfl) : OpR X (compareOp .In) (rInU K) := by
  subst hK
  intro pins s σ H x y v u Q I rx ry h
  cases y <;> first
    | exact op_in_seq pins s σ H _ _ v u Q I rx ry h
    | exact op_in_sign pins s σ H _ _ v u Q I rx ry (let ⟨c, e, q⟩ := h; ⟨c, _, e, rfl, q⟩)
/-! ### subscripts, slices -/
def rIxU (K : PySem.W.Frag) : R2 := fun x y H Q => match x, y with
  | .str z, .int i => z.length ≤ sizeLine ∧ ∃ c, atI z.cps.toList i = some c ∧ Q (.str ⟨#[c]⟩) H
  | .ref a, .int i => ∃ xs v, (SqL K H a xs ∨ SqT K H a xs) ∧ atI xs i = some v ∧ Q v H
  | _, _ => False
theorem ix_U {K : PySem.W.Frag} (hK : X.K = K := by rfl) : IxR X (rIxU K) := by
  subst hK
  intro e1 e2 pins s σ H x y v u Q I rx ry h hs
  cases x <;> cases y <;> first | exact False.elim h | skip
  · obtain ⟨h1, c, h2, h3⟩ := h
    exact ix_str e1 e2 pins s σ H _ _ v u Q I rx ry ⟨_, _, c, rfl, rfl, h1, h2, h3⟩ hs
  · obtain ⟨xs, w, h1, h2, h3⟩ := h
    rcases h1 with h1 | h1
    · exact ix_list e1 e2 pins s σ H _ _ v u Q I rx ry ⟨_, xs, _, w, rfl, rfl, h1, h2, h3⟩ hs
    · exact ix_tup e1 e2 pins s σ H _ _ v u Q I rx ry ⟨_, xs, _, w, rfl, rfl, h1, h2, h3⟩ hs
def rSlU (K : PySem.W.Frag) : V → Option Int → Option Int → Hp → VK → Prop := fun x lo hi H Q => match x with
  | .str z => z.length ≤ sizeLine ∧ Q (.str (cutS z lo hi)) H
  | .ref a => rSlL K (.ref a) lo hi H Q ∨ rSlT K (.ref a) lo hi H Q
  | _ => False
theorem sl_U {K : PySem.W.Frag} (hK : X.K = K := by rfl) : SlR X (rSlU K) := by
  subst hK
  intro pins s σ H x v vl vu lo hi sl Q I rx h1 h2 h3 h
  cases x <;> first | exact False.elim h | skip
  · exact sl_str pins s σ H _ v vl vu lo hi sl Q I rx h1 h2 h3 ⟨_, rfl, h.1, h.2⟩
  · exact sl_list.or sl_tup pins s σ H _ v vl vu lo hi sl Q I rx h1 h2 h3 h
/-! ### len, isinstance, int, str -/
def rLenU (K : PySem.W.Frag) : List V → Hp → VK → Prop := fun xs H Q => ∃ x n, xs = [x] ∧ LenV K x H n ∧ Q (.int n) H
theorem call_lenU {K : PySem.W.Frag} (hK : X.K = K := by rfl) : CallR X (.builtin "len") (rLenU K) := by
  subst hK
  exact call_len
def rIntU : List V → Hp → VK → Prop := fun xs H Q => match xs with
  | [.int i] => Q (.int i) H
  | [.bl k] => Q (.int (if k then 1 else 0)) H
  | [.str a] => ∃ n, PySem.intText? a = some n ∧ a.length ≤ 640 ∧ Q (.int n) H
  | _ => False
theorem call_intU : CallR X (.type "int") rIntU := by
  intro pins s σ H xs us Q I r h
  unfold rIntU at h
  split at h
  · exact call_int1 pins s σ H _ us Q I r (.inl ⟨_, rfl, h⟩)
  · exact call_int1 pins s σ H _ us Q I r (.inr ⟨_, rfl, h⟩)
  · obtain ⟨n, h1, h2, h3⟩ := h
    exact call_int_str pins s σ H _ us Q I r ⟨_, n, rfl, h1, h2, h3⟩
  · exact False.elim h
/-! ### isinstance -/
end
/-- the built-in classes that are asked for -/
inductive Kd where | int | bl | str | lst | tup | dct
  deriving DecidableEq
def Kd.name : Kd → String | .int => "int" | .bl => "bool" | .str => "str" | .lst => "list" | .tup => "tuple" | .dct => "dict"
/-- what the text says of a class of its own, for isinstance of its instances and of others -/
structure IsC (K : PySem.W.Frag) (C : Addr) : Prop where
  ha : PySem.W.findIn K (.ref C) "__class__" = some (some (.builtin "object.__class__"))
  hn : PySem.W.specialIn K (.builtin "object.__class__") "__get__" = some (some (.builtin "getset_descriptor.__get__"))
  htk : PySem.W.takesIn K (.builtin "object.__class__") = some true
  hm : PySem.W.mroIn K C (.type "object") = some true
  out : ∀ d : Kd, PySem.W.kitOne K (.ref C) (.type d.name) = some false
  inn : ∀ t : String, t ∈ ["NoneType", "int", "bool", "str", "list", "tuple", "dict"] → PySem.W.kitOne K (.type t) (.ref C) = some false
theorem kit_out {K : PySem.W.Frag} {C : Addr} {n : String} {b : Bool} (hm : PySem.W.kitMeta n = true) (h : PySem.W.subIn K (.ref C) (.type n) = some b) : PySem.W.kitOne K (.ref C) (.type n) = some b := by
  unfold PySem.W.kitOne PySem.W.kitCls
  rw [if_neg (show ¬ ((Value.ref C == Value.type n) = true) by simp)]
  show (if PySem.W.kitMeta n = true then _ else _) = _
  rw [if_pos hm, h]
theorem kit_in {K : PySem.W.Frag} {C : Addr} {t : Value} {b : Bool} (h0 : (t == Value.ref C) = false) (h1 : PySem.W.isClsIn K C = true) (h2 : PySem.W.typeIn K (.ref C) = some (.type "type")) (h : PySem.W.subIn K t (.ref C) = some b) : PySem.W.kitOne K t (.ref C) = some b := by
  unfold PySem.W.kitOne PySem.W.kitCls
  rw [if_neg (by rw [h0]; exact Bool.false_ne_true)]
  show (if ((PySem.W.clsIn K C).isSome && PySem.W.typeIn K (.ref C) == some (.type "type")) = true then _ else _) = _
  have e : (PySem.W.clsIn K C).isSome = true := h1
  rw [if_pos (by rw [e, h2]; rfl), h]
/-- is x of the kind d: what the value alone tells -/
def Kd.has (d : Kd) : V → Bool
  | .int _ => d == .int
  | .bl _ => d == .int || d == .bl
  | .str _ => d == .str
  | _ => false
def Kd.hasO (d : Kd) : HO → Bool
  | .lst _ => d == .lst
  | .tup _ => d == .tup
  | .dK _ => d == .dct
  | .dT _ => d == .dct
  | _ => false
/-- an object whose class is known -/
def KnO (K : PySem.W.Frag) : HO → Prop
  | .lst _ => True
  | .tup _ => True
  | .dK _ => True
  | .dT _ => True
  | .ins C _ _ => Cls K C ∧ IsC K C
  | _ => False
def Kn (K : PySem.W.Frag) (H : Hp) : V → Prop
  | .non => True
  | .bl _ => True
  | .int _ => True
  | .str _ => True
  | .ref a => ∃ o, Obs K H a o ∧ KnO K o
  | _ => False
/-- the class of a value as the library tells it -/
def isO (K : PySem.W.Frag) (x : V) (H : Hp) (R : (Kd → Bool) → Option Addr → Prop) : Prop := match x with
  | .non => R (fun _ => false) none
  | .bl b => R (fun d => d.has (.bl b)) none
  | .int i => R (fun d => d.has (.int i)) none
  | .str z => R (fun d => d.has (.str z)) none
  | .ref a => ∃ o, Obs K H a o ∧ match o with
    | .lst _ => R (fun d => d == .lst) none
    | .tup _ => R (fun d => d == .tup) none
    | .dK _ => R (fun d => d == .dct) none
    | .dT _ => R (fun d => d == .dct) none
    | .ins C _ _ => Cls K C ∧ IsC K C ∧ R (fun _ => false) (some C)
    | _ => False
  | _ => False
theorem tyx_lst {K : PySem.W.Frag} {H : Hp} {a : Addr} {xs : List V} (h : SqL K H a xs) : TyX K H (.ref a) (.type "list") := by
  rcases h with (h | ⟨o, h⟩) | ⟨o, its, n, h1, h2, _⟩
  · exact .base (.lst h)
  · exact .base (.frz h)
  · exact .kList h1 h2
theorem tyx_tup {K : PySem.W.Frag} {H : Hp} {a : Addr} {xs : List V} (h : SqT K H a xs) : TyX K H (.ref a) (.type "tuple") := by
  rcases h with (h | ⟨o, h⟩) | ⟨o, its, n, h1, h2, _⟩
  · exact .base (.tup h)
  · exact .fTuple h
  · exact .kTuple h1 h2
theorem kdk : ∀ (t : String) (d : Kd), t ∈ ["NoneType", "int", "bool", "str", "list", "tuple", "dict"] → kitB t d.name = some (t == d.name || (t == "bool" && d == .int)) := by
  intro t d ht
  simp only [List.mem_cons, List.not_mem_nil, or_false] at ht
  rcases ht with rfl | rfl | rfl | rfl | rfl | rfl | rfl <;> cases d <;> decide +kernel
/-- the type t of x, and what each asked class says of it -/
theorem isO_ty {K : PySem.W.Frag} {x : V} {H : Hp} {R : (Kd → Bool) → Option Addr → Prop} (h : isO K x H R) : ∃ t f c, TyX K H x t ∧ R f c ∧ (∀ d : Kd, PySem.W.kitOne K t (.type d.name) = some (f d)) ∧
    ((c = none ∧ ∃ n, t = .type n ∧ n ∈ ["NoneType", "int", "bool", "str", "list", "tuple", "dict"]) ∨ ∃ C, c = some C ∧ t = .ref C ∧ IsC K C) := by
  have kk : ∀ n, n ∈ ["NoneType", "int", "bool", "str", "list", "tuple", "dict"] → ∀ f : Kd → Bool, (∀ d : Kd, (n == d.name || (n == "bool" && d == .int)) = f d) → ∀ d : Kd, PySem.W.kitOne K (.type n) (.type d.name) = some (f d) := fun n hn f hf d => by
    have e := kdk n d hn
    rw [hf d] at e
    exact kit_ty e
  cases x with
  | non => exact ⟨_, _, _, .base .non, h, kk "NoneType" (by decide) _ (fun d => by cases d <;> decide), .inl ⟨rfl, _, rfl, by decide⟩⟩
  | bl b => exact ⟨_, _, _, .base (.bl b), h, kk "bool" (by decide) _ (fun d => by cases d <;> rfl), .inl ⟨rfl, _, rfl, by decide⟩⟩
  | int i => exact ⟨_, _, _, .base (.int i), h, kk "int" (by decide) _ (fun d => by cases d <;> rfl), .inl ⟨rfl, _, rfl, by decide⟩⟩
  | str z => exact ⟨_, _, _, .base (.str z), h, kk "str" (by decide) _ (fun d => by cases d <;> rfl), .inl ⟨rfl, _, rfl, by decide⟩⟩
  | byt _ => exact h.elim
  | flt _ => exact h.elim
  | ty _ => exact h.elim
  | ref a =>
    obtain ⟨o, ho, h⟩ := h
    cases o with
    | lst xs => exact ⟨_, _, _, tyx_lst ho, h, kk "list" (by decide) _ (fun d => by cases d <;> rfl), .inl ⟨rfl, _, rfl, by decide⟩⟩
    | tup xs => exact ⟨_, _, _, tyx_tup ho, h, kk "tuple" (by decide) _ (fun d => by cases d <;> rfl), .inl ⟨rfl, _, rfl, by decide⟩⟩
    | dK kvs => exact ⟨_, _, _, .base (.dK ho), h, kk "dict" (by decide) _ (fun d => by cases d <;> rfl), .inl ⟨rfl, _, rfl, by decide⟩⟩
    | dT kvs => exact ⟨_, _, _, .base (.dT ho), h, kk "dict" (by decide) _ (fun d => by cases d <;> rfl), .inl ⟨rfl, _, rfl, by decide⟩⟩
    | ins C dx fs =>
      obtain ⟨c, ic, h⟩ := h
      exact ⟨_, _, _, .base (.ins ho c ic.ha ic.hn ic.htk ic.hm), h, ic.out, .inr ⟨C, rfl, rfl, ic⟩⟩
    | _ => exact h.elim
/-- isinstance(x, T) -/
def rIsiB (d : Kd) (K : PySem.W.Frag) : List V → Hp → VK → Prop := fun xs H Q => ∃ x, xs = [x, .ty d.name] ∧ isO K x H fun f _ => Q (.bl (f d)) H
/-- isinstance(x, (T, U)), the tuple just laid -/
def rIsiBs (ds : List Kd) (K : PySem.W.Frag) : List V → Hp → VK → Prop := fun xs H Q => ∃ x tp, xs = [x, .ref tp] ∧ H tp = some (.tup (ds.map fun d => .ty d.name)) ∧ isO K x H fun f _ => Q (.bl (ds.any f)) H
/-- isinstance(x, C), C of the text -/
def rIsiC (C : Addr) (K : PySem.W.Frag) : List V → Hp → VK → Prop := fun xs H Q => ∃ x, xs = [x, .ref C] ∧ isO K x H fun _ c => match c with
  | none => Q (.bl false) H
  | some D => ∃ b, PySem.W.kitOne K (.ref D) (.ref C) = some b ∧ Q (.bl b) H
section
variable {X : Cx}
theorem call_isiB (d : Kd) {K : PySem.W.Frag} (hK : X.K = K := by rfl) : CallR X (.builtin "isinstance") (rIsiB d K) := by
  subst hK
  intro pins s σ H xs us Q I r h
  obtain ⟨x, rfl, h⟩ := h
  obtain ⟨t, f, c, ty, q, k, _⟩ := isO_ty h
  exact call_isi pins s σ H _ us Q I r ⟨x, _, t, _, _, rfl, .ty _, ty, k d, q⟩
theorem kitAny_kds {K : PySem.W.Frag} {t : Value} {f : Kd → Bool} (k : ∀ d : Kd, PySem.W.kitOne K t (.type d.name) = some (f d)) : ∀ ds : List Kd, PySem.W.kitAny K t (ds.map fun d => .type d.name) = some (ds.any f)
  | [] => rfl
  | d :: ds => kitAny_cons (k d) (fun e => by rw [kitAny_kds k ds, List.any_cons, e]; rfl) (fun e => by rw [List.any_cons, e]; rfl)
theorem clsV_kds : ∀ ds : List Kd, Paired ClsV (ds.map fun d => V.ty d.name) (ds.map fun d => Value.type d.name)
  | [] => .nil
  | _ :: ds => .cons (.ty _) (clsV_kds ds)
theorem call_isiBs (ds : List Kd) {K : PySem.W.Frag} (hK : X.K = K := by rfl) : CallR X (.builtin "isinstance") (rIsiBs ds K) := by
  subst hK
  intro pins s σ H xs us Q I r h
  obtain ⟨x, tp, rfl, ht, h⟩ := h
  obtain ⟨t, f, c, ty, q, k, _⟩ := isO_ty h
  exact call_isiT pins s σ H _ us Q I r ⟨x, tp, _, t, _, _, rfl, ht, clsV_kds ds, ty, kitAny_kds k ds, q⟩
theorem call_isiC {C : Addr} {K : PySem.W.Frag} (ic : IsC K C) (hK : X.K = K := by rfl) : CallR X (.builtin "isinstance") (rIsiC C K) := by
  subst hK
  intro pins s σ H xs us Q I r h
  obtain ⟨x, rfl, h⟩ := h
  obtain ⟨t, f, c, ty, q, k, e⟩ := isO_ty h
  rcases e with ⟨rfl, n, rfl, hn⟩ | ⟨D, rfl, rfl, _⟩
  · exact call_isi pins s σ H _ us Q I r ⟨x, _, _, _, _, rfl, .own _, ty, ic.inn n hn, q⟩
  · obtain ⟨b, e, q⟩ := q
    exact call_isi pins s σ H _ us Q I r ⟨x, _, _, _, _, rfl, .own _, ty, e, q⟩
/-! ### rules of the layer, the written part named -/
theorem call_maxU (hc : X.calm = true) : CallR X (.builtin "max") (rMaxU) := call_max2 hc
theorem call_minU (hc : X.calm = true) : CallR X (.builtin "min") (rMinU) := call_min2 hc
theorem cr_allK {K : PySem.W.Frag} (hc : X.calm = true) (hK : X.K = K := by rfl) : CallR X (.builtin "all") (rAll K) := by
  subst hK
  exact cr_all hc
theorem cr_anyK {K : PySem.W.Frag} (hc : X.calm = true) (hK : X.K = K := by rfl) : CallR X (.builtin "any") (rAny K) := by
  subst hK
  exact cr_any hc
theorem cr_sumK {K : PySem.W.Frag} (hc : X.calm = true) (hK : X.K = K := by rfl) : CallR X (.builtin "sum") (rSum K) := by
  subst hK
  exact cr_sum hc
theorem cr_maxK {K : PySem.W.Frag} (hc : X.calm = true) (hK : X.K = K := by rfl) : CallR X (.builtin "max") (rMax K) := by
  subst hK
  exact cr_max hc
theorem cr_minK {K : PySem.W.Frag} (hc : X.calm = true) (hK : X.K = K := by rfl) : CallR X (.builtin "min") (rMin K) := by
  subst hK
  exact cr_min hc
theorem pi_listK {tg l : Expr} {tl : TE} {K : PySem.W.Frag} (hl : PE X l tl) (hK : X.K = K := by rfl) : PI X tg l (iList K tl) := by
  subst hK
  exact pi_list hl
theorem pi_tupK {tg l : Expr} {tl : TE} {K : PySem.W.Frag} (hl : PE X l tl) (hK : X.K = K := by rfl) : PI X tg l (iTup K tl) := by
  subst hK
  exact pi_tup hl
theorem pi_strK {tg l : Expr} {tl : TE} (hl : PE X l tl) : PI X tg l (iStr tl) := pi_str hl
theorem pg_tupK {es : List Expr} {k : Nat} {t : TGs} {n : Nat} {pos : Pos} {K : PySem.W.Frag} (hc : X.calm = true) (h : PGs X es t) (hK : X.K = K := by rfl)
    (hn : (assignEach es X.env).length = n := by rfl) (hst : (assignEach es X.env).findIdx? (·.1) = none := by rfl) : PG X (.Tuple es k pos) (gTup K n t) := by
  subst hK
  exact pg_tup hc h hn hst
theorem pe_fldK {e : Expr} {f : Str} {pos : Pos} {ta : TE} {K : PySem.W.Frag} (he : PE X e ta) (hK : X.K = K := by rfl) (hb : attributeBase e f X.env (eval e X.env) = eval e X.env := by rfl) : PE X (.Attribute e f pos) (tFld K ta f) := by
  subst hK
  exact pe_fld he hb
theorem ps_fldK {o value : Expr} {f : Str} {pos pos' : Pos} {ta tv : TE} {K : PySem.W.Frag} (ha : PE X o ta) (hv : PE X value tv) (hK : X.K = K := by rfl) (hs : swapsWith value (some (.Attribute o f pos')) pos.line X.env = pure false := by rfl) : PS X (.Assign [.Attribute o f pos'] value pos) (sFld K ta tv f) := by
  subst hK
  exact ps_fld ha hv hs
/-! ### names of the module, calls with defaults -/
theorem pe_globE {x : Str} {v : V} {pos : Pos} (hg : Gl X x) (hm : ∃ u, X.mg x = some u ∧ RelV v u) (hd : (x == ("__debug__" : Str)) = false := by decide) : PE X (.Name x pos) (tC v) := by
  obtain ⟨u, hm, r⟩ := hm
  exact pe_glob hg hm r hd
theorem pe_callD {CX : CXT} {k : Nat} {f : Addr} {fd : FuncData} {ps : List Str} {sp : Sp} {dvs : List V} {E : XK} {x : Str} {p pos : Pos} {e : Expr} {es : List Expr} {t : TA}
    (F : FnOk X.prog X.w X.K X.mg X.base CX k f fd ps sp) (hr : Room k X.A) (hg : Gl X x) (hm : X.mg x = some (.ref f)) (hk : PySem.W.keepIn X.K (.ref f) = true) (hb : ∃ ds, Vals dvs ds ∧ Binds X.K fd ps ds) (hx : Passes CX X E)
    (ha : PA X (e :: es) t) (hdb : (x == ("__debug__" : Str)) = false := by decide) (he : starEach (e :: es) X.env = (false, eval e X.env) :: starEach es X.env := by rfl) (hpl : (backTo pos (starEach es X.env)).any (·.1) = false := by rfl) :
    PE X (.Call (.Name x p) (e :: es) [] pos) (tCall sp dvs E t) := by
  obtain ⟨ds, hd, hb⟩ := hb
  exact pe_call F hr hg hm hk hb hd hx ha hdb he hpl
theorem pe_callNE {CX : CXT} {k n : Nat} {f : Addr} {fd : FuncData} {ps ks : List Str} {sp : Sp} {E : XK} {x : Str} {p pos : Pos} {e : Expr} {es : List Expr} {kws : List Keyword} {t tk : TA} {gV : List V → List V → List V}
    (F : FnOk X.prog X.w X.K X.mg X.base CX k f fd ps sp) (hr : Room k X.A) (hg : Gl X x) (hm : X.mg x = some (.ref f)) (hk : PySem.W.keepIn X.K (.ref f) = true) (hb : ∃ g, KBn X.K fd ps n ks g gV) (hx : Passes CX X E)
    (ha : PA X (e :: es) t) (hkw : PK X kws tk) (hall : (backToKw pos (keywordEach kws X.env)).all (·.1.isSome) = true := by rfl) (hks : (backToKw pos (keywordEach kws X.env)).filterMap (·.1) = ks := by rfl)
    (hdb : (x == ("__debug__" : Str)) = false := by decide) (he : starEach (e :: es) X.env = (false, eval e X.env) :: starEach es X.env := by rfl)
    (hpl : ((backTo pos (starEach (e :: es) X.env)).any (·.1) || (backToKw pos (keywordEach kws X.env)).any (·.1.isNone)) = false := by rfl) :
    PE X (.Call (.Name x p) (e :: es) kws pos) (tCallN n ks.length sp gV E t tk) := by
  obtain ⟨g, hb⟩ := hb
  exact pe_callN F hr hg hm hk hb hx ha hkw hall hks hdb he hpl
end
/-! ### what the top has left -/
theorem fund_mk {K : PySem.W.Frag} {x qual : Str} {st : Stmt} {f : Addr} {dvs : List V} {oc dV : Value} {od an : Option Addr} {osl : Array (Option Value)} {kV doc pm cdv ct : Value}
    (l : K.lookup f = some ⟨oc, od, .func (PySem.W.fnOf x qual (defArgs st) (defBody st) (defScope st) dV kV doc pm an cdv ct), osl⟩) (c : PySem.W.codeIn K cdv qual = true) (k : PySem.W.keepIn K (.ref f) = true) (d : DflV K dV dvs) :
    FunD K x qual (defArgs st) (defBody st) (defScope st) dvs [] f (PySem.W.fnOf x qual (defArgs st) (defBody st) (defScope st) dV kV doc pm an cdv ct) :=
  ⟨⟨oc, od, dV, kV, doc, pm, an, cdv, ct, osl, rfl, l, c, d, .inl rfl⟩, k⟩
theorem dfl_mk {K : PySem.W.Frag} {dV : Value} {T : Addr} {o : Obj} {its : List Value} {n : Nat} {dvs : List V} (e : dV = .ref T) (l : K.lookup T = some o) (hd : o.data = .seq its.toArray n) (r : Vals dvs its) (hn : dvs ≠ []) : DflV K dV dvs := .inr ⟨hn, T, o, its, n, e, l, hd, r⟩
section
variable {K : PySem.W.Frag} {x qual : Str} {st : Stmt} {dvs : List V} {f : Addr} {fd : FuncData} {ps : List Str}
/-- all parameters are written, no defaults stand -/
theorem fund_all0 (F : FunD K x qual (defArgs st) (defBody st) (defScope st) [] [] f fd)
    (h : ∀ (kV doc pm : Value) (an : Option Addr) (cdv ct : Value) (us : List Value), us.length = ps.length → bindArgs (PySem.W.fnOf x qual (defArgs st) (defBody st) (defScope st) .none kV doc pm an cdv ct) ⟨us, []⟩ = pure (ps.zip us)) : Binds K fd ps [] := F.bindsN h
/-- all parameters are written, and defaults stand -/
theorem fund_allD (F : FunD K x qual (defArgs st) (defBody st) (defScope st) dvs [] f fd) (hd : dvs ≠ [])
    (h : ∀ (T : Addr) (kV doc pm : Value) (an : Option Addr) (cdv ct : Value) (us its : List Value), us.length = ps.length → its.length = dvs.length →
      ∃ k, bindArgs (PySem.W.fnOf x qual (defArgs st) (defBody st) (defScope st) (.ref T) kV doc pm an cdv ct) ⟨us, []⟩ = seqItems? (.ref T) >>= k ∧ k (some its.toArray) = pure (ps.zip us)) : Binds K fd ps [] := by
  obtain ⟨ds, r, b⟩ := F.binds1 (ps := ps) ps.length dvs.length hd (by omega) (fun T kV doc pm an cdv ct us its h1 h2 => by
    obtain ⟨k, e1, e2⟩ := h T kV doc pm an cdv ct us its h1 h2
    refine ⟨k, e1, ?_⟩
    rw [e2, List.drop_eq_nil_of_le (Nat.le_of_eq h2), List.append_nil])
  have e : ds = [] := by
    have := r.length
    rw [List.drop_length] at this
    exact List.eq_nil_of_length_eq_zero this.symm
  rw [e] at b
  exact b
theorem Vals.pick {xs : List V} {us : List Value} (r : Vals xs us) : ∀ ix : List Nat, Vals (ix.filterMap fun i => xs[i]?) (ix.filterMap fun i => us[i]?)
  | [] => .nil
  | i :: ix => by
    rw [List.filterMap_cons, List.filterMap_cons]
    cases e : xs[i]? with
    | none =>
      rw [Vals.none_of r e]
      exact Vals.pick r ix
    | some y =>
      obtain ⟨u, e2, r2⟩ := Vals.get r e
      rw [e2]
      exact .cons r2 (Vals.pick r ix)
/-- keywords: the parameters picked from the written values, the keywords' values, the defaults -/
theorem fund_kw (F : FunD K x qual (defArgs st) (defBody st) (defScope st) dvs [] f fd) (n : Nat) (ks : List Str) (ix : List Nat) (hd : dvs ≠ [])
    (h : ∀ (T : Addr) (kV doc pm : Value) (an : Option Addr) (cdv ct : Value) (us ws its : List Value), us.length = n → ws.length = ks.length → its.length = dvs.length →
      ∃ k, bindArgs (PySem.W.fnOf x qual (defArgs st) (defBody st) (defScope st) (.ref T) kV doc pm an cdv ct) ⟨us, ks.zip ws⟩ = seqItems? (.ref T) >>= k ∧ k (some its.toArray) = pure (ps.zip (ix.filterMap fun i => (us ++ (ws ++ its))[i]?))) :
    ∃ g, KBn K fd ps n ks g (fun vs zs => ix.filterMap fun i => (vs ++ (zs ++ dvs))[i]?) := by
  obtain ⟨oc, od, dV, kV, doc, pm, an, cdv, ct, osl, rfl, lk, hcd, hD, hK⟩ := F.ex
  rcases hD with ⟨e, _⟩ | ⟨_, T, o, its, m, rfl, lT, oT, rT⟩
  · exact absurd e hd
  · refine ⟨fun us ws => ix.filterMap fun i => (us ++ (ws ++ its))[i]?, ⟨fun s us ws X l1 l2 => ?_, fun r1 r2 => Vals.pick (r1.append (r2.append rT)) ix⟩⟩
    obtain ⟨k, e1, e2⟩ := h T kV doc pm an cdv ct us ws its l1 l2 rT.length.symm
    refine BindsTo.of_looks fun M => ?_
    rw [e1]
    exact looks_items X lT oT (.of_pure e2)
theorem fund_kw0 (F : FunD K x qual (defArgs st) (defBody st) (defScope st) [] [] f fd) (n : Nat) (ks : List Str) (ix : List Nat)
    (h : ∀ (kV doc pm : Value) (an : Option Addr) (cdv ct : Value) (us ws : List Value), us.length = n → ws.length = ks.length →
      bindArgs (PySem.W.fnOf x qual (defArgs st) (defBody st) (defScope st) .none kV doc pm an cdv ct) ⟨us, ks.zip ws⟩ = pure (ps.zip (ix.filterMap fun i => (us ++ ws)[i]?))) :
    ∃ g, KBn K fd ps n ks g (fun vs zs => ix.filterMap fun i => (vs ++ zs)[i]?) := by
  obtain ⟨oc, od, dV, kV, doc, pm, an, cdv, ct, osl, rfl, lk, hcd, hD, hK⟩ := F.ex
  rcases hD with ⟨_, rfl⟩ | ⟨e, _⟩
  · refine ⟨fun us ws => ix.filterMap fun i => (us ++ ws)[i]?, ⟨fun s us ws X l1 l2 => ?_, fun r1 r2 => Vals.pick (r1.append r2) ix⟩⟩
    exact .of_eq (h kV doc pm an cdv ct us ws l1 l2)
  · exact absurd rfl e
end
/-! ### the heap -/
theorem get_upd {H : Hp} {a p : Addr} {o u : HO} (hp : H p = none) (h : H a = some o) : upd H p u a = some o := by
  rw [upd_ne (ne_of_none h hp)]
  exact h
theorem get_same {H H' : Hp} {a : Addr} {o : HO} (s : Same H H') (h : H a = some o) : H' a = some o := s a o h
theorem same_upd {H H' : Hp} {p : Addr} {u : HO} (s : Same H H') (hp : H' p = none) : Same H (upd H' p u) := fun _ _ e => get_upd hp (s _ _ e)
/-! ### comprehensions whose element gives a value of the item alone (none: it is left out) -/
theorem take_succ_get {α : Type} {xs : List α} {i : Nat} {x : α} (h : xs[i]? = some x) : xs.take (i + 1) = xs.take i ++ [x] := by
  rw [List.take_succ, h]
  rfl
theorem lc_fm {J : It} {G : Hp → Prop} {g : TG} {tt : TT} {te : TE} {vs : List Nat} {σ : St} {H1 : Hp} {D : Addr} {Qd : Hp → Prop} (xs : List V) (f : V → Option V) (w : Walk J xs.length G (YAt xs)) (hl : xs.length < sizeLine)
    (hG : ∀ H, Same H1 H → G H) (hD : H1 D = none)
    (hs : ∀ x ∈ xs, ∀ H (Q : VK) (R : Hp → Prop), Same H1 H → (∀ H', Same H H' → match f x with | some y => Q y H' | none => R H') → g x (wipe σ vs) H fun σ2 H2 => wipe σ2 vs = wipe σ vs ∧ tt σ2 H2 fun b H3 => if b = true then te σ2 H3 Q else R H3)
    (hd : ∀ H, Same H1 H → H D = some (.lst (xs.filterMap f)) → Qd H) :
    ∃ W : Nat → Nat → Hp → Prop, (∃ m, W 0 m (upd H1 D (.lst []))) ∧ ∀ i m H, W i m H →
      (J.stop i H ∧ Qd H) ∨ (J.go i H ∧ ∃ Nx : Hp → Prop, (∀ H', Nx H' → ∃ m', m' < m ∧ W (i + 1) m' H') ∧ ∀ x H', J.yld i H x H' → g x (wipe σ vs) H' fun σ2 H2 => wipe σ2 vs = wipe σ vs ∧ tt σ2 H2 fun b H3 =>
        if b = true then te σ2 H3 fun y H4 => ∃ acc, H4 D = some (.lst acc) ∧ acc.length < sizeLine ∧ Nx (upd H4 D (.lst (acc ++ [y]))) else Nx H3) := by
  refine lc_it w (fun i H => Same H1 H ∧ H D = some (.lst ((xs.take i).filterMap f))) ⟨same_upd (Same.refl H1) hD, upd_same⟩ (fun i H _ h => hG H h.1) ?_ (fun H h => ?_)
  · rintro i x H H' hi ⟨s1, e1⟩ ⟨rfl, hx⟩
    refine hs x (List.mem_of_getElem? hx) H' _ _ s1 fun H4 s4 => ?_
    have e4 := s4 _ _ e1
    have s14 := s1.trans s4
    cases ef : f x with
    | none =>
      refine ⟨s14, ?_⟩
      rw [take_succ_get hx, List.filterMap_append, List.filterMap_cons, ef]
      simpa using e4
    | some y =>
      refine ⟨_, e4, ?_, fun b o hb => ?_, ?_⟩
      · refine Nat.lt_of_le_of_lt (List.length_filterMap_le _ _) (Nat.lt_of_le_of_lt ?_ hl)
        rw [List.length_take]
        exact Nat.min_le_right _ _
      · rw [upd_ne (ne_of_none hb hD)]
        exact s14 _ _ hb
      · rw [upd_same, take_succ_get hx, List.filterMap_append, List.filterMap_cons, ef]
        rfl
  · rw [List.take_length] at h
    exact hd H h.1 h.2
theorem lc_map {J : It} {G : Hp → Prop} {g : TG} {tt : TT} {te : TE} {vs : List Nat} {σ : St} {H1 : Hp} {D : Addr} {Qd : Hp → Prop} (xs : List V) (f : V → V) (w : Walk J xs.length G (YAt xs)) (hl : xs.length < sizeLine)
    (hG : ∀ H, Same H1 H → G H) (hD : H1 D = none)
    (hs : ∀ x ∈ xs, ∀ H (Q : VK) (R : Hp → Prop), Same H1 H → (∀ H', Same H H' → Q (f x) H') → g x (wipe σ vs) H fun σ2 H2 => wipe σ2 vs = wipe σ vs ∧ tt σ2 H2 fun b H3 => if b = true then te σ2 H3 Q else R H3)
    (hd : ∀ H, Same H1 H → H D = some (.lst (xs.map f)) → Qd H) :
    ∃ W : Nat → Nat → Hp → Prop, (∃ m, W 0 m (upd H1 D (.lst []))) ∧ ∀ i m H, W i m H →
      (J.stop i H ∧ Qd H) ∨ (J.go i H ∧ ∃ Nx : Hp → Prop, (∀ H', Nx H' → ∃ m', m' < m ∧ W (i + 1) m' H') ∧ ∀ x H', J.yld i H x H' → g x (wipe σ vs) H' fun σ2 H2 => wipe σ2 vs = wipe σ vs ∧ tt σ2 H2 fun b H3 =>
        if b = true then te σ2 H3 fun y H4 => ∃ acc, H4 D = some (.lst acc) ∧ acc.length < sizeLine ∧ Nx (upd H4 D (.lst (acc ++ [y]))) else Nx H3) :=
  lc_fm xs (fun x => some (f x)) w hl hG hD (fun x hx H Q R s h => hs x hx H Q R s h) (fun H s e => hd H s (by rw [e, List.filterMap_eq_map']))
/-- the signs of a text as texts of one sign -/
def signs (z : Str) : List V := z.cps.toList.map fun c => .str ⟨#[c]⟩
theorem walk_signs {z : Str} : Walk (Its z) (signs z).length (fun _ => True) (YAt (signs z)) := by
  have e : (signs z).length = z.cps.size := by
    unfold signs
    rw [List.length_map]
    rfl
  rw [e]
  refine walk_str.mono (fun _ h => h) fun i H x H' _ _ ⟨h1, c, h2, h3⟩ => ⟨h1, ?_⟩
  unfold signs
  rw [List.getElem?_map, Array.getElem?_toList, h2, h3]
  rfl
/-- a for, item by item -/
def forW (G : Hp → Prop) (g : TG) (tb : TS) (D : Ends) : List V → St → Hp → Prop
  | [], σ, H => G H ∧ D.nx σ H
  | x :: xs, σ, H => G H ∧ g x σ H fun σ2 H2 => tb { D with nx := forW G g tb D xs, ct := forW G g tb D xs, bk := D.nx } σ2 H2
theorem forW_G {G : Hp → Prop} {g : TG} {tb : TS} {D : Ends} : ∀ {xs : List V} {σ : St} {H : Hp}, forW G g tb D xs σ H → G H
  | [], _, _, h => h.1
  | _ :: _, _, _, h => h.1
theorem for_W {J : It} {G : Hp → Prop} {g : TG} {tb : TS} {D : Ends} {σ : St} {H : Hp} (xs : List V) (w : Walk J xs.length G (YAt xs)) (h : forW G g tb D xs σ H) :
    ∃ W : Nat → Nat → St → Hp → Prop, (∃ m, W 0 m σ H) ∧ ∀ i m σ H, W i m σ H →
      (J.stop i H ∧ D.nx σ H) ∨ (J.go i H ∧ ∃ N : St → Hp → Prop, (∀ σ' H', N σ' H' → ∃ m', m' < m ∧ W (i + 1) m' σ' H') ∧ ∀ x H', J.yld i H x H' → g x σ H' fun σ2 H2 => tb { D with nx := N, ct := N, bk := D.nx } σ2 H2) := by
  refine ⟨fun i m σ H => i ≤ xs.length ∧ m = xs.length - i ∧ forW G g tb D (xs.drop i) σ H, ⟨_, Nat.zero_le _, rfl, h⟩, ?_⟩
  rintro i m σ H ⟨hi, rfl, h⟩
  by_cases c : i = xs.length
  · subst c
    rw [List.drop_length] at h
    exact .inl ⟨w.stops H h.1, h.2⟩
  · have hi' : i < xs.length := by omega
    refine .inr ⟨w.goes i H hi' (forW_G h), forW G g tb D (xs.drop (i + 1)), fun σ' H' q => ⟨xs.length - (i + 1), by omega, by omega, rfl, q⟩, fun x H' hy => ?_⟩
    obtain ⟨rfl, hx⟩ := w.yields i H x H' hi' (forW_G h) hy
    rw [List.drop_eq_getElem_cons hi'] at h
    obtain ⟨_, rfl⟩ := List.getElem?_eq_some_iff.mp hx
    exact h.2
/-! ### a def of which nothing raised leaves -/
theorem fund_ok0 {P : Program} {w : World} {K : PySem.W.Frag} {mg : Str → Option Value} {base : Heap} {x qual : Str} {params : Arguments} {body : List Stmt} {scope : Scope} {dvs : List V} {f : Addr} {fd : FuncData} {N ps : List Str} {k : Nat} {sp : Sp}
    (F : FunD K x qual params body scope dvs [] f fd) (S : FnScope N ps scope) (len : ∀ vs H Q E, sp vs H Q E → vs.length = ps.length)
    (hbody : ∀ (cdv : Value) (A : Around) (outer : List Env) (s : Shared) (H : Hp) (vs : List V) (Q : VK) (E : XK), Room k (A.deeper (PyProof.Rows.envOfC qual scope s.heap.objs.size f cdv)) → sp vs H Q E →
      ∃ t, PSs (cxOf CX0 P w K mg base N qual scope f cdv A outer s H E).nox body t ∧ t { nx := fun _ H' => Q .non H', rt := Q } (start N vs) H) : FnOk P w K mg base CX0 (k + 1) f fd ps sp :=
  F.ok S len fun cdv A outer s H vs Q E hr h => let ⟨t, h1, h2⟩ := hbody cdv A outer s H vs Q E hr h; ⟨t, h1.nox, h2⟩
/-! ### one step of a reading -/
section
variable {D : Ends} {σ : St} {H : Hp} {Q : VK} {K : PySem.W.Frag} {t u : TS} {ta tb te to tl : TE} {tc td : TT} {TQ : Bool → Hp → Prop} {A : TA} {AQ : List V → Hp → Prop} {g : TG} {gs : TGs} {GQ : St → Hp → Prop} {r r' : R2} {v x y : V} {i : Nat}
theorem i_seq (h : t { D with nx := u D } σ H) : tSeq t u D σ H := h
theorem i_ifS (h : tc σ H fun b H1 => if b = true then t D σ H1 else u D σ H1) : tIfS tc t u D σ H := h
theorem i_ret (h : te σ H D.rt) : tRet te D σ H := h
theorem i_retN (h : D.rt .non H) : tRetN D σ H := h
theorem i_next (h : D.nx σ H) : tNext D σ H := h
theorem i_brk (h : D.bk σ H) : tBreak D σ H := h
theorem i_cont (h : D.ct σ H) : tCont D σ H := h
theorem i_asg (h : te σ H fun x H1 => g x σ H1 D.nx) : tAsg te g D σ H := h
theorem i_drop (h : te σ H fun _ H1 => D.nx σ H1) : tDrop te D σ H := h
theorem i_name (h : GQ (σ.set i (some v)) H) : gName i v σ H GQ := h
theorem i_sub {ti : TE} {ts : TSet} (h : to σ H fun o H1 => ti σ H1 fun i H2 => ts o i v H2 fun H3 => GQ σ H3) : gSub to ti ts v σ H GQ := h
theorem i_tupT {n : Nat} {a : Addr} {xs : List V} (h1 : SqT K H a xs) (h2 : xs.length = n) (h3 : gs xs σ H GQ) : gTup K n gs (.ref a) σ H GQ := ⟨a, xs, rfl, h1, h2, h3⟩
theorem i_gnil (h : GQ σ H) : gNil [] σ H GQ := ⟨rfl, h⟩
theorem i_gcons {vs : List V} (h : g v σ H fun σ' H' => gs vs σ' H' GQ) : gCons g gs (v :: vs) σ H GQ := ⟨v, vs, rfl, h⟩
theorem i_setL {p : Addr} {xs : List V} {k : Int} {j : Nat} {HQ : Hp → Prop} (h1 : H p = some (.lst xs)) (h2 : ixN xs.length k = some j) (h3 : HQ (upd H p (.lst (xs.set j v)))) : rSetL (.ref p) (.int k) v H HQ := ⟨p, xs, k, j, rfl, rfl, h1, h2, h3⟩
theorem i_test (h : te σ H fun x H' => ∃ k, x = .bl k ∧ TQ k H') : tTest te σ H TQ := h
theorem i_tB (h : te σ H fun x H' => ∃ k, x = .bl k ∧ TQ k H') : tB te σ H TQ := h
theorem i_bl {b : Bool} {R : Bool → Prop} (h : R b) : ∃ k, V.bl b = .bl k ∧ R k := ⟨b, rfl, h⟩
theorem i_not (h : tc σ H fun c H1 => TQ (!c) H1) : tNot tc σ H TQ := h
theorem i_and (h : tc σ H fun c H1 => if c = true then td σ H1 TQ else TQ false H1) : tAnd tc td σ H TQ := h
theorem i_or (h : tc σ H fun c H1 => if c = true then TQ true H1 else td σ H1 TQ) : tOr tc td σ H TQ := h
theorem i_andV (h : ta σ H fun x H1 => ∃ c, x = .bl c ∧ if c = true then tb σ H1 Q else Q (.bl false) H1) : tAndV ta tb σ H Q := h
theorem i_orV (h : ta σ H fun x H1 => ∃ c, x = .bl c ∧ if c = true then Q (.bl true) H1 else tb σ H1 Q) : tOrV ta tb σ H Q := h
theorem i_notV (h : ta σ H fun x H1 => ∃ c, x = .bl c ∧ Q (.bl (!c)) H1) : tNotV ta σ H Q := h
theorem i_if (h : tc σ H fun c H1 => if c = true then ta σ H1 Q else tb σ H1 Q) : tIf tc ta tb σ H Q := h
theorem i_var (h1 : σ[i]? = some (some v)) (h2 : Q v H) : tVar i σ H Q := ⟨v, h1, h2⟩
theorem i_c (h : Q v H) : tC v σ H Q := h
theorem i_op (h : ta σ H fun x H1 => tb σ H1 fun y H2 => r x y H2 Q) : tOp r ta tb σ H Q := h
theorem i_un {r1 : V → Hp → VK → Prop} (h : ta σ H fun x H1 => r1 x H1 Q) : tUn r1 ta σ H Q := h
theorem i_rU {f : Int → V} {n : Int} (h : Q (f n) H) : rU f (.int n) H Q := ⟨n, rfl, h⟩
theorem i_rI {C : Int → Int → Prop} {f : Int → Int → V} {n m : Int} (h1 : C n m) (h2 : Q (f n m) H) : rI C f (.int n) (.int m) H Q := ⟨n, m, rfl, rfl, h1, h2⟩
theorem i_rI0 {f : Int → Int → V} {n m : Int} (h2 : Q (f n m) H) : rI0 f (.int n) (.int m) H Q := ⟨n, m, rfl, rfl, h2⟩
theorem i_chain (h : ta σ H fun x H1 => tb σ H1 fun y H2 => r x y H2 fun z H3 => ∃ k, z = .bl k ∧ (if k = true then te σ H3 fun w' H4 => r' y w' H4 Q else Q (.bl false) H3)) : tChain r r' ta tb te σ H Q := h
theorem i_addI {n m : Int} (h : Q (.int (n + m)) H) : rAddU K (.int n) (.int m) H Q := h
theorem i_addS {n m : Str} (h1 : n.length + m.length ≤ sizeLine) (h : Q (.str (n ++ m)) H) : rAddU K (.str n) (.str m) H Q := ⟨h1, h⟩
theorem i_addL {p q : Addr} {xs ys : List V} (h1 : H p = some (.lst xs)) (h2 : H q = some (.lst ys)) (h3 : xs.length + ys.length ≤ sizeLine) (h : ∀ b, H b = none → Q (.ref b) (upd H b (.lst (xs ++ ys)))) : rAddU K (.ref p) (.ref q) H Q := .inl ⟨xs, ys, h1, h2, h3, h⟩
theorem i_addT {p q : Addr} {xs ys : List V} (h1 : SqT K H p xs) (h2 : SqT K H q ys) (h0 : xs ≠ []) (h3 : xs.length + ys.length ≤ sizeLine) (e : ys = [] → Q (.ref p) H) (h : ys ≠ [] → ∀ b, H b = none → Q (.ref b) (upd H b (.tup (xs ++ ys)))) : rAddU K (.ref p) (.ref q) H Q :=
  .inr ⟨p, q, xs, ys, rfl, rfl, h1, h2, h0, h3, e, h⟩
theorem i_mulI {n m : Int} (h1 : CMulW n m) (h : Q (.int (n * m)) H) : rMulU (.int n) (.int m) H Q := ⟨h1, h⟩
theorem i_eqS {b : Bool} (h1 : eqS x y = some b) (h : Q (.bl b) H) : rEqU K x y H Q := by
  unfold rEqU
  rw [h1]
  exact h
theorem i_neS {b : Bool} (h1 : eqS x y = some b) (h : Q (.bl (!b)) H) : rNeU K x y H Q := by
  unfold rNeU
  rw [h1]
  exact h
theorem i_eqD {a' b' : PyData} (h0 : eqS x y = none) (h1 : Dp K H x a') (h2 : Dp K H y b') (h3 : SeqAt.shaped a' = true) (h4 : SeqAt.shaped b' = true) (h : Q (.bl (PyData.eqv a' b')) H) : rEqU K x y H Q := by
  unfold rEqU
  rw [h0]
  exact ⟨a', b', h1, h2, h3, h4, h⟩
theorem i_neD {a' b' : PyData} (h0 : eqS x y = none) (h1 : Dp K H x a') (h2 : Dp K H y b') (h3 : SeqAt.shaped a' = true) (h4 : SeqAt.shaped b' = true) (h : Q (.bl (!PyData.eqv a' b')) H) : rNeU K x y H Q := by
  unfold rNeU
  rw [h0]
  exact ⟨a', b', h1, h2, h3, h4, h⟩
theorem i_isB {a' b' : Bool} (h : Q (.bl (decide (a' = b'))) H) : rIsU (.bl a') (.bl b') H Q := h
theorem i_isN (h : Q (.bl (decide (x = .non))) H) : rIsU x .non H Q := by cases x <;> exact h
theorem i_isnB {a' b' : Bool} (h : Q (.bl (!decide (a' = b'))) H) : rIsnU (.bl a') (.bl b') H Q := h
theorem i_isnN (h : Q (.bl (!decide (x = .non))) H) : rIsnU x .non H Q := by cases x <;> exact h
theorem i_inS {c : Nat} {z : Str} (h : Q (.bl (decide (c ∈ z.cps.toList))) H) : rInU K (.str ⟨#[c]⟩) (.str z) H Q := ⟨c, rfl, h⟩
theorem i_ixL {p : Addr} {xs : List V} {n : Int} {w' : V} (h1 : SqL K H p xs) (h2 : atI xs n = some w') (h : Q w' H) : rIxU K (.ref p) (.int n) H Q := ⟨xs, w', .inl h1, h2, h⟩
theorem i_ixT {p : Addr} {xs : List V} {n : Int} {w' : V} (h1 : SqT K H p xs) (h2 : atI xs n = some w') (h : Q w' H) : rIxU K (.ref p) (.int n) H Q := ⟨xs, w', .inr h1, h2, h⟩
theorem i_ixS {z : Str} {n : Int} {c : Nat} (h0 : z.length ≤ sizeLine) (h2 : atI z.cps.toList n = some c) (h : Q (.str ⟨#[c]⟩) H) : rIxU K (.str z) (.int n) H Q := ⟨h0, c, h2, h⟩
theorem i_sl {rs : V → Option Int → Option Int → Hp → VK → Prop} {tl th : TO} (h : te σ H fun x H1 => tl σ H1 fun l H2 => th σ H2 fun u H3 => rs x l u H3 Q) : tSl rs te tl th σ H Q := h
theorem i_slS {z : Str} {lo hi : Option Int} (h0 : z.length ≤ sizeLine) (h : Q (.str (cutS z lo hi)) H) : rSlU K (.str z) lo hi H Q := ⟨h0, h⟩
theorem i_slL {p : Addr} {xs : List V} {lo hi : Option Int} (h0 : SqL K H p xs) (h : ∀ b, H b = none → Q (.ref b) (upd H b (.lst (cutV xs lo hi)))) : rSlU K (.ref p) lo hi H Q := .inl ⟨p, xs, rfl, h0, h⟩
theorem i_po0 {OQ : Option Int → Hp → Prop} (h : OQ none H) : tNoPart σ H OQ := h
theorem i_po1 {OQ : Option Int → Hp → Prop} (h : te σ H fun x H1 => ∃ i, x = .int i ∧ OQ (some i) H1) : tPart te σ H OQ := h
theorem i_poI {R : Int → Prop} {n : Int} (h : R n) : ∃ i, V.int n = .int i ∧ R i := ⟨n, rfl, h⟩
theorem i_lst (h : A σ H fun xs H1 => xs.length ≤ sizeLine ∧ ∀ p, H1 p = none → Q (.ref p) (upd H1 p (.lst xs))) : tLst A σ H Q := h
theorem i_tup (h : A σ H fun xs H1 => xs.length ≤ sizeLine ∧ ∀ p, H1 p = none → Q (.ref p) (upd H1 p (.tup xs))) : tTup A σ H Q := h
theorem i_new {n : Nat} {R : Addr → Prop} (h1 : n ≤ 1000) (h : ∀ p, H p = none → R p) : n ≤ sizeLine ∧ ∀ p, H p = none → R p := ⟨Nat.le_of_lt (small1000 h1), h⟩
theorem i_nil (h : AQ [] H) : tNil σ H AQ := h
theorem i_cons (h : te σ H fun x H1 => A σ H1 fun xs H2 => AQ (x :: xs) H2) : tCons te A σ H AQ := h
theorem i_cB {rb : List V → Hp → VK → Prop} (h : A σ H fun vs H1 => rb vs H1 Q) : tCB rb A σ H Q := h
theorem i_call {sp : Sp} {dvs : List V} {E : XK} (h : A σ H fun vs H1 => sp (vs ++ dvs) H1 Q E) : tCall sp dvs E A σ H Q := h
theorem i_callN {n m : Nat} {sp : Sp} {gV : List V → List V → List V} {E : XK} {B : TA} (h : A σ H fun vs H1 => B σ H1 fun zs H2 => vs.length = n ∧ zs.length = m ∧ sp (gV vs zs) H2 Q E) : tCallN n m sp gV E A B σ H Q := h
theorem i_lenS {z : Str} (h0 : z.length ≤ sizeLine) (h : Q (.int z.length) H) : rLenU K [.str z] H Q := ⟨_, _, rfl, ⟨h0, rfl⟩, h⟩
theorem i_lenL {p : Addr} {xs : List V} (h0 : SqL K H p xs) (h : Q (.int xs.length) H) : rLenU K [.ref p] H Q := ⟨_, _, rfl, .inl ⟨xs, h0, rfl⟩, h⟩
theorem i_lenT {p : Addr} {xs : List V} (h0 : SqT K H p xs) (h : Q (.int xs.length) H) : rLenU K [.ref p] H Q := ⟨_, _, rfl, .inr ⟨xs, h0, rfl⟩, h⟩
theorem i_isiB {d : Kd} (h1 : y = .ty d.name) (h : isO K x H fun f _ => Q (.bl (f d)) H) : rIsiB d K [x, y] H Q := ⟨x, by rw [h1], h⟩
theorem i_isiBs {ds : List Kd} {p : Addr} (h0 : H p = some (.tup (ds.map fun d => .ty d.name))) (h : isO K x H fun f _ => Q (.bl (ds.any f)) H) : rIsiBs ds K [x, .ref p] H Q := ⟨x, p, rfl, h0, h⟩
theorem i_all {p : Addr} {bs : List Bool} (h0 : SqL K H p (bs.map V.bl)) (h : Q (.bl (bs.all id)) H) : rAll K [.ref p] H Q := ⟨p, bs, rfl, h0, h⟩
theorem i_isoN {R : (Kd → Bool) → Option Addr → Prop} (h : R (fun _ => false) none) : isO K .non H R := h
theorem i_isoB {R : (Kd → Bool) → Option Addr → Prop} {b : Bool} (h : R (fun d => d == .int || d == .bl) none) : isO K (.bl b) H R := h
theorem i_isoI {R : (Kd → Bool) → Option Addr → Prop} {n : Int} (h : R (fun d => d == .int) none) : isO K (.int n) H R := h
theorem i_isoS {R : (Kd → Bool) → Option Addr → Prop} {z : Str} (h : R (fun d => d == .str) none) : isO K (.str z) H R := h
theorem i_isoL {R : (Kd → Bool) → Option Addr → Prop} {p : Addr} {xs : List V} (h0 : SqL K H p xs) (h : R (fun d => d == .lst) none) : isO K (.ref p) H R := ⟨.lst xs, h0, h⟩
theorem i_isoT {R : (Kd → Bool) → Option Addr → Prop} {p : Addr} {xs : List V} (h0 : SqT K H p xs) (h : R (fun d => d == .tup) none) : isO K (.ref p) H R := ⟨.tup xs, h0, h⟩
/-- of an object: it is none of int, bool, str -/
theorem i_isoR {R : (Kd → Bool) → Option Addr → Prop} {p : Addr} (kn : Kn K H (.ref p)) (h : ∀ f c, f .int = false → f .bl = false → f .str = false → R f c) : isO K (.ref p) H R := by
  obtain ⟨o, ho, k⟩ := kn
  refine ⟨o, ho, ?_⟩
  cases o <;> first | exact h _ _ rfl rfl rfl | exact ⟨k.1, k.2, h _ _ rfl rfl rfl⟩ | exact k.elim
theorem i_dec {p : Prop} [Decidable p] {A' B' : Prop} (h1 : p → A') (h2 : ¬ p → B') : if decide p = true then A' else B' := by
  by_cases h : p
  · rw [if_pos (decide_eq_true h)]
    exact h1 h
  · rw [if_neg (by rw [decide_eq_false h]; exact Bool.false_ne_true)]
    exact h2 h
theorem i_decT {p : Prop} [Decidable p] {A' B' : Prop} (h : p) (h1 : A') : if decide p = true then A' else B' := i_dec (fun _ => h1) (fun z => absurd h z)
theorem i_decF {p : Prop} [Decidable p] {A' B' : Prop} (h : ¬ p) (h1 : B') : if decide p = true then A' else B' := i_dec (fun z => absurd z h) (fun _ => h1)
theorem i_ifN {b : Bool} {A' B' : Prop} (h : if b = true then B' else A') : if (!b) = true then A' else B' := by cases b <;> exact h
theorem i_ifAnd {b c : Bool} {A' B' : Prop} (h : if b = true then (if c = true then A' else B') else B') : if (b && c) = true then A' else B' := by cases b <;> exact h
theorem i_isIf {c A' B' : Prop} [Decidable c] (h : if c then A' else B') : if c then A' else B' := h
theorem i_tT {b : Bool} {A' B' : Prop} (h : b = true) (h1 : A') : if b = true then A' else B' := by rw [h]; exact h1
theorem i_tF {b : Bool} {A' B' : Prop} (h : b = false) (h1 : B') : if b = true then A' else B' := by rw [h]; exact h1
theorem i_boo {b : Bool} {A' B' : Prop} (h1 : b = true → A') (h2 : b = false → B') : if b = true then A' else B' := by cases b <;> first | exact h1 rfl | exact h2 rfl
end
/-! ### loops and comprehensions, up to the loop's own question -/
section
variable {D : Ends} {σ : St} {H : Hp} {Q : VK} {K : PySem.W.Frag} {tb : TS} {te : TE} {wi : TI} {g : TG} {A : TA} {R : It → Hp → Prop}
theorem i_for (h : wi σ H fun J H1 => ∃ W : Nat → Nat → St → Hp → Prop, (∃ m, W 0 m σ H1) ∧ ∀ i m σ H, W i m σ H →
  (J.stop i H ∧ D.nx σ H) ∨ (J.go i H ∧ ∃ N : St → Hp → Prop, (∀ σ' H', N σ' H' → ∃ m', m' < m ∧ W (i + 1) m' σ' H') ∧ ∀ x H', J.yld i H x H' → g x σ H' fun σ2 H2 => tb { D with nx := N, ct := N, bk := D.nx } σ2 H2)) : tFor wi g tb D σ H := h
theorem i_lc {tt : TT} {vs : List Nat} (h : wi σ H fun J H1 => ∀ D, H1 D = none → ∃ W : Nat → Nat → Hp → Prop, (∃ m, W 0 m (upd H1 D (.lst []))) ∧ ∀ i m H, W i m H →
  (J.stop i H ∧ Q (.ref D) H) ∨ (J.go i H ∧ ∃ Nx : Hp → Prop, (∀ H', Nx H' → ∃ m', m' < m ∧ W (i + 1) m' H') ∧ ∀ x H', J.yld i H x H' → g x (wipe σ vs) H' fun σ2 H2 => wipe σ2 vs = wipe σ vs ∧ tt σ2 H2 fun b H3 =>
    if b = true then te σ2 H3 fun y H4 => ∃ acc, H4 D = some (.lst acc) ∧ acc.length < sizeLine ∧ Nx (upd H4 D (.lst (acc ++ [y]))) else Nx H3)) : tLc wi g tt te vs σ H Q := h
theorem i_iStr (h : te σ H fun v H1 => ∃ x, v = .str x ∧ R (Its x) H1) : iStr te σ H R := h
theorem i_itS {z : Str} {R : Str → Prop} (h : R z) : ∃ x, V.str z = .str x ∧ R x := ⟨z, rfl, h⟩
theorem i_iList (h : te σ H fun x H1 => ∃ a, x = .ref a ∧ (∃ xs, SqL K H1 a xs) ∧ R (Itl K a) H1) : iList K te σ H R := h
theorem i_iTup (h : te σ H fun x H1 => ∃ a, x = .ref a ∧ (∃ xs, SqT K H1 a xs) ∧ R (Itt K a) H1) : iTup K te σ H R := h
theorem i_itL {a : Addr} {xs : List V} {R : Addr → Prop} (h0 : SqL K H a xs) (h : R a) : ∃ b, V.ref a = .ref b ∧ (∃ xs, SqL K H b xs) ∧ R b := ⟨a, rfl, ⟨xs, h0⟩, h⟩
theorem i_itT {a : Addr} {xs : List V} {R : Addr → Prop} (h0 : SqT K H a xs) (h : R a) : ∃ b, V.ref a = .ref b ∧ (∃ xs, SqT K H b xs) ∧ R b := ⟨a, rfl, ⟨xs, h0⟩, h⟩
theorem i_iR1 (h : A σ H fun vs H1 => ∃ j : Int, vs = [.int j] ∧ -(2 ^ 62) ≤ j ∧ j < 2 ^ 62 ∧ R (Itr 0 j.toNat) H1) : iRng1 A σ H R := h
theorem i_r1 {j : Int} {R : Int → Prop} (h0 : -(2 ^ 62) ≤ j ∧ j < 2 ^ 62) (h : R j) : ∃ i, [V.int j] = [.int i] ∧ -(2 ^ 62) ≤ i ∧ i < 2 ^ 62 ∧ R i := ⟨j, rfl, h0.1, h0.2, h⟩
theorem i_forC {G : Hp → Prop} {x : V} {xs : List V} (h1 : G H) (h2 : g x σ H fun σ2 H2 => tb { D with nx := forW G g tb D xs, ct := forW G g tb D xs, bk := D.nx } σ2 H2) : forW G g tb D (x :: xs) σ H := ⟨h1, h2⟩
theorem i_forN {G : Hp → Prop} (h1 : G H) (h2 : D.nx σ H) : forW G g tb D [] σ H := ⟨h1, h2⟩
end
theorem cast_bl {Q : VK} {H : Hp} {b c : Bool} (k : Q (.bl b) H) (e : b = c) : Q (.bl c) H := e ▸ k
theorem cast_v {Q : VK} {H : Hp} {b c : V} (k : Q b H) (e : b = c) : Q c H := e ▸ k
theorem atI_in {α : Type} {xs : List α} {r : Int} (h0 : 0 ≤ r) (h1 : r < xs.length) : ∃ v, v ∈ xs ∧ xs[r.toNat]? = some v ∧ atI xs r = some v := by
  obtain ⟨n, rfl⟩ : ∃ n : Nat, r = n := ⟨r.toNat, by omega⟩
  have h : n < xs.length := by omega
  exact ⟨xs[n], List.getElem_mem h, by simp [h], atI_nat (by simp [h])⟩
/-- an object's class stays known -/
theorem Rd.same {H H' : Hp} {a : Addr} {u : HO} (s : Same H H') (r : Rd H a u) : Rd H' a u := by
  rcases r with h | ⟨o, h⟩
  · exact .inl (s _ _ h)
  · exact .inr ⟨o, s _ _ h⟩
theorem SqT.same {K : PySem.W.Frag} {H H' : Hp} {a : Addr} {xs : List V} (s : Same H H') (h : SqT K H a xs) : SqT K H' a xs := by
  rcases h with h | h
  · exact .inl (Rd.same s h)
  · exact .inr h
theorem Obs.same {K : PySem.W.Frag} {H H' : Hp} {a : Addr} {o : HO} (s : Same H H') (h : Obs K H a o) : Obs K H' a o := by
  cases o with
  | lst xs => exact Same.seq s h
  | tup xs => exact SqT.same s h
  | _ => exact s _ _ h
theorem Kn.same {K : PySem.W.Frag} {H H' : Hp} {x : V} (s : Same H H') (h : Kn K H x) : Kn K H' x := by
  cases x <;> first | exact h | skip
  obtain ⟨o, ho, k⟩ := h
  exact ⟨o, ho.same s, k⟩
theorem Kn.of {K : PySem.W.Frag} {H : Hp} {a : Addr} {o : HO} (h : H a = some o) (k : KnO K o) : Kn K H (.ref a) := ⟨o, .of h, k⟩
theorem i_yes {σ : St} {H : Hp} {TQ : Bool → Hp → Prop} (h : TQ true H) : tYes σ H TQ := h
theorem i_wipe {σ σ' : St} {vs : List Nat} {R : Prop} (h1 : wipe σ vs = wipe σ' vs) (h : R) : wipe σ vs = wipe σ' vs ∧ R := ⟨h1, h⟩
/-- is x one sign of z -/
def sgIn (z : Str) : V → Bool
  | .str y => match y.cps.toList with
    | [c] => decide (c ∈ z.cps.toList)
    | _ => false
  | _ => false
theorem signs_all (z u : Str) : ((signs u).map fun x => sgIn z x).all id = u.cps.toList.all fun c => decide (c ∈ z.cps.toList) := by
  unfold signs
  rw [List.map_map, List.all_map]
  rfl
theorem mulW {i j : Int} (hi : i.natAbs < 2 ^ 400) (hj : j.natAbs < 2 ^ 400) : CMulW i j := wide_mul hi hj (by decide) (by decide) (by decide)
theorem mulW64 {i j : Int} (hi : i.natAbs < 18446744073709551616) (hj : j.natAbs < 18446744073709551616) : CMulW i j := wide_mul (a := 64) (b := 64) hi hj (by decide) (by decide) (by decide)
theorem cpow {i j : Int} (h0 : 0 ≤ j) (h1 : j ≤ 1000000) (hi : i.natAbs < 18446744073709551616) : CPow i j := ⟨h0, h1, hi⟩
/-- all but what stands at p is kept -/
def SameBut (p : Addr) (H H' : Hp) : Prop := ∀ b o, b ≠ p → H b = some o → H' b = some o
theorem SameBut.refl (p : Addr) (H : Hp) : SameBut p H H := fun _ _ _ h => h
theorem SameBut.trans {p : Addr} {H H1 H2 : Hp} (a : SameBut p H H1) (b : SameBut p H1 H2) : SameBut p H H2 := fun c o n h => b c o n (a c o n h)
theorem SameBut.of {p : Addr} {H H' : Hp} (s : Same H H') : SameBut p H H' := fun b o _ h => s b o h
theorem SameBut.upd (p : Addr) (H : Hp) (o : HO) : SameBut p H (upd H p o) := fun b u n h => by
  rw [upd_ne n]
  exact h
theorem SameBut.new {p q : Addr} {H H' : Hp} {o : HO} (s : SameBut p H H') (h : H' q = none) : SameBut p H (L2.upd H' q o) := fun b u n e => get_upd h (s b u n e)
theorem SameBut.at {p : Addr} {H H' : Hp} {o : HO} (s : SameBut p H H') : SameBut p H (L2.upd H' p o) := s.trans (SameBut.upd p H' o)
/-- what was new ahead is not lost -/
theorem SameBut.same {p : Addr} {H H' : Hp} (s : SameBut p H H') (h : H p = none) : Same H H' := fun b o e => s b o (ne_of_none e h) e
theorem get_but {p : Addr} {H H' : Hp} {a : Addr} {o : HO} (s : SameBut p H H') (n : a ≠ p) (h : H a = some o) : H' a = some o := s a o n h
theorem get_ne {H : Hp} {a p : Addr} {o u : HO} (n : a ≠ p) (h : H a = some o) : upd H p u a = some o := by
  rw [upd_ne n]
  exact h
theorem str_pos {t : Str} (h : ¬ t = "") : 0 < t.length := by
  rcases Nat.eq_zero_or_pos t.length with e | e
  · refine absurd ?_ h
    cases t with
    | mk c =>
      have : c = #[] := Array.eq_empty_of_size_eq_zero e
      rw [this]
      rfl
  · exact e
theorem str_len (t : Str) : t.cps.toList.length = t.length := rfl
theorem len_app (a b : Str) : (a ++ b).length = a.length + b.length := by
  show (a.cps ++ b.cps).size = _
  rw [Array.size_append]
  rfl
theorem line_le {n : Nat} (h : n ≤ 1000) : n ≤ sizeLine := Nat.le_of_lt (small1000 h)
theorem pool_next (z X : Int) (q : Nat) (h0 : 0 ≤ z) (h1 : z.natAbs < q) : 0 ≤ z * 2147483629 + X % 2147483629 ∧ (z * 2147483629 + X % 2147483629).natAbs < q * 2147483648 := by omega
theorem i_maxU {m n : Int} {H : Hp} {Q : VK} (h : Q (.int (maxP m n)) H) : rMaxU [.int m, .int n] H Q := ⟨m, n, rfl, h⟩
theorem i_minU {m n : Int} {H : Hp} {Q : VK} (h : Q (.int (minP m n)) H) : rMinU [.int m, .int n] H Q := ⟨m, n, rfl, h⟩
theorem bT {b : Bool} (e : b = true) : ¬ b = false := by rw [e]; decide
theorem bF {b : Bool} (e : ¬ b = true) : b = false := by cases b <;> first | rfl | exact absurd rfl e
theorem i_lens {m n k l : Nat} {R : Prop} (h1 : m = n) (h2 : k = l) (h : R) : m = n ∧ k = l ∧ R := ⟨h1, h2, h⟩
theorem i_eqDv {K : PySem.W.Frag} {H : Hp} {Q : VK} {x y : V} {a' b' : PyData} {c : Bool} (h0 : eqS x y = none) (h1 : Dp K H x a') (h2 : Dp K H y b') (h3 : SeqAt.shaped a' = true) (h4 : SeqAt.shaped b' = true) (hv : PyData.eqv a' b' = c) (h : Q (.bl c) H) : rEqU K x y H Q := i_eqD h0 h1 h2 h3 h4 (by rw [hv]; exact h)
theorem i_neDv {K : PySem.W.Frag} {H : Hp} {Q : VK} {x y : V} {a' b' : PyData} {c : Bool} (h0 : eqS x y = none) (h1 : Dp K H x a') (h2 : Dp K H y b') (h3 : SeqAt.shaped a' = true) (h4 : SeqAt.shaped b' = true) (hv : PyData.eqv a' b' = c) (h : Q (.bl (!c)) H) : rNeU K x y H Q := i_neD h0 h1 h2 h3 h4 (by rw [hv]; exact h)
/-! ### == of lists and tuples of numbers, truths, None -/
def isNB : V → Bool
  | .non => true
  | .bl _ => true
  | .int _ => true
  | _ => false
def datNB : V → PyData
  | .bl b => .bool b
  | .int i => .int i
  | _ => .none
def eqNB : V → V → Bool
  | .bl a, .bl b => a == b
  | .bl a, .int j => (if a then 1 else 0) == j
  | .int i, .bl b => i == (if b then 1 else 0)
  | .int i, .int j => i == j
  | .non, .non => true
  | _, _ => false
def eqLF : List V → List V → Bool
  | [], [] => true
  | x :: xs, y :: ys => eqNB x y && eqLF xs ys
  | _, _ => false
theorem dp_NB {K : PySem.W.Frag} {H : Hp} {x : V} (f : isNB x = true) : Dp K H x (datNB x) := by
  cases x with
  | non => exact .non
  | bl b => exact .bl b
  | int i => exact .int i
  | _ => cases f
theorem dps_NB {K : PySem.W.Frag} {H : Hp} : ∀ {xs : List V}, xs.all isNB = true → DpAll K H xs (xs.map datNB)
  | [], _ => .nil
  | x :: xs, f => by
    rw [List.all_cons, Bool.and_eq_true] at f
    exact .cons (dp_NB f.1) (dps_NB f.2)
theorem eqv_NB {x y : V} (f : isNB x = true) (g : isNB y = true) : PyData.eqv (datNB x) (datNB y) = eqNB x y := by
  cases x <;> first | (cases f; done) | skip
  all_goals cases y <;> first | (cases g; done) | rfl
theorem eqv_NBs : ∀ {xs ys : List V}, xs.all isNB = true → ys.all isNB = true → PyData.eqvAll (xs.map datNB) (ys.map datNB) = eqLF xs ys
  | [], [], _, _ => rfl
  | [], _ :: _, _, _ => rfl
  | _ :: _, [], _, _ => rfl
  | x :: xs, y :: ys, f, g => by
    rw [List.all_cons, Bool.and_eq_true] at f g
    show (PyData.eqv (datNB x) (datNB y) && PyData.eqvAll (xs.map datNB) (ys.map datNB)) = _
    rw [eqv_NB f.1 g.1, eqv_NBs f.2 g.2]
    rfl
theorem lay_NBs : ∀ {xs : List V}, PyData.canLayAll0 (xs.map datNB) = true
  | [] => rfl
  | x :: xs => by
    show (PyData.canLay0 (datNB x) && PyData.canLayAll0 (xs.map datNB)) = true
    rw [lay_NBs (xs := xs), Bool.and_true]
    cases x <;> rfl
theorem dep_NBs : ∀ {xs : List V}, PyData.depthAll (xs.map datNB) ≤ 1
  | [] => Nat.zero_le _
  | x :: xs => by
    have h := dep_NBs (xs := xs)
    show max (PyData.depth (datNB x)) (PyData.depthAll (xs.map datNB)) ≤ 1
    have : PyData.depth (datNB x) ≤ 1 := by cases x <;> exact Nat.zero_le 1
    omega
theorem shp_NBl {xs : List V} : SeqAt.shaped (.list (xs.map datNB)) = true := by
  show (PyData.canLayAll0 (xs.map datNB) && decide (PyData.depth (.list (xs.map datNB)) ≤ 64)) = true
  rw [lay_NBs, Bool.true_and]
  have h := dep_NBs (xs := xs)
  refine decide_eq_true ?_
  show PyData.depthAll (xs.map datNB) + 1 ≤ 64
  omega
theorem shp_NBt {xs : List V} : SeqAt.shaped (.tuple (xs.map datNB)) = true := by
  show (PyData.canLayAll0 (xs.map datNB) && decide (PyData.depth (.tuple (xs.map datNB)) ≤ 64)) = true
  rw [lay_NBs, Bool.true_and]
  have h := dep_NBs (xs := xs)
  refine decide_eq_true ?_
  show PyData.depthAll (xs.map datNB) + 1 ≤ 64
  omega
section
variable {K : PySem.W.Frag} {H : Hp} {Q : VK} {p q : Addr} {xs ys : List V}
theorem i_eqLF (h1 : SqL K H p xs) (h2 : SqL K H q ys) (f1 : xs.all isNB = true) (f2 : ys.all isNB = true) (h : Q (.bl (eqLF xs ys)) H) : rEqU K (.ref p) (.ref q) H Q :=
  i_eqDv rfl (.lst h1 (dps_NB f1)) (.lst h2 (dps_NB f2)) shp_NBl shp_NBl (eqv_NBs f1 f2) h
theorem i_neLF (h1 : SqL K H p xs) (h2 : SqL K H q ys) (f1 : xs.all isNB = true) (f2 : ys.all isNB = true) (h : Q (.bl (!eqLF xs ys)) H) : rNeU K (.ref p) (.ref q) H Q :=
  i_neDv rfl (.lst h1 (dps_NB f1)) (.lst h2 (dps_NB f2)) shp_NBl shp_NBl (eqv_NBs f1 f2) h
theorem i_eqTF (h1 : SqT K H p xs) (h2 : SqT K H q ys) (f1 : xs.all isNB = true) (f2 : ys.all isNB = true) (h : Q (.bl (eqLF xs ys)) H) : rEqU K (.ref p) (.ref q) H Q :=
  i_eqDv rfl (.tup h1 (dps_NB f1)) (.tup h2 (dps_NB f2)) shp_NBt shp_NBt (eqv_NBs f1 f2) h
theorem i_neTF (h1 : SqT K H p xs) (h2 : SqT K H q ys) (f1 : xs.all isNB = true) (f2 : ys.all isNB = true) (h : Q (.bl (!eqLF xs ys)) H) : rNeU K (.ref p) (.ref q) H Q :=
  i_neDv rfl (.tup h1 (dps_NB f1)) (.tup h2 (dps_NB f2)) shp_NBt shp_NBt (eqv_NBs f1 f2) h
end
theorem lc_mapL {K : PySem.W.Frag} {a : Addr} {xs : List V} {g : TG} {tt : TT} {te : TE} {vs : List Nat} {σ : St} {H1 : Hp} {D : Addr} {Qd : Hp → Prop} (f : V → V) (h0 : SqL K H1 a xs) (hD : H1 D = none) (hl : xs.length ≤ 1000)
    (hs : ∀ x ∈ xs, ∀ H (Q : VK) (R : Hp → Prop), Same H1 H → (∀ H', Same H H' → Q (f x) H') → g x (wipe σ vs) H fun σ2 H2 => wipe σ2 vs = wipe σ vs ∧ tt σ2 H2 fun b H3 => if b = true then te σ2 H3 Q else R H3)
    (hd : ∀ H, Same H1 H → H D = some (.lst (xs.map f)) → Qd H) :
    ∃ W : Nat → Nat → Hp → Prop, (∃ m, W 0 m (upd H1 D (.lst []))) ∧ ∀ i m H, W i m H →
      ((Itl K a).stop i H ∧ Qd H) ∨ ((Itl K a).go i H ∧ ∃ Nx : Hp → Prop, (∀ H', Nx H' → ∃ m', m' < m ∧ W (i + 1) m' H') ∧ ∀ x H', (Itl K a).yld i H x H' → g x (wipe σ vs) H' fun σ2 H2 => wipe σ2 vs = wipe σ vs ∧ tt σ2 H2 fun b H3 =>
        if b = true then te σ2 H3 fun y H4 => ∃ acc, H4 D = some (.lst acc) ∧ acc.length < sizeLine ∧ Nx (upd H4 D (.lst (acc ++ [y]))) else Nx H3) :=
  lc_map xs f walk_list (small1000 hl) (fun _ s => Same.seq s h0) hD hs hd
theorem lc_mapT {K : PySem.W.Frag} {a : Addr} {xs : List V} {g : TG} {tt : TT} {te : TE} {vs : List Nat} {σ : St} {H1 : Hp} {D : Addr} {Qd : Hp → Prop} (f : V → V) (h0 : SqT K H1 a xs) (hD : H1 D = none) (hl : xs.length ≤ 1000)
    (hs : ∀ x ∈ xs, ∀ H (Q : VK) (R : Hp → Prop), Same H1 H → (∀ H', Same H H' → Q (f x) H') → g x (wipe σ vs) H fun σ2 H2 => wipe σ2 vs = wipe σ vs ∧ tt σ2 H2 fun b H3 => if b = true then te σ2 H3 Q else R H3)
    (hd : ∀ H, Same H1 H → H D = some (.lst (xs.map f)) → Qd H) :
    ∃ W : Nat → Nat → Hp → Prop, (∃ m, W 0 m (upd H1 D (.lst []))) ∧ ∀ i m H, W i m H →
      ((Itt K a).stop i H ∧ Qd H) ∨ ((Itt K a).go i H ∧ ∃ Nx : Hp → Prop, (∀ H', Nx H' → ∃ m', m' < m ∧ W (i + 1) m' H') ∧ ∀ x H', (Itt K a).yld i H x H' → g x (wipe σ vs) H' fun σ2 H2 => wipe σ2 vs = wipe σ vs ∧ tt σ2 H2 fun b H3 =>
        if b = true then te σ2 H3 fun y H4 => ∃ acc, H4 D = some (.lst acc) ∧ acc.length < sizeLine ∧ Nx (upd H4 D (.lst (acc ++ [y]))) else Nx H3) :=
  lc_map xs f walk_tup (small1000 hl) (fun _ s => SqT.same s h0) hD hs hd
/-! ### a list or a tuple walked -/
def iSeq (K : PySem.W.Frag) (tl : TE) : TI := fun σ H R => tl σ H fun x H1 => ∃ a, x = .ref a ∧ (((∃ xs, SqL K H1 a xs) ∧ R (Itl K a) H1) ∨ ((∃ xs, SqT K H1 a xs) ∧ R (Itt K a) H1))
theorem pi_seqK {X : Cx} {tg l : Expr} {tl : TE} {K : PySem.W.Frag} (hl : PE X l tl) (hK : X.K = K := by rfl) : PI X tg l (iSeq K tl) := by
  subst hK
  refine ⟨fun pins s σ H R I h => thn (hl.run pins s σ H _ I h) fun v s1 ⟨x, H1, I1, r1, a, ea, q1⟩ => ?_⟩
  subst ea
  cases r1
  rcases q1 with ⟨⟨xs, hq⟩, q⟩ | ⟨⟨xs, hq⟩, q⟩
  · obtain ⟨its, _, pl, _⟩ := I1.list hq
    exact wpAny_pyIter_list pl.isList (pi_one (tk := s1.toks) I1 _ (turn_list a _) ⟨_, Heap.get?_push_size _ rfl, rfl, rfl⟩ q)
  · obtain ⟨its, _, pt, _⟩ := I1.tuple hq
    exact wpAny_pyIter_tuple (show s1.heap.IsTuple a its.toArray from pt) (pi_one (tk := s1.toks) I1 _ (turn_tuple a _) ⟨_, Heap.get?_push_size _ rfl, rfl, rfl⟩ q)
section
variable {D : Ends} {σ : St} {H : Hp} {Q : VK} {K : PySem.W.Frag} {te : TE} {A : TA} {R : It → Hp → Prop}
theorem i_iSeq (h : te σ H fun x H1 => ∃ a, x = .ref a ∧ (((∃ xs, SqL K H1 a xs) ∧ R (Itl K a) H1) ∨ ((∃ xs, SqT K H1 a xs) ∧ R (Itt K a) H1))) : iSeq K te σ H R := h
theorem i_sqL {a : Addr} {xs : List V} {R R' : Addr → Prop} {L : Addr → Prop} (h0 : SqL K H a xs) (h : R a) : ∃ b, V.ref a = .ref b ∧ (((∃ xs, SqL K H b xs) ∧ R b) ∨ (L b ∧ R' b)) := ⟨a, rfl, .inl ⟨⟨xs, h0⟩, h⟩⟩
theorem i_sqT {a : Addr} {xs : List V} {R R' : Addr → Prop} {L : Addr → Prop} (h0 : SqT K H a xs) (h : R' a) : ∃ b, V.ref a = .ref b ∧ ((L b ∧ R b) ∨ ((∃ xs, SqT K H b xs) ∧ R' b)) := ⟨a, rfl, .inr ⟨⟨xs, h0⟩, h⟩⟩
theorem i_fld {f : Str} (h : te σ H fun x H1 => ∃ a C dx fs v, x = .ref a ∧ H1 a = some (.ins C dx fs) ∧ Cls K C ∧ NoAttr K C f ∧ fs.lookup f = some v ∧ Q v H1) : tFld K te f σ H Q := h
theorem i_sfld {tv : TE} {f : Str} (h : tv σ H fun y H1 => te σ H1 fun x H2 => ∃ a C dx fs, x = .ref a ∧ H2 a = some (.ins C dx fs) ∧ Cls K C ∧ NoAttr K C f ∧ fs.length < 1000 ∧ D.nx σ (upd H2 a (.ins C dx (putF f y fs)))) : sFld K te tv f D σ H := h
theorem i_fldR {a C dx : Addr} {fs : List (Str × V)} {f : Str} {v : V} {R : V → Prop} (h1 : H a = some (.ins C dx fs)) (h2 : Cls K C) (h3 : NoAttr K C f) (h4 : fs.lookup f = some v) (h : R v) :
    ∃ b C dx fs v, V.ref a = .ref b ∧ H b = some (.ins C dx fs) ∧ Cls K C ∧ NoAttr K C f ∧ fs.lookup f = some v ∧ R v := ⟨a, C, dx, fs, v, rfl, h1, h2, h3, h4, h⟩
theorem i_sfldR {a C dx : Addr} {fs : List (Str × V)} {f : Str} {R : Addr → Addr → Addr → List (Str × V) → Prop} (h1 : H a = some (.ins C dx fs)) (h2 : Cls K C) (h3 : NoAttr K C f) (h4 : fs.length < 1000) (h : R a C dx fs) :
    ∃ b C dx fs, V.ref a = .ref b ∧ H b = some (.ins C dx fs) ∧ Cls K C ∧ NoAttr K C f ∧ fs.length < 1000 ∧ R b C dx fs := ⟨a, C, dx, fs, rfl, h1, h2, h3, h4, h⟩
theorem i_make {C : Addr} {sp : Sp} {dvs : List V} {E : XK} (h : A σ H fun vs H1 => ∀ x dx, H1 x = none → H1 dx = none → dx ≠ x → sp (.ref x :: (vs ++ dvs)) (upd (upd H1 dx (.own x)) x (.ins C dx [])) (fun v H2 => v = .non ∧ Q (.ref x) H2) E) : tMake C sp dvs E A σ H Q := h
theorem i_meth {C : Addr} {m : Str} {sp : Sp} {dvs : List V} {E : XK} (h : te σ H fun x H1 => ∃ a dx fs, x = .ref a ∧ H1 a = some (.ins C dx fs) ∧ fs.lookup m = none ∧ A σ H1 fun vs H2 => sp (x :: (vs ++ dvs)) H2 Q E) : tMeth C m sp dvs E te A σ H Q := h
theorem i_methR {a C dx : Addr} {fs : List (Str × V)} {m : Str} {R : Prop} (h1 : H a = some (.ins C dx fs)) (h2 : fs.lookup m = none) (h : R) : ∃ b dx fs, V.ref a = .ref b ∧ H b = some (.ins C dx fs) ∧ fs.lookup m = none ∧ R := ⟨a, dx, fs, rfl, h1, h2, h⟩
end
def rTupOf (K : PySem.W.Frag) : List V → Hp → VK → Prop := fun xs H Q => ∃ p ys, xs = [.ref p] ∧ ((SqL K H p ys ∧ ∀ l, H l = none → Q (.ref l) (upd H l (.tup ys))) ∨ (SqT K H p ys ∧ Q (.ref p) H))
def rLstOf (K : PySem.W.Frag) : List V → Hp → VK → Prop := fun xs H Q => ∃ p ys, xs = [.ref p] ∧ (SqL K H p ys ∨ SqT K H p ys) ∧ ∀ l, H l = none → Q (.ref l) (upd H l (.lst ys))
theorem call_tupOf {X : Cx} {K : PySem.W.Frag} (hK : X.K = K := by rfl) : CallR X (.type "tuple") (rTupOf K) := by
  subst hK
  exact call_tuple_of
theorem call_lstOf {X : Cx} {K : PySem.W.Frag} (hK : X.K = K := by rfl) : CallR X (.type "list") (rLstOf K) := by
  subst hK
  exact call_list_of
section
variable {H : Hp} {Q : VK} {K : PySem.W.Frag} {p : Addr} {xs : List V}
theorem i_tupOfL (h0 : SqL K H p xs) (h : ∀ l, H l = none → Q (.ref l) (upd H l (.tup xs))) : rTupOf K [.ref p] H Q := ⟨p, xs, rfl, .inl ⟨h0, h⟩⟩
theorem i_tupOfT (h0 : SqT K H p xs) (h : Q (.ref p) H) : rTupOf K [.ref p] H Q := ⟨p, xs, rfl, .inr ⟨h0, h⟩⟩
theorem i_lstOfL (h0 : SqL K H p xs) (h : ∀ l, H l = none → Q (.ref l) (upd H l (.lst xs))) : rLstOf K [.ref p] H Q := ⟨p, xs, rfl, .inl h0, h⟩
theorem i_lstOfT (h0 : SqT K H p xs) (h : ∀ l, H l = none → Q (.ref l) (upd H l (.lst xs))) : rLstOf K [.ref p] H Q := ⟨p, xs, rfl, .inr h0, h⟩
end
section
variable {σ : St} {H : Hp} {Q : VK} {K : PySem.W.Frag}
theorem i_dnew (h : ∀ p, H p = none → Q (.ref p) (upd H p (.dK []))) : tDNewK σ H Q := h
theorem i_dnewT (h : ∀ p, H p = none → Q (.ref p) (upd H p (.dT []))) : tDNewT σ H Q := h
theorem i_all1 {R : Addr → Prop} (h : ∀ p, H p = none → R p) : ∀ p, H p = none → R p := h
theorem i_disp {trs : List (TE × TE)} (h : ∀ p, H p = none → tPairs trs σ (upd H p (.dK [])) fun ps H2 => H2 p = some (.dK []) ∧ ∃ kvs : List (Key × V), ps = kvs.map (fun kv => (kV kv.1, kv.2)) ∧ kvs.length ≤ 15 ∧ Q (.ref p) (upd H2 p (.dK (mergeK [] kvs)))) : tDisp trs σ H Q := h
end
theorem upd_same' {H : Hp} {a : Addr} {o o' : HO} (e : o = o') : upd H a o a = some o' := by rw [← e]; exact upd_same
theorem SqL.up {K : PySem.W.Frag} {H : Hp} {p q : Addr} {o : HO} {xs : List V} (hq : H q = none) (h : SqL K H p xs) : SqL K (upd H q o) p xs := Same.seq (same_upd (Same.refl _) hq) h
theorem SqT.up {K : PySem.W.Frag} {H : Hp} {p q : Addr} {o : HO} {xs : List V} (hq : H q = none) (h : SqT K H p xs) : SqT K (upd H q o) p xs := SqT.same (same_upd (Same.refl _) hq) h
theorem Rd.ne {H : Hp} {p q : Addr} {o u : HO} (n : p ≠ q) (h : Rd H p u) : Rd (upd H q o) p u := by
  rcases h with h | ⟨b, h⟩
  · exact .inl (get_ne n h)
  · exact .inr ⟨b, get_ne n h⟩
theorem SqL.un {K : PySem.W.Frag} {H : Hp} {p q : Addr} {o : HO} {xs : List V} (n : p ≠ q) (h : SqL K H p xs) : SqL K (upd H q o) p xs := by
  rcases h with h | h
  · exact .inl (Rd.ne n h)
  · exact .inr h
theorem SqT.un {K : PySem.W.Frag} {H : Hp} {p q : Addr} {o : HO} {xs : List V} (n : p ≠ q) (h : SqT K H p xs) : SqT K (upd H q o) p xs := by
  rcases h with h | h
  · exact .inl (Rd.ne n h)
  · exact .inr h
theorem Rd.but {H H' : Hp} {p q : Addr} {u : HO} (s : SameBut q H H') (n : p ≠ q) (h : Rd H p u) : Rd H' p u := by
  rcases h with h | ⟨b, h⟩
  · exact .inl (s _ _ n h)
  · exact .inr ⟨b, s _ _ n h⟩
theorem SqL.but {K : PySem.W.Frag} {H H' : Hp} {p q : Addr} {xs : List V} (s : SameBut q H H') (n : p ≠ q) (h : SqL K H p xs) : SqL K H' p xs := by
  rcases h with h | h
  · exact .inl (Rd.but s n h)
  · exact .inr h
theorem SqT.but {K : PySem.W.Frag} {H H' : Hp} {p q : Addr} {xs : List V} (s : SameBut q H H') (n : p ≠ q) (h : SqT K H p xs) : SqT K H' p xs := by
  rcases h with h | h
  · exact .inl (Rd.but s n h)
  · exact .inr h
theorem SqL.sm {K : PySem.W.Frag} {H H' : Hp} {p : Addr} {xs : List V} (s : Same H H') (h : SqL K H p xs) : SqL K H' p xs := Same.seq s h
theorem Kn.up {K : PySem.W.Frag} {H : Hp} {x : V} {q : Addr} {o : HO} (hq : H q = none) (h : Kn K H x) : Kn K (upd H q o) x := h.same (same_upd (Same.refl _) hq)
theorem i_tp0 {σ : St} {H : Hp} {R : List (V × V) → Hp → Prop} (h : R [] H) : tPairs [] σ H R := h
theorem i_tp1 {σ : St} {H : Hp} {R : List (V × V) → Hp → Prop} {tk tv : TE} {r : List (TE × TE)} (h : tk σ H fun x H1 => tv σ H1 fun y H2 => tPairs r σ H2 fun ps H3 => R ((x, y) :: ps) H3) : tPairs ((tk, tv) :: r) σ H R := h
theorem i_call0 {sp : Sp} {σ : St} {H : Hp} {Q : VK} {E : XK} {A : TA} (h : A σ H fun vs H1 => sp vs H1 Q E) : tCall sp [] E A σ H Q := by
  unfold tCall
  simp only [List.append_nil]
  exact h
theorem i_mk {H : Hp} {R : Addr → Addr → Prop} (h : ∀ x dx, H dx = none → upd H dx (.own x) x = none → H x = none → dx ≠ x → R x dx) : ∀ x dx, H x = none → H dx = none → dx ≠ x → R x dx := fun x dx h1 h2 n =>
  h x dx h2 (by rw [upd_ne (Ne.symm n)]; exact h1) h1 n
theorem Rd.uk {H : Hp} {p q : Addr} {o u v : HO} (hq : H q = some v) (h1 : v ≠ u) (h2 : ∀ b, v ≠ .frz b u) (h : Rd H p u) : Rd (upd H q o) p u := by
  rcases h with h | ⟨b, h⟩
  · exact .inl (get_ne (ne_of h hq (Ne.symm h1)) h)
  · exact .inr ⟨b, get_ne (ne_of h hq (Ne.symm (h2 b))) h⟩
theorem SqT.uk {K : PySem.W.Frag} {H : Hp} {p q : Addr} {o v : HO} {xs : List V} (hq : H q = some v) (h1 : ∀ ys, v ≠ .tup ys) (h2 : ∀ b u, v ≠ .frz b u) (h : SqT K H p xs) : SqT K (upd H q o) p xs := by
  rcases h with h | h
  · exact .inl (Rd.uk hq (h1 _) (fun b => h2 b _) h)
  · exact .inr h
theorem SqL.uk {K : PySem.W.Frag} {H : Hp} {p q : Addr} {o v : HO} {xs : List V} (hq : H q = some v) (h1 : ∀ ys, v ≠ .lst ys) (h2 : ∀ b u, v ≠ .frz b u) (h : SqL K H p xs) : SqL K (upd H q o) p xs := by
  rcases h with h | h
  · exact .inl (Rd.uk hq (h1 _) (fun b => h2 b _) h)
  · exact .inr h
/-! ### one look for all kinds -/
theorem get_o {H : Hp} {a : Addr} {o o' : HO} (h : H a = some o) (e : o = o') : H a = some o' := by rw [← e]; exact h
def seqOf : HO → Option (List V)
  | .lst xs => some xs
  | .tup xs => some xs
  | _ => none
theorem seqOf_sq {K : PySem.W.Frag} {H : Hp} {a : Addr} {o : HO} {xs : List V} (h : H a = some o) (e : seqOf o = some xs) : SqL K H a xs ∨ SqT K H a xs := by
  cases o <;> first | (cases e; done) | skip
  · cases Option.some.inj e
    exact .inl (.of h)
  · cases Option.some.inj e
    exact .inr (.of h)
section
variable {H : Hp} {Q : VK} {K : PySem.W.Frag} {p : Addr} {o : HO} {xs : List V}
theorem i_ixG {n : Int} {w' : V} (h : H p = some o) (e : seqOf o = some xs) (h2 : atI xs n = some w') (q : Q w' H) : rIxU K (.ref p) (.int n) H Q := ⟨xs, w', seqOf_sq h e, h2, q⟩
theorem i_lenG (h : H p = some o) (e : seqOf o = some xs) (q : Q (.int xs.length) H) : rLenU K [.ref p] H Q := by
  rcases seqOf_sq (K := K) h e with h | h
  · exact i_lenL h q
  · exact i_lenT h q
theorem i_isoG {R : (Kd → Bool) → Option Addr → Prop} {f : Kd → Bool} (h : H p = some o) (e : (match o with | .lst _ => some fun d => d == Kd.lst | .tup _ => some fun d => d == Kd.tup | .dK _ => some fun d => d == Kd.dct | .dT _ => some fun d => d == Kd.dct | _ => none) = some f) (q : R f none) : isO K (.ref p) H R := by
  refine ⟨o, .of h, ?_⟩
  cases o <;> first | (cases e; done) | (cases Option.some.inj e; exact q)
theorem i_isoC {R : (Kd → Bool) → Option Addr → Prop} {C dx : Addr} {fs : List (Str × V)} (h : H p = some (.ins C dx fs)) (c : Cls K C) (i : IsC K C) (q : R (fun _ => false) (some C)) : isO K (.ref p) H R := ⟨_, .of h, c, i, q⟩
theorem SqL.of' (h : H p = some o) (e : o = .lst xs) : SqL K H p xs := .of (get_o h e)
theorem SqT.of' (h : H p = some o) (e : o = .tup xs) : SqT K H p xs := .of (get_o h e)
end
/-- a for over a list whose body changes nothing that stood ahead of the loop -/
theorem for_pred {K : PySem.W.Frag} {a : Addr} {xs : List V} {g : TG} {tb : TS} {D : Ends} {σ : St} {H : Hp} (S : St → Prop) (Pr : Hp → V → Prop) (hL : SqL K H a xs) (hp : ∀ y ∈ xs, Pr H y) (h0 : S σ)
    (hs : ∀ y σ H', Pr H y → S σ → Same H H' → g y σ H' fun σ2 H2 => tb { D with nx := fun σ H' => S σ ∧ Same H H', ct := fun σ H' => S σ ∧ Same H H', bk := D.nx } σ2 H2) (hd : ∀ σ H', S σ → Same H H' → D.nx σ H') :
    ∃ W : Nat → Nat → St → Hp → Prop, (∃ m, W 0 m σ H) ∧ ∀ i m σ H, W i m σ H →
      ((Itl K a).stop i H ∧ D.nx σ H) ∨ ((Itl K a).go i H ∧ ∃ N : St → Hp → Prop, (∀ σ' H', N σ' H' → ∃ m', m' < m ∧ W (i + 1) m' σ' H') ∧ ∀ x H', (Itl K a).yld i H x H' → g x σ H' fun σ2 H2 => tb { D with nx := N, ct := N, bk := D.nx } σ2 H2) :=
  for_list (xs := xs) (fun _ σ H' => S σ ∧ Same H H') ⟨h0, Same.refl _⟩ (fun _ _ _ _ h => Same.seq h.2 hL) (fun _ y σ H' hi h => hs y σ H' (hp y (List.mem_of_getElem? hi)) h.1 h.2) (fun σ H' h => hd σ H' h.1 h.2)
theorem Kn.ofG {K : PySem.W.Frag} {H : Hp} {a : Addr} {o : HO} (h : H a = some o) (k : KnO K o) : Kn K H (.ref a) := .of h k
end My
namespace My
open PySem L2
def top (i : Nat) : Stmt := PySem.Challenge.pw_causehall_k01_words.main.body.getD i (.Pass ⟨0, 0, 0, 0⟩)
abbrev s_is_whole : Stmt := top 8
abbrev s_is_word : Stmt := top 9
abbrev s_number_in : Stmt := top 10
abbrev s_are_numbers : Stmt := top 16
abbrev s_Counts_init : Stmt := inClass (top 17) 0
abbrev s__law_pool : Stmt := top 19
abbrev s__law_take : Stmt := top 20
abbrev s__law_sign : Stmt := top 21
abbrev s__law_spoilt : Stmt := top 22
abbrev s__law_is_word : Stmt := top 23
abbrev s__law_number : Stmt := top 24
abbrev s__law_numbers_right : Stmt := top 25
abbrev s__law_texts_right : Stmt := top 26
abbrev s__law_things : Stmt := top 27
abbrev s_law : Stmt := top 28
/-- where the defs and the classes of the text stand -/
structure Ad where
  Counts : Addr
  is_whole : Addr
  d_is_whole : FuncData
  is_word : Addr
  d_is_word : FuncData
  number_in : Addr
  d_number_in : FuncData
  are_numbers : Addr
  d_are_numbers : FuncData
  Counts_init : Addr
  d_Counts_init : FuncData
  _law_pool : Addr
  d__law_pool : FuncData
  _law_take : Addr
  d__law_take : FuncData
  _law_sign : Addr
  d__law_sign : FuncData
  _law_spoilt : Addr
  d__law_spoilt : FuncData
  _law_is_word : Addr
  d__law_is_word : FuncData
  _law_number : Addr
  d__law_number : FuncData
  _law_numbers_right : Addr
  d__law_numbers_right : FuncData
  _law_texts_right : Addr
  d__law_texts_right : FuncData
  _law_things : Addr
  d__law_things : FuncData
  law : Addr
  d_law : FuncData
/-- what the top has left of them -/
structure Txt (K : PySem.W.Frag) (mg : Str → Option Value) (a : Ad) : Prop where
  m_Counts : mg "Counts" = some (.ref a.Counts)
  c_Counts : Cls K a.Counts
  i_Counts : IsC K a.Counts
  mk_Counts : Mk K a.Counts a.Counts_init
  n_Counts_kept_numbers : NoAttr K a.Counts "kept_numbers"
  F_is_whole : FunD K "is_whole" "is_whole" (defArgs s_is_whole) (defBody s_is_whole) (defScope s_is_whole) [V.non] [] a.is_whole a.d_is_whole
  B_is_whole : Binds K a.d_is_whole ["thing", "low", "high"] []
  m_is_whole : mg "is_whole" = some (.ref a.is_whole)
  B1_is_whole : ∃ ds, Vals [V.non] ds ∧ Binds K a.d_is_whole ["thing", "low", "high"] ds
  F_is_word : FunD K "is_word" "is_word" (defArgs s_is_word) (defBody s_is_word) (defScope s_is_word) [] [] a.is_word a.d_is_word
  B_is_word : Binds K a.d_is_word ["thing"] []
  m_is_word : mg "is_word" = some (.ref a.is_word)
  F_number_in : FunD K "number_in" "number_in" (defArgs s_number_in) (defBody s_number_in) (defScope s_number_in) [] [] a.number_in a.d_number_in
  B_number_in : Binds K a.d_number_in ["thing"] []
  m_number_in : mg "number_in" = some (.ref a.number_in)
  F_are_numbers : FunD K "are_numbers" "are_numbers" (defArgs s_are_numbers) (defBody s_are_numbers) (defScope s_are_numbers) [] [] a.are_numbers a.d_are_numbers
  B_are_numbers : Binds K a.d_are_numbers ["thing"] []
  m_are_numbers : mg "are_numbers" = some (.ref a.are_numbers)
  F_Counts_init : FunD K "__init__" "Counts.__init__" (defArgs s_Counts_init) (defBody s_Counts_init) (defScope s_Counts_init) [] [] a.Counts_init a.d_Counts_init
  B_Counts_init : Binds K a.d_Counts_init ["self", "numbers"] []
  F__law_pool : FunD K "_law_pool" "_law_pool" (defArgs s__law_pool) (defBody s__law_pool) (defScope s__law_pool) [] [] a._law_pool a.d__law_pool
  B__law_pool : Binds K a.d__law_pool ["cell"] []
  m__law_pool : mg "_law_pool" = some (.ref a._law_pool)
  F__law_take : FunD K "_law_take" "_law_take" (defArgs s__law_take) (defBody s__law_take) (defScope s__law_take) [] [] a._law_take a.d__law_take
  B__law_take : Binds K a.d__law_take ["pool", "size"] []
  m__law_take : mg "_law_take" = some (.ref a._law_take)
  F__law_sign : FunD K "_law_sign" "_law_sign" (defArgs s__law_sign) (defBody s__law_sign) (defScope s__law_sign) [] [] a._law_sign a.d__law_sign
  B__law_sign : Binds K a.d__law_sign ["pool"] []
  m__law_sign : mg "_law_sign" = some (.ref a._law_sign)
  F__law_spoilt : FunD K "_law_spoilt" "_law_spoilt" (defArgs s__law_spoilt) (defBody s__law_spoilt) (defScope s__law_spoilt) [] [] a._law_spoilt a.d__law_spoilt
  B__law_spoilt : Binds K a.d__law_spoilt ["text", "way", "place", "sign"] []
  m__law_spoilt : mg "_law_spoilt" = some (.ref a._law_spoilt)
  F__law_is_word : FunD K "_law_is_word" "_law_is_word" (defArgs s__law_is_word) (defBody s__law_is_word) (defScope s__law_is_word) [] [] a._law_is_word a.d__law_is_word
  B__law_is_word : Binds K a.d__law_is_word ["text"] []
  m__law_is_word : mg "_law_is_word" = some (.ref a._law_is_word)
  F__law_number : FunD K "_law_number" "_law_number" (defArgs s__law_number) (defBody s__law_number) (defScope s__law_number) [] [] a._law_number a.d__law_number
  B__law_number : Binds K a.d__law_number ["text"] []
  m__law_number : mg "_law_number" = some (.ref a._law_number)
  F__law_numbers_right : FunD K "_law_numbers_right" "_law_numbers_right" (defArgs s__law_numbers_right) (defBody s__law_numbers_right) (defScope s__law_numbers_right) [] [] a._law_numbers_right a.d__law_numbers_right
  B__law_numbers_right : Binds K a.d__law_numbers_right ["pool"] []
  m__law_numbers_right : mg "_law_numbers_right" = some (.ref a._law_numbers_right)
  F__law_texts_right : FunD K "_law_texts_right" "_law_texts_right" (defArgs s__law_texts_right) (defBody s__law_texts_right) (defScope s__law_texts_right) [] [] a._law_texts_right a.d__law_texts_right
  B__law_texts_right : Binds K a.d__law_texts_right ["text"] []
  m__law_texts_right : mg "_law_texts_right" = some (.ref a._law_texts_right)
  F__law_things : FunD K "_law_things" "_law_things" (defArgs s__law_things) (defBody s__law_things) (defScope s__law_things) [] [] a._law_things a.d__law_things
  B__law_things : Binds K a.d__law_things [] []
  m__law_things : mg "_law_things" = some (.ref a._law_things)
  F_law : FunD K "law" "law" (defArgs s_law) (defBody s_law) (defScope s_law) [] [] a.law a.d_law
  k_is_whole_1_low_high : ∃ g, KBn K a.d_is_whole ["thing", "low", "high"] 1 ["low", "high"] g (fun vs zs => ([0, 1, 2] : List Nat).filterMap fun i => (vs ++ (zs ++ [V.non]))[i]?)
  g_LETTERS : ∃ u, mg "LETTERS" = some u ∧ RelV (V.str "abcdefghijklmnopqrstuvwxyz") u
  g_FIGURES : ∃ u, mg "FIGURES" = some u ∧ RelV (V.str "0123456789") u
  g_LONGEST_WORD : ∃ u, mg "LONGEST_WORD" = some u ∧ RelV (V.int 8) u
  g_MOST_FIGURES : ∃ u, mg "MOST_FIGURES" = some u ∧ RelV (V.int 30) u
  g_LEAST_MEMBERS : ∃ u, mg "LEAST_MEMBERS" = some u ∧ RelV (V.int 2) u
  g_MOST_MEMBERS : ∃ u, mg "MOST_MEMBERS" = some u ∧ RelV (V.int 5) u
  b_all : mg "all" = none
  b_bool : mg "bool" = none
  b_int : mg "int" = none
  b_isinstance : mg "isinstance" = none
  b_len : mg "len" = none
  b_list : mg "list" = none
  b_max : mg "max" = none
  b_min : mg "min" = none
  b_range : mg "range" = none
  b_str : mg "str" = none
  b_tuple : mg "tuple" = none
theorem sc_is_whole : FnScope ["thing", "low", "high"] ["thing", "low", "high"] (defScope s_is_whole) := ⟨rfl, rfl, rfl, by decide +kernel, rfl, by decide +kernel, by decide +kernel⟩
theorem sc_is_word : FnScope ["thing", "sign"] ["thing"] (defScope s_is_word) := ⟨rfl, rfl, rfl, by decide +kernel, rfl, by decide +kernel, by decide +kernel⟩
theorem sc_number_in : FnScope ["thing", "sign"] ["thing"] (defScope s_number_in) := ⟨rfl, rfl, rfl, by decide +kernel, rfl, by decide +kernel, by decide +kernel⟩
theorem sc_are_numbers : FnScope ["thing", "number"] ["thing"] (defScope s_are_numbers) := ⟨rfl, rfl, rfl, by decide +kernel, rfl, by decide +kernel, by decide +kernel⟩
theorem sc_Counts_init : FnScope ["self", "numbers"] ["self", "numbers"] (defScope s_Counts_init) := ⟨rfl, rfl, rfl, by decide +kernel, rfl, by decide +kernel, by decide +kernel⟩
theorem sc__law_pool : FnScope ["cell", "number", "k", "mix"] ["cell"] (defScope s__law_pool) := ⟨rfl, rfl, rfl, by decide +kernel, rfl, by decide +kernel, by decide +kernel⟩
theorem sc__law_take : FnScope ["pool", "size", "found"] ["pool", "size"] (defScope s__law_take) := ⟨rfl, rfl, rfl, by decide +kernel, rfl, by decide +kernel, by decide +kernel⟩
theorem sc__law_sign : FnScope ["pool", "signs"] ["pool"] (defScope s__law_sign) := ⟨rfl, rfl, rfl, by decide +kernel, rfl, by decide +kernel, by decide +kernel⟩
theorem sc__law_spoilt : FnScope ["text", "way", "place", "sign", "at"] ["text", "way", "place", "sign"] (defScope s__law_spoilt) := ⟨rfl, rfl, rfl, by decide +kernel, rfl, by decide +kernel, by decide +kernel⟩
theorem sc__law_is_word : FnScope ["text", "sign"] ["text"] (defScope s__law_is_word) := ⟨rfl, rfl, rfl, by decide +kernel, rfl, by decide +kernel, by decide +kernel⟩
theorem sc__law_number : FnScope ["text", "sign"] ["text"] (defScope s__law_number) := ⟨rfl, rfl, rfl, by decide +kernel, rfl, by decide +kernel, by decide +kernel⟩
theorem sc__law_numbers_right : FnScope ["pool", "number", "lower", "upper", "due", "told", "within", "answer"] ["pool"] (defScope s__law_numbers_right) := ⟨rfl, rfl, rfl, by decide +kernel, rfl, by decide +kernel, by decide +kernel⟩
theorem sc__law_texts_right : FnScope ["text", "told", "due"] ["text"] (defScope s__law_texts_right) := ⟨rfl, rfl, rfl, by decide +kernel, rfl, by decide +kernel, by decide +kernel⟩
theorem sc__law_things : FnScope ["thing"] [] (defScope s__law_things) := ⟨rfl, rfl, rfl, by decide +kernel, rfl, by decide +kernel, by decide +kernel⟩
theorem sc_law : FnScope ["script", "cell", "pool", "ways", "places", "signs", "word", "k", "figures", "text"] ["script"] (defScope s_law) := ⟨rfl, rfl, rfl, by decide +kernel, rfl, by decide +kernel, by decide +kernel⟩
/-- is x a whole number from lo on, up to hi -/
def isWh (lo : Int) (hi : V) : V → Bool
  | .int n => decide (lo ≤ n) && (match hi with | .int h => decide (n ≤ h) | _ => true)
  | _ => false
def isWord : V → Bool
  | .str z => decide (1 ≤ z.length) && (decide (z.length ≤ 8) && z.cps.toList.all fun c => decide (c ∈ ("abcdefghijklmnopqrstuvwxyz" : Str).cps.toList))
  | _ => false
def digs (z : Str) : Bool := z.cps.toList.all fun c => decide (c ∈ ("0123456789" : Str).cps.toList)
def numV : V → V
  | .str z => if 1 ≤ z.length ∧ z.length ≤ 30 ∧ digs z = true ∧ (z.cps.toList[0]? = some 48 → z.length ≤ 1) then .int ((intText? z).getD 0) else .non
  | _ => .non
theorem digs_int {z : Str} (h1 : 1 ≤ z.length) (h2 : z.length ≤ 30) (hd : digs z = true) : ∃ n, PySem.intText? z = some n := by
  refine ⟨_, PySem.intText_digits (fun c hc => ?_) (fun e => ?_) (by omega)⟩
  · have h := List.all_eq_true.mp hd c hc
    have h := of_decide_eq_true h
    revert h
    show c ∈ [48, 49, 50, 51, 52, 53, 54, 55, 56, 57] → _
    intro h
    simp only [List.mem_cons, List.not_mem_nil, or_false] at h
    omega
  · have : z.cps.toList.length = 0 := by rw [e]; rfl
    rw [str_len] at this
    omega
theorem one_0 {c : Nat} (h : (⟨#[c]⟩ : Str) = "0") : c = 48 := by
  have e : #[c] = #[48] := congrArg Str.cps h
  simpa using e
theorem one_1 {z : Str} {c : Nat} (h0 : z.cps.toList[(0 : Int).toNat]? = some c) (h : (⟨#[c]⟩ : Str) = "0") (h1 : z.length ≤ 1) : z = "0" := by
  have e := one_0 h
  subst e
  obtain ⟨⟨l⟩⟩ := z
  match l, h0, h1 with
  | [x], h0, _ =>
    cases Option.some.inj h0
    rfl
  | x :: y :: r, _, h1 => exact absurd (show r.length + 1 + 1 ≤ 1 from h1) (by omega)
theorem numV_or (z : Str) : numV (.str z) = .non ∨ ∃ n, numV (.str z) = .int n := by
  simp only [numV]
  split
  · exact .inr ⟨_, rfl⟩
  · exact .inl rfl
def spWhole (K : PySem.W.Frag) : Sp := fun vs H Q _ => ∃ x lo hi, vs = [x, .int lo, hi] ∧ Kn K H x ∧ (hi = .non ∨ ∃ h, hi = .int h) ∧ Q (.bl (isWh lo hi x)) H
def spTake : Sp := fun vs H Q _ => ∃ p m n, vs = [.ref p, .int n] ∧ H p = some (.lst [.int m]) ∧ 0 < n ∧ n.natAbs.log2 < 9000 ∧ ∀ r m' : Int, 0 ≤ r → r < n → Q (.int r) (upd H p (.lst [.int m']))
/-- a text is of known size -/
def Sz (x : V) : Prop := ∀ z, x = .str z → z.length ≤ 1000
def spWord (K : PySem.W.Frag) : Sp := fun vs H Q _ => ∃ x, vs = [x] ∧ Kn K H x ∧ Sz x ∧ ∀ H', Same H H' → Q (.bl (isWord x)) H'
def spNum (K : PySem.W.Frag) : Sp := fun vs H Q _ => ∃ x, vs = [x] ∧ Kn K H x ∧ Sz x ∧ ∀ H', Same H H' → Q (numV x) H'
def spWordS : Sp := fun vs H Q _ => ∃ z, vs = [.str z] ∧ z.length ≤ 1000 ∧ ∀ H', Same H H' → Q (.bl (isWord (.str z))) H'
def spNumS : Sp := fun vs H Q _ => ∃ z, vs = [.str z] ∧ z.length ≤ 1000 ∧ ∀ H', Same H H' → Q (numV (.str z)) H'
def spThings : Sp := fun vs H Q _ => vs = [] ∧ ∀ H', Same H H' → Q (.bl true) H'
def spPool : Sp := fun vs H Q _ => ∃ n, vs = [.int n] ∧ ∀ p m, H p = none → Q (.ref p) (upd H p (.lst [.int m]))
theorem take_use {vs : List V} {H : Hp} {p : Addr} {m n : Int} {Q : VK} {E : XK} (h1 : H p = some (.lst [.int m])) (h2 : 0 < n) (h3 : n.natAbs.log2 < 9000) (h : ∀ r m' : Int, 0 ≤ r → r < n → Q (.int r) (upd H p (.lst [.int m']))) (he : vs = [.ref p, .int n] := by rfl) : spTake vs H Q E := ⟨p, m, n, he, h1, h2, h3, h⟩
def spSign : Sp := fun vs H Q _ => ∃ p m, vs = [.ref p] ∧ H p = some (.lst [.int m]) ∧ ∀ (c : Nat) (m' : Int), Q (.str ⟨#[c]⟩) (upd H p (.lst [.int m']))
def spSpoilt : Sp := fun vs H Q _ => ∃ t wy pl sg, vs = [.str t, .int wy, .int pl, .str sg] ∧ t.length ≤ 100 ∧ sg.length = 1 ∧ ∀ t' : Str, t'.length ≤ 900 → Q (.str t') H
def spTexts : Sp := fun vs H Q _ => ∃ z, vs = [.str z] ∧ z.length ≤ 1000 ∧ ∀ H', Same H H' → Q (.bl true) H'
def spRight : Sp := fun vs H Q _ => ∃ p m, vs = [.ref p] ∧ H p = some (.lst [.int m]) ∧ ∀ H' m', SameBut p H H' → H' p = some (.lst [.int m']) → Q (.bl true) H'
/-- what Counts can be made of -/
def areL (xs : List V) : Bool := decide (2 ≤ xs.length) && (decide (xs.length ≤ 5) && xs.all (isWh 0 .non))
def spAre (K : PySem.W.Frag) : Sp := fun vs H Q _ => ∃ p xs, vs = [.ref p] ∧ (SqL K H p xs ∨ SqT K H p xs) ∧ (∀ y ∈ xs, Kn K H y) ∧ xs.length ≤ 1000 ∧ ∀ H', Same H H' → Q (.bl (areL xs)) H'
def spCI (K : PySem.W.Frag) (a : Ad) : Sp := fun vs H Q _ => ∃ x C dx p xs, vs = [.ref x, .ref p] ∧ C = a.Counts ∧ H x = some (.ins C dx []) ∧ (SqL K H p xs ∨ SqT K H p xs) ∧ (∀ y ∈ xs, Kn K H y) ∧ xs.length ≤ 1000 ∧ areL xs = true ∧
  ∀ H' t, SameBut x H H' → H' x = some (.ins C dx [("kept_numbers", .ref t)]) → SqT K H' t xs → Q .non H'
section
variable {K : PySem.W.Frag} {H : Hp} {Q : VK} {E : XK} {x : V} {z : Str}
theorem word_use {vs : List V} (h1 : Kn K H x) (h2 : Sz x) (h : ∀ H', Same H H' → Q (.bl (isWord x)) H') (he : vs = [x] := by rfl) : spWord K vs H Q E := ⟨x, he, h1, h2, h⟩
theorem wordS_use {vs : List V} (h2 : z.length ≤ 1000) (h : ∀ H', Same H H' → Q (.bl (isWord (.str z))) H') (he : vs = [.str z] := by rfl) : spWordS vs H Q E := ⟨z, he, h2, h⟩
theorem num_use {vs : List V} (h1 : Kn K H x) (h2 : Sz x) (h : ∀ H', Same H H' → Q (numV x) H') (he : vs = [x] := by rfl) : spNum K vs H Q E := ⟨x, he, h1, h2, h⟩
theorem numS_use {vs : List V} (h2 : z.length ≤ 1000) (h : ∀ H', Same H H' → Q (numV (.str z)) H') (he : vs = [.str z] := by rfl) : spNumS vs H Q E := ⟨z, he, h2, h⟩
theorem whole_use {vs : List V} {lo : Int} {hi : V} (h1 : Kn K H x) (h2 : hi = .non ∨ ∃ h, hi = .int h) (h : Q (.bl (isWh lo hi x)) H) (he : vs = [x, .int lo, hi] := by rfl) : spWhole K vs H Q E := ⟨x, lo, hi, he, h1, h2, h⟩
theorem wholeN_use {vs : List V} {lo n : Int} (h : Q (.bl (decide (lo ≤ n))) H) (he : vs = [.int n, .int lo, .non] := by rfl) : spWhole K vs H Q E := ⟨_, lo, _, he, trivial, .inl rfl, cast_bl h (by simp [isWh])⟩
theorem wholeH_use {vs : List V} {lo n hi : Int} (h : Q (.bl (decide (lo ≤ n) && decide (n ≤ hi))) H) (he : vs = [.int n, .int lo, .int hi] := by rfl) : spWhole K vs H Q E := ⟨_, lo, _, he, trivial, .inr ⟨hi, rfl⟩, h⟩
theorem are_use {vs : List V} {p : Addr} {xs : List V} (h1 : SqL K H p xs ∨ SqT K H p xs) (h2 : ∀ y ∈ xs, Kn K H y) (h3 : xs.length ≤ 1000) (h : ∀ H', Same H H' → Q (.bl (areL xs)) H') (he : vs = [.ref p] := by rfl) : spAre K vs H Q E := ⟨p, xs, he, h1, h2, h3, h⟩
theorem pool_use {vs : List V} {n : Int} (h : ∀ p m, H p = none → Q (.ref p) (upd H p (.lst [.int m]))) (he : vs = [.int n] := by rfl) : spPool vs H Q E := ⟨n, he, h⟩
theorem sign_use {vs : List V} {p : Addr} {m : Int} (h1 : H p = some (.lst [.int m])) (h : ∀ (c : Nat) (m' : Int), Q (.str ⟨#[c]⟩) (upd H p (.lst [.int m']))) (he : vs = [.ref p] := by rfl) : spSign vs H Q E := ⟨p, m, he, h1, h⟩
theorem right_use {vs : List V} {p : Addr} {m : Int} (h1 : H p = some (.lst [.int m])) (h : ∀ H' m', SameBut p H H' → H' p = some (.lst [.int m']) → Q (.bl true) H') (he : vs = [.ref p] := by rfl) : spRight vs H Q E := ⟨p, m, he, h1, h⟩
theorem texts_use {vs : List V} (h1 : z.length ≤ 1000) (h : ∀ H', Same H H' → Q (.bl true) H') (he : vs = [.str z] := by rfl) : spTexts vs H Q E := ⟨z, he, h1, h⟩
theorem sz_str (h : z.length ≤ 1000) : Sz (.str z) := fun _ e => by cases e; exact h
theorem sz_no (h : ∀ z, x ≠ .str z) : Sz x := fun z e => absurd e (h z)
end
/-! steps by the reading's head alone -/
set_option hygiene false in
local macro_rules | `(tactic| walk_at "h") => `(tactic| with_reducible first
  | refine i_seq ?_ | refine i_asg ?_ | refine i_op ?_ | refine i_name ?_ | refine i_c ?_ | refine i_ifS ?_ | refine i_ret ?_ | refine i_cons ?_ | refine i_nil ?_ | refine i_test ?_ | refine i_tB ?_ | refine i_bl ?_
  | refine i_not ?_ | refine i_and ?_ | refine i_or ?_ | refine i_andV ?_ | refine i_orV ?_ | refine i_notV ?_ | refine i_if ?_ | refine i_next ?_ | refine i_drop ?_ | refine i_retN ?_ | refine i_brk ?_ | refine i_cont ?_
  | refine i_sub ?_ | refine i_gnil ?_ | refine i_gcons ?_ | refine i_un ?_ | refine i_rU ?_ | refine i_rI0 ?_ | refine i_chain ?_ | refine i_addI ?_ | refine i_isB ?_ | refine i_isN ?_ | refine i_isnB ?_ | refine i_isnN ?_ | refine i_inS ?_
  | refine i_for ?_ | refine i_lc ?_ | refine i_iStr ?_ | refine i_itS ?_ | refine i_iList ?_ | refine i_iTup ?_ | refine i_iR1 ?_ | refine i_yes ?_ | refine i_mk (fun x dx ndx nx1 nx nex => ?_) | refine i_disp (fun q hq => ?_) | refine i_tp0 ?_ | refine i_tp1 ?_ | refine i_dnew (fun q hq => ?_) | refine i_dnewT (fun q hq => ?_) | refine i_iSeq ?_ | refine i_fld ?_ | refine i_sfld ?_ | refine i_make ?_ | refine i_meth ?_ | refine i_maxU ?_ | refine i_minU ?_ | refine i_sl ?_ | refine i_po0 ?_ | refine i_po1 ?_ | refine i_poI ?_ | refine i_lst ?_ | refine i_tup ?_ | refine i_cB ?_ | refine i_call ?_ | refine i_callN ?_ | refine i_isoN ?_ | refine i_isoB ?_ | refine i_isoI ?_ | refine i_isoS ?_ | refine i_ifN ?_ | refine i_ifAnd ?_ | fail)
/-! what stands at an address -/
local macro_rules | `(tactic| walk_at "as") => `(tactic| with_reducible assumption)
local macro_rules | `(tactic| walk_at "getg") => `(tactic| first
  | walk_at "as"
  | ((with_reducible refine' upd_same' ?g0); (case g0 => exact rfl))
  | ((with_reducible refine' get_upd ?g1 ?g2); (case g1 => walk_at "as"); (case g2 => walk_at "getg"))
  | ((fail_if_success ((with_reducible refine' get_upd ?g1 ?g2); (case g1 => walk_at "as"))); (with_reducible refine' get_ne ?g1 ?g2); (case g2 => walk_at "getg"); (case g1 => walk_at "ne"))
  | ((with_reducible refine' get_same ?g1 ?g2); (case g1 => walk_at "as"); (case g2 => walk_at "getg"))
  | ((with_reducible refine' get_but ?g1 ?g3 ?g2); (case g1 => walk_at "as"); (case g2 => walk_at "getg"); (case g3 => walk_at "ne")) | fail)
local macro_rules | `(tactic| walk_at "get") => `(tactic| ((with_reducible refine' get_o ?gg ?ge); (case gg => walk_at "getg"); (case ge => exact rfl)))
local macro_rules | `(tactic| walk_at "ne") => `(tactic| first
  | walk_at "as"
  | ((with_reducible refine' Ne.symm ?n0); (case n0 => walk_at "as"))
  | ((with_reducible refine' ne_of_none ?n1 ?n2); (case n2 => walk_at "as"); (case n1 => walk_at "getg"))
  | ((with_reducible refine' Ne.symm (ne_of_none ?n1 ?n2)); (case n2 => walk_at "as"); (case n1 => walk_at "getg"))
  | ((with_reducible refine' ne_of ?n1 ?n2 ?n3); (case n1 => walk_at "as"); (case n2 => walk_at "as"); (case n3 => (intro z; cases z))) | fail)
local macro_rules | `(tactic| walk_at "sqf") => `(tactic| first
  | walk_at "as"
  | ((with_reducible refine' SqL.up ?s1 ?s2); (case s1 => walk_at "as"); (case s2 => walk_at "sqf"))
  | ((with_reducible refine' SqT.up ?s1 ?s2); (case s1 => walk_at "as"); (case s2 => walk_at "sqf"))
  | ((with_reducible refine' SqL.sm ?s1 ?s2); (case s1 => walk_at "as"); (case s2 => walk_at "sqf"))
  | ((with_reducible refine' SqT.same ?s1 ?s2); (case s1 => walk_at "as"); (case s2 => walk_at "sqf"))
  | ((fail_if_success ((with_reducible refine' SqL.up ?s1 ?s2); (case s1 => walk_at "as"))); (with_reducible refine' SqL.un ?s1 ?s2); (case s2 => walk_at "sqf"); (case s1 => walk_at "ne"))
  | ((fail_if_success ((with_reducible refine' SqT.up ?s1 ?s2); (case s1 => walk_at "as"))); (with_reducible refine' SqT.un ?s1 ?s2); (case s2 => walk_at "sqf"); (case s1 => walk_at "ne"))
  | ((fail_if_success ((with_reducible refine' SqL.up ?s1 ?s2); (case s1 => walk_at "as"))); (with_reducible refine' SqL.uk ?s1 ?s3 ?s4 ?s2); (case s2 => walk_at "sqf"); (case s1 => walk_at "getg"); (case s3 => (intro ys z; cases z)); (case s4 => (intro b u z; cases z)))
  | ((fail_if_success ((with_reducible refine' SqT.up ?s1 ?s2); (case s1 => walk_at "as"))); (with_reducible refine' SqT.uk ?s1 ?s3 ?s4 ?s2); (case s2 => walk_at "sqf"); (case s1 => walk_at "getg"); (case s3 => (intro ys z; cases z)); (case s4 => (intro b u z; cases z)))
  | ((with_reducible refine' SqL.but ?s1 ?s3 ?s2); (case s1 => walk_at "as"); (case s2 => walk_at "sqf"); (case s3 => walk_at "ne"))
  | ((with_reducible refine' SqT.but ?s1 ?s3 ?s2); (case s1 => walk_at "as"); (case s2 => walk_at "sqf"); (case s3 => walk_at "ne")) | fail)
local macro_rules | `(tactic| walk_at "sq") => `(tactic| first
  | walk_at "as"
  | ((with_reducible refine' SqL.of' ?s0 ?s1); (case s0 => walk_at "getg"); (case s1 => exact rfl))
  | ((with_reducible refine' SqT.of' ?s0 ?s1); (case s0 => walk_at "getg"); (case s1 => exact rfl))
  | walk_at "sqf" | fail)
local macro_rules | `(tactic| walk_at "same") => `(tactic| (intro b o e; walk_at "get"))
local macro_rules | `(tactic| walk_at "but") => `(tactic| (intro b o n e; walk_at "get"))
/-! data -/
local macro_rules | `(tactic| walk_at "dp") => `(tactic| first | exact Dp.bl _ | exact Dp.int _ | exact Dp.str _ | exact Dp.non | (refine Dp.lst (by walk_at "sq") ?_; walk_at "dps") | (refine Dp.tup (by walk_at "sq") ?_; walk_at "dps") | fail)
local macro_rules | `(tactic| walk_at "dps") => `(tactic| first | exact DpAll.nil | (refine DpAll.cons ?hd ?tl; (case hd => walk_at "dp"); (case tl => walk_at "dps")) | fail)
/-! steps that ask something besides -/
set_option hygiene false in
local macro_rules | `(tactic| walk_at "a") => `(tactic| first
  | (with_reducible refine' i_var ?h1 ?_); (case h1 => rfl)
  | (with_reducible refine' i_ixG ?h1 ?h0 ?h2 ?_); (case h1 => walk_at "getg"); (case h0 => rfl); (case h2 => rfl)
  | (with_reducible refine' i_ixL ?h1 ?h2 ?_); (case h1 => walk_at "sqf"); (case h2 => rfl)
  | (with_reducible refine' i_ixT ?h1 ?h2 ?_); (case h1 => walk_at "sqf"); (case h2 => rfl)
  | (with_reducible refine' i_rI ?h1 ?_); (case h1 => first | assumption | decide | omega | exact ⟨by omega, by assumption⟩ | exact ⟨by decide, by decide⟩ | exact cpow (by omega) (by omega) (by omega))
  | (with_reducible refine' i_setL ?h1 ?h2 ?_); (case h1 => walk_at "get"); (case h2 => rfl)
  | (with_reducible refine' i_eqS ?h1 ?_); (case h1 => rfl)
  | (with_reducible refine' i_neS ?h1 ?_); (case h1 => rfl)
  | (with_reducible refine' i_new ?h1 (fun q hq => ?_)); (case h1 => first | decide | exact Nat.le_of_ble_eq_true rfl | omega)
  | (with_reducible refine' i_sqL ?h1 ?_); (case h1 => walk_at "sq")
  | (with_reducible refine' i_sqT ?h1 ?_); (case h1 => walk_at "sq")
  | (with_reducible refine' i_fldR ?h1 ?h2 ?h3 ?h4 ?_); (case h1 => walk_at "get"); (case h2 => walk_at "cls"); (case h3 => walk_at "cls"); (case h4 => first | assumption | rfl)
  | (with_reducible refine' i_sfldR ?h1 ?h2 ?h3 ?h4 ?_); (case h1 => walk_at "get"); (case h2 => walk_at "cls"); (case h3 => walk_at "cls"); (case h4 => first | exact Nat.le_of_ble_eq_true rfl | assumption)
  | (with_reducible refine' i_methR ?h1 ?h2 ?_); (case h1 => walk_at "get"); (case h2 => first | assumption | rfl)
  | (with_reducible refine' i_tupOfL ?h1 (fun q hq => ?_)); (case h1 => walk_at "sq")
  | (with_reducible refine' i_tupOfT ?h1 ?_); (case h1 => walk_at "sq")
  | (with_reducible refine' i_lstOfL ?h1 (fun q hq => ?_)); (case h1 => walk_at "sq")
  | (with_reducible refine' i_lstOfT ?h1 (fun q hq => ?_)); (case h1 => walk_at "sq")
  | (with_reducible refine' i_slL ?h1 (fun q hq => ?_)); (case h1 => walk_at "sq")
  | (with_reducible refine' i_lens ?h1 ?h2 ?_); (case h1 => rfl); (case h2 => rfl)
  | (with_reducible refine' i_itL ?h1 ?_); (case h1 => walk_at "sq")
  | (with_reducible refine' i_itT ?h1 ?_); (case h1 => walk_at "sq")
  | (with_reducible refine' i_r1 ?h1 ?_); (case h1 => omega)
  | (with_reducible refine' i_mulI ?h1 ?_); (case h1 => first | assumption | exact mulW64 (by omega) (by omega))
  | (with_reducible refine' i_wipe ?h1 ?_); (case h1 => rfl)
  | (with_reducible refine' i_all ?h1 ?_); (case h1 => walk_at "sq")
  | (with_reducible refine' i_addS ?h1 ?_); (case h1 => first | assumption | exact line_le (by omega))
  | (with_reducible refine' i_addL ?h1 ?h2 ?h3 (fun q hq => ?_)); (case h1 => walk_at "get"); (case h2 => walk_at "get"); (case h3 => first | assumption | omega | decide)
  | (with_reducible refine' i_lenG ?h1 ?h0 ?_); (case h1 => walk_at "getg"); (case h0 => rfl)
  | (with_reducible refine' i_lenL ?h1 ?_); (case h1 => walk_at "sqf")
  | (with_reducible refine' i_lenT ?h1 ?_); (case h1 => walk_at "sqf")
  | (with_reducible refine' i_lenS ?h1 ?_); (case h1 => first | assumption | exact line_le (by omega))
  | (with_reducible refine' i_slS ?h1 ?_); (case h1 => first | assumption | exact line_le (by omega))
  | (with_reducible refine' i_eqLF ?h1 ?h2 ?f1 ?f2 ?_); (case h1 => walk_at "sq"); (case h2 => walk_at "sq"); (case f1 => rfl); (case f2 => rfl)
  | (with_reducible refine' i_isiBs ?h1 ?_); (case h1 => walk_at "get")
  | (with_reducible refine' i_rI ?h1 ?_); (case h1 => exact wide_div (b := 400) (by omega) (by first | decide +kernel | omega) (by decide) (by decide))
  | (with_reducible refine' i_isiB ?h1 ?_); (case h1 => rfl)
  | (with_reducible refine' i_isoG ?h1 ?h0 ?_); (case h1 => walk_at "getg"); (case h0 => rfl)
  | (with_reducible refine' i_isoC ?h1 ?h2 ?h3 ?_); (case h1 => walk_at "get"); (case h2 => walk_at "cls"); (case h3 => walk_at "cls")
  | (with_reducible refine' i_isoL ?h1 ?_); (case h1 => walk_at "sqf")
  | (with_reducible refine' i_isoT ?h1 ?_); (case h1 => walk_at "sqf")
  | walk_at "if" | fail)
local macro_rules | `(tactic| walk_at "if") => `(tactic| ((with_reducible refine i_isIf ?_); first
  | (with_reducible refine iteT ?_) | (with_reducible refine iteF ?_) | refine i_tT (by walk_at "as") ?_ | refine i_tF (by walk_at "as") ?_ | refine iteT ?_ | refine iteF ?_
  | refine i_decT (by first | assumption | omega) ?_ | refine i_decF (by first | assumption | omega) ?_ | fail))
local macro_rules | `(tactic| walk_at "go") => `(tactic| repeat' (first | walk_at "h" | walk_at "a" | walk_at "u" | fail))
local macro_rules | `(tactic| walk_at "gs") => `(tactic| repeat' (first | walk_at "h" | walk_at "a" | walk_at "u" | with_reducible refine i_dec (fun _ => ?_) (fun _ => ?_) | fail))
local macro_rules | `(tactic| walk_at "kn") => `(tactic| first | walk_at "as" | exact trivial | ((with_reducible refine' Kn.same ?k1 ?k2); (case k1 => walk_at "as"); (case k2 => walk_at "kn")) | ((with_reducible refine' Kn.up ?k1 ?k2); (case k1 => walk_at "as"); (case k2 => walk_at "kn")))
local macro_rules | `(tactic| walk_at "sz") => `(tactic| first | assumption | exact sz_str (by assumption) | exact sz_no (fun z e => by cases e))
set_option hygiene false in
local macro_rules | `(tactic| walk_at "u") => `(tactic| first
  | ((with_reducible refine' word_use ?h1 ?h2 (fun HH sm => ?_) ?he); (case he => rfl); (case h1 => walk_at "kn"); (case h2 => walk_at "sz"))
  | ((with_reducible refine' wordS_use ?h2 (fun HH sm => ?_) ?he); (case he => rfl); (case h2 => assumption))
  | ((with_reducible refine' num_use ?h1 ?h2 (fun HH sm => ?_) ?he); (case he => rfl); (case h1 => walk_at "kn"); (case h2 => walk_at "sz"))
  | ((with_reducible refine' numS_use ?h2 (fun HH sm => ?_) ?he); (case he => rfl); (case h2 => assumption))
  | ((with_reducible refine' pool_use (fun q m hq => ?_) ?he); (case he => rfl))
  | ((with_reducible refine' sign_use ?h1 (fun c m' => ?_) ?he); (case he => rfl); (case h1 => walk_at "get"))
  | ((with_reducible refine' right_use ?h1 (fun HH m' sb hp' => ?_) ?he); (case he => rfl); (case h1 => walk_at "get"))
  | ((with_reducible refine' texts_use ?h1 (fun HH sm => ?_) ?he); (case he => rfl); (case h1 => first | assumption | omega))
  | ((with_reducible refine' are_use ?h1 ?h2 ?h3 (fun HH sm => ?_) ?he); (case he => rfl); (case h1 => first | walk_at "as" | exact .inl (by walk_at "sq") | exact .inr (by walk_at "sq")); (case h2 => walk_at "as"); (case h3 => first | walk_at "as" | exact Nat.le_of_ble_eq_true rfl))
  | ((with_reducible refine' wholeN_use ?_ ?he); (case he => rfl))
  | ((with_reducible refine' wholeH_use ?_ ?he); (case he => rfl))
  | ((with_reducible refine' whole_use ?h1 ?h2 ?_ ?he); (case he => rfl); (case h1 => walk_at "kn"); (case h2 => first | exact .inl rfl | exact .inr ⟨_, rfl⟩ | assumption)) | fail)
set_option hygiene false in
local macro_rules | `(tactic| walk_at "u") => `(tactic| ((with_reducible refine' take_use ?h1 ?h2 ?h3 (fun r m' hr0 hr1 => ?_) ?he); (case he => rfl); (case h1 => walk_at "get"); (case h2 => first | decide | assumption); (case h3 => first | decide +kernel | assumption | fail)))
section
set_option hygiene false in
local macro_rules | `(tactic| walk_at "cls") => `(tactic| first | assumption | exact T.c_Counts | exact T.i_Counts | exact T.n_Counts_kept_numbers)
variable {P : Program} {w : World} {K : PySem.W.Frag} {mg : Str → Option Value} {base : Heap} {a : Ad}
theorem ok__law_take (T : Txt K mg a) : FnOk P w K mg base CX0 1 a._law_take a.d__law_take ["pool", "size"] (spTake) := by
  refine fund_ok0 T.F__law_take sc__law_take (fun vs H Q E h => ?_) (fun cdv A outer s H vs Q E hr h => ?_)
  · obtain ⟨p, m, n, rfl, hp, h0, h9, k⟩ := h
    rfl
  · obtain ⟨p, m, n, rfl, hp, h0, h9, k⟩ := h
    refine ⟨_, (pss_cons (ps_set (i := 2) sc__law_take.nd rfl (by first | exact Or.inl rfl | exact Or.inr rfl) (pe_op op_modU (pe_ix (ix_U (K := K)) (pv 0) pe_int (fun _ _ => rfl)) (pv 1)))
    (pss_cons (ps_asg (pe_op op_fdivU (pe_ix (ix_U (K := K)) (pv 0) pe_int (fun _ _ => rfl)) (pv 1)) (pg_sub (pv 0) pe_int set_list))
    (pss_one (ps_ret (pv 2))))), ?_⟩
    dsimp only [L2.start, List.map_cons, List.map_nil, List.map, List.length_cons, List.length_nil, Nat.reduceAdd, Nat.reduceSub, List.replicate, List.cons_append, List.nil_append]
    walk_at "go"
    exact k _ _ (Int.emod_nonneg _ (by omega)) (Int.emod_lt_of_pos _ h0)
theorem ok_is_whole (T : Txt K mg a) : FnOk P w K mg base CX0 1 a.is_whole a.d_is_whole ["thing", "low", "high"] (spWhole K) := by
  refine fund_ok0 T.F_is_whole sc_is_whole (fun vs H Q E h => ?_) (fun cdv A outer s H vs Q E hr h => ?_)
  · obtain ⟨x, lo, hi, rfl, kn, kh, k⟩ := h
    rfl
  · obtain ⟨x, lo, hi, rfl, kn, kh, k⟩ := h
    refine ⟨_, (pss_cons (ps_if (PW.pt (pw_or (pt_not (pt_val (pe_callB (call_isiB .int (K := K)) (by rfl) T.b_isinstance (by decide +kernel) (pa_cons (pv 0) (pa_cons (pe_bltn (v := .ty "int") (u := .type "int") (by rfl) T.b_int (by decide +kernel) rfl) pa_nil))))) (pw_or (pt_val (pe_callB (call_isiB .bl (K := K)) (by rfl) T.b_isinstance (by decide +kernel) (pa_cons (pv 0) (pa_cons (pe_bltn (v := .ty "bool") (u := .type "bool") (by rfl) T.b_bool (by decide +kernel) rfl) pa_nil)))) (pw_or1 (pt_cmpR op_ltU (pv 0) (pv 1) (nomark _)))))) (pss_one (ps_ret pe_bl)) pss_nil)
    (pss_one (ps_ret (pe_or (pe_cmpR op_isU (pv 2) pe_non (nomark _)) (pe_one (pe_cmpR op_leU (pv 0) (pv 2) (nomark _))))))), ?_⟩
    dsimp only [L2.start, List.map_cons, List.map_nil, List.map, List.length_cons, List.length_nil, Nat.reduceAdd, Nat.reduceSub, List.replicate, List.cons_append, List.nil_append]
    cases x <;> first | exact kn.elim | skip
    case ref =>
      walk_at "go"
      refine i_isoR kn fun f c e1 e2 e3 => ?_
      walk_at "go"
      exact k
    case int =>
      rcases kh with rfl | ⟨h, rfl⟩
      all_goals walk_at "gs"
      all_goals refine cast_bl k ?_
      all_goals simp only [isWh]
      all_goals simp_all
      all_goals omega
    all_goals walk_at "gs"
    all_goals exact k
theorem ok_is_word (T : Txt K mg a) : FnOk P w K mg base CX0 1 a.is_word a.d_is_word ["thing"] (spWord K) := by
  refine fund_ok0 T.F_is_word sc_is_word (fun vs H Q E h => ?_) (fun cdv A outer s H vs Q E hr h => ?_)
  · obtain ⟨x, rfl, kn, sz, k⟩ := h
    rfl
  · obtain ⟨x, rfl, kn, sz, k⟩ := h
    refine ⟨_, (pss_cons (ps_if (PW.pt (pw_or (pt_not (pt_val (pe_callB (call_isiB .str (K := K)) (by rfl) T.b_isinstance (by decide +kernel) (pa_cons (pv 0) (pa_cons (pe_bltn (v := .ty "str") (u := .type "str") (by rfl) T.b_str (by decide +kernel) rfl) pa_nil))))) (pw_or1 (pt_not (pt_chain op_leU op_leU pe_int (pe_callB (call_lenU (K := K)) (by rfl) T.b_len (by decide +kernel) (pa_cons (pv 0) pa_nil)) (pe_globE rfl T.g_LONGEST_WORD)))))) (pss_one (ps_ret pe_bl)) pss_nil)
    (pss_one (ps_ret (pe_callB (cr_allK (K := K) rfl) (by rfl) T.b_all (by decide +kernel) (pa_cons (pe_lc (own := [("sign", 1)]) rfl sc_is_word.nd (pi_strK (pv 0)) (blkOk_by (own := [("sign", 1)]) (N := ["thing", "sign"]) (sc := defScope s_is_word) (by decide +kernel)) (fun _ _ _ _ _ => (pg_name (i := 1) sc_is_word.nd rfl (by first | exact Or.inl rfl | exact Or.inr rfl))) (fun _ _ _ _ _ => pts_nil) (fun _ _ _ _ _ => (pe_cmpR (op_inU (K := K)) (pv 1) (pe_globE rfl T.g_LETTERS) (by rfl)))) pa_nil))))), ?_⟩
    dsimp only [L2.start, List.map_cons, List.map_nil, List.map, List.length_cons, List.length_nil, Nat.reduceAdd, Nat.reduceSub, List.replicate, List.cons_append, List.nil_append]
    cases x <;> first | exact kn.elim | skip
    case ref =>
      walk_at "go"
      refine i_isoR kn fun f c e1 e2 e3 => ?_
      walk_at "go"
      exact k _ (Same.refl _)
    case str z =>
      have hz := sz z rfl
      have hz' : z.length ≤ sizeLine := Nat.le_of_lt (small1000 hz)
      walk_at "gs"
      · intro D hD
        refine lc_map (signs z) (fun x => .bl (sgIn "abcdefghijklmnopqrstuvwxyz" x)) walk_signs (by simp only [signs, List.length_map]; exact small1000 hz) (fun _ _ => trivial) hD (fun x hx H1 Q1 R1 s1 h1 => ?_) (fun H1 s1 e1 => ?_)
        · obtain ⟨c, _, rfl⟩ := List.mem_map.mp hx
          walk_at "gs"
          exact h1 _ (Same.refl _)
        · have e1 : H1 D = some (.lst (((signs z).map fun x => sgIn "abcdefghijklmnopqrstuvwxyz" x).map V.bl)) := by rw [e1, List.map_map]; rfl
          walk_at "gs"
          refine cast_bl (k _ s1) ?_
          rw [signs_all]
          show (decide (1 ≤ z.length) && (decide (z.length ≤ 8) && _)) = _
          rw [decide_eq_true (show 1 ≤ z.length by omega), decide_eq_true (show z.length ≤ 8 by omega)]
          rfl
      all_goals
        refine cast_bl (k _ (Same.refl _)) ?_
        simp only [isWord]
        simp_all
      all_goals omega
    all_goals walk_at "gs"
    all_goals exact k _ (Same.refl _)
theorem ok__law_pool (T : Txt K mg a) : FnOk P w K mg base CX0 1 a._law_pool a.d__law_pool ["cell"] (spPool) := by
  refine fund_ok0 T.F__law_pool sc__law_pool (fun vs H Q E h => ?_) (fun cdv A outer s H vs Q E hr h => ?_)
  · obtain ⟨n, rfl, k⟩ := h
    rfl
  · obtain ⟨n, rfl, k⟩ := h
    refine ⟨_, (pss_cons (ps_if (pt_cmpR op_geU (pv 0) (pe_op op_powU pe_int pe_int) (nomark _)) (pss_one (ps_ret (pe_lst (pa_cons (pv 0) pa_nil)))) pss_nil)
    (pss_cons (ps_set (i := 1) sc__law_pool.nd rfl (by first | exact Or.inl rfl | exact Or.inr rfl) pe_int)
    (pss_cons (ps_for PassesOwn.never rfl (pi_range1 (by rfl) T.b_range (pa_cons pe_int pa_nil)) (pg_name (i := 2) sc__law_pool.nd rfl (by first | exact Or.inl rfl | exact Or.inr rfl))
    (pss_cons (ps_set (i := 3) sc__law_pool.nd rfl (by first | exact Or.inl rfl | exact Or.inr rfl) (pe_op op_modU (pe_op op_powU (pe_op (op_addU (K := K)) (pe_op (op_addU (K := K)) (pe_op op_mulU (pe_op op_modU (pv 0) pe_int) pe_int) (pe_op op_mulU pe_int (pv 2))) pe_int) pe_int) pe_int))
    (pss_one (ps_set (i := 1) sc__law_pool.nd rfl (by first | exact Or.inl rfl | exact Or.inr rfl) (pe_op (op_addU (K := K)) (pe_op op_mulU (pv 1) pe_int) (pe_op op_modU (pe_op op_powU (pe_op (op_addU (K := K)) (pe_op op_mulU (pv 3) pe_int) (pv 2)) pe_int) pe_int))))))
    (pss_one (ps_ret (pe_lst (pa_cons (pv 1) pa_nil))))))), ?_⟩
    dsimp only [L2.start, List.map_cons, List.map_nil, List.map, List.length_cons, List.length_nil, Nat.reduceAdd, Nat.reduceSub, List.replicate, List.cons_append, List.nil_append]
    walk_at "gs"
    · exact k _ _ (by assumption)
    refine for_range (lo := 0) (n := 9) (fun i σ H' => H' = H ∧ ∃ (z : Int) (v1 v2 : Option V), σ = [some (.int n), some (.int z), v1, v2] ∧ 0 ≤ z ∧ z.natAbs < 2 ^ (31 * i)) ⟨rfl, 0, none, none, rfl, by decide, by decide⟩ ?_ ?_
    · rintro i σ _ hi ⟨rfl, z, v1, v2, rfl, h0, h1⟩
      have hq : 2 ^ (31 * (i + 1)) = 2 ^ (31 * i) * 2147483648 := by rw [Nat.mul_add, Nat.pow_add]
      have hp : 2 ^ (31 * i) ≤ 2 ^ 400 := Nat.pow_le_pow_right (by decide) (by omega)
      generalize 2 ^ (31 * i) = q at *
      walk_at "gs"
      refine i_mulI (mulW (Nat.lt_of_lt_of_le h1 hp) (by decide)) ?_
      walk_at "gs"
      rw [hq]
      exact ⟨rfl, _, _, _, rfl, pool_next _ _ _ h0 h1⟩
    · rintro σ _ ⟨rfl, z, v1, v2, rfl, h0, h1⟩
      walk_at "gs"
      exact k _ _ (by assumption)
theorem ok__law_sign (T : Txt K mg a) : FnOk P w K mg base CX0 2 a._law_sign a.d__law_sign ["pool"] (spSign) := by
  refine fund_ok0 T.F__law_sign sc__law_sign (fun vs H Q E h => ?_) (fun cdv A outer s H vs Q E hr h => ?_)
  · obtain ⟨p, m, rfl, hp, k⟩ := h
    rfl
  · obtain ⟨p, m, rfl, hp, k⟩ := h
    refine ⟨_, (pss_cons (ps_set (i := 1) sc__law_sign.nd rfl (by first | exact Or.inl rfl | exact Or.inr rfl) pe_str)
    (pss_one (ps_ret (pe_ix (ix_U (K := K)) (pv 1) (pe_call (ok__law_take (K := K) T) (hr.mono (by decide)) (by rfl) T.m__law_take T.F__law_take.kp T.B__law_take .nil pass0 (pa_cons (pv 0) (pa_cons pe_int pa_nil))) (fun _ _ => rfl))))), ?_⟩
    dsimp only [L2.start, List.map_cons, List.map_nil, List.map, List.length_cons, List.length_nil, Nat.reduceAdd, Nat.reduceSub, List.replicate, List.cons_append, List.nil_append]
    walk_at "go"
    obtain ⟨c, _, _, hc⟩ := atI_in (xs := (" !\"#$&'()*+,-./0123456789:;<=>?@ABCDEFGHIJKLMNOPQRSTUVWXYZ[\\]^_`abcdefghijklmnopqrstuvwxyz{|}~\n" : Str).cps.toList) (r := r) (by assumption) (by show r < 95; assumption)
    refine i_ixS (by decide +kernel) hc ?_
    exact k c _
theorem ok__law_is_word (T : Txt K mg a) : FnOk P w K mg base CX0 1 a._law_is_word a.d__law_is_word ["text"] (spWordS) := by
  refine fund_ok0 T.F__law_is_word sc__law_is_word (fun vs H Q E h => ?_) (fun cdv A outer s H vs Q E hr h => ?_)
  · obtain ⟨z, rfl, sz, k⟩ := h
    rfl
  · obtain ⟨z, rfl, sz, k⟩ := h
    refine ⟨_, (pss_one (ps_ret (pe_and (pe_chain op_leU op_leU pe_int (pe_callB (call_lenU (K := K)) (by rfl) T.b_len (by decide +kernel) (pa_cons (pv 0) pa_nil)) pe_int) (pe_one (pe_callB (cr_allK (K := K) rfl) (by rfl) T.b_all (by decide +kernel) (pa_cons (pe_lc (own := [("sign", 1)]) rfl sc__law_is_word.nd (pi_strK (pv 0)) (blkOk_by (own := [("sign", 1)]) (N := ["text", "sign"]) (sc := defScope s__law_is_word) (by decide +kernel)) (fun _ _ _ _ _ => (pg_name (i := 1) sc__law_is_word.nd rfl (by first | exact Or.inl rfl | exact Or.inr rfl))) (fun _ _ _ _ _ => pts_nil) (fun _ _ _ _ _ => (pe_cmpR (op_inU (K := K)) (pv 1) pe_str (by rfl)))) pa_nil)))))), ?_⟩
    dsimp only [L2.start, List.map_cons, List.map_nil, List.map, List.length_cons, List.length_nil, Nat.reduceAdd, Nat.reduceSub, List.replicate, List.cons_append, List.nil_append]
    have hz : z.length ≤ 1000 := sz
    have hz' : z.length ≤ sizeLine := Nat.le_of_lt (small1000 hz)
    walk_at "gs"
    · intro D hD
      refine lc_map (signs z) (fun x => .bl (sgIn "abcdefghijklmnopqrstuvwxyz" x)) walk_signs (by simp only [signs, List.length_map]; exact small1000 hz) (fun _ _ => trivial) hD (fun x hx H1 Q1 R1 s1 h1 => ?_) (fun H1 s1 e1 => ?_)
      · obtain ⟨c, _, rfl⟩ := List.mem_map.mp hx
        walk_at "gs"
        exact h1 _ (Same.refl _)
      · have e1 : H1 D = some (.lst (((signs z).map fun x => sgIn "abcdefghijklmnopqrstuvwxyz" x).map V.bl)) := by rw [e1, List.map_map]; rfl
        walk_at "gs"
        refine cast_bl (k _ s1) ?_
        rw [signs_all]
        show (decide (1 ≤ z.length) && (decide (z.length ≤ 8) && _)) = _
        rw [decide_eq_true (show 1 ≤ z.length by omega), decide_eq_true (show z.length ≤ 8 by omega)]
        rfl
    all_goals
      refine cast_bl (k _ (Same.refl _)) ?_
      simp only [isWord]
      simp_all
    all_goals omega
theorem ok__law_spoilt (T : Txt K mg a) : FnOk P w K mg base CX0 1 a._law_spoilt a.d__law_spoilt ["text", "way", "place", "sign"] (spSpoilt) := by
  refine fund_ok0 T.F__law_spoilt sc__law_spoilt (fun vs H Q E h => ?_) (fun cdv A outer s H vs Q E hr h => ?_)
  · obtain ⟨t, wy, pl, sg, rfl, h0, h1, k⟩ := h
    rfl
  · obtain ⟨t, wy, pl, sg, rfl, h0, h1, k⟩ := h
    refine ⟨_, (pss_cons (ps_if (PW.pt (pw_or (pt_cmpR (op_eqU hr.units (K := K)) (pv 1) pe_int (nomark _)) (pw_or1 (pt_cmpR (op_eqU hr.units (K := K)) (pv 0) pe_str (nomark _))))) (pss_one (ps_ret (pv 0))) pss_nil)
    (pss_cons (ps_set (i := 4) sc__law_spoilt.nd rfl (by first | exact Or.inl rfl | exact Or.inr rfl) (pe_op op_modU (pv 2) (pe_callB (call_lenU (K := K)) (by rfl) T.b_len (by decide +kernel) (pa_cons (pv 0) pa_nil))))
    (pss_one (ps_ret (pe_op (op_addU (K := K)) (pe_op (op_addU (K := K)) (pe_slice (sl_U (K := K)) (pv 0) po_none (po_some (pv 4))) (pv 3)) (pe_slice (sl_U (K := K)) (pv 0) (po_some (pe_op (op_addU (K := K)) (pv 4) pe_int)) po_none)))))), ?_⟩
    dsimp only [L2.start, List.map_cons, List.map_nil, List.map, List.length_cons, List.length_nil, Nat.reduceAdd, Nat.reduceSub, List.replicate, List.cons_append, List.nil_append]
    have hz : t.length ≤ sizeLine := line_le (by omega)
    walk_at "gs"
    · exact k t (by omega)
    · exact k t (by omega)
    · have hp : 0 < t.length := str_pos (by assumption)
      walk_at "gs"
      refine i_addS (line_le ?_) ?_
      · have := cutS_length t none (some (pl % (t.length : Int)))
        omega
      walk_at "gs"
      refine i_addS (line_le ?_) ?_
      · have := cutS_length t none (some (pl % (t.length : Int)))
        have := cutS_length t (some (pl % (t.length : Int) + 1)) none
        rw [len_app]
        omega
      walk_at "gs"
      refine k _ ?_
      have := cutS_length t none (some (pl % (t.length : Int)))
      have := cutS_length t (some (pl % (t.length : Int) + 1)) none
      rw [len_app, len_app]
      omega
theorem ok_number_in (T : Txt K mg a) : FnOk P w K mg base CX0 1 a.number_in a.d_number_in ["thing"] (spNum K) := by
  refine fund_ok0 T.F_number_in sc_number_in (fun vs H Q E h => ?_) (fun cdv A outer s H vs Q E hr h => ?_)
  · obtain ⟨x, rfl, kn, sz, k⟩ := h
    rfl
  · obtain ⟨x, rfl, kn, sz, k⟩ := h
    refine ⟨_, (pss_cons (ps_if (PW.pt (pw_or (pt_not (pt_val (pe_callB (call_isiB .str (K := K)) (by rfl) T.b_isinstance (by decide +kernel) (pa_cons (pv 0) (pa_cons (pe_bltn (v := .ty "str") (u := .type "str") (by rfl) T.b_str (by decide +kernel) rfl) pa_nil))))) (pw_or1 (pt_not (pt_chain op_leU op_leU pe_int (pe_callB (call_lenU (K := K)) (by rfl) T.b_len (by decide +kernel) (pa_cons (pv 0) pa_nil)) (pe_globE rfl T.g_MOST_FIGURES)))))) (pss_one (ps_ret pe_non)) pss_nil)
    (pss_cons (ps_if (PW.pt (pw_or (pt_not (pt_val (pe_callB (cr_allK (K := K) rfl) (by rfl) T.b_all (by decide +kernel) (pa_cons (pe_lc (own := [("sign", 1)]) rfl sc_number_in.nd (pi_strK (pv 0)) (blkOk_by (own := [("sign", 1)]) (N := ["thing", "sign"]) (sc := defScope s_number_in) (by decide +kernel)) (fun _ _ _ _ _ => (pg_name (i := 1) sc_number_in.nd rfl (by first | exact Or.inl rfl | exact Or.inr rfl))) (fun _ _ _ _ _ => pts_nil) (fun _ _ _ _ _ => (pe_cmpR (op_inU (K := K)) (pv 1) (pe_globE rfl T.g_FIGURES) (by rfl)))) pa_nil)))) (pw_or1 (PW.pt (pw_and (pt_cmpR (op_eqU hr.units (K := K)) (pe_ix (ix_U (K := K)) (pv 0) pe_int (fun _ _ => rfl)) pe_str (nomark _)) (pw_and1 (pt_cmpR (op_neU hr.units (K := K)) (pv 0) pe_str (nomark _)))))))) (pss_one (ps_ret pe_non)) pss_nil)
    (pss_one (ps_ret (pe_callTy call_intU (by rfl) T.b_int (by decide +kernel) (pa_cons (pv 0) pa_nil)))))), ?_⟩
    dsimp only [L2.start, List.map_cons, List.map_nil, List.map, List.length_cons, List.length_nil, Nat.reduceAdd, Nat.reduceSub, List.replicate, List.cons_append, List.nil_append]
    cases x <;> first | exact kn.elim | skip
    case ref =>
      walk_at "go"
      refine i_isoR kn fun f c e1 e2 e3 => ?_
      walk_at "go"
      exact k _ (Same.refl _)
    case str z =>
      have hz := sz z rfl
      have hz' : z.length ≤ sizeLine := Nat.le_of_lt (small1000 hz)
      walk_at "gs"
      · intro D hD
        refine lc_map (signs z) (fun x => .bl (sgIn "0123456789" x)) walk_signs (by simp only [signs, List.length_map]; exact small1000 hz) (fun _ _ => trivial) hD (fun x hx H1 Q1 R1 s1 h1 => ?_) (fun H1 s1 e1 => ?_)
        · obtain ⟨c, _, rfl⟩ := List.mem_map.mp hx
          walk_at "gs"
          exact h1 _ (Same.refl _)
        · have e1 : H1 D = some (.lst (((signs z).map fun x => sgIn "0123456789" x).map V.bl)) := by rw [e1, List.map_map]; rfl
          walk_at "gs"
          rw [signs_all]
          refine i_boo (fun hd => ?_) (fun hd => ?_)
          · obtain ⟨c, _, hc0, hc⟩ := atI_in (xs := z.cps.toList) (r := 0) (by decide) (by rw [str_len]; omega)
            walk_at "gs"
            refine i_ixS hz' hc ?_
            obtain ⟨n, hn⟩ := digs_int (by omega) (by omega) hd
            walk_at "gs"
            all_goals try (refine ⟨n, hn, by omega, ?_⟩)
            all_goals refine cast_v (k _ s1) ?_
            all_goals simp only [numV]
            · rw [if_pos ⟨by omega, by omega, hd, fun _ => by
                have e : z = "0" := ‹_›
                rw [e]
                decide⟩, hn]
              rfl
            · rw [if_neg]
              intro e
              have e4 := e.2.2.2 (by rw [← one_0 ‹_›]; exact hc0)
              exact absurd (one_1 hc0 ‹_› e4) ‹_›
            · rw [if_pos ⟨by omega, by omega, hd, fun e => by
                refine absurd ?_ ‹_›
                cases Option.some.inj (hc0.symm.trans e)
                rfl⟩, hn]
              rfl
          · walk_at "gs"
            refine cast_v (k _ s1) ?_
            simp only [numV]
            rw [if_neg]
            intro e
            exact absurd (e.2.2.1.symm.trans hd) (by decide)
      all_goals
        refine cast_v (k _ (Same.refl _)) ?_
        simp only [numV]
        rw [if_neg]
        omega
    all_goals walk_at "gs"
    all_goals exact k _ (Same.refl _)
theorem ok__law_number (T : Txt K mg a) : FnOk P w K mg base CX0 1 a._law_number a.d__law_number ["text"] (spNumS) := by
  refine fund_ok0 T.F__law_number sc__law_number (fun vs H Q E h => ?_) (fun cdv A outer s H vs Q E hr h => ?_)
  · obtain ⟨z, rfl, hz, k⟩ := h
    rfl
  · obtain ⟨z, rfl, hz, k⟩ := h
    refine ⟨_, (pss_cons (ps_if (PW.pt (pw_or (pt_not (pt_chain op_leU op_leU pe_int (pe_callB (call_lenU (K := K)) (by rfl) T.b_len (by decide +kernel) (pa_cons (pv 0) pa_nil)) pe_int)) (pw_or1 (pt_not (pt_val (pe_callB (cr_allK (K := K) rfl) (by rfl) T.b_all (by decide +kernel) (pa_cons (pe_lc (own := [("sign", 1)]) rfl sc__law_number.nd (pi_strK (pv 0)) (blkOk_by (own := [("sign", 1)]) (N := ["text", "sign"]) (sc := defScope s__law_number) (by decide +kernel)) (fun _ _ _ _ _ => (pg_name (i := 1) sc__law_number.nd rfl (by first | exact Or.inl rfl | exact Or.inr rfl))) (fun _ _ _ _ _ => pts_nil) (fun _ _ _ _ _ => (pe_cmpR (op_inU (K := K)) (pv 1) pe_str (by rfl)))) pa_nil))))))) (pss_one (ps_ret pe_non)) pss_nil)
    (pss_cons (ps_if (PW.pt (pw_and (pt_cmpR (op_eqU hr.units (K := K)) (pe_ix (ix_U (K := K)) (pv 0) pe_int (fun _ _ => rfl)) pe_str (nomark _)) (pw_and1 (pt_cmpR op_gtU (pe_callB (call_lenU (K := K)) (by rfl) T.b_len (by decide +kernel) (pa_cons (pv 0) pa_nil)) pe_int (nomark _))))) (pss_one (ps_ret pe_non)) pss_nil)
    (pss_one (ps_ret (pe_callTy call_intU (by rfl) T.b_int (by decide +kernel) (pa_cons (pv 0) pa_nil)))))), ?_⟩
    dsimp only [L2.start, List.map_cons, List.map_nil, List.map, List.length_cons, List.length_nil, Nat.reduceAdd, Nat.reduceSub, List.replicate, List.cons_append, List.nil_append]
    have hz' : z.length ≤ sizeLine := Nat.le_of_lt (small1000 hz)
    walk_at "gs"
    · intro D hD
      refine lc_map (signs z) (fun x => .bl (sgIn "0123456789" x)) walk_signs (by simp only [signs, List.length_map]; exact small1000 hz) (fun _ _ => trivial) hD (fun x hx H1 Q1 R1 s1 h1 => ?_) (fun H1 s1 e1 => ?_)
      · obtain ⟨c, _, rfl⟩ := List.mem_map.mp hx
        walk_at "gs"
        exact h1 _ (Same.refl _)
      · have e1 : H1 D = some (.lst (((signs z).map fun x => sgIn "0123456789" x).map V.bl)) := by rw [e1, List.map_map]; rfl
        walk_at "gs"
        rw [signs_all]
        refine i_boo (fun hd => ?_) (fun hd => ?_)
        · obtain ⟨c, _, hc0, hc⟩ := atI_in (xs := z.cps.toList) (r := 0) (by decide) (by rw [str_len]; omega)
          walk_at "gs"
          refine i_ixS hz' hc ?_
          obtain ⟨n, hn⟩ := digs_int (by omega) (by omega) hd
          walk_at "gs"
          all_goals try (refine ⟨n, hn, by omega, ?_⟩)
          all_goals refine cast_v (k _ s1) ?_
          all_goals simp only [numV]
          · rw [if_neg]
            intro e
            have e4 := e.2.2.2 (by rw [← one_0 ‹_›]; exact hc0)
            omega
          · rw [if_pos ⟨by omega, by omega, hd, fun _ => by omega⟩, hn]
            rfl
          · rw [if_pos ⟨by omega, by omega, hd, fun e => by
              refine absurd ?_ ‹_›
              cases Option.some.inj (hc0.symm.trans e)
              rfl⟩, hn]
            rfl
        · walk_at "gs"
          refine cast_v (k _ s1) ?_
          simp only [numV]
          rw [if_neg]
          intro e
          exact absurd (e.2.2.1.symm.trans hd) (by decide)
    all_goals
      refine cast_v (k _ (Same.refl _)) ?_
      simp only [numV]
      rw [if_neg]
      omega
theorem ok__law_texts_right (T : Txt K mg a) : FnOk P w K mg base CX0 2 a._law_texts_right a.d__law_texts_right ["text"] (spTexts) := by
  refine fund_ok0 T.F__law_texts_right sc__law_texts_right (fun vs H Q E h => ?_) (fun cdv A outer s H vs Q E hr h => ?_)
  · obtain ⟨z, rfl, hz, k⟩ := h
    rfl
  · obtain ⟨z, rfl, hz, k⟩ := h
    refine ⟨_, (pss_cons (ps_if (PW.pt (pw_or (PW.pt (pw_and (pt_cmpR op_isnU (pe_call (ok_is_word (K := K) T) (hr.mono (by decide)) (by rfl) T.m_is_word T.F_is_word.kp T.B_is_word .nil pass0 (pa_cons (pv 0) pa_nil)) pe_bl (nomark _)) (pw_and1 (pt_val (pe_call (ok__law_is_word (K := K) T) (hr.mono (by decide)) (by rfl) T.m__law_is_word T.F__law_is_word.kp T.B__law_is_word .nil pass0 (pa_cons (pv 0) pa_nil)))))) (pw_or1 (PW.pt (pw_and (pt_cmpR op_isnU (pe_call (ok_is_word (K := K) T) (hr.mono (by decide)) (by rfl) T.m_is_word T.F_is_word.kp T.B_is_word .nil pass0 (pa_cons (pv 0) pa_nil)) pe_bl (nomark _)) (pw_and1 (pt_not (pt_val (pe_call (ok__law_is_word (K := K) T) (hr.mono (by decide)) (by rfl) T.m__law_is_word T.F__law_is_word.kp T.B__law_is_word .nil pass0 (pa_cons (pv 0) pa_nil)))))))))) (pss_one (ps_ret pe_bl)) pss_nil)
    (pss_cons (ps_set (i := 1) sc__law_texts_right.nd rfl (by first | exact Or.inl rfl | exact Or.inr rfl) (pe_call (ok_number_in (K := K) T) (hr.mono (by decide)) (by rfl) T.m_number_in T.F_number_in.kp T.B_number_in .nil pass0 (pa_cons (pv 0) pa_nil)))
    (pss_cons (ps_set (i := 2) sc__law_texts_right.nd rfl (by first | exact Or.inl rfl | exact Or.inr rfl) (pe_call (ok__law_number (K := K) T) (hr.mono (by decide)) (by rfl) T.m__law_number T.F__law_number.kp T.B__law_number .nil pass0 (pa_cons (pv 0) pa_nil)))
    (pss_cons (ps_if (pt_cmpR op_isU (pv 2) pe_non (nomark _)) (pss_one (ps_ret (pe_cmpR op_isU (pv 1) pe_non (nomark _)))) pss_nil)
    (pss_one (ps_ret (pe_and (pe_callB (call_isiB .int (K := K)) (by rfl) T.b_isinstance (by decide +kernel) (pa_cons (pv 1) (pa_cons (pe_bltn (v := .ty "int") (u := .type "int") (by rfl) T.b_int (by decide +kernel) rfl) pa_nil))) (pe_and (pe_not (pe_callB (call_isiB .bl (K := K)) (by rfl) T.b_isinstance (by decide +kernel) (pa_cons (pv 1) (pa_cons (pe_bltn (v := .ty "bool") (u := .type "bool") (by rfl) T.b_bool (by decide +kernel) rfl) pa_nil)))) (pe_one (pe_cmpR (op_eqU hr.units (K := K)) (pv 1) (pv 2) (nomark _))))))))))), ?_⟩
    dsimp only [L2.start, List.map_cons, List.map_nil, List.map, List.length_cons, List.length_nil, Nat.reduceAdd, Nat.reduceSub, List.replicate, List.cons_append, List.nil_append]
    have hw : (isWord (.str z) = true ∧ ¬ isWord (.str z) = false) ∨ (isWord (.str z) = false ∧ ¬ isWord (.str z) = true) := by cases isWord (.str z) <;> simp
    rcases hw with ⟨hw, hw'⟩ | ⟨hw, hw'⟩
    all_goals
      rcases numV_or z with hn | ⟨n, hn⟩
      · have hn' : numV (.str z) = .non := hn
        walk_at "gs"
        refine cast_bl (k _ ?_) ?_
        · walk_at "same"
        · rw [hn]
          rfl
      · have hn' : ¬ numV (.str z) = .non := by rw [hn]; intro e; cases e
        walk_at "gs"
        rw [hn]
        walk_at "gs"
        exact cast_bl (k _ (by walk_at "same")) (by simp)
theorem ok__law_numbers_right (T : Txt K mg a) : FnOk P w K mg base CX0 2 a._law_numbers_right a.d__law_numbers_right ["pool"] (spRight) := by
  refine fund_ok0 T.F__law_numbers_right sc__law_numbers_right (fun vs H Q E h => ?_) (fun cdv A outer s H vs Q E hr h => ?_)
  · obtain ⟨p, m, rfl, hp, k⟩ := h
    rfl
  · obtain ⟨p, m, rfl, hp, k⟩ := h
    refine ⟨_, (pss_cons (ps_set (i := 1) sc__law_numbers_right.nd rfl (by first | exact Or.inl rfl | exact Or.inr rfl) (pe_call (ok__law_take (K := K) T) (hr.mono (by decide)) (by rfl) T.m__law_take T.F__law_take.kp T.B__law_take .nil pass0 (pa_cons (pv 0) (pa_cons (pe_ix (ix_U (K := K)) (pe_lst (pa_cons pe_int (pa_cons pe_int (pa_cons pe_int (pa_cons (pe_op op_powU pe_int pe_int) pa_nil))))) (pe_call (ok__law_take (K := K) T) (hr.mono (by decide)) (by rfl) T.m__law_take T.F__law_take.kp T.B__law_take .nil pass0 (pa_cons (pv 0) (pa_cons pe_int pa_nil))) (fun _ _ => rfl)) pa_nil))))
    (pss_cons (ps_if (pt_cmpR (op_eqU hr.units (K := K)) (pe_call (ok__law_take (K := K) T) (hr.mono (by decide)) (by rfl) T.m__law_take T.F__law_take.kp T.B__law_take .nil pass0 (pa_cons (pv 0) (pa_cons pe_int pa_nil))) pe_int (nomark _)) (pss_one (ps_set (i := 1) sc__law_numbers_right.nd rfl (by first | exact Or.inl rfl | exact Or.inr rfl) (pe_un un_neg (pv 1)))) pss_nil)
    (pss_cons (ps_set (i := 2) sc__law_numbers_right.nd rfl (by first | exact Or.inl rfl | exact Or.inr rfl) (pe_op (op_addU (K := K)) (pv 1) (pe_ix (ix_U (K := K)) (pe_lst (pa_cons (pe_un un_neg pe_int) (pa_cons pe_int (pa_cons pe_int (pa_cons (pe_un un_neg (pe_op op_powU pe_int pe_int)) (pa_cons (pe_op op_powU pe_int pe_int) pa_nil)))))) (pe_call (ok__law_take (K := K) T) (hr.mono (by decide)) (by rfl) T.m__law_take T.F__law_take.kp T.B__law_take .nil pass0 (pa_cons (pv 0) (pa_cons pe_int pa_nil))) (fun _ _ => rfl))))
    (pss_cons (ps_set (i := 3) sc__law_numbers_right.nd rfl (by first | exact Or.inl rfl | exact Or.inr rfl) (pe_op (op_addU (K := K)) (pv 1) (pe_ix (ix_U (K := K)) (pe_lst (pa_cons pe_int (pa_cons (pe_un un_neg pe_int) (pa_cons pe_int (pa_cons (pe_un un_neg (pe_op op_powU pe_int pe_int)) (pa_cons (pe_op op_powU pe_int pe_int) pa_nil)))))) (pe_call (ok__law_take (K := K) T) (hr.mono (by decide)) (by rfl) T.m__law_take T.F__law_take.kp T.B__law_take .nil pass0 (pa_cons (pv 0) (pa_cons pe_int pa_nil))) (fun _ _ => rfl))))
    (pss_cons (ps_set (i := 2) sc__law_numbers_right.nd rfl (by first | exact Or.inl rfl | exact Or.inr rfl) (pe_callB (call_maxU rfl) (by rfl) T.b_max (by decide +kernel) (pa_cons (pe_op op_subU pe_int (pe_op op_powU pe_int pe_int)) (pa_cons (pe_callB (call_minU rfl) (by rfl) T.b_min (by decide +kernel) (pa_cons (pe_op op_subU (pe_op op_powU pe_int pe_int) pe_int) (pa_cons (pv 2) pa_nil))) pa_nil))))
    (pss_cons (ps_set (i := 3) sc__law_numbers_right.nd rfl (by first | exact Or.inl rfl | exact Or.inr rfl) (pe_callB (call_maxU rfl) (by rfl) T.b_max (by decide +kernel) (pa_cons (pe_op op_subU pe_int (pe_op op_powU pe_int pe_int)) (pa_cons (pe_callB (call_minU rfl) (by rfl) T.b_min (by decide +kernel) (pa_cons (pe_op op_subU (pe_op op_powU pe_int pe_int) pe_int) (pa_cons (pv 3) pa_nil))) pa_nil))))
    (pss_cons (ps_set (i := 4) sc__law_numbers_right.nd rfl (by first | exact Or.inl rfl | exact Or.inr rfl) (pe_cmpR op_leU (pv 2) (pv 1) (nomark _)))
    (pss_cons (ps_if (PW.pt (pw_or (PW.pt (pw_and (pt_cmpR op_isnU (pe_callD (ok_is_whole (K := K) T) (hr.mono (by decide)) (by rfl) T.m_is_whole T.F_is_whole.kp T.B1_is_whole pass0 (pa_cons (pv 1) (pa_cons (pv 2) pa_nil))) pe_bl (nomark _)) (pw_and1 (pt_val (pv 4))))) (pw_or1 (PW.pt (pw_and (pt_cmpR op_isnU (pe_callD (ok_is_whole (K := K) T) (hr.mono (by decide)) (by rfl) T.m_is_whole T.F_is_whole.kp T.B1_is_whole pass0 (pa_cons (pv 1) (pa_cons (pv 2) pa_nil))) pe_bl (nomark _)) (pw_and1 (pt_not (pt_val (pv 4))))))))) (pss_one (ps_ret pe_bl)) pss_nil)
    (pss_cons (ps_set (i := 5) sc__law_numbers_right.nd rfl (by first | exact Or.inl rfl | exact Or.inr rfl) (pe_lst (pa_cons (pe_call (ok_is_whole (K := K) T) (hr.mono (by decide)) (by rfl) T.m_is_whole T.F_is_whole.kp T.B_is_whole .nil pass0 (pa_cons (pv 1) (pa_cons (pv 2) (pa_cons pe_non pa_nil)))) (pa_cons (pe_call (ok_is_whole (K := K) T) (hr.mono (by decide)) (by rfl) T.m_is_whole T.F_is_whole.kp T.B_is_whole .nil pass0 (pa_cons (pv 1) (pa_cons (pv 2) (pa_cons (pv 3) pa_nil)))) (pa_cons (pe_callNE (ok_is_whole (K := K) T) (hr.mono (by decide)) (by rfl) T.m_is_whole T.F_is_whole.kp T.k_is_whole_1_low_high pass0 (pa_cons (pv 1) pa_nil) (pk_cons (pv 2) (pk_cons (pv 3) pk_nil))) pa_nil)))))
    (pss_cons (ps_set (i := 6) sc__law_numbers_right.nd rfl (by first | exact Or.inl rfl | exact Or.inr rfl) (pe_and (pv 4) (pe_one (pe_cmpR op_leU (pv 1) (pv 3) (nomark _)))))
    (pss_one (ps_ret (pe_and (pe_cmpR (op_eqU hr.units (K := K)) (pv 5) (pe_lst (pa_cons (pv 4) (pa_cons (pv 6) (pa_cons (pv 6) pa_nil)))) (nomark _)) (pe_one (pe_callB (cr_allK (K := K) rfl) (by rfl) T.b_all (by decide +kernel) (pa_cons (pe_lc (own := [("answer", 7)]) rfl sc__law_numbers_right.nd (pi_listK (K := K) (pv 5)) (blkOk_by (own := [("answer", 7)]) (N := ["pool", "number", "lower", "upper", "due", "told", "within", "answer"]) (sc := defScope s__law_numbers_right) (by decide +kernel)) (fun _ _ _ _ _ => (pg_name (i := 7) sc__law_numbers_right.nd rfl (by first | exact Or.inl rfl | exact Or.inr rfl))) (fun _ _ _ _ _ => pts_nil) (fun _ _ _ _ _ => (pe_callB (call_isiB .bl (K := K)) (by rfl) T.b_isinstance (by decide +kernel) (pa_cons (pv 7) (pa_cons (pe_bltn (v := .ty "bool") (u := .type "bool") (by rfl) T.b_bool (by decide +kernel) rfl) pa_nil))))) pa_nil)))))))))))))))), ?_⟩
    dsimp only [L2.start, List.map_cons, List.map_nil, List.map, List.length_cons, List.length_nil, Nat.reduceAdd, Nat.reduceSub, List.replicate, List.cons_append, List.nil_append]
    have fin : ∀ (L : List Int) (r : Int), 0 ≤ r → r < L.length → ∃ n, atI (L.map V.int) r = some (.int n) := fun L r h0 h1 => by
      obtain ⟨v, hv, _, h⟩ := atI_in (xs := L.map V.int) (r := r) h0 (by rw [List.length_map]; exact h1)
      obtain ⟨n, _, rfl⟩ := List.mem_map.mp hv
      exact ⟨n, h⟩
    walk_at "gs"
    obtain ⟨v, hv, _, hv'⟩ := atI_in (xs := [V.int 3, V.int 10, V.int 1000, V.int (10 ^ Int.toNat 30)]) (r := r) hr0 hr1
    refine i_ixL (by walk_at "sq") hv' ?_
    obtain ⟨n, rfl, hn, hn2⟩ : ∃ n : Int, v = .int n ∧ 0 < n ∧ n.natAbs.log2 < 9000 := by
      simp only [List.mem_cons, List.not_mem_nil, or_false] at hv
      rcases hv with rfl | rfl | rfl | rfl
      all_goals exact ⟨_, rfl, by decide, by decide +kernel⟩
    walk_at "gs"
    all_goals
      obtain ⟨d1, e1⟩ := fin [-1, 0, 1, -10 ^ Int.toNat 20, 10 ^ Int.toNat 20] r hr0 hr1
      refine i_ixL (by walk_at "sq") e1 ?_
      walk_at "go"
      obtain ⟨d2, e2⟩ := fin [0, -1, 1, -10 ^ Int.toNat 20, 10 ^ Int.toNat 20] r hr0 hr1
      refine i_ixL (by walk_at "sq") e2 ?_
      walk_at "go"
    all_goals
      refine i_dec (fun e => ?_) (fun e => ?_)
      · have e' := bT e
        walk_at "gs"
        refine i_tT ?_ ?_
        · simp only [eqLF, eqNB, e, Bool.true_and, beq_self_eq_true, Bool.and_self]
        walk_at "gs"
        intro D hD
        refine' lc_mapL (fun _ => .bl true) ?h0 hD ?hl (fun x hx H1 Q1 R1 s1 h1 => ?hs) (fun H1 s1 e1 => ?hd)
        case h0 => walk_at "sq"
        case hl => exact Nat.le_of_ble_eq_true rfl
        case hs =>
          obtain ⟨b, rfl⟩ : ∃ b, x = .bl b := by
            simp only [List.mem_cons, List.not_mem_nil, or_false] at hx
            rcases hx with rfl | rfl | rfl
            all_goals exact ⟨_, rfl⟩
          walk_at "gs"
          exact h1 _ (Same.refl _)
        case hd =>
          have e1 : H1 D = some (.lst ([true, true, true].map V.bl)) := e1
          walk_at "gs"
          exact k _ _ (by walk_at "but") (by walk_at "get")
      · have e' := bF e
        walk_at "gs"
        refine i_tT ?_ ?_
        · simp only [eqLF, eqNB, e', Bool.false_and, beq_self_eq_true, Bool.and_self]
        walk_at "gs"
        intro D hD
        refine' lc_mapL (fun _ => .bl true) ?h0 hD ?hl (fun x hx H1 Q1 R1 s1 h1 => ?hs) (fun H1 s1 e1 => ?hd)
        case h0 => walk_at "sq"
        case hl => exact Nat.le_of_ble_eq_true rfl
        case hs =>
          obtain ⟨b, rfl⟩ : ∃ b, x = .bl b := by
            simp only [List.mem_cons, List.not_mem_nil, or_false] at hx
            rcases hx with rfl | rfl | rfl
            all_goals exact ⟨_, rfl⟩
          walk_at "gs"
          exact h1 _ (Same.refl _)
        case hd =>
          have e1 : H1 D = some (.lst ([true, true, true].map V.bl)) := e1
          walk_at "gs"
          exact k _ _ (by walk_at "but") (by walk_at "get")
theorem ok_are_numbers (T : Txt K mg a) : FnOk P w K mg base CX0 2 a.are_numbers a.d_are_numbers ["thing"] (spAre K) := by
  refine fund_ok0 T.F_are_numbers sc_are_numbers (fun vs H Q E h => ?_) (fun cdv A outer s H vs Q E hr h => ?_)
  · obtain ⟨p, xs, rfl, hs, kn, hl, k⟩ := h
    rfl
  · obtain ⟨p, xs, rfl, hs, kn, hl, k⟩ := h
    refine ⟨_, (pss_cons (ps_if (PW.pt (pw_or (pt_not (pt_val (pe_callB (call_isiBs [.lst, .tup] (K := K)) (by rfl) T.b_isinstance (by decide +kernel) (pa_cons (pv 0) (pa_cons (pe_tup (pa_cons (pe_bltn (v := .ty "list") (u := .type "list") (by rfl) T.b_list (by decide +kernel) rfl) (pa_cons (pe_bltn (v := .ty "tuple") (u := .type "tuple") (by rfl) T.b_tuple (by decide +kernel) rfl) pa_nil))) pa_nil))))) (pw_or1 (pt_not (pt_chain op_leU op_leU (pe_globE rfl T.g_LEAST_MEMBERS) (pe_callB (call_lenU (K := K)) (by rfl) T.b_len (by decide +kernel) (pa_cons (pv 0) pa_nil)) (pe_globE rfl T.g_MOST_MEMBERS)))))) (pss_one (ps_ret pe_bl)) pss_nil)
    (pss_one (ps_ret (pe_callB (cr_allK (K := K) rfl) (by rfl) T.b_all (by decide +kernel) (pa_cons (pe_lc (own := [("number", 1)]) rfl sc_are_numbers.nd (pi_seqK (K := K) (pv 0)) (blkOk_by (own := [("number", 1)]) (N := ["thing", "number"]) (sc := defScope s_are_numbers) (by decide +kernel)) (fun _ _ _ _ _ => (pg_name (i := 1) sc_are_numbers.nd rfl (by first | exact Or.inl rfl | exact Or.inr rfl))) (fun _ _ _ _ _ => pts_nil) (fun _ _ _ _ _ => (pe_callD (ok_is_whole (K := K) T) (hr.mono (by decide)) (by rfl) T.m_is_whole T.F_is_whole.kp T.B1_is_whole pass0 (pa_cons (pv 1) (pa_cons pe_int pa_nil))))) pa_nil))))), ?_⟩
    dsimp only [L2.start, List.map_cons, List.map_nil, List.map, List.length_cons, List.length_nil, Nat.reduceAdd, Nat.reduceSub, List.replicate, List.cons_append, List.nil_append]
    have hl' : xs.length ≤ sizeLine := line_le hl
    have fin : ∀ b : Bool, 2 ≤ xs.length → xs.length ≤ 5 → b = xs.all (isWh 0 .non) → b = areL xs := fun b h1 h2 e => by
      show _ = (decide (2 ≤ xs.length) && (decide (xs.length ≤ 5) && _))
      rw [decide_eq_true h1, decide_eq_true h2, e]
      rfl
    have out : ¬ (2 ≤ xs.length ∧ xs.length ≤ 5) → areL xs = false := fun h => by
      unfold areL
      by_cases h1 : 2 ≤ xs.length
      · rw [decide_eq_false (show ¬ xs.length ≤ 5 by omega)]
        simp
      · rw [decide_eq_false h1]
        rfl
    rcases hs with hs | hs
    all_goals
      walk_at "gs"
      · intro D hD
        first
          | refine' lc_mapL (fun y => .bl (isWh 0 .non y)) ?h0 hD hl (fun x hx H1 Q1 R1 s1 h1 => ?hs) (fun H1 s1 e1 => ?hd)
          | refine' lc_mapT (fun y => .bl (isWh 0 .non y)) ?h0 hD hl (fun x hx H1 Q1 R1 s1 h1 => ?hs) (fun H1 s1 e1 => ?hd)
        case h0 => walk_at "sq"
        case hs =>
          have kx : Kn K H1 x := ((kn x hx).same (same_upd (Same.refl _) hq)).same s1
          walk_at "gs"
          exact h1 _ (Same.refl _)
        case hd =>
          have e1 : H1 D = some (.lst ((xs.map (isWh 0 .non)).map V.bl)) := by rw [e1, List.map_map]; rfl
          walk_at "gs"
          refine cast_bl (k _ (by walk_at "same")) (fin _ (by omega) (by omega) ?_).symm
          rw [List.all_map]
          rfl
      · exact cast_bl (k _ (by walk_at "same")) (out (by omega))
      · exact cast_bl (k _ (by walk_at "same")) (out (by omega))
theorem ok_Counts_init (T : Txt K mg a) : FnOk P w K mg base CX0 3 a.Counts_init a.d_Counts_init ["self", "numbers"] (spCI K a) := by
  refine fund_ok0 T.F_Counts_init sc_Counts_init (fun vs H Q E h => ?_) (fun cdv A outer s H vs Q E hr h => ?_)
  · obtain ⟨x, C, dx, p, xs, rfl, rfl, hx, hs, kn, hl, ha, k⟩ := h
    rfl
  · obtain ⟨x, C, dx, p, xs, rfl, rfl, hx, hs, kn, hl, ha, k⟩ := h
    refine ⟨_, (pss_cons (ps_if (pt_not (pt_val (pe_call (ok_are_numbers (K := K) T) (hr.mono (by decide)) (by rfl) T.m_are_numbers T.F_are_numbers.kp T.B_are_numbers .nil pass0 (pa_cons (pv 1) pa_nil)))) (pss_one ps_never) pss_nil)
    (pss_one (ps_fldK (K := K) (pv 0) (pe_callTy (call_tupOf (K := K)) (by rfl) T.b_tuple (by decide +kernel) (pa_cons (pv 1) pa_nil))))), ?_⟩
    dsimp only [L2.start, List.map_cons, List.map_nil, List.map, List.length_cons, List.length_nil, Nat.reduceAdd, Nat.reduceSub, List.replicate, List.cons_append, List.nil_append]
    walk_at "gs"
    rcases hs with hs | hs
    all_goals
      walk_at "gs"
      exact k _ _ (by walk_at "but") (upd_same' rfl) (by walk_at "sq")
theorem ok__law_things (T : Txt K mg a) : FnOk P w K mg base CX0 5 a._law_things a.d__law_things [] (spThings) := by
  refine fund_ok0 T.F__law_things sc__law_things (fun vs H Q E h => ?_) (fun cdv A outer s H vs Q E hr h => ?_)
  · obtain ⟨rfl, k⟩ := h
    rfl
  · obtain ⟨rfl, k⟩ := h
    refine ⟨_, (pss_cons (ps_for PassesOwn.never rfl (pi_listK (K := K) (pe_lst (pa_cons pe_non (pa_cons pe_bl (pa_cons pe_bl (pa_cons (pe_lst pa_nil) (pa_cons (pe_tup pa_nil) (pa_cons pe_dnewK (pa_cons (pe_lst (pa_cons pe_str pa_nil)) (pa_cons (pe_tup (pa_cons pe_str (pa_cons pe_int pa_nil))) (pa_cons (pe_lst (pa_cons pe_int pa_nil)) (pa_cons (pe_make T.mk_Counts (ok_Counts_init (K := K) T) (hr.mono (by decide)) (by rfl) T.m_Counts T.B_Counts_init .nil pass0 (pa_cons (pe_lst (pa_cons pe_int (pa_cons pe_int pa_nil))) pa_nil)) (pa_cons (pe_disp (pps_cons pe_str pe_int pps_nil) (by rfl) (by rfl) (fun z => by cases z) (by decide)) (pa_cons (pe_lst (pa_cons (pe_lst (pa_cons pe_int pa_nil)) pa_nil)) pa_nil)))))))))))))) (pg_name (i := 0) sc__law_things.nd rfl (by first | exact Or.inl rfl | exact Or.inr rfl))
    (pss_cons (ps_if (PW.pt (pw_or (pt_cmpR op_isnU (pe_call (ok_is_word (K := K) T) (hr.mono (by decide)) (by rfl) T.m_is_word T.F_is_word.kp T.B_is_word .nil pass0 (pa_cons (pv 0) pa_nil)) pe_bl (nomark _)) (pw_or1 (pt_cmpR op_isnU (pe_call (ok_number_in (K := K) T) (hr.mono (by decide)) (by rfl) T.m_number_in T.F_number_in.kp T.B_number_in .nil pass0 (pa_cons (pv 0) pa_nil)) pe_non (nomark _))))) (pss_one (ps_ret pe_bl)) pss_nil)
    (pss_cons (ps_if (PW.pt (pw_or (pt_cmpR op_isnU (pe_callD (ok_is_whole (K := K) T) (hr.mono (by decide)) (by rfl) T.m_is_whole T.F_is_whole.kp T.B1_is_whole pass0 (pa_cons (pv 0) (pa_cons pe_int pa_nil))) pe_bl (nomark _)) (pw_or1 (pt_cmpR op_isnU (pe_call (ok_is_whole (K := K) T) (hr.mono (by decide)) (by rfl) T.m_is_whole T.F_is_whole.kp T.B_is_whole .nil pass0 (pa_cons (pv 0) (pa_cons pe_int (pa_cons pe_int pa_nil)))) pe_bl (nomark _))))) (pss_one (ps_ret pe_bl)) pss_nil)
    (pss_one (ps_if (pt_cmpR op_isnU (pe_call (ok_is_whole (K := K) T) (hr.mono (by decide)) (by rfl) T.m_is_whole T.F_is_whole.kp T.B_is_whole .nil pass0 (pa_cons (pv 0) (pa_cons (pe_un un_neg pe_int) (pa_cons pe_non pa_nil)))) pe_bl (nomark _)) (pss_one (ps_ret pe_bl)) pss_nil)))))
    (pss_cons (ps_if (PW.pt (pw_or (pt_cmpR op_isnU (pe_callD (ok_is_whole (K := K) T) (hr.mono (by decide)) (by rfl) T.m_is_whole T.F_is_whole.kp T.B1_is_whole pass0 (pa_cons pe_str (pa_cons pe_int pa_nil))) pe_bl (nomark _)) (pw_or1 (pt_cmpR op_isnU (pe_call (ok_is_whole (K := K) T) (hr.mono (by decide)) (by rfl) T.m_is_whole T.F_is_whole.kp T.B_is_whole .nil pass0 (pa_cons pe_str (pa_cons pe_int (pa_cons pe_int pa_nil)))) pe_bl (nomark _))))) (pss_one (ps_ret pe_bl)) pss_nil)
    (pss_one (ps_ret (pe_and (pe_cmpR op_isU (pe_call (ok_is_word (K := K) T) (hr.mono (by decide)) (by rfl) T.m_is_word T.F_is_word.kp T.B_is_word .nil pass0 (pa_cons pe_int pa_nil)) pe_bl (nomark _)) (pe_and (pe_cmpR op_isU (pe_call (ok_number_in (K := K) T) (hr.mono (by decide)) (by rfl) T.m_number_in T.F_number_in.kp T.B_number_in .nil pass0 (pa_cons pe_int pa_nil)) pe_non (nomark _)) (pe_one (pe_cmpR op_isU (pe_call (ok_number_in (K := K) T) (hr.mono (by decide)) (by rfl) T.m_number_in T.F_number_in.kp T.B_number_in .nil pass0 (pa_cons pe_int pa_nil)) pe_non (nomark _))))))))), ?_⟩
    dsimp only [L2.start, List.map_cons, List.map_nil, List.map, List.length_cons, List.length_nil, Nat.reduceAdd, Nat.reduceSub, List.replicate, List.cons_append, List.nil_append]
    walk_at "gs"
    refine ⟨x, _, dx, q, [.int 1, .int 0], rfl, rfl, upd_same, .inl (by walk_at "sq"), fun y hy => ?_, by decide, by decide, fun H1 t s1 e1 e2 => ⟨rfl, ?_⟩⟩
    · simp only [List.mem_cons, List.not_mem_nil, or_false] at hy
      rcases hy with rfl | rfl <;> exact trivial
    walk_at "gs"
    refine ⟨upd_same, [(.inr "a", .int 1)], rfl, by decide, ?_⟩
    walk_at "gs"
    refine' for_pred (K := K) (fun σ => ∃ v, σ = [v]) (fun H y => Kn K H y ∧ isWord y = false ∧ numV y = .non ∧ (∀ lo hi, isWh lo hi y = false) ∧ Sz y) ?hL ?hp ⟨_, rfl⟩ (fun y σ H3 hy hs s3 => ?hs) (fun σ H3 hs s3 => ?hd)
    case hL => walk_at "sq"
    case hp =>
      intro y hy
      simp only [List.mem_cons, List.not_mem_nil, or_false] at hy
      rcases hy with rfl | rfl | rfl | rfl | rfl | rfl | rfl | rfl | rfl | rfl | rfl | rfl
      all_goals
        refine ⟨?_, rfl, rfl, fun _ _ => rfl, fun z e => by cases e⟩
        first
          | exact trivial
          | (refine' Kn.ofG ?h ?k; (case h => walk_at "getg"); (case k => first | exact trivial | exact ⟨T.c_Counts, T.i_Counts⟩))
    case hs =>
      obtain ⟨v, rfl⟩ := hs
      obtain ⟨ky, h1, h2, h3, hz⟩ := hy
      have w1 := h3 0 .non
      have w2 := h3 0 (.int 1)
      have w3 := h3 (-1) .non
      walk_at "gs"
      exact ⟨⟨_, rfl⟩, by walk_at "same"⟩
    case hd =>
      obtain ⟨v, rfl⟩ := hs
      have e0 : numV (.int 0) = .non := rfl
      have e7 : numV (.int 7) = .non := rfl
      have e8 : isWord (.int 7) = false := rfl
      have e1 : isWh 0 .non (.str "1") = false := rfl
      have e2 : isWh 0 (.int 9) (.str "") = false := rfl
      walk_at "gs"
      exact cast_bl (k _ (by walk_at "same")) (decide_eq_true e0).symm
def spLaw (K : PySem.W.Frag) : Sp := fun vs H Q _ => ∃ (p : Addr) (ns : List Int), vs = [.ref p] ∧ SqL K H p (ns.map V.int) ∧ ns.length ≤ 63 ∧ ∀ H', Q (.bl true) H'
theorem ok_law (T : Txt K mg a) : FnOk P w K mg base CX0 6 a.law a.d_law ["script"] (spLaw K) := by
  refine fund_ok0 T.F_law sc_law (fun vs H Q E h => ?_) (fun cdv A outer s H vs Q E hr h => ?_)
  · obtain ⟨p, ns, rfl, hS, hl, k⟩ := h
    rfl
  · obtain ⟨p, ns, rfl, hS, hl, k⟩ := h
    refine ⟨_, (pss_cons (ps_for PassesOwn.never rfl (pi_listK (K := K) (pe_op (op_addU (K := K)) (pe_slice (sl_U (K := K)) (pv 0) po_none (po_some pe_int)) (pe_lst (pa_cons pe_int pa_nil)))) (pg_name (i := 1) sc_law.nd rfl (by first | exact Or.inl rfl | exact Or.inr rfl))
    (pss_cons (ps_set (i := 2) sc_law.nd rfl (by first | exact Or.inl rfl | exact Or.inr rfl) (pe_call (ok__law_pool (K := K) T) (hr.mono (by decide)) (by rfl) T.m__law_pool T.F__law_pool.kp T.B__law_pool .nil pass0 (pa_cons (pv 1) pa_nil)))
    (pss_cons (ps_set (i := 3) sc_law.nd rfl (by first | exact Or.inl rfl | exact Or.inr rfl) (pe_lst (pa_cons (pe_call (ok__law_take (K := K) T) (hr.mono (by decide)) (by rfl) T.m__law_take T.F__law_take.kp T.B__law_take .nil pass0 (pa_cons (pv 2) (pa_cons pe_int pa_nil))) (pa_cons (pe_call (ok__law_take (K := K) T) (hr.mono (by decide)) (by rfl) T.m__law_take T.F__law_take.kp T.B__law_take .nil pass0 (pa_cons (pv 2) (pa_cons pe_int pa_nil))) (pa_cons (pe_call (ok__law_take (K := K) T) (hr.mono (by decide)) (by rfl) T.m__law_take T.F__law_take.kp T.B__law_take .nil pass0 (pa_cons (pv 2) (pa_cons pe_int pa_nil))) pa_nil)))))
    (pss_cons (ps_set (i := 4) sc_law.nd rfl (by first | exact Or.inl rfl | exact Or.inr rfl) (pe_lst (pa_cons (pe_call (ok__law_take (K := K) T) (hr.mono (by decide)) (by rfl) T.m__law_take T.F__law_take.kp T.B__law_take .nil pass0 (pa_cons (pv 2) (pa_cons pe_int pa_nil))) (pa_cons (pe_call (ok__law_take (K := K) T) (hr.mono (by decide)) (by rfl) T.m__law_take T.F__law_take.kp T.B__law_take .nil pass0 (pa_cons (pv 2) (pa_cons pe_int pa_nil))) pa_nil))))
    (pss_cons (ps_set (i := 5) sc_law.nd rfl (by first | exact Or.inl rfl | exact Or.inr rfl) (pe_lst (pa_cons (pe_call (ok__law_sign (K := K) T) (hr.mono (by decide)) (by rfl) T.m__law_sign T.F__law_sign.kp T.B__law_sign .nil pass0 (pa_cons (pv 2) pa_nil)) (pa_cons (pe_call (ok__law_sign (K := K) T) (hr.mono (by decide)) (by rfl) T.m__law_sign T.F__law_sign.kp T.B__law_sign .nil pass0 (pa_cons (pv 2) pa_nil)) pa_nil))))
    (pss_cons (ps_if (pt_not (pt_val (pe_call (ok__law_numbers_right (K := K) T) (hr.mono (by decide)) (by rfl) T.m__law_numbers_right T.F__law_numbers_right.kp T.B__law_numbers_right .nil pass0 (pa_cons (pv 2) pa_nil)))) (pss_one (ps_ret pe_bl)) pss_nil)
    (pss_cons (ps_set (i := 6) sc_law.nd rfl (by first | exact Or.inl rfl | exact Or.inr rfl) pe_str)
    (pss_cons (ps_for PassesOwn.never rfl (pi_range1 (by rfl) T.b_range (pa_cons (pe_call (ok__law_take (K := K) T) (hr.mono (by decide)) (by rfl) T.m__law_take T.F__law_take.kp T.B__law_take .nil pass0 (pa_cons (pv 2) (pa_cons pe_int pa_nil))) pa_nil)) (pg_name (i := 7) sc_law.nd rfl (by first | exact Or.inl rfl | exact Or.inr rfl))
    (pss_one (ps_set (i := 6) sc_law.nd rfl (by first | exact Or.inl rfl | exact Or.inr rfl) (pe_op (op_addU (K := K)) (pv 6) (pe_ix (ix_U (K := K)) pe_str (pe_call (ok__law_take (K := K) T) (hr.mono (by decide)) (by rfl) T.m__law_take T.F__law_take.kp T.B__law_take .nil pass0 (pa_cons (pv 2) (pa_cons pe_int pa_nil))) (fun _ _ => rfl))))))
    (pss_cons (ps_set (i := 8) sc_law.nd rfl (by first | exact Or.inl rfl | exact Or.inr rfl) (pe_ix (ix_U (K := K)) (pe_lst (pa_cons pe_str (pa_cons pe_str (pa_cons pe_str pa_nil)))) (pe_ix (ix_U (K := K)) (pv 3) pe_int (fun _ _ => rfl)) (fun _ _ => rfl)))
    (pss_cons (ps_for PassesOwn.never rfl (pi_range1 (by rfl) T.b_range (pa_cons (pe_ix (ix_U (K := K)) (pe_lst (pa_cons (pe_call (ok__law_take (K := K) T) (hr.mono (by decide)) (by rfl) T.m__law_take T.F__law_take.kp T.B__law_take .nil pass0 (pa_cons (pv 2) (pa_cons pe_int pa_nil))) (pa_cons (pe_op op_subU pe_int (pe_ix (ix_U (K := K)) (pv 3) pe_int (fun _ _ => rfl))) (pa_cons (pe_op op_subU pe_int (pe_ix (ix_U (K := K)) (pv 3) pe_int (fun _ _ => rfl))) (pa_cons (pe_call (ok__law_take (K := K) T) (hr.mono (by decide)) (by rfl) T.m__law_take T.F__law_take.kp T.B__law_take .nil pass0 (pa_cons (pv 2) (pa_cons pe_int pa_nil))) pa_nil))))) (pe_ix (ix_U (K := K)) (pv 3) pe_int (fun _ _ => rfl)) (fun _ _ => rfl)) pa_nil)) (pg_name (i := 7) sc_law.nd rfl (by first | exact Or.inl rfl | exact Or.inr rfl))
    (pss_one (ps_set (i := 8) sc_law.nd rfl (by first | exact Or.inl rfl | exact Or.inr rfl) (pe_op (op_addU (K := K)) (pv 8) (pe_ix (ix_U (K := K)) pe_str (pe_call (ok__law_take (K := K) T) (hr.mono (by decide)) (by rfl) T.m__law_take T.F__law_take.kp T.B__law_take .nil pass0 (pa_cons (pv 2) (pa_cons pe_int pa_nil))) (fun _ _ => rfl))))))
    (pss_cons (ps_for PassesOwn.never rfl (pi_listK (K := K) (pe_lst (pa_cons (pv 6) (pa_cons (pv 8) (pa_cons (pe_call (ok__law_spoilt (K := K) T) (hr.mono (by decide)) (by rfl) T.m__law_spoilt T.F__law_spoilt.kp T.B__law_spoilt .nil pass0 (pa_cons (pv 6) (pa_cons (pe_ix (ix_U (K := K)) (pv 3) pe_int (fun _ _ => rfl)) (pa_cons (pe_ix (ix_U (K := K)) (pv 4) pe_int (fun _ _ => rfl)) (pa_cons (pe_ix (ix_U (K := K)) (pv 5) pe_int (fun _ _ => rfl)) pa_nil))))) (pa_cons pe_str (pa_cons (pe_op (op_addU (K := K)) (pv 6) pe_str) pa_nil))))))) (pg_name (i := 9) sc_law.nd rfl (by first | exact Or.inl rfl | exact Or.inr rfl))
    (pss_one (ps_if (pt_not (pt_val (pe_call (ok__law_texts_right (K := K) T) (hr.mono (by decide)) (by rfl) T.m__law_texts_right T.F__law_texts_right.kp T.B__law_texts_right .nil pass0 (pa_cons (pv 9) pa_nil)))) (pss_one (ps_ret pe_bl)) pss_nil)))
    (pss_one (ps_if (pt_not (pt_val (pe_call (ok__law_texts_right (K := K) T) (hr.mono (by decide)) (by rfl) T.m__law_texts_right T.F__law_texts_right.kp T.B__law_texts_right .nil pass0 (pa_cons (pe_call (ok__law_spoilt (K := K) T) (hr.mono (by decide)) (by rfl) T.m__law_spoilt T.F__law_spoilt.kp T.B__law_spoilt .nil pass0 (pa_cons (pv 8) (pa_cons (pe_ix (ix_U (K := K)) (pv 3) pe_int (fun _ _ => rfl)) (pa_cons (pe_ix (ix_U (K := K)) (pv 4) pe_int (fun _ _ => rfl)) (pa_cons (pe_ix (ix_U (K := K)) (pv 5) pe_int (fun _ _ => rfl)) pa_nil))))) pa_nil)))) (pss_one (ps_ret pe_bl)) pss_nil)))))))))))))
    (pss_one (ps_ret (pe_call0 (ok__law_things (K := K) T) (hr.mono (by decide)) (by rfl) T.m__law_things T.F__law_things.kp T.B__law_things .nil pass0)))), ?_⟩
    dsimp only [L2.start, List.map_cons, List.map_nil, List.map, List.length_cons, List.length_nil, Nat.reduceAdd, Nat.reduceSub, List.replicate, List.cons_append, List.nil_append]
    have hc := cutV_length (ns.map V.int) none (some 40)
    rw [List.length_map] at hc
    walk_at "gs"
    refine i_addL (by walk_at "get") (by walk_at "get") (line_le (by simp only [List.length_cons, List.length_nil]; omega)) (fun q hq => ?_)
    walk_at "gs"
    refine' for_pred (K := K) (fun σ => ∃ v1 v2 v3 v4 v5 v6 v7 v8 v9, σ = [some (.ref p), v1, v2, v3, v4, v5, v6, v7, v8, v9]) (fun _ y => ∃ n, y = .int n) ?hL ?hp ⟨_, _, _, _, _, _, _, _, _, rfl⟩ (fun y σ H3 hy hs s3 => ?hs) (fun σ H3 hs s3 => ?hd)
    case hL => walk_at "sq"
    case hp =>
      intro y hy
      rcases List.mem_append.mp hy with hy | hy
      · obtain ⟨n, _, rfl⟩ := List.mem_map.mp (List.mem_of_mem_drop (List.mem_of_mem_take hy))
        exact ⟨n, rfl⟩
      · exact ⟨6, List.mem_singleton.mp hy⟩
    case hs =>
      obtain ⟨v1, v2, v3, v4, v5, v6, v7, v8, v9, rfl⟩ := hs
      obtain ⟨n, rfl⟩ := hy
      walk_at "gs"
      rename_i P hP w0 x1 hw0 hw0' w1 x2 hw1 hw1' w2 x3 hw2 hw2' W hW l0 x4 hl0 hl0' l1 x5 hl1 hl1' L hL c0 x6 x7 x8
      have eW : upd HH P (.lst [.int m']) W = some (.lst [.int w0, .int w1, .int w2]) := by walk_at "get"
      have eL : upd HH P (.lst [.int m']) L = some (.lst [.int l0, .int l1]) := by walk_at "get"
      have eS : upd HH P (.lst [.int m']) q = some (.lst [.str ⟨#[c0]⟩, .str ⟨#[c]⟩]) := by walk_at "get"
      have eP : upd HH P (.lst [.int m']) P = some (.lst [.int m']) := by walk_at "get"
      have nW : W ≠ P := by walk_at "ne"
      have nL : L ≠ P := by walk_at "ne"
      have nS : q ≠ P := by walk_at "ne"
      have s5 : SameBut P H3 (upd HH P (.lst [.int m'])) := by walk_at "but"
      generalize upd HH P (.lst [.int m']) = H5 at *
      clear hp' sb hq hL hW x8
      generalize hr0' : r = r0 at *
      refine for_range (lo := 0) (n := r0.toNat) (fun i σ H' => ∃ (z : Str) (u : Option V) (m1 : Int), σ = [some (.ref p), some (.int n), some (.ref P), some (.ref W), some (.ref L), some (.ref q), some (.str z), u, v8, v9] ∧ z.length ≤ i ∧ H' P = some (.lst [.int m1]) ∧ SameBut P H5 H')
        ⟨"", v7, _, rfl, Nat.le_refl 0, eP, SameBut.refl _ _⟩ ?_ ?_
      · rintro i σ H6 hi ⟨z, u, m1, rfl, hz, e6, s6⟩
        walk_at "gs"
        obtain ⟨c1, _, _, hc1⟩ := atI_in (xs := ("abcdefghijklmnopqrstuvwxyz" : Str).cps.toList) (r := r) (by assumption) (by show r < 26; assumption)
        refine i_ixS (by decide +kernel) hc1 ?_
        have hr' : r0.toNat ≤ 10 := by omega
        refine i_addS (line_le (by show z.length + 1 ≤ 1000; omega)) ?_
        walk_at "gs"
        exact ⟨_, _, _, rfl, by rw [len_app]; show z.length + 1 ≤ i + 1; omega, upd_same, by walk_at "but"⟩
      · rintro σ H6 ⟨z, u, m1, rfl, hz, e6, s6⟩
        have hz1 : z.length ≤ 10 := by omega
        walk_at "gs"
        revert q
        intro q1 hq1
        obtain ⟨f, hf, hfx, hf'⟩ := atI_in (xs := [V.str "", V.str "0", V.str "00"]) (r := w2) hw2 hw2'
        clear hfx
        obtain ⟨f, rfl, hfl⟩ : ∃ f' : Str, f = .str f' ∧ f'.length ≤ 2 := by
          simp only [List.mem_cons, List.not_mem_nil, or_false] at hf
          rcases hf with rfl | rfl | rfl
          all_goals exact ⟨_, rfl, by decide⟩
        refine i_ixL (by walk_at "sq") hf' ?_
        walk_at "gs"
        rename_i rr mm hrr hrr'
        obtain ⟨j, hj, hjx, hj'⟩ := atI_in (xs := [V.int rr, V.int (30 - w2), V.int (31 - w2), V.int r]) (r := w1) hw1 hw1'
        clear hjx
        obtain ⟨j, rfl, hj0, hj1⟩ : ∃ j' : Int, j = .int j' ∧ 0 ≤ j' ∧ j' ≤ 32 := by
          simp only [List.mem_cons, List.not_mem_nil, or_false] at hj
          rcases hj with rfl | rfl | rfl | rfl
          all_goals exact ⟨_, rfl, by omega, by omega⟩
        refine i_ixL (by walk_at "sq") hj' ?_
        walk_at "gs"
        have s7 : SameBut P H5 (upd (upd (upd (upd H6 q1 (.lst [.str "", .str "0", .str "00"])) P (.lst [.int mm])) P (.lst [.int m'])) q (.lst [.int rr, .int (30 - w2), .int (31 - w2), .int r])) := by walk_at "but"
        have e7 : (upd (upd (upd (upd H6 q1 (.lst [.str "", .str "0", .str "00"])) P (.lst [.int mm])) P (.lst [.int m'])) q (.lst [.int rr, .int (30 - w2), .int (31 - w2), .int r])) P = some (.lst [.int m']) := by walk_at "get"
        generalize upd (upd (upd (upd H6 q1 (.lst [.str "", .str "0", .str "00"])) P (.lst [.int mm])) P (.lst [.int m'])) q (.lst [.int rr, .int (30 - w2), .int (31 - w2), .int r]) = H7 at *
        clear hq hq1
        refine for_range (lo := 0) (n := j.toNat) (fun i σ H' => ∃ (f : Str) (u : Option V) (m1 : Int), σ = [some (.ref p), some (.int n), some (.ref P), some (.ref W), some (.ref L), some (.ref _), some (.str z), u, some (.str f), v9] ∧ f.length ≤ 2 + i ∧ H' P = some (.lst [.int m1]) ∧ SameBut P H5 H')
          ⟨f, u, _, rfl, by omega, e7, s7⟩ ?_ ?_
        · rintro i σ H8 hi ⟨f, u, m1, rfl, hf, e8, s8⟩
          walk_at "gs"
          obtain ⟨c1, _, _, hc1⟩ := atI_in (xs := ("0123456789" : Str).cps.toList) (r := r) (by assumption) (by show r < 10; assumption)
          refine i_ixS (by decide +kernel) hc1 ?_
          refine i_addS (line_le (by show f.length + 1 ≤ 1000; omega)) ?_
          walk_at "gs"
          exact ⟨_, _, _, rfl, by rw [len_app]; show f.length + 1 ≤ 2 + (i + 1); omega, upd_same, by walk_at "but"⟩
        · rintro σ H8 ⟨f, u, m1, rfl, hf, e8, s8⟩
          have hf1 : f.length ≤ 34 := by omega
          walk_at "gs"
          refine ⟨_, _, _, _, rfl, by omega, rfl, fun t' ht => ?_⟩
          walk_at "gs"
          refine i_addS (line_le (by show z.length + 1 ≤ 1000; omega)) ?_
          walk_at "gs"
          refine' for_pred (K := K) (fun σ => ∃ v9, σ = [some (.ref p), some (.int n), some (.ref P), some (.ref W), some (.ref L), some (.ref _), some (.str z), u, some (.str f), v9]) (fun _ y => ∃ t : Str, y = .str t ∧ t.length ≤ 1000) ?hL2 ?hp2 ⟨_, rfl⟩ (fun y σ H9 hy hs s9 => ?hs2) (fun σ H9 hs s9 => ?hd2)
          case hL2 => walk_at "sq"
          case hp2 =>
            intro y hy
            simp only [List.mem_cons, List.not_mem_nil, or_false] at hy
            rcases hy with rfl | rfl | rfl | rfl | rfl
            · exact ⟨_, rfl, by omega⟩
            · exact ⟨_, rfl, by omega⟩
            · exact ⟨_, rfl, by omega⟩
            · exact ⟨_, rfl, by decide⟩
            · exact ⟨_, rfl, by rw [len_app]; show z.length + 1 ≤ 1000; omega⟩
          case hs2 =>
            obtain ⟨v9, rfl⟩ := hs
            obtain ⟨t, rfl, ht⟩ := hy
            walk_at "gs"
            exact ⟨⟨_, rfl⟩, by walk_at "same"⟩
          case hd2 =>
            obtain ⟨v9, rfl⟩ := hs
            walk_at "gs"
            refine ⟨_, _, _, _, rfl, by omega, rfl, fun t2 ht2 => ?_⟩
            walk_at "gs"
            exact ⟨⟨_, _, _, _, _, _, _, _, _, rfl⟩, by walk_at "same"⟩
    case hd =>
      obtain ⟨v1, v2, v3, v4, v5, v6, v7, v8, v9, rfl⟩ := hs
      walk_at "gs"
      refine ⟨rfl, fun H4 _ => k H4⟩
end
theorem all_mk {l : PySem.W.OpenLaw} {w : World} {K : PySem.W.Frag} {h : Heap} {mg : Str → Option Value} {fa : Addr} (X : K.In h) (G : h.Ns mainGlobals mg) (hfa : mg "law" = some (.ref fa))
    {C3 f1 f2 f3 f6 f7 f24 f25 f26 f27 f28 f29 f30 f31 f32 f33 : Addr}
    {od1 an1 od2 an2 od3 an3 od6 an6 od7 an7 od24 an24 od25 an25 od26 an26 od27 an27 od28 an28 od29 an29 od30 an30 od31 an31 od32 an32 od33 an33 : Option Addr} {sl1 sl2 sl3 sl6 sl7 sl24 sl25 sl26 sl27 sl28 sl29 sl30 sl31 sl32 sl33 : Array (Option Value)} {oc1 dV1 kV1 dc1 pm1 cd1 ct1 oc2 dV2 kV2 dc2 pm2 cd2 ct2 oc3 dV3 kV3 dc3 pm3 cd3 ct3 oc6 dV6 kV6 dc6 pm6 cd6 ct6 oc7 dV7 kV7 dc7 pm7 cd7 ct7 oc24 dV24 kV24 dc24 pm24 cd24 ct24 oc25 dV25 kV25 dc25 pm25 cd25 ct25 oc26 dV26 kV26 dc26 pm26 cd26 ct26 oc27 dV27 kV27 dc27 pm27 cd27 ct27 oc28 dV28 kV28 dc28 pm28 cd28 ct28 oc29 dV29 kV29 dc29 pm29 cd29 ct29 oc30 dV30 kV30 dc30 pm30 cd30 ct30 oc31 dV31 kV31 dc31 pm31 cd31 ct31 oc32 dV32 kV32 dc32 pm32 cd32 ct32 oc33 dV33 kV33 dc33 pm33 cd33 ct33 : Value}
    {T1 : Addr} {cT1 : Value} {dT1 : Option Addr} {its1 : List Value} {n1 : Nat} {sT1 : Array (Option Value)}
    {gv0 gv1 gv2 gv3 gv4 gv5 : Value}
    (aC3 : PySem.W.nsIn K mainGlobals "Counts" = some (some (.ref C3)))
    (a1 : PySem.W.nsIn K mainGlobals "is_whole" = some (some (.ref f1)))
    (l1 : K.lookup f1 = some ⟨oc1, od1, .func (PySem.W.fnOf "is_whole" "is_whole" (defArgs s_is_whole) (defBody s_is_whole) (defScope s_is_whole) dV1 kV1 dc1 pm1 an1 cd1 ct1), sl1⟩)
    (c1 : PySem.W.codeIn K cd1 "is_whole" = true)
    (k1 : PySem.W.keepIn K (.ref f1) = true)
    (q1 : dV1 = .ref T1)
    (r1 : K.lookup T1 = some ⟨cT1, dT1, .seq its1.toArray n1, sT1⟩)
    (s1 : Vals [V.non] its1)
    (a2 : PySem.W.nsIn K mainGlobals "is_word" = some (some (.ref f2)))
    (l2 : K.lookup f2 = some ⟨oc2, od2, .func (PySem.W.fnOf "is_word" "is_word" (defArgs s_is_word) (defBody s_is_word) (defScope s_is_word) dV2 kV2 dc2 pm2 an2 cd2 ct2), sl2⟩)
    (c2 : PySem.W.codeIn K cd2 "is_word" = true)
    (k2 : PySem.W.keepIn K (.ref f2) = true)
    (q2 : dV2 = .none)
    (a3 : PySem.W.nsIn K mainGlobals "number_in" = some (some (.ref f3)))
    (l3 : K.lookup f3 = some ⟨oc3, od3, .func (PySem.W.fnOf "number_in" "number_in" (defArgs s_number_in) (defBody s_number_in) (defScope s_number_in) dV3 kV3 dc3 pm3 an3 cd3 ct3), sl3⟩)
    (c3 : PySem.W.codeIn K cd3 "number_in" = true)
    (k3 : PySem.W.keepIn K (.ref f3) = true)
    (q3 : dV3 = .none)
    (a6 : PySem.W.nsIn K mainGlobals "are_numbers" = some (some (.ref f6)))
    (l6 : K.lookup f6 = some ⟨oc6, od6, .func (PySem.W.fnOf "are_numbers" "are_numbers" (defArgs s_are_numbers) (defBody s_are_numbers) (defScope s_are_numbers) dV6 kV6 dc6 pm6 an6 cd6 ct6), sl6⟩)
    (c6 : PySem.W.codeIn K cd6 "are_numbers" = true)
    (k6 : PySem.W.keepIn K (.ref f6) = true)
    (q6 : dV6 = .none)
    (a7 : PySem.W.findIn K (.ref C3) "__init__" = some (some (.ref f7)))
    (i7 : PySem.W.isFn K (.ref f7) = true)
    (l7 : K.lookup f7 = some ⟨oc7, od7, .func (PySem.W.fnOf "__init__" "Counts.__init__" (defArgs s_Counts_init) (defBody s_Counts_init) (defScope s_Counts_init) dV7 kV7 dc7 pm7 an7 cd7 ct7), sl7⟩)
    (c7 : PySem.W.codeIn K cd7 "Counts.__init__" = true)
    (k7 : PySem.W.keepIn K (.ref f7) = true)
    (q7 : dV7 = .none)
    (a24 : PySem.W.nsIn K mainGlobals "_law_pool" = some (some (.ref f24)))
    (l24 : K.lookup f24 = some ⟨oc24, od24, .func (PySem.W.fnOf "_law_pool" "_law_pool" (defArgs s__law_pool) (defBody s__law_pool) (defScope s__law_pool) dV24 kV24 dc24 pm24 an24 cd24 ct24), sl24⟩)
    (c24 : PySem.W.codeIn K cd24 "_law_pool" = true)
    (k24 : PySem.W.keepIn K (.ref f24) = true)
    (q24 : dV24 = .none)
    (a25 : PySem.W.nsIn K mainGlobals "_law_take" = some (some (.ref f25)))
    (l25 : K.lookup f25 = some ⟨oc25, od25, .func (PySem.W.fnOf "_law_take" "_law_take" (defArgs s__law_take) (defBody s__law_take) (defScope s__law_take) dV25 kV25 dc25 pm25 an25 cd25 ct25), sl25⟩)
    (c25 : PySem.W.codeIn K cd25 "_law_take" = true)
    (k25 : PySem.W.keepIn K (.ref f25) = true)
    (q25 : dV25 = .none)
    (a26 : PySem.W.nsIn K mainGlobals "_law_sign" = some (some (.ref f26)))
    (l26 : K.lookup f26 = some ⟨oc26, od26, .func (PySem.W.fnOf "_law_sign" "_law_sign" (defArgs s__law_sign) (defBody s__law_sign) (defScope s__law_sign) dV26 kV26 dc26 pm26 an26 cd26 ct26), sl26⟩)
    (c26 : PySem.W.codeIn K cd26 "_law_sign" = true)
    (k26 : PySem.W.keepIn K (.ref f26) = true)
    (q26 : dV26 = .none)
    (a27 : PySem.W.nsIn K mainGlobals "_law_spoilt" = some (some (.ref f27)))
    (l27 : K.lookup f27 = some ⟨oc27, od27, .func (PySem.W.fnOf "_law_spoilt" "_law_spoilt" (defArgs s__law_spoilt) (defBody s__law_spoilt) (defScope s__law_spoilt) dV27 kV27 dc27 pm27 an27 cd27 ct27), sl27⟩)
    (c27 : PySem.W.codeIn K cd27 "_law_spoilt" = true)
    (k27 : PySem.W.keepIn K (.ref f27) = true)
    (q27 : dV27 = .none)
    (a28 : PySem.W.nsIn K mainGlobals "_law_is_word" = some (some (.ref f28)))
    (l28 : K.lookup f28 = some ⟨oc28, od28, .func (PySem.W.fnOf "_law_is_word" "_law_is_word" (defArgs s__law_is_word) (defBody s__law_is_word) (defScope s__law_is_word) dV28 kV28 dc28 pm28 an28 cd28 ct28), sl28⟩)
    (c28 : PySem.W.codeIn K cd28 "_law_is_word" = true)
    (k28 : PySem.W.keepIn K (.ref f28) = true)
    (q28 : dV28 = .none)
    (a29 : PySem.W.nsIn K mainGlobals "_law_number" = some (some (.ref f29)))
    (l29 : K.lookup f29 = some ⟨oc29, od29, .func (PySem.W.fnOf "_law_number" "_law_number" (defArgs s__law_number) (defBody s__law_number) (defScope s__law_number) dV29 kV29 dc29 pm29 an29 cd29 ct29), sl29⟩)
    (c29 : PySem.W.codeIn K cd29 "_law_number" = true)
    (k29 : PySem.W.keepIn K (.ref f29) = true)
    (q29 : dV29 = .none)
    (a30 : PySem.W.nsIn K mainGlobals "_law_numbers_right" = some (some (.ref f30)))
    (l30 : K.lookup f30 = some ⟨oc30, od30, .func (PySem.W.fnOf "_law_numbers_right" "_law_numbers_right" (defArgs s__law_numbers_right) (defBody s__law_numbers_right) (defScope s__law_numbers_right) dV30 kV30 dc30 pm30 an30 cd30 ct30), sl30⟩)
    (c30 : PySem.W.codeIn K cd30 "_law_numbers_right" = true)
    (k30 : PySem.W.keepIn K (.ref f30) = true)
    (q30 : dV30 = .none)
    (a31 : PySem.W.nsIn K mainGlobals "_law_texts_right" = some (some (.ref f31)))
    (l31 : K.lookup f31 = some ⟨oc31, od31, .func (PySem.W.fnOf "_law_texts_right" "_law_texts_right" (defArgs s__law_texts_right) (defBody s__law_texts_right) (defScope s__law_texts_right) dV31 kV31 dc31 pm31 an31 cd31 ct31), sl31⟩)
    (c31 : PySem.W.codeIn K cd31 "_law_texts_right" = true)
    (k31 : PySem.W.keepIn K (.ref f31) = true)
    (q31 : dV31 = .none)
    (a32 : PySem.W.nsIn K mainGlobals "_law_things" = some (some (.ref f32)))
    (l32 : K.lookup f32 = some ⟨oc32, od32, .func (PySem.W.fnOf "_law_things" "_law_things" (defArgs s__law_things) (defBody s__law_things) (defScope s__law_things) dV32 kV32 dc32 pm32 an32 cd32 ct32), sl32⟩)
    (c32 : PySem.W.codeIn K cd32 "_law_things" = true)
    (k32 : PySem.W.keepIn K (.ref f32) = true)
    (q32 : dV32 = .none)
    (a33 : PySem.W.nsIn K mainGlobals "law" = some (some (.ref f33)))
    (l33 : K.lookup f33 = some ⟨oc33, od33, .func (PySem.W.fnOf "law" "law" (defArgs s_law) (defBody s_law) (defScope s_law) dV33 kV33 dc33 pm33 an33 cd33 ct33), sl33⟩)
    (c33 : PySem.W.codeIn K cd33 "law" = true)
    (k33 : PySem.W.keepIn K (.ref f33) = true)
    (q33 : dV33 = .none)
    (gl0 : PySem.W.nsIn K mainGlobals "LETTERS" = some (some gv0))
    (gr0 : RelV (V.str "abcdefghijklmnopqrstuvwxyz") gv0)
    (gl1 : PySem.W.nsIn K mainGlobals "FIGURES" = some (some gv1))
    (gr1 : RelV (V.str "0123456789") gv1)
    (gl2 : PySem.W.nsIn K mainGlobals "LONGEST_WORD" = some (some gv2))
    (gr2 : RelV (V.int 8) gv2)
    (gl3 : PySem.W.nsIn K mainGlobals "MOST_FIGURES" = some (some gv3))
    (gr3 : RelV (V.int 30) gv3)
    (gl4 : PySem.W.nsIn K mainGlobals "LEAST_MEMBERS" = some (some gv4))
    (gr4 : RelV (V.int 2) gv4)
    (gl5 : PySem.W.nsIn K mainGlobals "MOST_MEMBERS" = some (some gv5))
    (gr5 : RelV (V.int 5) gv5)
    (hd3 : PySem.W.hasDictIn K C3 = true)
    (hn : PySem.W.specialIn K (.builtin "object.__class__") "__get__" = some (some (.builtin "getset_descriptor.__get__")))
    (htk : PySem.W.takesIn K (.builtin "object.__class__") = some true)
    (ia3 : PySem.W.findIn K (.ref C3) "__class__" = some (some (.builtin "object.__class__")))
    (ic3 : PySem.W.isClsIn K C3 = true)
    (ii3NoneType : PySem.W.subIn K (.type "NoneType") (.ref C3) = some false)
    (ii3bool : PySem.W.subIn K (.type "bool") (.ref C3) = some false)
    (ii3dict : PySem.W.subIn K (.type "dict") (.ref C3) = some false)
    (ii3int : PySem.W.subIn K (.type "int") (.ref C3) = some false)
    (ii3list : PySem.W.subIn K (.type "list") (.ref C3) = some false)
    (ii3str : PySem.W.subIn K (.type "str") (.ref C3) = some false)
    (ii3tuple : PySem.W.subIn K (.type "tuple") (.ref C3) = some false)
    (im3 : PySem.W.mroIn K C3 (.type "object") = some true)
    (io3bool : PySem.W.subIn K (.ref C3) (.type "bool") = some false)
    (io3dict : PySem.W.subIn K (.ref C3) (.type "dict") = some false)
    (io3int : PySem.W.subIn K (.ref C3) (.type "int") = some false)
    (io3list : PySem.W.subIn K (.ref C3) (.type "list") = some false)
    (io3str : PySem.W.subIn K (.ref C3) (.type "str") = some false)
    (io3tuple : PySem.W.subIn K (.ref C3) (.type "tuple") = some false)
    (it3 : PySem.W.typeIn K (.ref C3) = some (.type "type"))
    (kc3 : PySem.W.keepIn K (.ref C3) = true)
    (mk3 : PySem.W.makesIn K C3 = true)
    (n3_kept_numbers : PySem.W.findIn K (.ref C3) "kept_numbers" = some none)
    (pg3 : PySem.W.plainGet K C3 Str.empty = true)
    (po3 : PySem.W.plainOver K C3 = true)
    (sa3 : PySem.W.findIn K (.ref C3) "__setattr__" = some (some (.builtin "object.__setattr__")))
    (z20 : PySem.W.nsIn K mainGlobals "all" = some none)
    (z22 : PySem.W.nsIn K mainGlobals "bool" = some none)
    (z23 : PySem.W.nsIn K mainGlobals "int" = some none)
    (z26 : PySem.W.nsIn K mainGlobals "isinstance" = some none)
    (z27 : PySem.W.nsIn K mainGlobals "len" = some none)
    (z28 : PySem.W.nsIn K mainGlobals "list" = some none)
    (z29 : PySem.W.nsIn K mainGlobals "max" = some none)
    (z30 : PySem.W.nsIn K mainGlobals "min" = some none)
    (z32 : PySem.W.nsIn K mainGlobals "range" = some none)
    (z33 : PySem.W.nsIn K mainGlobals "str" = some none)
    (z34 : PySem.W.nsIn K mainGlobals "tuple" = some none)
    : ∃ fd : FuncData, (∀ (s : Shared) (v : Value), BindsTo s fd ⟨[v], []⟩ [("script", v)]) ∧ ∀ base : Heap, K.In base → base.Ns mainGlobals mg → FnOk l.prog w K mg base CX0 6 fa fd ["script"] (spLaw K) := by
  have e := hfa.symm.trans (PySem.W.mg_of X G a33)
  cases e
  have T : Txt K mg { Counts := C3, is_whole := f1, d_is_whole := PySem.W.fnOf "is_whole" "is_whole" (defArgs s_is_whole) (defBody s_is_whole) (defScope s_is_whole) dV1 kV1 dc1 pm1 an1 cd1 ct1, is_word := f2, d_is_word := PySem.W.fnOf "is_word" "is_word" (defArgs s_is_word) (defBody s_is_word) (defScope s_is_word) dV2 kV2 dc2 pm2 an2 cd2 ct2, number_in := f3, d_number_in := PySem.W.fnOf "number_in" "number_in" (defArgs s_number_in) (defBody s_number_in) (defScope s_number_in) dV3 kV3 dc3 pm3 an3 cd3 ct3, are_numbers := f6, d_are_numbers := PySem.W.fnOf "are_numbers" "are_numbers" (defArgs s_are_numbers) (defBody s_are_numbers) (defScope s_are_numbers) dV6 kV6 dc6 pm6 an6 cd6 ct6, Counts_init := f7, d_Counts_init := PySem.W.fnOf "__init__" "Counts.__init__" (defArgs s_Counts_init) (defBody s_Counts_init) (defScope s_Counts_init) dV7 kV7 dc7 pm7 an7 cd7 ct7, _law_pool := f24, d__law_pool := PySem.W.fnOf "_law_pool" "_law_pool" (defArgs s__law_pool) (defBody s__law_pool) (defScope s__law_pool) dV24 kV24 dc24 pm24 an24 cd24 ct24, _law_take := f25, d__law_take := PySem.W.fnOf "_law_take" "_law_take" (defArgs s__law_take) (defBody s__law_take) (defScope s__law_take) dV25 kV25 dc25 pm25 an25 cd25 ct25, _law_sign := f26, d__law_sign := PySem.W.fnOf "_law_sign" "_law_sign" (defArgs s__law_sign) (defBody s__law_sign) (defScope s__law_sign) dV26 kV26 dc26 pm26 an26 cd26 ct26, _law_spoilt := f27, d__law_spoilt := PySem.W.fnOf "_law_spoilt" "_law_spoilt" (defArgs s__law_spoilt) (defBody s__law_spoilt) (defScope s__law_spoilt) dV27 kV27 dc27 pm27 an27 cd27 ct27, _law_is_word := f28, d__law_is_word := PySem.W.fnOf "_law_is_word" "_law_is_word" (defArgs s__law_is_word) (defBody s__law_is_word) (defScope s__law_is_word) dV28 kV28 dc28 pm28 an28 cd28 ct28, _law_number := f29, d__law_number := PySem.W.fnOf "_law_number" "_law_number" (defArgs s__law_number) (defBody s__law_number) (defScope s__law_number) dV29 kV29 dc29 pm29 an29 cd29 ct29, _law_numbers_right := f30, d__law_numbers_right := PySem.W.fnOf "_law_numbers_right" "_law_numbers_right" (defArgs s__law_numbers_right) (defBody s__law_numbers_right) (defScope s__law_numbers_right) dV30 kV30 dc30 pm30 an30 cd30 ct30, _law_texts_right := f31, d__law_texts_right := PySem.W.fnOf "_law_texts_right" "_law_texts_right" (defArgs s__law_texts_right) (defBody s__law_texts_right) (defScope s__law_texts_right) dV31 kV31 dc31 pm31 an31 cd31 ct31, _law_things := f32, d__law_things := PySem.W.fnOf "_law_things" "_law_things" (defArgs s__law_things) (defBody s__law_things) (defScope s__law_things) dV32 kV32 dc32 pm32 an32 cd32 ct32, law := fa, d_law := PySem.W.fnOf "law" "law" (defArgs s_law) (defBody s_law) (defScope s_law) dV33 kV33 dc33 pm33 an33 cd33 ct33 } := {
    m_Counts := PySem.W.mg_of X G aC3,
    c_Counts := ⟨pg3, hd3, po3, sa3⟩,
    i_Counts := ⟨ia3, hn, htk, im3, fun d => by cases d <;> first | exact kit_out (by decide +kernel) io3int | exact kit_out (by decide +kernel) io3bool | exact kit_out (by decide +kernel) io3str | exact kit_out (by decide +kernel) io3list | exact kit_out (by decide +kernel) io3tuple | exact kit_out (by decide +kernel) io3dict, fun t ht => by
      simp only [List.mem_cons, List.not_mem_nil, or_false] at ht
      rcases ht with rfl | rfl | rfl | rfl | rfl | rfl | rfl
      all_goals first | exact kit_in rfl ic3 it3 ii3NoneType | exact kit_in rfl ic3 it3 ii3int | exact kit_in rfl ic3 it3 ii3bool | exact kit_in rfl ic3 it3 ii3str | exact kit_in rfl ic3 it3 ii3list | exact kit_in rfl ic3 it3 ii3tuple | exact kit_in rfl ic3 it3 ii3dict⟩,
    mk_Counts := ⟨mk3, a7, i7, kc3⟩,
    n_Counts_kept_numbers := n3_kept_numbers,
    F_is_whole := (fund_mk (K := K) (x := "is_whole") (qual := "is_whole") (st := s_is_whole) (dvs := [V.non]) l1 c1 k1 (dfl_mk q1 r1 rfl s1 (by simp))),
    B_is_whole := fund_allD (fund_mk (K := K) (x := "is_whole") (qual := "is_whole") (st := s_is_whole) (dvs := [V.non]) l1 c1 k1 (dfl_mk q1 r1 rfl s1 (by simp))) (by simp) (fun _ _ _ _ _ _ _ us its hl h2 => match us, its, hl, h2 with | [_, _, _], [_], _, _ => ⟨_, rfl, rfl⟩),
    m_is_whole := PySem.W.mg_of X G a1,
    B1_is_whole := FunD.binds1 (fund_mk (K := K) (x := "is_whole") (qual := "is_whole") (st := s_is_whole) (dvs := [V.non]) l1 c1 k1 (dfl_mk q1 r1 rfl s1 (by simp))) 2 0 (by simp) (by decide) (fun _ _ _ _ _ _ _ us its h1 h2 => match us, its, h1, h2 with | [_, _], [_], _, _ => ⟨_, rfl, rfl⟩),
    F_is_word := (fund_mk (K := K) (x := "is_word") (qual := "is_word") (st := s_is_word) (dvs := []) l2 c2 k2 (.inl ⟨rfl, q2⟩)),
    B_is_word := fund_all0 (fund_mk (K := K) (x := "is_word") (qual := "is_word") (st := s_is_word) (dvs := []) l2 c2 k2 (.inl ⟨rfl, q2⟩)) (fun _ _ _ _ _ _ us hl => match us, hl with | [_], _ => rfl),
    m_is_word := PySem.W.mg_of X G a2,
    F_number_in := (fund_mk (K := K) (x := "number_in") (qual := "number_in") (st := s_number_in) (dvs := []) l3 c3 k3 (.inl ⟨rfl, q3⟩)),
    B_number_in := fund_all0 (fund_mk (K := K) (x := "number_in") (qual := "number_in") (st := s_number_in) (dvs := []) l3 c3 k3 (.inl ⟨rfl, q3⟩)) (fun _ _ _ _ _ _ us hl => match us, hl with | [_], _ => rfl),
    m_number_in := PySem.W.mg_of X G a3,
    F_are_numbers := (fund_mk (K := K) (x := "are_numbers") (qual := "are_numbers") (st := s_are_numbers) (dvs := []) l6 c6 k6 (.inl ⟨rfl, q6⟩)),
    B_are_numbers := fund_all0 (fund_mk (K := K) (x := "are_numbers") (qual := "are_numbers") (st := s_are_numbers) (dvs := []) l6 c6 k6 (.inl ⟨rfl, q6⟩)) (fun _ _ _ _ _ _ us hl => match us, hl with | [_], _ => rfl),
    m_are_numbers := PySem.W.mg_of X G a6,
    F_Counts_init := (fund_mk (K := K) (x := "__init__") (qual := "Counts.__init__") (st := s_Counts_init) (dvs := []) l7 c7 k7 (.inl ⟨rfl, q7⟩)),
    B_Counts_init := fund_all0 (fund_mk (K := K) (x := "__init__") (qual := "Counts.__init__") (st := s_Counts_init) (dvs := []) l7 c7 k7 (.inl ⟨rfl, q7⟩)) (fun _ _ _ _ _ _ us hl => match us, hl with | [_, _], _ => rfl),
    F__law_pool := (fund_mk (K := K) (x := "_law_pool") (qual := "_law_pool") (st := s__law_pool) (dvs := []) l24 c24 k24 (.inl ⟨rfl, q24⟩)),
    B__law_pool := fund_all0 (fund_mk (K := K) (x := "_law_pool") (qual := "_law_pool") (st := s__law_pool) (dvs := []) l24 c24 k24 (.inl ⟨rfl, q24⟩)) (fun _ _ _ _ _ _ us hl => match us, hl with | [_], _ => rfl),
    m__law_pool := PySem.W.mg_of X G a24,
    F__law_take := (fund_mk (K := K) (x := "_law_take") (qual := "_law_take") (st := s__law_take) (dvs := []) l25 c25 k25 (.inl ⟨rfl, q25⟩)),
    B__law_take := fund_all0 (fund_mk (K := K) (x := "_law_take") (qual := "_law_take") (st := s__law_take) (dvs := []) l25 c25 k25 (.inl ⟨rfl, q25⟩)) (fun _ _ _ _ _ _ us hl => match us, hl with | [_, _], _ => rfl),
    m__law_take := PySem.W.mg_of X G a25,
    F__law_sign := (fund_mk (K := K) (x := "_law_sign") (qual := "_law_sign") (st := s__law_sign) (dvs := []) l26 c26 k26 (.inl ⟨rfl, q26⟩)),
    B__law_sign := fund_all0 (fund_mk (K := K) (x := "_law_sign") (qual := "_law_sign") (st := s__law_sign) (dvs := []) l26 c26 k26 (.inl ⟨rfl, q26⟩)) (fun _ _ _ _ _ _ us hl => match us, hl with | [_], _ => rfl),
    m__law_sign := PySem.W.mg_of X G a26,
    F__law_spoilt := (fund_mk (K := K) (x := "_law_spoilt") (qual := "_law_spoilt") (st := s__law_spoilt) (dvs := []) l27 c27 k27 (.inl ⟨rfl, q27⟩)),
    B__law_spoilt := fund_all0 (fund_mk (K := K) (x := "_law_spoilt") (qual := "_law_spoilt") (st := s__law_spoilt) (dvs := []) l27 c27 k27 (.inl ⟨rfl, q27⟩)) (fun _ _ _ _ _ _ us hl => match us, hl with | [_, _, _, _], _ => rfl),
    m__law_spoilt := PySem.W.mg_of X G a27,
    F__law_is_word := (fund_mk (K := K) (x := "_law_is_word") (qual := "_law_is_word") (st := s__law_is_word) (dvs := []) l28 c28 k28 (.inl ⟨rfl, q28⟩)),
    B__law_is_word := fund_all0 (fund_mk (K := K) (x := "_law_is_word") (qual := "_law_is_word") (st := s__law_is_word) (dvs := []) l28 c28 k28 (.inl ⟨rfl, q28⟩)) (fun _ _ _ _ _ _ us hl => match us, hl with | [_], _ => rfl),
    m__law_is_word := PySem.W.mg_of X G a28,
    F__law_number := (fund_mk (K := K) (x := "_law_number") (qual := "_law_number") (st := s__law_number) (dvs := []) l29 c29 k29 (.inl ⟨rfl, q29⟩)),
    B__law_number := fund_all0 (fund_mk (K := K) (x := "_law_number") (qual := "_law_number") (st := s__law_number) (dvs := []) l29 c29 k29 (.inl ⟨rfl, q29⟩)) (fun _ _ _ _ _ _ us hl => match us, hl with | [_], _ => rfl),
    m__law_number := PySem.W.mg_of X G a29,
    F__law_numbers_right := (fund_mk (K := K) (x := "_law_numbers_right") (qual := "_law_numbers_right") (st := s__law_numbers_right) (dvs := []) l30 c30 k30 (.inl ⟨rfl, q30⟩)),
    B__law_numbers_right := fund_all0 (fund_mk (K := K) (x := "_law_numbers_right") (qual := "_law_numbers_right") (st := s__law_numbers_right) (dvs := []) l30 c30 k30 (.inl ⟨rfl, q30⟩)) (fun _ _ _ _ _ _ us hl => match us, hl with | [_], _ => rfl),
    m__law_numbers_right := PySem.W.mg_of X G a30,
    F__law_texts_right := (fund_mk (K := K) (x := "_law_texts_right") (qual := "_law_texts_right") (st := s__law_texts_right) (dvs := []) l31 c31 k31 (.inl ⟨rfl, q31⟩)),
    B__law_texts_right := fund_all0 (fund_mk (K := K) (x := "_law_texts_right") (qual := "_law_texts_right") (st := s__law_texts_right) (dvs := []) l31 c31 k31 (.inl ⟨rfl, q31⟩)) (fun _ _ _ _ _ _ us hl => match us, hl with | [_], _ => rfl),
    m__law_texts_right := PySem.W.mg_of X G a31,
    F__law_things := (fund_mk (K := K) (x := "_law_things") (qual := "_law_things") (st := s__law_things) (dvs := []) l32 c32 k32 (.inl ⟨rfl, q32⟩)),
    B__law_things := fund_all0 (fund_mk (K := K) (x := "_law_things") (qual := "_law_things") (st := s__law_things) (dvs := []) l32 c32 k32 (.inl ⟨rfl, q32⟩)) (fun _ _ _ _ _ _ us hl => match us, hl with | [], _ => rfl),
    m__law_things := PySem.W.mg_of X G a32,
    F_law := (fund_mk (K := K) (x := "law") (qual := "law") (st := s_law) (dvs := []) l33 c33 k33 (.inl ⟨rfl, q33⟩)),
    k_is_whole_1_low_high := fund_kw (fund_mk (K := K) (x := "is_whole") (qual := "is_whole") (st := s_is_whole) (dvs := [V.non]) l1 c1 k1 (dfl_mk q1 r1 rfl s1 (by simp))) 1 ["low", "high"] [0, 1, 2] (by simp) (fun _ _ _ _ _ _ _ us ws its h1 h2 h3 => match us, ws, its, h1, h2, h3 with | [_], [_, _], [_], _, _, _ => ⟨_, rfl, rfl⟩),
    g_LETTERS := ⟨_, PySem.W.mg_of X G gl0, gr0⟩,
    g_FIGURES := ⟨_, PySem.W.mg_of X G gl1, gr1⟩,
    g_LONGEST_WORD := ⟨_, PySem.W.mg_of X G gl2, gr2⟩,
    g_MOST_FIGURES := ⟨_, PySem.W.mg_of X G gl3, gr3⟩,
    g_LEAST_MEMBERS := ⟨_, PySem.W.mg_of X G gl4, gr4⟩,
    g_MOST_MEMBERS := ⟨_, PySem.W.mg_of X G gl5, gr5⟩,
    b_all := PySem.W.mg_none_of X G z20,
    b_bool := PySem.W.mg_none_of X G z22,
    b_int := PySem.W.mg_none_of X G z23,
    b_isinstance := PySem.W.mg_none_of X G z26,
    b_len := PySem.W.mg_none_of X G z27,
    b_list := PySem.W.mg_none_of X G z28,
    b_max := PySem.W.mg_none_of X G z29,
    b_min := PySem.W.mg_none_of X G z30,
    b_range := PySem.W.mg_none_of X G z32,
    b_str := PySem.W.mg_none_of X G z33,
    b_tuple := PySem.W.mg_none_of X G z34
  }
  exact ⟨_, fun s v => (fund_mk (K := K) (x := "law") (qual := "law") (st := s_law) (dvs := []) l33 c33 k33 (.inl ⟨rfl, q33⟩)).bindsA (ps := ["script"]) (fun _ _ _ _ _ _ us hl => match us, hl with | [_], _ => rfl) s [v] rfl, fun base _ _ => ok_law T⟩
theorem walk {l : PySem.W.OpenLaw} {q : Program} {loose : List Str} {XP : (Str → Option Value) → Heap → Prop} {YP : World → Heap → Prop} {d : DefRec} {K : Params → PySem.W.Frag} (hn : l.most = some 63) (hdf : d.params.defaults = [])
    (hY : ∀ (w : World) (h : Heap), YP w h → (K w.params).In h)
    (F : ∀ (w : World) (mg : Str → Option Value) (fa : Addr) (h : Heap), (K w.params).In h → h.Ns mainGlobals mg → mg d.name = some (.ref fa) →
      ∃ fd : FuncData, (∀ (s : Shared) (u : Value), BindsTo s fd ⟨[u], []⟩ [("script", u)]) ∧ ∀ base : Heap, (K w.params).In base → base.Ns mainGlobals mg → FnOk l.prog w (K w.params) mg base CX0 6 fa fd ["script"] (spLaw (K w.params))) :
    PySem.W.WalkO q loose XP YP l.row.toRowW d [] (fun f vs => PySem.call f vs) :=
  L2.walk_of (n := 63) (k := 6) (x := "script") (CX := fun _ => CX0) (sp := fun w => spLaw (K w.params)) hn (by decide) hdf ⟨rfl, by decide, by decide⟩ hY F (fun _ _ b ns hl _ hS => ⟨b, ns, rfl, hS, hl, fun _ => rfl⟩) fun _ _ _ _ _ z => z
end My
open PySem PySem.W PyProof.Rows
set_option maxRecDepth 100000 in
set_option maxHeartbeats 0 in
theorem PySem.Challenge.cw_causehall_k01_words_holds : PySem.Challenge.rw_causehall_k01_words.Holds := by
  w_on; o_law; k_head; (case hw => w_witness2)
  k_fill
  refine My.walk (l := PySem.Challenge.rw_causehall_k01_words) rfl rfl (fun w h Y => PySem.W.kIn_of Y) ?F
  case F =>
    intro w mg fa h KX G hmg
    refine' My.all_mk KX G hmg ?aC3 ?a1 ?l1 ?c1 ?k1 ?q1 ?r1 ?s1 ?a2 ?l2 ?c2 ?k2 ?q2 ?a3 ?l3 ?c3 ?k3 ?q3 ?a6 ?l6 ?c6 ?k6 ?q6 ?a7 ?i7 ?l7 ?c7 ?k7 ?q7 ?a24 ?l24 ?c24 ?k24 ?q24 ?a25 ?l25 ?c25 ?k25 ?q25 ?a26 ?l26 ?c26 ?k26 ?q26 ?a27 ?l27 ?c27 ?k27 ?q27 ?a28 ?l28 ?c28 ?k28 ?q28 ?a29 ?l29 ?c29 ?k29 ?q29 ?a30 ?l30 ?c30 ?k30 ?q30 ?a31 ?l31 ?c31 ?k31 ?q31 ?a32 ?l32 ?c32 ?k32 ?q32 ?a33 ?l33 ?c33 ?k33 ?q33 ?gl0 ?gr0 ?gl1 ?gr1 ?gl2 ?gr2 ?gl3 ?gr3 ?gl4 ?gr4 ?gl5 ?gr5 ?hd3 ?hn ?htk ?ia3 ?ic3 ?ii3NoneType ?ii3bool ?ii3dict ?ii3int ?ii3list ?ii3str ?ii3tuple ?im3 ?io3bool ?io3dict ?io3int ?io3list ?io3str ?io3tuple ?it3 ?kc3 ?mk3 ?n3_kept_numbers ?pg3 ?po3 ?sa3 ?z20 ?z22 ?z23 ?z26 ?z27 ?z28 ?z29 ?z30 ?z32 ?z33 ?z34
    (case aC3 => k_is)
    (case a1 => k_is)
    (case l1 => k_is)
    (case c1 => k_is)
    (case k1 => k_is)
    (case q1 => rfl)
    (case r1 => k_is)
    (case s1 => exact .cons rfl (.nil))
    (case a2 => k_is)
    (case l2 => k_is)
    (case c2 => k_is)
    (case k2 => k_is)
    (case q2 => rfl)
    (case a3 => k_is)
    (case l3 => k_is)
    (case c3 => k_is)
    (case k3 => k_is)
    (case q3 => rfl)
    (case a6 => k_is)
    (case l6 => k_is)
    (case c6 => k_is)
    (case k6 => k_is)
    (case q6 => rfl)
    (case a7 => k_is)
    (case i7 => k_is)
    (case l7 => k_is)
    (case c7 => k_is)
    (case k7 => k_is)
    (case q7 => rfl)
    (case a24 => k_is)
    (case l24 => k_is)
    (case c24 => k_is)
    (case k24 => k_is)
    (case q24 => rfl)
    (case a25 => k_is)
    (case l25 => k_is)
    (case c25 => k_is)
    (case k25 => k_is)
    (case q25 => rfl)
    (case a26 => k_is)
    (case l26 => k_is)
    (case c26 => k_is)
    (case k26 => k_is)
    (case q26 => rfl)
    (case a27 => k_is)
    (case l27 => k_is)
    (case c27 => k_is)
    (case k27 => k_is)
    (case q27 => rfl)
    (case a28 => k_is)
    (case l28 => k_is)
    (case c28 => k_is)
    (case k28 => k_is)
    (case q28 => rfl)
    (case a29 => k_is)
    (case l29 => k_is)
    (case c29 => k_is)
    (case k29 => k_is)
    (case q29 => rfl)
    (case a30 => k_is)
    (case l30 => k_is)
    (case c30 => k_is)
    (case k30 => k_is)
    (case q30 => rfl)
    (case a31 => k_is)
    (case l31 => k_is)
    (case c31 => k_is)
    (case k31 => k_is)
    (case q31 => rfl)
    (case a32 => k_is)
    (case l32 => k_is)
    (case c32 => k_is)
    (case k32 => k_is)
    (case q32 => rfl)
    (case a33 => k_is)
    (case l33 => k_is)
    (case c33 => k_is)
    (case k33 => k_is)
    (case q33 => rfl)
    (case gl0 => k_is)
    (case gr0 => exact ⟨_, rfl⟩)
    (case gl1 => k_is)
    (case gr1 => exact ⟨_, rfl⟩)
    (case gl2 => k_is)
    (case gr2 => exact ⟨_, rfl⟩)
    (case gl3 => k_is)
    (case gr3 => exact ⟨_, rfl⟩)
    (case gl4 => k_is)
    (case gr4 => exact ⟨_, rfl⟩)
    (case gl5 => k_is)
    (case gr5 => exact ⟨_, rfl⟩)
    (case hd3 => k_is)
    (case hn => k_is)
    (case htk => k_is)
    (case ia3 => k_is)
    (case ic3 => k_is)
    (case ii3NoneType => k_is)
    (case ii3bool => k_is)
    (case ii3dict => k_is)
    (case ii3int => k_is)
    (case ii3list => k_is)
    (case ii3str => k_is)
    (case ii3tuple => k_is)
    (case im3 => k_is)
    (case io3bool => k_is)
    (case io3dict => k_is)
    (case io3int => k_is)
    (case io3list => k_is)
    (case io3str => k_is)
    (case io3tuple => k_is)
    (case it3 => k_is)
    (case kc3 => k_is)
    (case mk3 => k_is)
    (case n3_kept_numbers => k_is)
    (case pg3 => k_is)
    (case po3 => k_is)
    (case sa3 => k_is)
    (case z20 => k_is)
    (case z22 => k_is)
    (case z23 => k_is)
    (case z26 => k_is)
    (case z27 => k_is)
    (case z28 => k_is)
    (case z29 => k_is)
    (case z30 => k_is)
    (case z32 => k_is)
    (case z33 => k_is)
    (case z34 => k_is)
#print axioms PySem.Challenge.cw_causehall_k01_words_holds

