import PyProof.Rows.All
import Wide.All
import OpenK.AllK
import Wide.FinOn
import HandS.ForMost
import HandS.Wide
import HandS.IsInst
import HandS.Style
import HandS.Defaults
import HandS.Walk
import KE.IntTextLaws
import HandS.ForExc
import HandS.TryMany
import HandS.TryElse
import KE.KTryMore
import HandS.ExcInit
import HandS.CallSlots
import HandS.ExcField
import HandS.ExcIs
import KE.KEqNest
import PyProof.NeKinds
import KE.KExcIs
import HandS.Zip
import KE.KRevSl
import HandS.OwnEq
import HandS.Small
import HandS.More
import KE.GoesEnum
import KE.GoesMore
import KE.DataMinMax
import KE.KFmtOwn
import KE.KCallOwn
import PyProof.InstNe
import HandS.FStr
import PyProof.Rows.StrJoinMade
import HandS.DictComp
import HandS.HotCalls
import HandS.CallLocal
import HandS.Deep
import HandS.DictTup
import HandS.TupLen
import HandS.Conv
import HandS.TupAny
import HandS.TupMul
import PyProof.ExcClass
import HandS.HeadNt
import HandS.HeadHook3
import HandS.HeadEnd
import KE.HD2
import PySem.Challenge.RW_causehall_k78_plain_deeds
set_option maxRecDepth 100000
set_option maxHeartbeats 4000000
namespace My
open PySem L2
/-! ### the head by one kernel run: what the walk needs of the heap is looked at there, by numbers of objects -/
structure HdD where
  as : List Addr
  fn : List He5.DefA
  ts : List (Addr × List Str)
  vs : List ((PySem.W.Frag → Option (Option Value)) × Option (Option Value))
  us : List ((PySem.W.Frag → Option Value) × Option Value)
  cs : List ((PySem.W.Frag → Option PySem.W.CFound) × Option PySem.W.CFound)
  os : List ((PySem.W.Frag → Option Bool) × Option Bool)
  bs : List (PySem.W.Frag → Bool)
abbrev HdA : Type := List (Option (Option Value)) × List (Option Value) × List (Option PySem.W.CFound) × List (Option Bool) × List Bool × List Bool × List He5.FnW × List (Option (List (Option (Str × Int))))
def HdD.at (D : HdD) (K : PySem.W.Frag) : HdA :=
  (D.vs.map (fun q => q.1 K), D.us.map (fun q => q.1 K), D.cs.map (fun q => q.1 K), D.os.map (fun q => q.1 K), D.bs.map (fun q => q K), D.fn.map (fun d => d.ok K), D.fn.map (fun d => He5.fnA K (d.at_ K)), D.ts.map (fun t => He.dicW K t.1))
def HdD.due (D : HdD) (w : World) : HdA :=
  (D.vs.map (fun q => q.2), D.us.map (fun q => q.2), D.cs.map (fun q => q.2), D.os.map (fun q => q.2), D.bs.map (fun _ => true), D.fn.map (fun _ => true), D.fn.map He5.DefA.val, D.ts.map (fun t => some (He.keysIn w.params t.2)))
def HdD.Says (D : HdD) (w : World) (K : PySem.W.Frag) : Prop := D.at K = D.due w
def HdD.hook (D : HdD) : PySem.W.Hook where
  α := HdA
  obs := fun s => D.at (He.frG s.heap.get? D.as)
  val := D.due
  says := fun w h => ∃ K : PySem.W.Frag, K.In h ∧ D.Says w K
  of := fun _ _ e => ⟨_, He.frG_in, e⟩
  keeps := fun _ _ _ ⟨K, hK, c⟩ k => ⟨K, PySem.W.Frag.In.keeps hK k, c⟩
def HdD.ob (D : HdD) (s : PySem.W.SharedT) : HdA := D.at (He.frG (HeadRun.getT s) D.as)
theorem HdD.ob_eq (D : HdD) (s : PySem.W.SharedT) : D.ob s = D.hook.obs s.abs := by
  have e : HeadRun.getT s = s.abs.heap.get? := funext (HeadRun.getT_eq s)
  show D.at (He.frG (HeadRun.getT s) D.as) = D.at (He.frG s.abs.heap.get? D.as)
  rw [e]
theorem map_at {α β : Type} {l : List α} {f g : α → β} (e : l.map f = l.map g) {i : Nat} {q : α} (h : l[i]? = some q) : f q = g q := by
  have e2 : (l.map f)[i]? = (l.map g)[i]? := by rw [e]
  rw [List.getElem?_map, List.getElem?_map, h] at e2
  exact Option.some.inj e2
/-- the def that stands at an object -/
def fdAt (K : PySem.W.Frag) (f : Addr) : FuncData := match K.lookup f with
  | some ⟨_, _, .func fd, _⟩ => fd
  | _ => PySem.W.fnOf "" "" ⟨[], [], none, [], [], none, []⟩ [] ⟨.function, [], false, false, []⟩ .none .none .none .none none .none .none
section
variable {D : HdD} {w : World} {K : PySem.W.Frag}
theorem HdD.Says.v (c : D.Says w K) (i : Nat) {q : (PySem.W.Frag → Option (Option Value)) × Option (Option Value)} (h : D.vs[i]? = some q) : q.1 K = q.2 := map_at (congrArg (fun z : HdA => z.1) c) h
theorem HdD.Says.u (c : D.Says w K) (i : Nat) {q : (PySem.W.Frag → Option Value) × Option Value} (h : D.us[i]? = some q) : q.1 K = q.2 := map_at (congrArg (fun z : HdA => z.2.1) c) h
theorem HdD.Says.c (c : D.Says w K) (i : Nat) {q : (PySem.W.Frag → Option PySem.W.CFound) × Option PySem.W.CFound} (h : D.cs[i]? = some q) : q.1 K = q.2 := map_at (congrArg (fun z : HdA => z.2.2.1) c) h
theorem HdD.Says.o (c : D.Says w K) (i : Nat) {q : (PySem.W.Frag → Option Bool) × Option Bool} (h : D.os[i]? = some q) : q.1 K = q.2 := map_at (congrArg (fun z : HdA => z.2.2.2.1) c) h
theorem HdD.Says.b (c : D.Says w K) (i : Nat) {q : PySem.W.Frag → Bool} (h : D.bs[i]? = some q) : q K = true := map_at (congrArg (fun z : HdA => z.2.2.2.2.1) c) h
theorem HdD.Says.f (c : D.Says w K) (i : Nat) {d : He5.DefA} (h : D.fn[i]? = some d) : FunD K d.name d.qual d.params d.body d.scope (d.dvs K) (d.kws K) (d.at_ K) (fdAt K (d.at_ K)) := by
  have e1 : d.ok K = true := map_at (congrArg (fun z : HdA => z.2.2.2.2.2.1) c) h
  have e2 : He5.fnA K (d.at_ K) = d.val := map_at (congrArg (fun z : HdA => z.2.2.2.2.2.2.1) c) h
  obtain ⟨fd, F⟩ := He5.DefA.funD e2 e1
  have e3 : fdAt K (d.at_ K) = fd := by
    obtain ⟨oc, od, dV, kV, doc, pm, an, cdv, ct, osl, -, l, -⟩ := F.ex
    unfold fdAt
    rw [l]
  rw [e3]
  exact F
theorem HdD.Says.t (c : D.Says w K) (i : Nat) {t : Addr × List Str} (h : D.ts[i]? = some t) : ∃ es n, KDict K w t.1 es n := by
  have e2 : He.dicW K t.1 = some (He.keysIn w.params t.2) := map_at (congrArg (fun z : HdA => z.2.2.2.2.2.2.2) c) h
  exact He.dicW_ok e2
end
/-- a module's constant -/
def conB (K : PySem.W.Frag) (x : Str) (v : V) : Bool := match PySem.W.nsIn K mainGlobals x with
  | some (some u) => He.relB v u
  | _ => false
theorem conB_ok {K : PySem.W.Frag} {x : Str} {v : V} (h : conB K x v = true) : ∃ u, PySem.W.nsIn K mainGlobals x = some (some u) ∧ RelV v u := by
  unfold conB at h
  cases e : PySem.W.nsIn K mainGlobals x with
  | none =>
    rw [e] at h
    cases h
  | some r =>
    rw [e] at h
    cases r with
    | none => cases h
    | some u => exact ⟨u, rfl, He.relB_ok h⟩
/-- an own error class under ValueError -/
def oexB (K : PySem.W.Frag) (C : Addr) : Bool := match K.lookup C with
  | some ⟨.type t, _, .cls cd, sl⟩ => (match cd.mro, sl.toList with
    | .ref C' :: bm, [_, _, _, _, some (.builtin n), _] => t == "type" && C' == C && n == "ValueError.__new__" && !cd.hasDel && cd.hasDict && PySem.HandSPX.refsVE bm
    | _, _ => false)
  | _ => false
theorem oexB_ok {K : PySem.W.Frag} {C : Addr} (q : oexB K C = true) : ∃ nm q N bs bm sn sub ab col dd k0 k1 k2 k3 k5, K.lookup C = some (excClassObj nm q C N bs bm true sn sub ab col dd k0 k1 k2 k3 k5 "ValueError.__new__") ∧ PySem.HandSPX.refsVE bm = true := by
  unfold oexB at q
  split at q
  · rename_i t dd cd sl ho
    split at q
    · rename_i C' bm k0 k1 k2 k3 n k5 hm hs
      simp only [Bool.and_eq_true, beq_iff_eq, Bool.not_eq_true'] at q
      obtain ⟨⟨⟨⟨⟨rfl, rfl⟩, rfl⟩, hdel⟩, hd⟩, hv⟩ := q
      obtain ⟨nm, bs, mro, ns, qn, hd', sn, sub, ab, col, del⟩ := cd
      dsimp only at hm hdel hd
      subst hm hdel hd
      have hsl : sl = #[k0, k1, k2, k3, some (.builtin "ValueError.__new__"), k5] := by
        obtain ⟨l⟩ := sl
        simp only at hs
        rw [hs]
      subst hsl
      exact ⟨_, _, _, _, _, _, _, _, _, _, _, _, _, _, _, ho, hv⟩
    · cases q
  · cases q
/-- a law of a plain program; the run for each answer to one row -/
theorem head_split {r : PySem.W.OpenRow} {q : Program} {H : PySem.W.Hook} {ob : PySem.W.SharedT → H.α} {M : Nat} {loose : List PySem.Str} {d : DefRec} {kwd : List (PySem.Str × PySem.Expr)} (row : String) (ho : ∀ s : PySem.W.SharedT, ob s = H.obs s.abs)
    (e : PySem.W.opening r.prog = PySem.W.plainProg r.prog.main.scope.names) (f : ∀ s, fenceModules? r.prog s = some s) (run0 : ∀ w : World, HeadRun.RunEq r q H ob M loose (w.withFollow row false)) (run1 : ∀ w : World, HeadRun.RunEq r q H ob M loose (w.withFollow row true))
    (hdef : PySem.W.defOf q r.name = some (d, kwd)) (hp : r.prog.theDef r.name = some (d.params, d.body, d.scope)) (hk : PySem.W.kwWritten? d.params.kwonlyargs d.params.kw_defaults = some kwd)
    (hwr : (!r.writes || r.records.isEmpty) = true) (k1 : r.wellSaid = true) (ok : (PySem.W.chainsOk q && PySem.W.opensWell r.prog && (PySem.W.frees r.toRowW && r.within.isEmpty)) = true) (hb : r.prog.bare) (hw : r.toRowW.promised)
    (call : PySem.W.WalkO q loose (PySem.W.XL q []) H.says r.toRowW d kwd fun f vs => PySem.call f vs) : r.Holds :=
  HeadRun.head_any ho e f (fun w => by
    have e := World.withFollow_self w row
    cases hb : w.params.followText row
    · rw [hb] at e
      rw [← e]
      exact run0 _
    · rw [hb] at e
      rw [← e]
      exact run1 _) hdef hp hk hwr k1 ok hb hw call
end My
/-! families of own error classes, looked at in the head -/
namespace My
open PySem L2
abbrev tlL : List Value := [.type "LookupError", .type "Exception", .type "BaseException", .type "object"]
abbrev tlK : List Value := [.type "KeyError", .type "LookupError", .type "Exception", .type "BaseException", .type "object"]
/-- an own error class of such a family -/
def oexBT (tl : List Value) (K : PySem.W.Frag) (C : Addr) : Bool := match K.lookup C with
  | some ⟨.type t, _, .cls cd, sl⟩ => (match cd.mro, sl.toList with
    | .ref C' :: bm, [_, _, _, _, some (.builtin n), _] => t == "type" && C' == C && n == "LookupError.__new__" && !cd.hasDel && cd.hasDict && PySem.W.excTail tl bm
    | _, _ => false)
  | _ => false
abbrev oexBL (K : PySem.W.Frag) (C : Addr) : Bool := oexBT tlL K C
abbrev oexBK (K : PySem.W.Frag) (C : Addr) : Bool := oexBT tlK K C
end My
set_option Elab.async false
set_option maxRecDepth 100000
set_option maxHeartbeats 0
namespace My
open PySem L2
def top (i : Nat) : Stmt := PySem.Challenge.pw_causehall_k78_plain_deeds.main.body.getD i (.Pass ⟨0, 0, 0, 0⟩)
abbrev s_NoNumber_init : Stmt := inClass (top 3) 0
abbrev s_NoMember_init : Stmt := inClass (top 4) 0
abbrev s_NoDeed_init : Stmt := inClass (top 5) 0
abbrev s_Lacks_init : Stmt := inClass (top 6) 0
abbrev s_Known_init : Stmt := inClass (top 7) 0
abbrev s_AllTold_init : Stmt := inClass (top 8) 0
abbrev s_is_whole : Stmt := top 12
abbrev s_are_members : Stmt := top 13
abbrev s_is_add : Stmt := top 15
abbrev s_is_tell : Stmt := top 16
abbrev s_PlainHall_init : Stmt := inClass (top 17) 0
abbrev s_PlainHall_eq : Stmt := inClass (top 17) 1
abbrev s_PlainHall_len : Stmt := inClass (top 17) 2
abbrev s_PlainHall_row : Stmt := inClass (top 17) 3
abbrev s_PlainHall_told_by : Stmt := inClass (top 17) 4
abbrev s_PlainHall_state : Stmt := inClass (top 17) 5
abbrev s_PlainHall_add_id : Stmt := inClass (top 17) 6
abbrev s_PlainHall_tell_next : Stmt := inClass (top 17) 7
abbrev s_PlainHall_do : Stmt := inClass (top 17) 8
abbrev s_PlainHall_twin : Stmt := inClass (top 17) 9
abbrev s__law_cell_at : Stmt := top 19
abbrev s__law_pool : Stmt := top 20
abbrev s__law_take : Stmt := top 21
abbrev s__law_did : Stmt := top 22
abbrev s__law_due : Stmt := top 23
abbrev s__law_no_member : Stmt := top 24
abbrev s__law_stands : Stmt := top 25
abbrev s__law_bad : Stmt := top 26
abbrev s__law_made : Stmt := top 27
abbrev s__law_done : Stmt := top 28
abbrev s_law : Stmt := top 29
def hdAs : List Addr := [2, 3, 15, 22, 23, 24, 25, 28, 35, 36, 37, 38, 41, 48, 50, 51, 53, 54, 55, 56, 57, 60, 67, 69, 70, 72, 73, 74, 75, 76, 79, 86, 88, 89, 91, 92, 93, 94, 95, 98, 105, 107, 108, 110, 111, 112, 113, 114, 117, 124, 126, 127, 129, 130, 131, 132, 133, 136, 143, 145, 146, 148, 149, 150, 151, 152, 155, 156, 158, 159, 161, 162, 163, 165, 166, 168, 169, 170, 172, 173, 175, 176, 177, 179, 180, 182, 183, 191, 193, 194, 196, 197, 198, 200, 201, 203, 204, 205, 207, 208, 210, 211, 212, 214, 215, 217, 218, 219, 221, 222, 224, 225, 226, 228, 229, 231, 232, 233, 235, 236, 238, 239, 240, 242, 243, 245, 246, 247, 249, 250, 252, 253, 254, 256, 257, 259, 260, 261, 262, 263, 264, 265, 268, 270, 271, 273, 274, 275, 277, 278, 280, 281, 282, 284, 285, 287, 288, 289, 291, 292, 294, 295, 296, 298, 299, 301, 302, 303, 305, 306, 308, 309, 310, 312, 313, 315, 316, 317, 320, 321, 322, 324, 325, 327, 328, 329, 331, 332, 334, 335, 336, 339, 340]
def hdFn : List He5.DefA := [⟨fun _ => 149, "__init__", "AllTold.__init__", defArgs s_AllTold_init, defBody s_AllTold_init, defScope s_AllTold_init, [], []⟩,
    ⟨fun _ => 130, "__init__", "Known.__init__", defArgs s_Known_init, defBody s_Known_init, defScope s_Known_init, [], []⟩,
    ⟨fun _ => 111, "__init__", "Lacks.__init__", defArgs s_Lacks_init, defBody s_Lacks_init, defScope s_Lacks_init, [], []⟩,
    ⟨fun _ => 92, "__init__", "NoDeed.__init__", defArgs s_NoDeed_init, defBody s_NoDeed_init, defScope s_NoDeed_init, [], []⟩,
    ⟨fun _ => 73, "__init__", "NoMember.__init__", defArgs s_NoMember_init, defBody s_NoMember_init, defScope s_NoMember_init, [], []⟩,
    ⟨fun _ => 54, "__init__", "NoNumber.__init__", defArgs s_NoNumber_init, defBody s_NoNumber_init, defScope s_NoNumber_init, [], []⟩,
    ⟨fun _ => 239, "add_id", "PlainHall.add_id", defArgs s_PlainHall_add_id, defBody s_PlainHall_add_id, defScope s_PlainHall_add_id, [], []⟩,
    ⟨fun _ => 253, "do", "PlainHall.do", defArgs s_PlainHall_do, defBody s_PlainHall_do, defScope s_PlainHall_do, [], []⟩,
    ⟨fun _ => 204, "__eq__", "PlainHall.__eq__", defArgs s_PlainHall_eq, defBody s_PlainHall_eq, defScope s_PlainHall_eq, [], []⟩,
    ⟨fun _ => 197, "__init__", "PlainHall.__init__", defArgs s_PlainHall_init, defBody s_PlainHall_init, defScope s_PlainHall_init, [], []⟩,
    ⟨fun _ => 211, "__len__", "PlainHall.__len__", defArgs s_PlainHall_len, defBody s_PlainHall_len, defScope s_PlainHall_len, [], []⟩,
    ⟨fun _ => 218, "row", "PlainHall.row", defArgs s_PlainHall_row, defBody s_PlainHall_row, defScope s_PlainHall_row, [], []⟩,
    ⟨fun _ => 232, "state", "PlainHall.state", defArgs s_PlainHall_state, defBody s_PlainHall_state, defScope s_PlainHall_state, [], []⟩,
    ⟨fun _ => 246, "tell_next", "PlainHall.tell_next", defArgs s_PlainHall_tell_next, defBody s_PlainHall_tell_next, defScope s_PlainHall_tell_next, [], []⟩,
    ⟨fun _ => 225, "told_by", "PlainHall.told_by", defArgs s_PlainHall_told_by, defBody s_PlainHall_told_by, defScope s_PlainHall_told_by, [], []⟩,
    ⟨fun _ => 260, "twin", "PlainHall.twin", defArgs s_PlainHall_twin, defBody s_PlainHall_twin, defScope s_PlainHall_twin, [], []⟩,
    ⟨fun _ => 321, "_law_bad", "_law_bad", defArgs s__law_bad, defBody s__law_bad, defScope s__law_bad, [], []⟩,
    ⟨fun _ => 274, "_law_cell_at", "_law_cell_at", defArgs s__law_cell_at, defBody s__law_cell_at, defScope s__law_cell_at, [], []⟩,
    ⟨fun _ => 295, "_law_did", "_law_did", defArgs s__law_did, defBody s__law_did, defScope s__law_did, [], []⟩,
    ⟨fun _ => 335, "_law_done", "_law_done", defArgs s__law_done, defBody s__law_done, defScope s__law_done, [], []⟩,
    ⟨fun _ => 302, "_law_due", "_law_due", defArgs s__law_due, defBody s__law_due, defScope s__law_due, [], []⟩,
    ⟨fun _ => 328, "_law_made", "_law_made", defArgs s__law_made, defBody s__law_made, defScope s__law_made, [], []⟩,
    ⟨fun _ => 309, "_law_no_member", "_law_no_member", defArgs s__law_no_member, defBody s__law_no_member, defScope s__law_no_member, [], []⟩,
    ⟨fun _ => 281, "_law_pool", "_law_pool", defArgs s__law_pool, defBody s__law_pool, defScope s__law_pool, [], []⟩,
    ⟨fun _ => 316, "_law_stands", "_law_stands", defArgs s__law_stands, defBody s__law_stands, defScope s__law_stands, [], []⟩,
    ⟨fun _ => 288, "_law_take", "_law_take", defArgs s__law_take, defBody s__law_take, defScope s__law_take, [], []⟩,
    ⟨fun _ => 169, "are_members", "are_members", defArgs s_are_members, defBody s_are_members, defScope s_are_members, [], []⟩,
    ⟨fun _ => 176, "is_add", "is_add", defArgs s_is_add, defBody s_is_add, defScope s_is_add, [], []⟩,
    ⟨fun _ => 183, "is_tell", "is_tell", defArgs s_is_tell, defBody s_is_tell, defScope s_is_tell, [], []⟩,
    ⟨fun _ => 162, "is_whole", "is_whole", defArgs s_is_whole, defBody s_is_whole, defScope s_is_whole, [.non], []⟩,
    ⟨fun _ => 340, "law", "law", defArgs s_law, defBody s_law, defScope s_law, [], []⟩]
def hdTs : List (Addr × List Str) := []
def hdVs : List ((PySem.W.Frag → Option (Option Value)) × Option (Option Value)) := [(fun K => PySem.W.findIn K (.ref 57) "__init__", some (some (.ref 54))),
    (fun K => PySem.W.findIn K (.ref 76) "__init__", some (some (.ref 73))),
    (fun K => PySem.W.findIn K (.ref 263) "__init__", some (some (.ref 197))),
    (fun K => PySem.W.findIn K (.ref 263) "__eq__", some (some (.ref 204))),
    (fun K => PySem.W.findIn K (.ref 263) "__len__", some (some (.ref 211))),
    (fun K => PySem.W.findIn K (.ref 263) "row", some (some (.ref 218))),
    (fun K => PySem.W.findIn K (.ref 263) "told_by", some (some (.ref 225))),
    (fun K => PySem.W.findIn K (.ref 263) "state", some (some (.ref 232))),
    (fun K => PySem.W.findIn K (.ref 263) "add_id", some (some (.ref 239))),
    (fun K => PySem.W.findIn K (.ref 263) "tell_next", some (some (.ref 246))),
    (fun K => PySem.W.findIn K (.ref 263) "do", some (some (.ref 253))),
    (fun K => PySem.W.findIn K (.ref 263) "twin", some (some (.ref 260))),
    (fun K => PySem.W.findIn K (.ref 95) "__init__", some (some (.ref 92))),
    (fun K => PySem.W.nsIn K mainGlobals "_law_cell_at", some (some (.ref 274))),
    (fun K => PySem.W.nsIn K mainGlobals "_law_pool", some (some (.ref 281))),
    (fun K => PySem.W.nsIn K mainGlobals "_law_take", some (some (.ref 288))),
    (fun K => PySem.W.nsIn K mainGlobals "_law_did", some (some (.ref 295))),
    (fun K => PySem.W.nsIn K mainGlobals "_law_due", some (some (.ref 302))),
    (fun K => PySem.W.nsIn K mainGlobals "_law_no_member", some (some (.ref 309))),
    (fun K => PySem.W.nsIn K mainGlobals "_law_stands", some (some (.ref 316))),
    (fun K => PySem.W.nsIn K mainGlobals "_law_bad", some (some (.ref 321))),
    (fun K => PySem.W.nsIn K mainGlobals "_law_made", some (some (.ref 328))),
    (fun K => PySem.W.nsIn K mainGlobals "_law_done", some (some (.ref 335))),
    (fun K => PySem.W.findIn K (.ref 114) "__init__", some (some (.ref 111))),
    (fun K => PySem.W.nsIn K mainGlobals "law", some (some (.ref 340))),
    (fun K => PySem.W.findIn K (.ref 133) "__init__", some (some (.ref 130))),
    (fun K => PySem.W.findIn K (.ref 152) "__init__", some (some (.ref 149))),
    (fun K => PySem.W.nsIn K mainGlobals "is_whole", some (some (.ref 162))),
    (fun K => PySem.W.nsIn K mainGlobals "are_members", some (some (.ref 169))),
    (fun K => PySem.W.nsIn K mainGlobals "is_add", some (some (.ref 176))),
    (fun K => PySem.W.nsIn K mainGlobals "is_tell", some (some (.ref 183))),
    (fun K => PySem.W.nsIn K mainGlobals "HallError", some (some (.ref 24))),
    (fun K => PySem.W.nsIn K mainGlobals "Barred", some (some (.ref 37))),
    (fun K => PySem.W.nsIn K mainGlobals "NoNumber", some (some (.ref 57))),
    (fun K => PySem.W.nsIn K mainGlobals "NoMember", some (some (.ref 76))),
    (fun K => PySem.W.nsIn K mainGlobals "NoDeed", some (some (.ref 95))),
    (fun K => PySem.W.nsIn K mainGlobals "Lacks", some (some (.ref 114))),
    (fun K => PySem.W.nsIn K mainGlobals "Known", some (some (.ref 133))),
    (fun K => PySem.W.nsIn K mainGlobals "AllTold", some (some (.ref 152))),
    (fun K => PySem.W.nsIn K mainGlobals "PlainHall", some (some (.ref 263))),
    (fun K => PySem.W.findIn K (.ref 24) "__getattribute__", some (some (.builtin "BaseException.__getattribute__"))),
    (fun K => PySem.W.findIn K (.ref 37) "__getattribute__", some (some (.builtin "BaseException.__getattribute__"))),
    (fun K => PySem.W.findIn K (.ref 57) "__getattribute__", some (some (.builtin "BaseException.__getattribute__"))),
    (fun K => PySem.W.findIn K (.ref 76) "__getattribute__", some (some (.builtin "BaseException.__getattribute__"))),
    (fun K => PySem.W.findIn K (.ref 95) "__getattribute__", some (some (.builtin "BaseException.__getattribute__"))),
    (fun K => PySem.W.findIn K (.ref 114) "__getattribute__", some (some (.builtin "BaseException.__getattribute__"))),
    (fun K => PySem.W.findIn K (.ref 133) "__getattribute__", some (some (.builtin "BaseException.__getattribute__"))),
    (fun K => PySem.W.findIn K (.ref 152) "__getattribute__", some (some (.builtin "BaseException.__getattribute__"))),
    (fun K => PySem.W.findIn K (.ref 24) "__getattr__", some none),
    (fun K => PySem.W.findIn K (.ref 37) "__getattr__", some none),
    (fun K => PySem.W.findIn K (.ref 57) "__getattr__", some none),
    (fun K => PySem.W.findIn K (.ref 76) "__getattr__", some none),
    (fun K => PySem.W.findIn K (.ref 95) "__getattr__", some none),
    (fun K => PySem.W.findIn K (.ref 114) "__getattr__", some none),
    (fun K => PySem.W.findIn K (.ref 133) "__getattr__", some none),
    (fun K => PySem.W.findIn K (.ref 152) "__getattr__", some none),
    (fun K => PySem.W.specialIn K (.builtin "object.__class__") "__get__", some (some (.builtin "getset_descriptor.__get__"))),
    (fun K => PySem.W.specialIn K (.ref 24) "__getattribute__", some (some (.builtin "type.__getattribute__"))),
    (fun K => PySem.W.specialIn K (.ref 37) "__getattribute__", some (some (.builtin "type.__getattribute__"))),
    (fun K => PySem.W.findIn K (.ref 24) "__class__", some (some (.builtin "object.__class__"))),
    (fun K => PySem.W.findIn K (.ref 37) "__class__", some (some (.builtin "object.__class__"))),
    (fun K => PySem.W.findIn K (.ref 57) "__class__", some (some (.builtin "object.__class__"))),
    (fun K => PySem.W.findIn K (.ref 76) "__class__", some (some (.builtin "object.__class__"))),
    (fun K => PySem.W.findIn K (.ref 95) "__class__", some (some (.builtin "object.__class__"))),
    (fun K => PySem.W.findIn K (.ref 114) "__class__", some (some (.builtin "object.__class__"))),
    (fun K => PySem.W.findIn K (.ref 133) "__class__", some (some (.builtin "object.__class__"))),
    (fun K => PySem.W.findIn K (.ref 152) "__class__", some (some (.builtin "object.__class__"))),
    (fun K => PySem.W.findIn K (.ref 263) "__class__", some (some (.builtin "object.__class__"))),
    (fun K => PySem.W.findIn K (.ref 57) "found", some none),
    (fun K => PySem.W.findIn K (.ref 76) "found", some none),
    (fun K => PySem.W.findIn K (.ref 95) "found", some none),
    (fun K => PySem.W.findIn K (.ref 114) "found", some none),
    (fun K => PySem.W.findIn K (.ref 133) "found", some none),
    (fun K => PySem.W.findIn K (.ref 152) "found", some none),
    (fun K => PySem.W.findIn K (.ref 263) "kept_row", some none),
    (fun K => PySem.W.findIn K (.ref 263) "kept_told", some none),
    (fun K => PySem.W.findIn K (.ref 57) "__setattr__", some (some (.builtin "object.__setattr__"))),
    (fun K => PySem.W.findIn K (.ref 76) "__setattr__", some (some (.builtin "object.__setattr__"))),
    (fun K => PySem.W.findIn K (.ref 95) "__setattr__", some (some (.builtin "object.__setattr__"))),
    (fun K => PySem.W.findIn K (.ref 114) "__setattr__", some (some (.builtin "object.__setattr__"))),
    (fun K => PySem.W.findIn K (.ref 133) "__setattr__", some (some (.builtin "object.__setattr__"))),
    (fun K => PySem.W.findIn K (.ref 152) "__setattr__", some (some (.builtin "object.__setattr__"))),
    (fun K => PySem.W.findIn K (.ref 263) "__setattr__", some (some (.builtin "object.__setattr__"))),
    (fun K => PySem.W.nsIn K mainGlobals "all", some none),
    (fun K => PySem.W.nsIn K mainGlobals "bool", some none),
    (fun K => PySem.W.nsIn K mainGlobals "int", some none),
    (fun K => PySem.W.nsIn K mainGlobals "isinstance", some none),
    (fun K => PySem.W.nsIn K mainGlobals "len", some none),
    (fun K => PySem.W.nsIn K mainGlobals "list", some none),
    (fun K => PySem.W.nsIn K mainGlobals "max", some none),
    (fun K => PySem.W.nsIn K mainGlobals "range", some none),
    (fun K => PySem.W.nsIn K mainGlobals "str", some none),
    (fun K => PySem.W.nsIn K mainGlobals "tuple", some none)]
def hdUs : List ((PySem.W.Frag → Option Value) × Option Value) := [(fun K => PySem.W.typeIn K (.ref 24), some (.type "type")),
    (fun K => PySem.W.typeIn K (.ref 37), some (.type "type")),
    (fun K => PySem.W.typeIn K (.ref 57), some (.type "type")),
    (fun K => PySem.W.typeIn K (.ref 76), some (.type "type")),
    (fun K => PySem.W.typeIn K (.ref 95), some (.type "type")),
    (fun K => PySem.W.typeIn K (.ref 114), some (.type "type")),
    (fun K => PySem.W.typeIn K (.ref 133), some (.type "type")),
    (fun K => PySem.W.typeIn K (.ref 152), some (.type "type")),
    (fun K => PySem.W.typeIn K (.ref 263), some (.type "type")),
    (fun K => PySem.W.typeIn K (.ref 54), some (.type "function")),
    (fun K => PySem.W.typeIn K (.ref 73), some (.type "function")),
    (fun K => PySem.W.typeIn K (.ref 92), some (.type "function")),
    (fun K => PySem.W.typeIn K (.ref 111), some (.type "function")),
    (fun K => PySem.W.typeIn K (.ref 130), some (.type "function")),
    (fun K => PySem.W.typeIn K (.ref 149), some (.type "function"))]
def hdCs : List ((PySem.W.Frag → Option PySem.W.CFound) × Option PySem.W.CFound) := [(fun K => PySem.W.findCls K (.ref 24) (.type "type") "__init__", some (.val (.builtin "ValueError.__init__"))),
    (fun K => PySem.W.findCls K (.ref 37) (.type "type") "__init__", some (.val (.builtin "LookupError.__init__")))]
def hdOs : List ((PySem.W.Frag → Option Bool) × Option Bool) := [(fun K => PySem.W.takesIn K (.builtin "object.__class__"), some true),
    (fun K => PySem.W.subIn K (.type "NoneType") (.ref 263), some false),
    (fun K => PySem.W.subIn K (.type "bool") (.ref 263), some false),
    (fun K => PySem.W.subIn K (.type "dict") (.ref 263), some false),
    (fun K => PySem.W.subIn K (.type "int") (.ref 263), some false),
    (fun K => PySem.W.subIn K (.type "list") (.ref 263), some false),
    (fun K => PySem.W.subIn K (.type "str") (.ref 263), some false),
    (fun K => PySem.W.subIn K (.type "tuple") (.ref 263), some false),
    (fun K => PySem.W.mroIn K 24 (.type "object"), some true),
    (fun K => PySem.W.mroIn K 37 (.type "object"), some true),
    (fun K => PySem.W.mroIn K 57 (.type "object"), some true),
    (fun K => PySem.W.mroIn K 76 (.type "object"), some true),
    (fun K => PySem.W.mroIn K 95 (.type "object"), some true),
    (fun K => PySem.W.mroIn K 114 (.type "object"), some true),
    (fun K => PySem.W.mroIn K 133 (.type "object"), some true),
    (fun K => PySem.W.mroIn K 152 (.type "object"), some true),
    (fun K => PySem.W.mroIn K 263 (.type "object"), some true),
    (fun K => PySem.W.subIn K (.ref 263) (.type "bool"), some false),
    (fun K => PySem.W.subIn K (.ref 263) (.type "dict"), some false),
    (fun K => PySem.W.subIn K (.ref 263) (.type "int"), some false),
    (fun K => PySem.W.subIn K (.ref 263) (.type "list"), some false),
    (fun K => PySem.W.subIn K (.ref 263) (.type "str"), some false),
    (fun K => PySem.W.subIn K (.ref 263) (.type "tuple"), some false),
    (fun K => PySem.W.subIn K (.ref 24) (.type "BaseException"), some true),
    (fun K => PySem.W.subIn K (.ref 37) (.type "BaseException"), some true),
    (fun K => PySem.W.subIn K (.ref 57) (.type "BaseException"), some true),
    (fun K => PySem.W.subIn K (.ref 76) (.type "BaseException"), some true),
    (fun K => PySem.W.subIn K (.ref 95) (.type "BaseException"), some true),
    (fun K => PySem.W.subIn K (.ref 114) (.type "BaseException"), some true),
    (fun K => PySem.W.subIn K (.ref 133) (.type "BaseException"), some true),
    (fun K => PySem.W.subIn K (.ref 152) (.type "BaseException"), some true),
    (fun K => PySem.W.subIn K (.ref 57) (.ref 24), some true),
    (fun K => PySem.W.subIn K (.ref 57) (.ref 37), some false),
    (fun K => PySem.W.subIn K (.ref 57) (.ref 57), some true),
    (fun K => PySem.W.subIn K (.ref 57) (.ref 76), some false),
    (fun K => PySem.W.subIn K (.ref 57) (.ref 95), some false),
    (fun K => PySem.W.subIn K (.ref 57) (.ref 114), some false),
    (fun K => PySem.W.subIn K (.ref 57) (.ref 133), some false),
    (fun K => PySem.W.subIn K (.ref 57) (.ref 152), some false),
    (fun K => PySem.W.subIn K (.ref 76) (.ref 24), some true),
    (fun K => PySem.W.subIn K (.ref 76) (.ref 37), some false),
    (fun K => PySem.W.subIn K (.ref 76) (.ref 57), some false),
    (fun K => PySem.W.subIn K (.ref 76) (.ref 76), some true),
    (fun K => PySem.W.subIn K (.ref 76) (.ref 95), some false),
    (fun K => PySem.W.subIn K (.ref 76) (.ref 114), some false),
    (fun K => PySem.W.subIn K (.ref 76) (.ref 133), some false),
    (fun K => PySem.W.subIn K (.ref 76) (.ref 152), some false),
    (fun K => PySem.W.subIn K (.ref 95) (.ref 24), some true),
    (fun K => PySem.W.subIn K (.ref 95) (.ref 37), some false),
    (fun K => PySem.W.subIn K (.ref 95) (.ref 57), some false),
    (fun K => PySem.W.subIn K (.ref 95) (.ref 76), some false),
    (fun K => PySem.W.subIn K (.ref 95) (.ref 95), some true),
    (fun K => PySem.W.subIn K (.ref 95) (.ref 114), some false),
    (fun K => PySem.W.subIn K (.ref 95) (.ref 133), some false),
    (fun K => PySem.W.subIn K (.ref 95) (.ref 152), some false),
    (fun K => PySem.W.subIn K (.ref 114) (.ref 24), some false),
    (fun K => PySem.W.subIn K (.ref 114) (.ref 37), some true),
    (fun K => PySem.W.subIn K (.ref 114) (.ref 57), some false),
    (fun K => PySem.W.subIn K (.ref 114) (.ref 76), some false),
    (fun K => PySem.W.subIn K (.ref 114) (.ref 95), some false),
    (fun K => PySem.W.subIn K (.ref 114) (.ref 114), some true),
    (fun K => PySem.W.subIn K (.ref 114) (.ref 133), some false),
    (fun K => PySem.W.subIn K (.ref 114) (.ref 152), some false),
    (fun K => PySem.W.subIn K (.ref 133) (.ref 24), some false),
    (fun K => PySem.W.subIn K (.ref 133) (.ref 37), some true),
    (fun K => PySem.W.subIn K (.ref 133) (.ref 57), some false),
    (fun K => PySem.W.subIn K (.ref 133) (.ref 76), some false),
    (fun K => PySem.W.subIn K (.ref 133) (.ref 95), some false),
    (fun K => PySem.W.subIn K (.ref 133) (.ref 114), some false),
    (fun K => PySem.W.subIn K (.ref 133) (.ref 133), some true),
    (fun K => PySem.W.subIn K (.ref 133) (.ref 152), some false),
    (fun K => PySem.W.subIn K (.ref 152) (.ref 24), some false),
    (fun K => PySem.W.subIn K (.ref 152) (.ref 37), some true),
    (fun K => PySem.W.subIn K (.ref 152) (.ref 57), some false),
    (fun K => PySem.W.subIn K (.ref 152) (.ref 76), some false),
    (fun K => PySem.W.subIn K (.ref 152) (.ref 95), some false),
    (fun K => PySem.W.subIn K (.ref 152) (.ref 114), some false),
    (fun K => PySem.W.subIn K (.ref 152) (.ref 133), some false),
    (fun K => PySem.W.subIn K (.ref 152) (.ref 152), some true)]
def hdBs : List (PySem.W.Frag → Bool) := [fun K => conB K "LEAST_MEMBERS" (V.int 2),
    fun K => conB K "MOST_MEMBERS" (V.int 5),
    fun K => PySem.W.hasDictIn K 24,
    fun K => PySem.W.hasDictIn K 37,
    fun K => PySem.W.hasDictIn K 57,
    fun K => PySem.W.hasDictIn K 76,
    fun K => PySem.W.hasDictIn K 95,
    fun K => PySem.W.hasDictIn K 114,
    fun K => PySem.W.hasDictIn K 133,
    fun K => PySem.W.hasDictIn K 152,
    fun K => PySem.W.hasDictIn K 263,
    fun K => PySem.W.readsIn K 24 (.type "type"),
    fun K => PySem.W.readsIn K 37 (.type "type"),
    fun K => PySem.W.isFn K (.ref 54),
    fun K => PySem.W.isFn K (.ref 73),
    fun K => PySem.W.isFn K (.ref 197),
    fun K => PySem.W.isFn K (.ref 204),
    fun K => PySem.W.isFn K (.ref 211),
    fun K => PySem.W.isFn K (.ref 218),
    fun K => PySem.W.isFn K (.ref 225),
    fun K => PySem.W.isFn K (.ref 232),
    fun K => PySem.W.isFn K (.ref 239),
    fun K => PySem.W.isFn K (.ref 246),
    fun K => PySem.W.isFn K (.ref 253),
    fun K => PySem.W.isFn K (.ref 260),
    fun K => PySem.W.isFn K (.ref 92),
    fun K => PySem.W.isFn K (.ref 111),
    fun K => PySem.W.isFn K (.ref 130),
    fun K => PySem.W.isFn K (.ref 149),
    fun K => PySem.W.isClsIn K 24,
    fun K => PySem.W.isClsIn K 37,
    fun K => PySem.W.isClsIn K 57,
    fun K => PySem.W.isClsIn K 76,
    fun K => PySem.W.isClsIn K 95,
    fun K => PySem.W.isClsIn K 114,
    fun K => PySem.W.isClsIn K 133,
    fun K => PySem.W.isClsIn K 152,
    fun K => PySem.W.isClsIn K 263,
    fun K => PySem.W.keepIn K (.ref 54),
    fun K => PySem.W.keepIn K (.ref 73),
    fun K => PySem.W.keepIn K (.ref 197),
    fun K => PySem.W.keepIn K (.ref 204),
    fun K => PySem.W.keepIn K (.ref 211),
    fun K => PySem.W.keepIn K (.ref 218),
    fun K => PySem.W.keepIn K (.ref 225),
    fun K => PySem.W.keepIn K (.ref 232),
    fun K => PySem.W.keepIn K (.ref 239),
    fun K => PySem.W.keepIn K (.ref 246),
    fun K => PySem.W.keepIn K (.ref 253),
    fun K => PySem.W.keepIn K (.ref 260),
    fun K => PySem.W.keepIn K (.ref 92),
    fun K => PySem.W.keepIn K (.ref 274),
    fun K => PySem.W.keepIn K (.ref 281),
    fun K => PySem.W.keepIn K (.ref 288),
    fun K => PySem.W.keepIn K (.ref 295),
    fun K => PySem.W.keepIn K (.ref 302),
    fun K => PySem.W.keepIn K (.ref 309),
    fun K => PySem.W.keepIn K (.ref 316),
    fun K => PySem.W.keepIn K (.ref 321),
    fun K => PySem.W.keepIn K (.ref 328),
    fun K => PySem.W.keepIn K (.ref 335),
    fun K => PySem.W.keepIn K (.ref 111),
    fun K => PySem.W.keepIn K (.ref 340),
    fun K => PySem.W.keepIn K (.ref 130),
    fun K => PySem.W.keepIn K (.ref 149),
    fun K => PySem.W.keepIn K (.ref 162),
    fun K => PySem.W.keepIn K (.ref 169),
    fun K => PySem.W.keepIn K (.ref 176),
    fun K => PySem.W.keepIn K (.ref 183),
    fun K => PySem.W.keepIn K (.ref 57),
    fun K => PySem.W.keepIn K (.ref 76),
    fun K => PySem.W.keepIn K (.ref 95),
    fun K => PySem.W.keepIn K (.ref 114),
    fun K => PySem.W.keepIn K (.ref 133),
    fun K => PySem.W.keepIn K (.ref 152),
    fun K => PySem.W.keepIn K (.ref 263),
    fun K => PySem.W.makesIn K 263,
    fun K => PySem.W.plainGet K 263 Str.empty,
    fun K => PySem.W.plainOver K 263,
    fun K => oexB K 57,
    fun K => oexB K 76,
    fun K => oexB K 95,
    fun K => oexBL K 114,
    fun K => oexBL K 133,
    fun K => oexBL K 152]
def hd : HdD := { as := hdAs, fn := hdFn, ts := hdTs, vs := hdVs, us := hdUs, cs := hdCs, os := hdOs, bs := hdBs }
abbrev hdR : PySem.W.OpenRow := PySem.W.OpenLaw.row PySem.Challenge.rw_causehall_k78_plain_deeds
abbrev hdQ : Program := PySem.W.view hdR.prog [29]
def hdL0 : List Str := ["HallError", "Barred", "NoNumber", "NoMember", "NoDeed", "Lacks", "Known", "AllTold", "LEAST_MEMBERS", "MOST_MEMBERS", "is_whole", "are_members", "is_add", "is_tell", "PlainHall", "_law_cell_at", "_law_pool", "_law_take", "_law_did", "_law_due", "_law_no_member", "_law_stands", "_law_bad", "_law_made", "_law_done"]
def hdLoose : List Str := hdL0
theorem run0 (w : World) : HeadRun.RunEq hdR hdQ hd.hook hd.ob 3484 hdLoose w := by
  intro os
  kernel_rfl
end My
set_option maxHeartbeats 4000000
set_option Elab.async false
set_option maxRecDepth 100000
set_option maxHeartbeats 4000000
/-! == of things of any make: what is one thing, numbers, texts, lists and tuples of such. -/
namespace My
open PySem L2 PySem.SeqAt PySem.W
/-- what == says of two flat things, numbers and truths together -/
def eqF : V → V → Option Bool
  | .int i, .int j => some (i == j)
  | .bl i, .bl j => some (i == j)
  | .str i, .str j => some (i == j)
  | .bl a, .int j => some ((if a then 1 else 0) == j)
  | .int i, .bl b => some (i == (if b then 1 else 0))
  | .non, .non => some true
  | .int _, .non | .non, .int _ | .int _, .str _ | .str _, .int _ | .str _, .non | .non, .str _ | .bl _, .non | .non, .bl _ | .bl _, .str _ | .str _, .bl _ => some false
  | _, _ => none
theorem eqF_at {A : Around} {s : Shared} {x y : V} {b : Bool} {u v : Value} (h : eqF x y = some b) (ru : RelV x u) (rv : RelV y v) : EqAt A s u v b := by
  cases x with
  | non =>
    cases y with
    | non =>
      obtain rfl : u = Value.none := ru
      obtain rfl : v = Value.none := rv
      obtain rfl := Option.some.inj h
      exact .same _
    | bl q =>
      obtain rfl : u = Value.none := ru
      obtain rfl : v = Value.bool q := rv
      obtain rfl := Option.some.inj h
      exact .none_bool _
    | int q =>
      obtain rfl : u = Value.none := ru
      obtain ⟨tq, rfl⟩ : ∃ t, v = Value.int q t := rv
      obtain rfl := Option.some.inj h
      exact .none_int _ _
    | str q =>
      obtain rfl : u = Value.none := ru
      obtain ⟨tq, rfl⟩ : ∃ t, v = Value.str q t := rv
      obtain rfl := Option.some.inj h
      exact .none_str _ _
    | _ => cases h
  | bl p =>
    cases y with
    | non =>
      obtain rfl : u = Value.bool p := ru
      obtain rfl : v = Value.none := rv
      obtain rfl := Option.some.inj h
      exact .bool_none _
    | bl q =>
      obtain rfl : u = Value.bool p := ru
      obtain rfl : v = Value.bool q := rv
      obtain rfl := Option.some.inj h
      exact .bool_bool _ _
    | int q =>
      obtain rfl : u = Value.bool p := ru
      obtain ⟨tq, rfl⟩ : ∃ t, v = Value.int q t := rv
      obtain rfl := Option.some.inj h
      exact .bool_int _ _ _
    | str q =>
      obtain rfl : u = Value.bool p := ru
      obtain ⟨tq, rfl⟩ : ∃ t, v = Value.str q t := rv
      obtain rfl := Option.some.inj h
      exact .bool_str _ _ _
    | _ => cases h
  | int p =>
    cases y with
    | non =>
      obtain ⟨tp, rfl⟩ : ∃ t, u = Value.int p t := ru
      obtain rfl : v = Value.none := rv
      obtain rfl := Option.some.inj h
      exact .int_none _ _
    | bl q =>
      obtain ⟨tp, rfl⟩ : ∃ t, u = Value.int p t := ru
      obtain rfl : v = Value.bool q := rv
      obtain rfl := Option.some.inj h
      exact .int_bool _ _ _
    | int q =>
      obtain ⟨tp, rfl⟩ : ∃ t, u = Value.int p t := ru
      obtain ⟨tq, rfl⟩ : ∃ t, v = Value.int q t := rv
      obtain rfl := Option.some.inj h
      exact .int_int _ _ _ _
    | str q =>
      obtain ⟨tp, rfl⟩ : ∃ t, u = Value.int p t := ru
      obtain ⟨tq, rfl⟩ : ∃ t, v = Value.str q t := rv
      obtain rfl := Option.some.inj h
      exact .int_str _ _ _ _
    | _ => cases h
  | str p =>
    cases y with
    | non =>
      obtain ⟨tp, rfl⟩ : ∃ t, u = Value.str p t := ru
      obtain rfl : v = Value.none := rv
      obtain rfl := Option.some.inj h
      exact .str_none _ _
    | bl q =>
      obtain ⟨tp, rfl⟩ : ∃ t, u = Value.str p t := ru
      obtain rfl : v = Value.bool q := rv
      obtain rfl := Option.some.inj h
      exact .str_bool _ _ _
    | int q =>
      obtain ⟨tp, rfl⟩ : ∃ t, u = Value.str p t := ru
      obtain ⟨tq, rfl⟩ : ∃ t, v = Value.int q t := rv
      obtain rfl := Option.some.inj h
      exact .str_int _ _ _ _
    | str q =>
      obtain ⟨tp, rfl⟩ : ∃ t, u = Value.str p t := ru
      obtain ⟨tq, rfl⟩ : ∃ t, v = Value.str q t := rv
      obtain rfl := Option.some.inj h
      exact .str_str _ _ _ _
    | _ => cases h
  | _ => cases y <;> cases h
mutual
/-- x == y is b, as an item of a list tells it -/
inductive EqV (K : Frag) (H : Hp) : Nat → V → V → Bool → Prop
  | one {n : Nat} {a : Addr} : EqV K H n (.ref a) (.ref a) true
  | flat {n : Nat} {x y : V} {b : Bool} (h : eqF x y = some b) : EqV K H n x y b
  | lsts {n : Nat} {a c : Addr} {xs ys : List V} {b : Bool} (d : a ≠ c) (h1 : SqL K H a xs) (h2 : SqL K H c ys) (h : EqVs K H n xs ys b) : EqV K H (n + 1) (.ref a) (.ref c) b
  | tups {n : Nat} {a c : Addr} {xs ys : List V} {b : Bool} (d : a ≠ c) (h1 : SqT K H a xs) (h2 : SqT K H c ys) (h : EqVs K H n xs ys b) : EqV K H (n + 1) (.ref a) (.ref c) b
/-- of two rows -/
inductive EqVs (K : Frag) (H : Hp) : Nat → List V → List V → Bool → Prop
  | nil {n : Nat} : EqVs K H n [] [] true
  | cons {n : Nat} {x y : V} {xs ys : List V} {b c : Bool} (h : EqV K H n x y b) (t : EqVs K H n xs ys c) : EqVs K H n (x :: xs) (y :: ys) (b && c)
  | nilc {n : Nat} {y : V} {ys : List V} : EqVs K H n [] (y :: ys) false
  | cnil {n : Nat} {x : V} {xs : List V} : EqVs K H n (x :: xs) [] false
end
section
variable {X : Cx} {pins : List (Addr × Obj)} {σ : St} {H : Hp} {s : Shared}
/-- of a row: each place's answer -/
def RowT (s : Shared) (n : Nat) (us ws : List Value) (b : Bool) : Prop :=
  ∃ e : Nat → Bool, (∀ j (h1 : j < us.length) (h2 : j < ws.length) (A : Around), A.units + n < cLine → EqAt A s us[j] ws[j] (e j)) ∧ (us.length = ws.length → b = (List.range us.length).all e) ∧ (us.length ≠ ws.length → b = false)
theorem all_succ (e : Nat → Bool) (n : Nat) : (List.range (n + 1)).all e = (e 0 && (List.range n).all fun j => e (j + 1)) := by
  rw [List.range_succ_eq_map, List.all_cons, List.all_map]
  rfl
theorem RowT.lists {n : Nat} {us ws : List Value} {b : Bool} {a c : Addr} (r : RowT s n us ws b) (ha : s.heap.IsList a us.toArray) (hc : s.heap.IsList c ws.toArray) {A : Around} (hu : A.units + (n + 1) < cLine) : RcAt A s (.ref a) (.ref c) b ∧ RcNeAt A s (.ref a) (.ref c) (!b) := by
  obtain ⟨e, t, q1, q2⟩ := r
  have t' : ∀ j (h1 : j < us.toArray.size) (h2 : j < ws.toArray.size), EqAt A.in1 s us.toArray[j] ws.toArray[j] (e j) := fun j h1 h2 => t j h1 h2 A.in1 (by show A.units + 1 + n < cLine; omega)
  by_cases hl : us.length = ws.length
  · rw [q1 hl]
    exact ⟨.lists ha hc hl (by omega) t', .lists ha hc hl (by omega) t'⟩
  · rw [q2 hl]
    have hb : (us.toArray.size != ws.toArray.size) = true := by simpa using hl
    exact ⟨.lists_lengths ha hc hb (by omega), .lists_lengths ha hc hb (by omega)⟩
theorem RowT.tups {n : Nat} {us ws : List Value} {b : Bool} {a c : Addr} (r : RowT s n us ws b) (ha : s.heap.IsTuple a us.toArray) (hc : s.heap.IsTuple c ws.toArray) {A : Around} (hu : A.units + (n + 1) < cLine) : RcAt A s (.ref a) (.ref c) b ∧ RcNeAt A s (.ref a) (.ref c) (!b) := by
  obtain ⟨e, t, q1, q2⟩ := r
  have t' : ∀ j (h1 : j < us.toArray.size) (h2 : j < ws.toArray.size), EqAt A.in1 s us.toArray[j] ws.toArray[j] (e j) := fun j h1 h2 => t j h1 h2 A.in1 (by show A.units + 1 + n < cLine; omega)
  have g1 := RcAt.tuples ha hc (by omega) t'
  have g2 := RcNeAt.tuples ha hc (by omega) t'
  have e1 : ((List.range (min us.toArray.size ws.toArray.size)).all e && us.toArray.size == ws.toArray.size) = b := by
    by_cases hl : us.length = ws.length
    · rw [q1 hl]
      simp [hl]
    · rw [q2 hl]
      simp [hl]
  rw [e1] at g1 g2
  exact ⟨g1, g2⟩
mutual
theorem EqV.at (I : Inv X pins σ H s) : ∀ {n : Nat} {x y : V} {b : Bool}, EqV X.K H n x y b → ∀ {u v : Value}, RelV x u → RelV y v → ∀ A : Around, A.units + n < cLine → EqAt A s u v b
  | _, _, _, _, .one, _, _, ru, rv, _, _ => by
    cases ru
    cases rv
    exact .same _
  | _, _, _, _, .flat h, _, _, ru, rv, _, _ => eqF_at h ru rv
  | _, _, _, _, .lsts d h1 h2 h, _, _, ru, rv, A, hu => by
    cases ru
    cases rv
    obtain ⟨us, r1, p1, _⟩ := I.list h1
    obtain ⟨ws, r2, p2, _⟩ := I.list h2
    exact .of_refs d ((EqVs.row I h r1 r2).lists p1.isList p2.isList hu).1
  | _, _, _, _, .tups d h1 h2 h, _, _, ru, rv, A, hu => by
    cases ru
    cases rv
    obtain ⟨us, r1, p1, _⟩ := I.tuple h1
    obtain ⟨ws, r2, p2, _⟩ := I.tuple h2
    exact .of_refs d ((EqVs.row I h r1 r2).tups (show s.heap.IsTuple _ us.toArray from p1) (show s.heap.IsTuple _ ws.toArray from p2) hu).1
theorem EqVs.row (I : Inv X pins σ H s) : ∀ {n : Nat} {xs ys : List V} {b : Bool}, EqVs X.K H n xs ys b → ∀ {us ws : List Value}, Vals xs us → Vals ys ws → RowT s n us ws b
  | _, _, _, _, .nil, _, _, .nil, .nil => ⟨fun _ => true, fun j h1 => absurd h1 (Nat.not_lt_zero _), fun _ => rfl, fun h => absurd rfl h⟩
  | _, _, _, _, .nilc, _, _, .nil, .cons _ _ => ⟨fun _ => true, fun j h1 => absurd h1 (Nat.not_lt_zero _), fun h => absurd h (by simp), fun _ => rfl⟩
  | _, _, _, _, .cnil, _, _, .cons _ _, .nil => ⟨fun _ => true, fun j _ h2 => absurd h2 (Nat.not_lt_zero _), fun h => absurd h (by simp), fun _ => rfl⟩
  | _, _, _, _, .cons (b := b) h t, _, _, .cons r1 s1, .cons r2 s2 => by
    obtain ⟨e, q, q1, q2⟩ := EqVs.row I t s1 s2
    have q0 := EqV.at I h r1 r2
    refine ⟨fun j => match j with | 0 => b | j + 1 => e j, ?_, ?_, ?_⟩
    · intro j h1 h2 A hu
      cases j with
      | zero => exact q0 A hu
      | succ j => exact q j (Nat.lt_of_succ_lt_succ h1) (Nat.lt_of_succ_lt_succ h2) A hu
    · intro hl
      rw [q1 (Nat.succ.inj hl)]
      show _ = (List.range (_ + 1)).all _
      rw [all_succ]
    · intro hl
      rw [q2 (fun z => hl (congrArg Nat.succ z)), Bool.and_false]
end
end
/-- == and != of two lists or two tuples, whatever stands in them -/
def rEqG (K : Frag) (ne : Bool) : R2 := fun x y H Q => ∃ (a c : Addr) (xs ys : List V) (n : Nat) (b : Bool), x = .ref a ∧ y = .ref c ∧ ((SqL K H a xs ∧ SqL K H c ys) ∨ (SqT K H a xs ∧ SqT K H c ys)) ∧ n < 60 ∧ EqVs K H n xs ys b ∧ Q (.bl (if ne then !b else b)) H
section
variable {X : Cx}
theorem op_eqG (hu : X.A.units + 64 < cLine) {K : Frag} (hK : X.K = K := by rfl) : OpR X (compareOp .Eq) (rEqG K false) := by
  subst hK
  intro pins s σ H x y v u Q I rx ry h
  obtain ⟨a, c, xs, ys, n, b, rfl, rfl, hs, hn, t, q⟩ := h
  cases rx
  cases ry
  rcases hs with ⟨h1, h2⟩ | ⟨h1, h2⟩
  · obtain ⟨us, r1, p1, _⟩ := I.list h1
    obtain ⟨ws, r2, p2, _⟩ := I.list h2
    exact ((EqVs.row I t r1 r2).lists p1.isList p2.isList (by omega)).1 _ _ _ _ ⟨.bl b, H, I, rfl, q⟩
  · obtain ⟨us, r1, p1, _⟩ := I.tuple h1
    obtain ⟨ws, r2, p2, _⟩ := I.tuple h2
    exact ((EqVs.row I t r1 r2).tups (show s.heap.IsTuple _ us.toArray from p1) (show s.heap.IsTuple _ ws.toArray from p2) (by omega)).1 _ _ _ _ ⟨.bl b, H, I, rfl, q⟩
theorem op_neG (hu : X.A.units + 64 < cLine) {K : Frag} (hK : X.K = K := by rfl) : OpR X (compareOp .NotEq) (rEqG K true) := by
  subst hK
  intro pins s σ H x y v u Q I rx ry h
  obtain ⟨a, c, xs, ys, n, b, rfl, rfl, hs, hn, t, q⟩ := h
  cases rx
  cases ry
  rcases hs with ⟨h1, h2⟩ | ⟨h1, h2⟩
  · obtain ⟨us, r1, p1, _⟩ := I.list h1
    obtain ⟨ws, r2, p2, _⟩ := I.list h2
    exact ((EqVs.row I t r1 r2).lists p1.isList p2.isList (by omega)).2 _ _ _ _ ⟨.bl (!b), H, I, rfl, q⟩
  · obtain ⟨us, r1, p1, _⟩ := I.tuple h1
    obtain ⟨ws, r2, p2, _⟩ := I.tuple h2
    exact ((EqVs.row I t r1 r2).tups (show s.heap.IsTuple _ us.toArray from p1) (show s.heap.IsTuple _ ws.toArray from p2) (by omega)).2 _ _ _ _ ⟨.bl (!b), H, I, rfl, q⟩
end
end My
/-! My own small layer: rules of one name for what several of the layer's rules say, told apart by the values. -/
namespace My
open PySem L2
/-- a is seen as o: a list, a tuple (by whatever stands there), anything else as it is tracked -/
def Obs (K : PySem.W.Frag) (H : Hp) (a : Addr) : HO → Prop
  | .lst xs => SqL K H a xs
  | .tup xs => SqT K H a xs
  | o => H a = some o
theorem Obs.of {K : PySem.W.Frag} {H : Hp} {a : Addr} {o : HO} (h : H a = some o) : Obs K H a o := by
  cases o <;> first | exact h | exact Or.inl (Or.inl h)
/-- of two numbers the greater, the lesser, as max and min tell them -/
def maxP (i j : Int) : Int := if j > i then j else i
def minP (i j : Int) : Int := if j < i then j else i
theorem maxP_eq (i j : Int) : maxP i j = max i j := by unfold maxP; omega
theorem minP_eq (i j : Int) : minP i j = min i j := by unfold minP; omega
def rMaxU : List V → Hp → VK → Prop := fun xs H Q => ∃ i j, xs = [.int i, .int j] ∧ Q (.int (maxP i j)) H
def rMinU : List V → Hp → VK → Prop := fun xs H Q => ∃ i j, xs = [.int i, .int j] ∧ Q (.int (minP i j)) H
section
variable {X : Cx}
/-! ### operators -/
def rAddU (K : PySem.W.Frag) : R2 := fun x y H Q => match x, y with
  | .int i, .int j => Q (.int (i + j)) H
  | .str i, .str j => i.length + j.length ≤ sizeLine ∧ Q (.str (i ++ j)) H
  | .ref a, .ref b => (∃ xs ys, H a = some (.lst xs) ∧ H b = some (.lst ys) ∧ xs.length + ys.length ≤ sizeLine ∧ ∀ p, H p = none → Q (.ref p) (upd H p (.lst (xs ++ ys))))
      ∨ rCatT K (.ref a) (.ref b) H Q
  | _, _ => False
theorem op_addU {K : PySem.W.Frag} (hK : X.K = K := by rfl) : OpR X (binaryOp .Add) (rAddU K) := by
  subst hK
  intro pins s σ H x y v u Q I rx ry h
  cases x <;> cases y <;> first | exact False.elim h | skip
  · exact op_add pins s σ H _ _ v u Q I rx ry ⟨_, _, rfl, rfl, h⟩
  · exact op_add_str pins s σ H _ _ v u Q I rx ry ⟨_, _, rfl, rfl, h.1, h.2⟩
  · rcases h with ⟨xs, ys, h1, h2, h3, h4⟩ | h
    · exact op_cat pins s σ H _ _ v u Q I rx ry ⟨_, _, xs, ys, rfl, rfl, h1, h2, h3, h4⟩
    · exact op_catT pins s σ H _ _ v u Q I rx ry h
theorem op_subU : OpR X (binaryOp .Sub) (rI0 fun i j => .int (i - j)) := op_sub
def rMulU : R2 := fun x y H Q => match x, y with
  | .int i, .int j => CMulW i j ∧ Q (.int (i * j)) H
  | .ref a, .int k => rRep (.ref a) (.int k) H Q
  | _, _ => False
theorem op_mulU : OpR X (binaryOp .Mult) rMulU := by
  intro pins s σ H x y v u Q I rx ry h
  cases x <;> cases y <;> first | exact False.elim h | skip
  · exact op_mulW pins s σ H _ _ v u Q I rx ry ⟨_, _, rfl, rfl, h.1, h.2⟩
  · exact op_rep pins s σ H _ _ v u Q I rx ry h
theorem op_fdivU : OpR X (binaryOp .FloorDiv) (rI CDivW fun i j => .int (i / j)) := op_fdivW
theorem op_modU : OpR X (binaryOp .Mod) (rI (fun _ j => 0 < j) fun i j => .int (i % j)) := op_mod
theorem op_powU : OpR X (binaryOp .Pow) (rI CPow fun i j => .int (i ^ j.toNat)) := op_pow
/-! ### comparisons -/
theorem op_ltU : OpR X (compareOp .Lt) (rI0 fun i j => .bl (decide (i < j))) := op_lt
theorem op_leU : OpR X (compareOp .LtE) (rI0 fun i j => .bl (decide (i ≤ j))) := op_le
theorem op_gtU : OpR X (compareOp .Gt) (rI0 fun i j => .bl (decide (j < i))) := op_gt
theorem op_geU : OpR X (compareOp .GtE) (rI0 fun i j => .bl (decide (j ≤ i))) := op_ge
/-- what == says of two flat things -/
def eqS : V → V → Option Bool
  | .int i, .int j => some (decide (i = j))
  | .bl i, .bl j => some (decide (i = j))
  | .str i, .str j => some (decide (i = j))
  | .non, .non => some true
  | .int _, .non | .non, .int _ | .int _, .str _ | .str _, .int _ | .str _, .non | .non, .str _ | .bl _, .non | .non, .bl _ | .bl _, .str _ | .str _, .bl _ => some false
  | _, _ => none
theorem eqS_scal : ∀ {x y : V} {b : Bool}, eqS x y = some b → scal x y = true ∧ decide (x = y) = b := by
  intro x y b h
  cases x <;> cases y <;> first | (cases h; done) | (cases Option.some.inj h; exact ⟨rfl, by simp⟩)
def rEqU (K : PySem.W.Frag) : R2 := fun x y H Q => match eqS x y with
  | some b => Q (.bl b) H
  | none => rEqD K x y H Q ∨ rEqG K false x y H Q
def rNeU (K : PySem.W.Frag) : R2 := fun x y H Q => match eqS x y with
  | some b => Q (.bl (!b)) H
  | none => rNeD K x y H Q ∨ rEqG K true x y H Q
theorem op_eqU (hu : X.A.units + 64 < cLine) {K : PySem.W.Frag} (hK : X.K = K := by rfl) : OpR X (compareOp .Eq) (rEqU K) := by
  subst hK
  intro pins s σ H x y v u Q I rx ry h
  unfold rEqU at h
  split at h
  · rename_i b e
    obtain ⟨e1, e2⟩ := eqS_scal e
    exact op_eq pins s σ H _ _ v u Q I rx ry ⟨e1, by rw [e2]; exact h⟩
  · rcases h with h | h
    · exact op_eqD hu pins s σ H _ _ v u Q I rx ry h
    · exact op_eqG hu rfl pins s σ H _ _ v u Q I rx ry h
theorem op_neU (hu : X.A.units + 64 < cLine) {K : PySem.W.Frag} (hK : X.K = K := by rfl) : OpR X (compareOp .NotEq) (rNeU K) := by
  subst hK
  intro pins s σ H x y v u Q I rx ry h
  unfold rNeU at h
  split at h
  · rename_i b e
    obtain ⟨e1, e2⟩ := eqS_scal e
    exact op_ne pins s σ H _ _ v u Q I rx ry ⟨e1, by rw [e2]; exact h⟩
  · rcases h with h | h
    · exact op_neD hu pins s σ H _ _ v u Q I rx ry h
    · exact op_neG hu rfl pins s σ H _ _ v u Q I rx ry h
def rIsU : R2 := fun x y H Q => match x, y with
  | .bl a, .bl b => Q (.bl (decide (a = b))) H
  | x, .non => Q (.bl (decide (x = .non))) H
  | .ref a, .ref b => ∃ oa ob, H a = some oa ∧ isObj oa = true ∧ H b = some ob ∧ isObj ob = true ∧ Q (.bl (decide (a = b))) H
  | _, _ => False
def rIsnU : R2 := fun x y H Q => match x, y with
  | .bl a, .bl b => Q (.bl (!decide (a = b))) H
  | x, .non => Q (.bl (!decide (x = .non))) H
  | .ref a, .ref b => ∃ oa ob, H a = some oa ∧ isObj oa = true ∧ H b = some ob ∧ isObj ob = true ∧ Q (.bl (!decide (a = b))) H
  | _, _ => False
theorem op_isU : OpR X (compareOp .Is) rIsU := by
  intro pins s σ H x y v u Q I rx ry h
  cases y <;> cases x <;> first
    | exact False.elim h
    | exact op_isN pins s σ H _ _ v u Q I rx ry ⟨rfl, h⟩
    | exact op_isBl pins s σ H _ _ v u Q I rx ry ⟨_, _, rfl, rfl, h⟩
    | exact op_is_ref pins s σ H _ _ v u Q I rx ry (let ⟨oa, ob, h1, h2, h3, h4, h5⟩ := h; ⟨_, _, oa, ob, rfl, rfl, h1, h2, h3, h4, h5⟩)
theorem op_isnU : OpR X (compareOp .IsNot) rIsnU := by
  intro pins s σ H x y v u Q I rx ry h
  cases y <;> cases x <;> first
    | exact False.elim h
    | exact op_notN pins s σ H _ _ v u Q I rx ry ⟨rfl, h⟩
    | exact op_notBl pins s σ H _ _ v u Q I rx ry ⟨_, _, rfl, rfl, h⟩
    | exact op_isnot_ref pins s σ H _ _ v u Q I rx ry (let ⟨oa, ob, h1, h2, h3, h4, h5⟩ := h; ⟨_, _, oa, ob, rfl, rfl, h1, h2, h3, h4, h5⟩)
/-- one sign in a text; a flat thing in a list or a tuple -/
def rInU (K : PySem.W.Frag) : R2 := fun x y H Q => match y with
  | .str z => ∃ c : Nat, x = .str ⟨#[c]⟩ ∧ Q (.bl (decide (c ∈ z.cps.toList))) H
  | _ => rIn K false x y H Q
theorem op_inU {K : PySem.W.Frag} (hK : X.K = K := by rfl) : OpR X (compareOp .In) (rInU K) := by
  subst hK
  intro pins s σ H x y v u Q I rx ry h
  cases y <;> first
    | exact op_in_seq pins s σ H _ _ v u Q I rx ry h
    | exact op_in_sign pins s σ H _ _ v u Q I rx ry (let ⟨c, e, q⟩ := h; ⟨c, _, e, rfl, q⟩)
/-! ### subscripts, slices -/
def rIxU (K : PySem.W.Frag) : R2 := fun x y H Q => match x, y with
  | .str z, .int i => z.length ≤ sizeLine ∧ ∃ c, atI z.cps.toList i = some c ∧ Q (.str ⟨#[c]⟩) H
  | .ref a, .int i => ∃ xs v, (SqL K H a xs ∨ SqT K H a xs) ∧ atI xs i = some v ∧ Q v H
  | _, _ => False
theorem ix_U {K : PySem.W.Frag} (hK : X.K = K := by rfl) : IxR X (rIxU K) := by
  subst hK
  intro e1 e2 pins s σ H x y v u Q I rx ry h hs
  cases x <;> cases y <;> first | exact False.elim h | skip
  · obtain ⟨h1, c, h2, h3⟩ := h
    exact ix_str e1 e2 pins s σ H _ _ v u Q I rx ry ⟨_, _, c, rfl, rfl, h1, h2, h3⟩ hs
  · obtain ⟨xs, w, h1, h2, h3⟩ := h
    rcases h1 with h1 | h1
    · exact ix_list e1 e2 pins s σ H _ _ v u Q I rx ry ⟨_, xs, _, w, rfl, rfl, h1, h2, h3⟩ hs
    · exact ix_tup e1 e2 pins s σ H _ _ v u Q I rx ry ⟨_, xs, _, w, rfl, rfl, h1, h2, h3⟩ hs
def rSlU (K : PySem.W.Frag) : V → Option Int → Option Int → Hp → VK → Prop := fun x lo hi H Q => match x with
  | .str z => z.length ≤ sizeLine ∧ Q (.str (cutS z lo hi)) H
  | .ref a => rSlL K (.ref a) lo hi H Q ∨ rSlT K (.ref a) lo hi H Q
  | _ => False
theorem sl_U {K : PySem.W.Frag} (hK : X.K = K := by rfl) : SlR X (rSlU K) := by
  subst hK
  intro pins s σ H x v vl vu lo hi sl Q I rx h1 h2 h3 h
  cases x <;> first | exact False.elim h | skip
  · exact sl_str pins s σ H _ v vl vu lo hi sl Q I rx h1 h2 h3 ⟨_, rfl, h.1, h.2⟩
  · exact sl_list.or sl_tup pins s σ H _ v vl vu lo hi sl Q I rx h1 h2 h3 h
/-! ### len, isinstance, int, str -/
def rLenU (K : PySem.W.Frag) : List V → Hp → VK → Prop := fun xs H Q => ∃ x n, xs = [x] ∧ LenV K x H n ∧ Q (.int n) H
theorem call_lenU {K : PySem.W.Frag} (hK : X.K = K := by rfl) : CallR X (.builtin "len") (rLenU K) := by
  subst hK
  exact call_len
def rIntU : List V → Hp → VK → Prop := fun xs H Q => match xs with
  | [.int i] => Q (.int i) H
  | [.bl k] => Q (.int (if k then 1 else 0)) H
  | [.str a] => ∃ n, PySem.intText? a = some n ∧ a.length ≤ 640 ∧ Q (.int n) H
  | _ => False
theorem call_intU : CallR X (.type "int") rIntU := by
  intro pins s σ H xs us Q I r h
  unfold rIntU at h
  split at h
  · exact call_int1 pins s σ H _ us Q I r (.inl ⟨_, rfl, h⟩)
  · exact call_int1 pins s σ H _ us Q I r (.inr ⟨_, rfl, h⟩)
  · obtain ⟨n, h1, h2, h3⟩ := h
    exact call_int_str pins s σ H _ us Q I r ⟨_, n, rfl, h1, h2, h3⟩
  · exact False.elim h
/-! ### isinstance -/
end
/-- the built-in classes that are asked for -/
inductive Kd where | int | bl | str | lst | tup | dct
  deriving DecidableEq
def Kd.name : Kd → String | .int => "int" | .bl => "bool" | .str => "str" | .lst => "list" | .tup => "tuple" | .dct => "dict"
/-- what the text says of a class of its own, for isinstance of its instances and of others -/
structure IsC (K : PySem.W.Frag) (C : Addr) : Prop where
  ha : PySem.W.findIn K (.ref C) "__class__" = some (some (.builtin "object.__class__"))
  hn : PySem.W.specialIn K (.builtin "object.__class__") "__get__" = some (some (.builtin "getset_descriptor.__get__"))
  htk : PySem.W.takesIn K (.builtin "object.__class__") = some true
  hm : PySem.W.mroIn K C (.type "object") = some true
  out : ∀ d : Kd, PySem.W.kitOne K (.ref C) (.type d.name) = some false
  inn : ∀ t : String, t ∈ ["NoneType", "int", "bool", "str", "list", "tuple", "dict"] → PySem.W.kitOne K (.type t) (.ref C) = some false
theorem kit_out {K : PySem.W.Frag} {C : Addr} {n : String} {b : Bool} (hm : PySem.W.kitMeta n = true) (h : PySem.W.subIn K (.ref C) (.type n) = some b) : PySem.W.kitOne K (.ref C) (.type n) = some b := by
  unfold PySem.W.kitOne PySem.W.kitCls
  rw [if_neg (show ¬ ((Value.ref C == Value.type n) = true) by simp)]
  show (if PySem.W.kitMeta n = true then _ else _) = _
  rw [if_pos hm, h]
theorem kit_in {K : PySem.W.Frag} {C : Addr} {t : Value} {b : Bool} (h0 : (t == Value.ref C) = false) (h1 : PySem.W.isClsIn K C = true) (h2 : PySem.W.typeIn K (.ref C) = some (.type "type")) (h : PySem.W.subIn K t (.ref C) = some b) : PySem.W.kitOne K t (.ref C) = some b := by
  unfold PySem.W.kitOne PySem.W.kitCls
  rw [if_neg (by rw [h0]; exact Bool.false_ne_true)]
  show (if ((PySem.W.clsIn K C).isSome && PySem.W.typeIn K (.ref C) == some (.type "type")) = true then _ else _) = _
  have e : (PySem.W.clsIn K C).isSome = true := h1
  rw [if_pos (by rw [e, h2]; rfl), h]
/-- is x of the kind d: what the value alone tells -/
def Kd.has (d : Kd) : V → Bool
  | .int _ => d == .int
  | .bl _ => d == .int || d == .bl
  | .str _ => d == .str
  | _ => false
def Kd.hasO (d : Kd) : HO → Bool
  | .lst _ => d == .lst
  | .tup _ => d == .tup
  | .dK _ => d == .dct
  | .dT _ => d == .dct
  | _ => false
/-- an object whose class is known -/
def KnO (K : PySem.W.Frag) : HO → Prop
  | .lst _ => True
  | .tup _ => True
  | .dK _ => True
  | .dT _ => True
  | .ins C _ _ => Cls K C ∧ IsC K C
  | _ => False
def Kn (K : PySem.W.Frag) (H : Hp) : V → Prop
  | .non => True
  | .bl _ => True
  | .int _ => True
  | .str _ => True
  | .ref a => ∃ o, Obs K H a o ∧ KnO K o
  | _ => False
/-- the class of a value as the library tells it -/
def isO (K : PySem.W.Frag) (x : V) (H : Hp) (R : (Kd → Bool) → Option Addr → Prop) : Prop := match x with
  | .non => R (fun _ => false) none
  | .bl b => R (fun d => d.has (.bl b)) none
  | .int i => R (fun d => d.has (.int i)) none
  | .str z => R (fun d => d.has (.str z)) none
  | .ref a => ∃ o, Obs K H a o ∧ match o with
    | .lst _ => R (fun d => d == .lst) none
    | .tup _ => R (fun d => d == .tup) none
    | .dK _ => R (fun d => d == .dct) none
    | .dT _ => R (fun d => d == .dct) none
    | .ins C _ _ => Cls K C ∧ IsC K C ∧ R (fun _ => false) (some C)
    | _ => False
  | _ => False
theorem tyx_lst {K : PySem.W.Frag} {H : Hp} {a : Addr} {xs : List V} (h : SqL K H a xs) : TyX K H (.ref a) (.type "list") := by
  rcases h with (h | ⟨o, h⟩) | ⟨o, its, n, h1, h2, _⟩
  · exact .base (.lst h)
  · exact .base (.frz h)
  · exact .kList h1 h2
theorem tyx_tup {K : PySem.W.Frag} {H : Hp} {a : Addr} {xs : List V} (h : SqT K H a xs) : TyX K H (.ref a) (.type "tuple") := by
  rcases h with (h | ⟨o, h⟩) | ⟨o, its, n, h1, h2, _⟩
  · exact .base (.tup h)
  · exact .fTuple h
  · exact .kTuple h1 h2
theorem kdk : ∀ (t : String) (d : Kd), t ∈ ["NoneType", "int", "bool", "str", "list", "tuple", "dict"] → kitB t d.name = some (t == d.name || (t == "bool" && d == .int)) := by
  intro t d ht
  simp only [List.mem_cons, List.not_mem_nil, or_false] at ht
  rcases ht with rfl | rfl | rfl | rfl | rfl | rfl | rfl <;> cases d <;> decide +kernel
/-- the type t of x, and what each asked class says of it -/
theorem isO_ty {K : PySem.W.Frag} {x : V} {H : Hp} {R : (Kd → Bool) → Option Addr → Prop} (h : isO K x H R) : ∃ t f c, TyX K H x t ∧ R f c ∧ (∀ d : Kd, PySem.W.kitOne K t (.type d.name) = some (f d)) ∧
    ((c = none ∧ ∃ n, t = .type n ∧ n ∈ ["NoneType", "int", "bool", "str", "list", "tuple", "dict"]) ∨ ∃ C, c = some C ∧ t = .ref C ∧ IsC K C) := by
  have kk : ∀ n, n ∈ ["NoneType", "int", "bool", "str", "list", "tuple", "dict"] → ∀ f : Kd → Bool, (∀ d : Kd, (n == d.name || (n == "bool" && d == .int)) = f d) → ∀ d : Kd, PySem.W.kitOne K (.type n) (.type d.name) = some (f d) := fun n hn f hf d => by
    have e := kdk n d hn
    rw [hf d] at e
    exact kit_ty e
  cases x with
  | non => exact ⟨_, _, _, .base .non, h, kk "NoneType" (by decide) _ (fun d => by cases d <;> decide), .inl ⟨rfl, _, rfl, by decide⟩⟩
  | bl b => exact ⟨_, _, _, .base (.bl b), h, kk "bool" (by decide) _ (fun d => by cases d <;> rfl), .inl ⟨rfl, _, rfl, by decide⟩⟩
  | int i => exact ⟨_, _, _, .base (.int i), h, kk "int" (by decide) _ (fun d => by cases d <;> rfl), .inl ⟨rfl, _, rfl, by decide⟩⟩
  | str z => exact ⟨_, _, _, .base (.str z), h, kk "str" (by decide) _ (fun d => by cases d <;> rfl), .inl ⟨rfl, _, rfl, by decide⟩⟩
  | byt _ => exact h.elim
  | flt _ => exact h.elim
  | ty _ => exact h.elim
  | ref a =>
    obtain ⟨o, ho, h⟩ := h
    cases o with
    | lst xs => exact ⟨_, _, _, tyx_lst ho, h, kk "list" (by decide) _ (fun d => by cases d <;> rfl), .inl ⟨rfl, _, rfl, by decide⟩⟩
    | tup xs => exact ⟨_, _, _, tyx_tup ho, h, kk "tuple" (by decide) _ (fun d => by cases d <;> rfl), .inl ⟨rfl, _, rfl, by decide⟩⟩
    | dK kvs => exact ⟨_, _, _, .base (.dK ho), h, kk "dict" (by decide) _ (fun d => by cases d <;> rfl), .inl ⟨rfl, _, rfl, by decide⟩⟩
    | dT kvs => exact ⟨_, _, _, .base (.dT ho), h, kk "dict" (by decide) _ (fun d => by cases d <;> rfl), .inl ⟨rfl, _, rfl, by decide⟩⟩
    | ins C dx fs =>
      obtain ⟨c, ic, h⟩ := h
      exact ⟨_, _, _, .base (.ins ho c ic.ha ic.hn ic.htk ic.hm), h, ic.out, .inr ⟨C, rfl, rfl, ic⟩⟩
    | _ => exact h.elim
/-- isinstance(x, T) -/
def rIsiB (d : Kd) (K : PySem.W.Frag) : List V → Hp → VK → Prop := fun xs H Q => ∃ x, xs = [x, .ty d.name] ∧ isO K x H fun f _ => Q (.bl (f d)) H
/-- isinstance(x, (T, U)), the tuple just laid -/
def rIsiBs (ds : List Kd) (K : PySem.W.Frag) : List V → Hp → VK → Prop := fun xs H Q => ∃ x tp, xs = [x, .ref tp] ∧ H tp = some (.tup (ds.map fun d => .ty d.name)) ∧ isO K x H fun f _ => Q (.bl (ds.any f)) H
/-- isinstance(x, C), C of the text -/
def rIsiC (C : Addr) (K : PySem.W.Frag) : List V → Hp → VK → Prop := fun xs H Q => ∃ x, xs = [x, .ref C] ∧ isO K x H fun _ c => match c with
  | none => Q (.bl false) H
  | some D => ∃ b, PySem.W.kitOne K (.ref D) (.ref C) = some b ∧ Q (.bl b) H
section
variable {X : Cx}
theorem call_isiB (d : Kd) {K : PySem.W.Frag} (hK : X.K = K := by rfl) : CallR X (.builtin "isinstance") (rIsiB d K) := by
  subst hK
  intro pins s σ H xs us Q I r h
  obtain ⟨x, rfl, h⟩ := h
  obtain ⟨t, f, c, ty, q, k, _⟩ := isO_ty h
  exact call_isi pins s σ H _ us Q I r ⟨x, _, t, _, _, rfl, .ty _, ty, k d, q⟩
theorem kitAny_kds {K : PySem.W.Frag} {t : Value} {f : Kd → Bool} (k : ∀ d : Kd, PySem.W.kitOne K t (.type d.name) = some (f d)) : ∀ ds : List Kd, PySem.W.kitAny K t (ds.map fun d => .type d.name) = some (ds.any f)
  | [] => rfl
  | d :: ds => kitAny_cons (k d) (fun e => by rw [kitAny_kds k ds, List.any_cons, e]; rfl) (fun e => by rw [List.any_cons, e]; rfl)
theorem clsV_kds : ∀ ds : List Kd, Paired ClsV (ds.map fun d => V.ty d.name) (ds.map fun d => Value.type d.name)
  | [] => .nil
  | _ :: ds => .cons (.ty _) (clsV_kds ds)
theorem call_isiBs (ds : List Kd) {K : PySem.W.Frag} (hK : X.K = K := by rfl) : CallR X (.builtin "isinstance") (rIsiBs ds K) := by
  subst hK
  intro pins s σ H xs us Q I r h
  obtain ⟨x, tp, rfl, ht, h⟩ := h
  obtain ⟨t, f, c, ty, q, k, _⟩ := isO_ty h
  exact call_isiT pins s σ H _ us Q I r ⟨x, tp, _, t, _, _, rfl, ht, clsV_kds ds, ty, kitAny_kds k ds, q⟩
theorem call_isiC {C : Addr} {K : PySem.W.Frag} (ic : IsC K C) (hK : X.K = K := by rfl) : CallR X (.builtin "isinstance") (rIsiC C K) := by
  subst hK
  intro pins s σ H xs us Q I r h
  obtain ⟨x, rfl, h⟩ := h
  obtain ⟨t, f, c, ty, q, k, e⟩ := isO_ty h
  rcases e with ⟨rfl, n, rfl, hn⟩ | ⟨D, rfl, rfl, _⟩
  · exact call_isi pins s σ H _ us Q I r ⟨x, _, _, _, _, rfl, .own _, ty, ic.inn n hn, q⟩
  · obtain ⟨b, e, q⟩ := q
    exact call_isi pins s σ H _ us Q I r ⟨x, _, _, _, _, rfl, .own _, ty, e, q⟩
/-! ### rules of the layer, the written part named -/
theorem call_maxU (hc : X.calm = true) : CallR X (.builtin "max") (rMaxU) := call_max2 hc
theorem call_minU (hc : X.calm = true) : CallR X (.builtin "min") (rMinU) := call_min2 hc
theorem cr_allK {K : PySem.W.Frag} (hc : X.calm = true) (hK : X.K = K := by rfl) : CallR X (.builtin "all") (rAll K) := by
  subst hK
  exact cr_all hc
theorem cr_anyK {K : PySem.W.Frag} (hc : X.calm = true) (hK : X.K = K := by rfl) : CallR X (.builtin "any") (rAny K) := by
  subst hK
  exact cr_any hc
theorem cr_sumK {K : PySem.W.Frag} (hc : X.calm = true) (hK : X.K = K := by rfl) : CallR X (.builtin "sum") (rSum K) := by
  subst hK
  exact cr_sum hc
theorem cr_maxK {K : PySem.W.Frag} (hc : X.calm = true) (hK : X.K = K := by rfl) : CallR X (.builtin "max") (rMax K) := by
  subst hK
  exact cr_max hc
theorem cr_minK {K : PySem.W.Frag} (hc : X.calm = true) (hK : X.K = K := by rfl) : CallR X (.builtin "min") (rMin K) := by
  subst hK
  exact cr_min hc
theorem pi_listK {tg l : Expr} {tl : TE} {K : PySem.W.Frag} (hl : PE X l tl) (hK : X.K = K := by rfl) : PI X tg l (iList K tl) := by
  subst hK
  exact pi_list hl
theorem pi_tupK {tg l : Expr} {tl : TE} {K : PySem.W.Frag} (hl : PE X l tl) (hK : X.K = K := by rfl) : PI X tg l (iTup K tl) := by
  subst hK
  exact pi_tup hl
theorem pi_strK {tg l : Expr} {tl : TE} (hl : PE X l tl) : PI X tg l (iStr tl) := pi_str hl
theorem pg_tupK {es : List Expr} {k : Nat} {t : TGs} {n : Nat} {pos : Pos} {K : PySem.W.Frag} (hc : X.calm = true) (h : PGs X es t) (hK : X.K = K := by rfl)
    (hn : (assignEach es X.env).length = n := by rfl) (hst : (assignEach es X.env).findIdx? (·.1) = none := by rfl) : PG X (.Tuple es k pos) (gTup K n t) := by
  subst hK
  exact pg_tup hc h hn hst
theorem pe_fldK {e : Expr} {f : Str} {pos : Pos} {ta : TE} {K : PySem.W.Frag} (he : PE X e ta) (hK : X.K = K := by rfl) (hb : attributeBase e f X.env (eval e X.env) = eval e X.env := by rfl) : PE X (.Attribute e f pos) (tFld K ta f) := by
  subst hK
  exact pe_fld he hb
theorem ps_fldK {o value : Expr} {f : Str} {pos pos' : Pos} {ta tv : TE} {K : PySem.W.Frag} (ha : PE X o ta) (hv : PE X value tv) (hK : X.K = K := by rfl) (hs : swapsWith value (some (.Attribute o f pos')) pos.line X.env = pure false := by rfl) : PS X (.Assign [.Attribute o f pos'] value pos) (sFld K ta tv f) := by
  subst hK
  exact ps_fld ha hv hs
/-! ### names of the module, calls with defaults -/
theorem pe_globE {x : Str} {v : V} {pos : Pos} (hg : Gl X x) (hm : ∃ u, X.mg x = some u ∧ RelV v u) (hd : (x == ("__debug__" : Str)) = false := by decide) : PE X (.Name x pos) (tC v) := by
  obtain ⟨u, hm, r⟩ := hm
  exact pe_glob hg hm r hd
theorem pe_callD {CX : CXT} {k : Nat} {f : Addr} {fd : FuncData} {ps : List Str} {sp : Sp} {dvs : List V} {E : XK} {x : Str} {p pos : Pos} {e : Expr} {es : List Expr} {t : TA}
    (F : FnOk X.prog X.w X.K X.mg X.base CX k f fd ps sp) (hr : Room k X.A) (hg : Gl X x) (hm : X.mg x = some (.ref f)) (hk : PySem.W.keepIn X.K (.ref f) = true) (hb : ∃ ds, Vals dvs ds ∧ Binds X.K fd ps ds) (hx : Passes CX X E)
    (ha : PA X (e :: es) t) (hdb : (x == ("__debug__" : Str)) = false := by decide) (he : starEach (e :: es) X.env = (false, eval e X.env) :: starEach es X.env := by rfl) (hpl : (backTo pos (starEach es X.env)).any (·.1) = false := by rfl) :
    PE X (.Call (.Name x p) (e :: es) [] pos) (tCall sp dvs E t) := by
  obtain ⟨ds, hd, hb⟩ := hb
  exact pe_call F hr hg hm hk hb hd hx ha hdb he hpl
theorem pe_callNE {CX : CXT} {k n : Nat} {f : Addr} {fd : FuncData} {ps ks : List Str} {sp : Sp} {E : XK} {x : Str} {p pos : Pos} {e : Expr} {es : List Expr} {kws : List Keyword} {t tk : TA} {gV : List V → List V → List V}
    (F : FnOk X.prog X.w X.K X.mg X.base CX k f fd ps sp) (hr : Room k X.A) (hg : Gl X x) (hm : X.mg x = some (.ref f)) (hk : PySem.W.keepIn X.K (.ref f) = true) (hb : ∃ g, KBn X.K fd ps n ks g gV) (hx : Passes CX X E)
    (ha : PA X (e :: es) t) (hkw : PK X kws tk) (hall : (backToKw pos (keywordEach kws X.env)).all (·.1.isSome) = true := by rfl) (hks : (backToKw pos (keywordEach kws X.env)).filterMap (·.1) = ks := by rfl)
    (hdb : (x == ("__debug__" : Str)) = false := by decide) (he : starEach (e :: es) X.env = (false, eval e X.env) :: starEach es X.env := by rfl)
    (hpl : ((backTo pos (starEach (e :: es) X.env)).any (·.1) || (backToKw pos (keywordEach kws X.env)).any (·.1.isNone)) = false := by rfl) :
    PE X (.Call (.Name x p) (e :: es) kws pos) (tCallN n ks.length sp gV E t tk) := by
  obtain ⟨g, hb⟩ := hb
  exact pe_callN F hr hg hm hk hb hx ha hkw hall hks hdb he hpl
end
/-! ### what the top has left -/
theorem fund_mk {K : PySem.W.Frag} {x qual : Str} {st : Stmt} {f : Addr} {dvs : List V} {oc dV : Value} {od an : Option Addr} {osl : Array (Option Value)} {kV doc pm cdv ct : Value}
    (l : K.lookup f = some ⟨oc, od, .func (PySem.W.fnOf x qual (defArgs st) (defBody st) (defScope st) dV kV doc pm an cdv ct), osl⟩) (c : PySem.W.codeIn K cdv qual = true) (k : PySem.W.keepIn K (.ref f) = true) (d : DflV K dV dvs) :
    FunD K x qual (defArgs st) (defBody st) (defScope st) dvs [] f (PySem.W.fnOf x qual (defArgs st) (defBody st) (defScope st) dV kV doc pm an cdv ct) :=
  ⟨⟨oc, od, dV, kV, doc, pm, an, cdv, ct, osl, rfl, l, c, d, .inl rfl⟩, k⟩
theorem dfl_mk {K : PySem.W.Frag} {dV : Value} {T : Addr} {o : Obj} {its : List Value} {n : Nat} {dvs : List V} (e : dV = .ref T) (l : K.lookup T = some o) (hd : o.data = .seq its.toArray n) (r : Vals dvs its) (hn : dvs ≠ []) : DflV K dV dvs := .inr ⟨hn, T, o, its, n, e, l, hd, r⟩
section
variable {K : PySem.W.Frag} {x qual : Str} {st : Stmt} {dvs : List V} {f : Addr} {fd : FuncData} {ps : List Str}
/-- all parameters are written, no defaults stand -/
theorem fund_all0 (F : FunD K x qual (defArgs st) (defBody st) (defScope st) [] [] f fd)
    (h : ∀ (kV doc pm : Value) (an : Option Addr) (cdv ct : Value) (us : List Value), us.length = ps.length → bindArgs (PySem.W.fnOf x qual (defArgs st) (defBody st) (defScope st) .none kV doc pm an cdv ct) ⟨us, []⟩ = pure (ps.zip us)) : Binds K fd ps [] := F.bindsN h
/-- all parameters are written, and defaults stand -/
theorem fund_allD (F : FunD K x qual (defArgs st) (defBody st) (defScope st) dvs [] f fd) (hd : dvs ≠ [])
    (h : ∀ (T : Addr) (kV doc pm : Value) (an : Option Addr) (cdv ct : Value) (us its : List Value), us.length = ps.length → its.length = dvs.length →
      ∃ k, bindArgs (PySem.W.fnOf x qual (defArgs st) (defBody st) (defScope st) (.ref T) kV doc pm an cdv ct) ⟨us, []⟩ = seqItems? (.ref T) >>= k ∧ k (some its.toArray) = pure (ps.zip us)) : Binds K fd ps [] := by
  obtain ⟨ds, r, b⟩ := F.binds1 (ps := ps) ps.length dvs.length hd (by omega) (fun T kV doc pm an cdv ct us its h1 h2 => by
    obtain ⟨k, e1, e2⟩ := h T kV doc pm an cdv ct us its h1 h2
    refine ⟨k, e1, ?_⟩
    rw [e2, List.drop_eq_nil_of_le (Nat.le_of_eq h2), List.append_nil])
  have e : ds = [] := by
    have := r.length
    rw [List.drop_length] at this
    exact List.eq_nil_of_length_eq_zero this.symm
  rw [e] at b
  exact b
theorem Vals.pick {xs : List V} {us : List Value} (r : Vals xs us) : ∀ ix : List Nat, Vals (ix.filterMap fun i => xs[i]?) (ix.filterMap fun i => us[i]?)
  | [] => .nil
  | i :: ix => by
    rw [List.filterMap_cons, List.filterMap_cons]
    cases e : xs[i]? with
    | none =>
      rw [Vals.none_of r e]
      exact Vals.pick r ix
    | some y =>
      obtain ⟨u, e2, r2⟩ := Vals.get r e
      rw [e2]
      exact .cons r2 (Vals.pick r ix)
/-- keywords: the parameters picked from the written values, the keywords' values, the defaults -/
theorem fund_kw (F : FunD K x qual (defArgs st) (defBody st) (defScope st) dvs [] f fd) (n : Nat) (ks : List Str) (ix : List Nat) (hd : dvs ≠ [])
    (h : ∀ (T : Addr) (kV doc pm : Value) (an : Option Addr) (cdv ct : Value) (us ws its : List Value), us.length = n → ws.length = ks.length → its.length = dvs.length →
      ∃ k, bindArgs (PySem.W.fnOf x qual (defArgs st) (defBody st) (defScope st) (.ref T) kV doc pm an cdv ct) ⟨us, ks.zip ws⟩ = seqItems? (.ref T) >>= k ∧ k (some its.toArray) = pure (ps.zip (ix.filterMap fun i => (us ++ (ws ++ its))[i]?))) :
    ∃ g, KBn K fd ps n ks g (fun vs zs => ix.filterMap fun i => (vs ++ (zs ++ dvs))[i]?) := by
  obtain ⟨oc, od, dV, kV, doc, pm, an, cdv, ct, osl, rfl, lk, hcd, hD, hK⟩ := F.ex
  rcases hD with ⟨e, _⟩ | ⟨_, T, o, its, m, rfl, lT, oT, rT⟩
  · exact absurd e hd
  · refine ⟨fun us ws => ix.filterMap fun i => (us ++ (ws ++ its))[i]?, ⟨fun s us ws X l1 l2 => ?_, fun r1 r2 => Vals.pick (r1.append (r2.append rT)) ix⟩⟩
    obtain ⟨k, e1, e2⟩ := h T kV doc pm an cdv ct us ws its l1 l2 rT.length.symm
    refine BindsTo.of_looks fun M => ?_
    rw [e1]
    exact looks_items X lT oT (.of_pure e2)
theorem fund_kw0 (F : FunD K x qual (defArgs st) (defBody st) (defScope st) [] [] f fd) (n : Nat) (ks : List Str) (ix : List Nat)
    (h : ∀ (kV doc pm : Value) (an : Option Addr) (cdv ct : Value) (us ws : List Value), us.length = n → ws.length = ks.length →
      bindArgs (PySem.W.fnOf x qual (defArgs st) (defBody st) (defScope st) .none kV doc pm an cdv ct) ⟨us, ks.zip ws⟩ = pure (ps.zip (ix.filterMap fun i => (us ++ ws)[i]?))) :
    ∃ g, KBn K fd ps n ks g (fun vs zs => ix.filterMap fun i => (vs ++ zs)[i]?) := by
  obtain ⟨oc, od, dV, kV, doc, pm, an, cdv, ct, osl, rfl, lk, hcd, hD, hK⟩ := F.ex
  rcases hD with ⟨_, rfl⟩ | ⟨e, _⟩
  · refine ⟨fun us ws => ix.filterMap fun i => (us ++ ws)[i]?, ⟨fun s us ws X l1 l2 => ?_, fun r1 r2 => Vals.pick (r1.append r2) ix⟩⟩
    exact .of_eq (h kV doc pm an cdv ct us ws l1 l2)
  · exact absurd rfl e
end
/-! ### the heap -/
theorem get_upd {H : Hp} {a p : Addr} {o u : HO} (hp : H p = none) (h : H a = some o) : upd H p u a = some o := by
  rw [upd_ne (ne_of_none h hp)]
  exact h
theorem get_same {H H' : Hp} {a : Addr} {o : HO} (s : Same H H') (h : H a = some o) : H' a = some o := s a o h
theorem same_upd {H H' : Hp} {p : Addr} {u : HO} (s : Same H H') (hp : H' p = none) : Same H (upd H' p u) := fun _ _ e => get_upd hp (s _ _ e)
/-! ### comprehensions whose element gives a value of the item alone (none: it is left out) -/
theorem take_succ_get {α : Type} {xs : List α} {i : Nat} {x : α} (h : xs[i]? = some x) : xs.take (i + 1) = xs.take i ++ [x] := by
  rw [List.take_succ, h]
  rfl
theorem lc_fm {J : It} {G : Hp → Prop} {g : TG} {tt : TT} {te : TE} {vs : List Nat} {σ : St} {H1 : Hp} {D : Addr} {Qd : Hp → Prop} (xs : List V) (f : V → Option V) (w : Walk J xs.length G (YAt xs)) (hl : xs.length < sizeLine)
    (hG : ∀ H, Same H1 H → G H) (hD : H1 D = none)
    (hs : ∀ x ∈ xs, ∀ H (Q : VK) (R : Hp → Prop), Same H1 H → (∀ H', Same H H' → match f x with | some y => Q y H' | none => R H') → g x (wipe σ vs) H fun σ2 H2 => wipe σ2 vs = wipe σ vs ∧ tt σ2 H2 fun b H3 => if b = true then te σ2 H3 Q else R H3)
    (hd : ∀ H, Same H1 H → H D = some (.lst (xs.filterMap f)) → Qd H) :
    ∃ W : Nat → Nat → Hp → Prop, (∃ m, W 0 m (upd H1 D (.lst []))) ∧ ∀ i m H, W i m H →
      (J.stop i H ∧ Qd H) ∨ (J.go i H ∧ ∃ Nx : Hp → Prop, (∀ H', Nx H' → ∃ m', m' < m ∧ W (i + 1) m' H') ∧ ∀ x H', J.yld i H x H' → g x (wipe σ vs) H' fun σ2 H2 => wipe σ2 vs = wipe σ vs ∧ tt σ2 H2 fun b H3 =>
        if b = true then te σ2 H3 fun y H4 => ∃ acc, H4 D = some (.lst acc) ∧ acc.length < sizeLine ∧ Nx (upd H4 D (.lst (acc ++ [y]))) else Nx H3) := by
  refine lc_it w (fun i H => Same H1 H ∧ H D = some (.lst ((xs.take i).filterMap f))) ⟨same_upd (Same.refl H1) hD, upd_same⟩ (fun i H _ h => hG H h.1) ?_ (fun H h => ?_)
  · rintro i x H H' hi ⟨s1, e1⟩ ⟨rfl, hx⟩
    refine hs x (List.mem_of_getElem? hx) H' _ _ s1 fun H4 s4 => ?_
    have e4 := s4 _ _ e1
    have s14 := s1.trans s4
    cases ef : f x with
    | none =>
      refine ⟨s14, ?_⟩
      rw [take_succ_get hx, List.filterMap_append, List.filterMap_cons, ef]
      simpa using e4
    | some y =>
      refine ⟨_, e4, ?_, fun b o hb => ?_, ?_⟩
      · refine Nat.lt_of_le_of_lt (List.length_filterMap_le _ _) (Nat.lt_of_le_of_lt ?_ hl)
        rw [List.length_take]
        exact Nat.min_le_right _ _
      · rw [upd_ne (ne_of_none hb hD)]
        exact s14 _ _ hb
      · rw [upd_same, take_succ_get hx, List.filterMap_append, List.filterMap_cons, ef]
        rfl
  · rw [List.take_length] at h
    exact hd H h.1 h.2
theorem lc_map {J : It} {G : Hp → Prop} {g : TG} {tt : TT} {te : TE} {vs : List Nat} {σ : St} {H1 : Hp} {D : Addr} {Qd : Hp → Prop} (xs : List V) (f : V → V) (w : Walk J xs.length G (YAt xs)) (hl : xs.length < sizeLine)
    (hG : ∀ H, Same H1 H → G H) (hD : H1 D = none)
    (hs : ∀ x ∈ xs, ∀ H (Q : VK) (R : Hp → Prop), Same H1 H → (∀ H', Same H H' → Q (f x) H') → g x (wipe σ vs) H fun σ2 H2 => wipe σ2 vs = wipe σ vs ∧ tt σ2 H2 fun b H3 => if b = true then te σ2 H3 Q else R H3)
    (hd : ∀ H, Same H1 H → H D = some (.lst (xs.map f)) → Qd H) :
    ∃ W : Nat → Nat → Hp → Prop, (∃ m, W 0 m (upd H1 D (.lst []))) ∧ ∀ i m H, W i m H →
      (J.stop i H ∧ Qd H) ∨ (J.go i H ∧ ∃ Nx : Hp → Prop, (∀ H', Nx H' → ∃ m', m' < m ∧ W (i + 1) m' H') ∧ ∀ x H', J.yld i H x H' → g x (wipe σ vs) H' fun σ2 H2 => wipe σ2 vs = wipe σ vs ∧ tt σ2 H2 fun b H3 =>
        if b = true then te σ2 H3 fun y H4 => ∃ acc, H4 D = some (.lst acc) ∧ acc.length < sizeLine ∧ Nx (upd H4 D (.lst (acc ++ [y]))) else Nx H3) :=
  lc_fm xs (fun x => some (f x)) w hl hG hD (fun x hx H Q R s h => hs x hx H Q R s h) (fun H s e => hd H s (by rw [e, List.filterMap_eq_map']))
/-- the signs of a text as texts of one sign -/
def signs (z : Str) : List V := z.cps.toList.map fun c => .str ⟨#[c]⟩
theorem walk_signs {z : Str} : Walk (Its z) (signs z).length (fun _ => True) (YAt (signs z)) := by
  have e : (signs z).length = z.cps.size := by
    unfold signs
    rw [List.length_map]
    rfl
  rw [e]
  refine walk_str.mono (fun _ h => h) fun i H x H' _ _ ⟨h1, c, h2, h3⟩ => ⟨h1, ?_⟩
  unfold signs
  rw [List.getElem?_map, Array.getElem?_toList, h2, h3]
  rfl
/-- a for, item by item -/
def forW (G : Hp → Prop) (g : TG) (tb : TS) (D : Ends) : List V → St → Hp → Prop
  | [], σ, H => G H ∧ D.nx σ H
  | x :: xs, σ, H => G H ∧ g x σ H fun σ2 H2 => tb { D with nx := forW G g tb D xs, ct := forW G g tb D xs, bk := D.nx } σ2 H2
theorem forW_G {G : Hp → Prop} {g : TG} {tb : TS} {D : Ends} : ∀ {xs : List V} {σ : St} {H : Hp}, forW G g tb D xs σ H → G H
  | [], _, _, h => h.1
  | _ :: _, _, _, h => h.1
theorem for_W {J : It} {G : Hp → Prop} {g : TG} {tb : TS} {D : Ends} {σ : St} {H : Hp} (xs : List V) (w : Walk J xs.length G (YAt xs)) (h : forW G g tb D xs σ H) :
    ∃ W : Nat → Nat → St → Hp → Prop, (∃ m, W 0 m σ H) ∧ ∀ i m σ H, W i m σ H →
      (J.stop i H ∧ D.nx σ H) ∨ (J.go i H ∧ ∃ N : St → Hp → Prop, (∀ σ' H', N σ' H' → ∃ m', m' < m ∧ W (i + 1) m' σ' H') ∧ ∀ x H', J.yld i H x H' → g x σ H' fun σ2 H2 => tb { D with nx := N, ct := N, bk := D.nx } σ2 H2) := by
  refine ⟨fun i m σ H => i ≤ xs.length ∧ m = xs.length - i ∧ forW G g tb D (xs.drop i) σ H, ⟨_, Nat.zero_le _, rfl, h⟩, ?_⟩
  rintro i m σ H ⟨hi, rfl, h⟩
  by_cases c : i = xs.length
  · subst c
    rw [List.drop_length] at h
    exact .inl ⟨w.stops H h.1, h.2⟩
  · have hi' : i < xs.length := by omega
    refine .inr ⟨w.goes i H hi' (forW_G h), forW G g tb D (xs.drop (i + 1)), fun σ' H' q => ⟨xs.length - (i + 1), by omega, by omega, rfl, q⟩, fun x H' hy => ?_⟩
    obtain ⟨rfl, hx⟩ := w.yields i H x H' hi' (forW_G h) hy
    rw [List.drop_eq_getElem_cons hi'] at h
    obtain ⟨_, rfl⟩ := List.getElem?_eq_some_iff.mp hx
    exact h.2
/-! ### a def of which nothing raised leaves -/
theorem fund_ok0 {P : Program} {w : World} {K : PySem.W.Frag} {mg : Str → Option Value} {base : Heap} {x qual : Str} {params : Arguments} {body : List Stmt} {scope : Scope} {dvs : List V} {f : Addr} {fd : FuncData} {N ps : List Str} {k : Nat} {sp : Sp}
    (F : FunD K x qual params body scope dvs [] f fd) (S : FnScope N ps scope) (len : ∀ vs H Q E, sp vs H Q E → vs.length = ps.length)
    (hbody : ∀ (cdv : Value) (A : Around) (outer : List Env) (s : Shared) (H : Hp) (vs : List V) (Q : VK) (E : XK), Room k (A.deeper (PyProof.Rows.envOfC qual scope s.heap.objs.size f cdv)) → sp vs H Q E →
      ∃ t, PSs (cxOf CX0 P w K mg base N qual scope f cdv A outer s H E).nox body t ∧ t { nx := fun _ H' => Q .non H', rt := Q } (start N vs) H) : FnOk P w K mg base CX0 (k + 1) f fd ps sp :=
  F.ok S len fun cdv A outer s H vs Q E hr h => let ⟨t, h1, h2⟩ := hbody cdv A outer s H vs Q E hr h; ⟨t, h1.nox, h2⟩
/-! ### one step of a reading -/
section
variable {D : Ends} {σ : St} {H : Hp} {Q : VK} {K : PySem.W.Frag} {t u : TS} {ta tb te to tl : TE} {tc td : TT} {TQ : Bool → Hp → Prop} {A : TA} {AQ : List V → Hp → Prop} {g : TG} {gs : TGs} {GQ : St → Hp → Prop} {r r' : R2} {v x y : V} {i : Nat}
theorem i_seq (h : t { D with nx := u D } σ H) : tSeq t u D σ H := h
theorem i_ifS (h : tc σ H fun b H1 => if b = true then t D σ H1 else u D σ H1) : tIfS tc t u D σ H := h
theorem i_ret (h : te σ H D.rt) : tRet te D σ H := h
theorem i_retN (h : D.rt .non H) : tRetN D σ H := h
theorem i_next (h : D.nx σ H) : tNext D σ H := h
theorem i_brk (h : D.bk σ H) : tBreak D σ H := h
theorem i_cont (h : D.ct σ H) : tCont D σ H := h
theorem i_asg (h : te σ H fun x H1 => g x σ H1 D.nx) : tAsg te g D σ H := h
theorem i_drop (h : te σ H fun _ H1 => D.nx σ H1) : tDrop te D σ H := h
theorem i_name (h : GQ (σ.set i (some v)) H) : gName i v σ H GQ := h
theorem i_sub {ti : TE} {ts : TSet} (h : to σ H fun o H1 => ti σ H1 fun i H2 => ts o i v H2 fun H3 => GQ σ H3) : gSub to ti ts v σ H GQ := h
theorem i_tupT {n : Nat} {a : Addr} {xs : List V} (h1 : SqT K H a xs) (h2 : xs.length = n) (h3 : gs xs σ H GQ) : gTup K n gs (.ref a) σ H GQ := ⟨a, xs, rfl, h1, h2, h3⟩
theorem i_gnil (h : GQ σ H) : gNil [] σ H GQ := ⟨rfl, h⟩
theorem i_gcons {vs : List V} (h : g v σ H fun σ' H' => gs vs σ' H' GQ) : gCons g gs (v :: vs) σ H GQ := ⟨v, vs, rfl, h⟩
theorem i_setL {p : Addr} {xs : List V} {k : Int} {j : Nat} {HQ : Hp → Prop} (h1 : H p = some (.lst xs)) (h2 : ixN xs.length k = some j) (h3 : HQ (upd H p (.lst (xs.set j v)))) : rSetL (.ref p) (.int k) v H HQ := ⟨p, xs, k, j, rfl, rfl, h1, h2, h3⟩
theorem i_test (h : te σ H fun x H' => ∃ k, x = .bl k ∧ TQ k H') : tTest te σ H TQ := h
theorem i_tB (h : te σ H fun x H' => ∃ k, x = .bl k ∧ TQ k H') : tB te σ H TQ := h
theorem i_bl {b : Bool} {R : Bool → Prop} (h : R b) : ∃ k, V.bl b = .bl k ∧ R k := ⟨b, rfl, h⟩
theorem i_not (h : tc σ H fun c H1 => TQ (!c) H1) : tNot tc σ H TQ := h
theorem i_and (h : tc σ H fun c H1 => if c = true then td σ H1 TQ else TQ false H1) : tAnd tc td σ H TQ := h
theorem i_or (h : tc σ H fun c H1 => if c = true then TQ true H1 else td σ H1 TQ) : tOr tc td σ H TQ := h
theorem i_andV (h : ta σ H fun x H1 => ∃ c, x = .bl c ∧ if c = true then tb σ H1 Q else Q (.bl false) H1) : tAndV ta tb σ H Q := h
theorem i_orV (h : ta σ H fun x H1 => ∃ c, x = .bl c ∧ if c = true then Q (.bl true) H1 else tb σ H1 Q) : tOrV ta tb σ H Q := h
theorem i_notV (h : ta σ H fun x H1 => ∃ c, x = .bl c ∧ Q (.bl (!c)) H1) : tNotV ta σ H Q := h
theorem i_if (h : tc σ H fun c H1 => if c = true then ta σ H1 Q else tb σ H1 Q) : tIf tc ta tb σ H Q := h
theorem i_var (h1 : σ[i]? = some (some v)) (h2 : Q v H) : tVar i σ H Q := ⟨v, h1, h2⟩
theorem i_c (h : Q v H) : tC v σ H Q := h
theorem i_op (h : ta σ H fun x H1 => tb σ H1 fun y H2 => r x y H2 Q) : tOp r ta tb σ H Q := h
theorem i_un {r1 : V → Hp → VK → Prop} (h : ta σ H fun x H1 => r1 x H1 Q) : tUn r1 ta σ H Q := h
theorem i_rU {f : Int → V} {n : Int} (h : Q (f n) H) : rU f (.int n) H Q := ⟨n, rfl, h⟩
theorem i_rI {C : Int → Int → Prop} {f : Int → Int → V} {n m : Int} (h1 : C n m) (h2 : Q (f n m) H) : rI C f (.int n) (.int m) H Q := ⟨n, m, rfl, rfl, h1, h2⟩
theorem i_rI0 {f : Int → Int → V} {n m : Int} (h2 : Q (f n m) H) : rI0 f (.int n) (.int m) H Q := ⟨n, m, rfl, rfl, h2⟩
theorem i_chain (h : ta σ H fun x H1 => tb σ H1 fun y H2 => r x y H2 fun z H3 => ∃ k, z = .bl k ∧ (if k = true then te σ H3 fun w' H4 => r' y w' H4 Q else Q (.bl false) H3)) : tChain r r' ta tb te σ H Q := h
theorem i_addI {n m : Int} (h : Q (.int (n + m)) H) : rAddU K (.int n) (.int m) H Q := h
theorem i_addS {n m : Str} (h1 : n.length + m.length ≤ sizeLine) (h : Q (.str (n ++ m)) H) : rAddU K (.str n) (.str m) H Q := ⟨h1, h⟩
theorem i_addL {p q : Addr} {xs ys : List V} (h1 : H p = some (.lst xs)) (h2 : H q = some (.lst ys)) (h3 : xs.length + ys.length ≤ sizeLine) (h : ∀ b, H b = none → Q (.ref b) (upd H b (.lst (xs ++ ys)))) : rAddU K (.ref p) (.ref q) H Q := .inl ⟨xs, ys, h1, h2, h3, h⟩
theorem i_addT {p q : Addr} {xs ys : List V} (h1 : SqT K H p xs) (h2 : SqT K H q ys) (h0 : xs ≠ []) (h3 : xs.length + ys.length ≤ sizeLine) (e : ys = [] → Q (.ref p) H) (h : ys ≠ [] → ∀ b, H b = none → Q (.ref b) (upd H b (.tup (xs ++ ys)))) : rAddU K (.ref p) (.ref q) H Q :=
  .inr ⟨p, q, xs, ys, rfl, rfl, h1, h2, h0, h3, e, h⟩
theorem i_mulI {n m : Int} (h1 : CMulW n m) (h : Q (.int (n * m)) H) : rMulU (.int n) (.int m) H Q := ⟨h1, h⟩
theorem i_eqS {b : Bool} (h1 : eqS x y = some b) (h : Q (.bl b) H) : rEqU K x y H Q := by
  unfold rEqU
  rw [h1]
  exact h
theorem i_neS {b : Bool} (h1 : eqS x y = some b) (h : Q (.bl (!b)) H) : rNeU K x y H Q := by
  unfold rNeU
  rw [h1]
  exact h
theorem i_eqD {a' b' : PyData} (h0 : eqS x y = none) (h1 : Dp K H x a') (h2 : Dp K H y b') (h3 : SeqAt.shaped a' = true) (h4 : SeqAt.shaped b' = true) (h : Q (.bl (PyData.eqv a' b')) H) : rEqU K x y H Q := by
  unfold rEqU
  rw [h0]
  exact .inl ⟨a', b', h1, h2, h3, h4, h⟩
theorem i_eqG {p q : Addr} {xs ys : List V} {n : Nat} {b : Bool} (h1 : (SqL K H p xs ∧ SqL K H q ys) ∨ (SqT K H p xs ∧ SqT K H q ys)) (hn : n < 60) (t : EqVs K H n xs ys b) (h : Q (.bl b) H) : rEqU K (.ref p) (.ref q) H Q := .inr ⟨p, q, xs, ys, n, b, rfl, rfl, h1, hn, t, h⟩
theorem i_neG {p q : Addr} {xs ys : List V} {n : Nat} {b : Bool} (h1 : (SqL K H p xs ∧ SqL K H q ys) ∨ (SqT K H p xs ∧ SqT K H q ys)) (hn : n < 60) (t : EqVs K H n xs ys b) (h : Q (.bl (!b)) H) : rNeU K (.ref p) (.ref q) H Q := .inr ⟨p, q, xs, ys, n, b, rfl, rfl, h1, hn, t, h⟩
theorem i_neD {a' b' : PyData} (h0 : eqS x y = none) (h1 : Dp K H x a') (h2 : Dp K H y b') (h3 : SeqAt.shaped a' = true) (h4 : SeqAt.shaped b' = true) (h : Q (.bl (!PyData.eqv a' b')) H) : rNeU K x y H Q := by
  unfold rNeU
  rw [h0]
  exact .inl ⟨a', b', h1, h2, h3, h4, h⟩
theorem i_isB {a' b' : Bool} (h : Q (.bl (decide (a' = b'))) H) : rIsU (.bl a') (.bl b') H Q := h
theorem i_isN (h : Q (.bl (decide (x = .non))) H) : rIsU x .non H Q := by cases x <;> exact h
theorem i_isnB {a' b' : Bool} (h : Q (.bl (!decide (a' = b'))) H) : rIsnU (.bl a') (.bl b') H Q := h
theorem i_isnN (h : Q (.bl (!decide (x = .non))) H) : rIsnU x .non H Q := by cases x <;> exact h
theorem i_inS {c : Nat} {z : Str} (h : Q (.bl (decide (c ∈ z.cps.toList))) H) : rInU K (.str ⟨#[c]⟩) (.str z) H Q := ⟨c, rfl, h⟩
theorem i_ixL {p : Addr} {xs : List V} {n : Int} {w' : V} (h1 : SqL K H p xs) (h2 : atI xs n = some w') (h : Q w' H) : rIxU K (.ref p) (.int n) H Q := ⟨xs, w', .inl h1, h2, h⟩
theorem i_ixT {p : Addr} {xs : List V} {n : Int} {w' : V} (h1 : SqT K H p xs) (h2 : atI xs n = some w') (h : Q w' H) : rIxU K (.ref p) (.int n) H Q := ⟨xs, w', .inr h1, h2, h⟩
theorem i_ixS {z : Str} {n : Int} {c : Nat} (h0 : z.length ≤ sizeLine) (h2 : atI z.cps.toList n = some c) (h : Q (.str ⟨#[c]⟩) H) : rIxU K (.str z) (.int n) H Q := ⟨h0, c, h2, h⟩
theorem i_sl {rs : V → Option Int → Option Int → Hp → VK → Prop} {tl th : TO} (h : te σ H fun x H1 => tl σ H1 fun l H2 => th σ H2 fun u H3 => rs x l u H3 Q) : tSl rs te tl th σ H Q := h
theorem i_slS {z : Str} {lo hi : Option Int} (h0 : z.length ≤ sizeLine) (h : Q (.str (cutS z lo hi)) H) : rSlU K (.str z) lo hi H Q := ⟨h0, h⟩
theorem i_slL {p : Addr} {xs : List V} {lo hi : Option Int} (h0 : SqL K H p xs) (h : ∀ b, H b = none → Q (.ref b) (upd H b (.lst (cutV xs lo hi)))) : rSlU K (.ref p) lo hi H Q := .inl ⟨p, xs, rfl, h0, h⟩
theorem i_po0 {OQ : Option Int → Hp → Prop} (h : OQ none H) : tNoPart σ H OQ := h
theorem i_po1 {OQ : Option Int → Hp → Prop} (h : te σ H fun x H1 => ∃ i, x = .int i ∧ OQ (some i) H1) : tPart te σ H OQ := h
theorem i_poI {R : Int → Prop} {n : Int} (h : R n) : ∃ i, V.int n = .int i ∧ R i := ⟨n, rfl, h⟩
theorem i_lst (h : A σ H fun xs H1 => xs.length ≤ sizeLine ∧ ∀ p, H1 p = none → Q (.ref p) (upd H1 p (.lst xs))) : tLst A σ H Q := h
theorem i_tup (h : A σ H fun xs H1 => xs.length ≤ sizeLine ∧ ∀ p, H1 p = none → Q (.ref p) (upd H1 p (.tup xs))) : tTup A σ H Q := h
theorem i_new {n : Nat} {R : Addr → Prop} (h1 : n ≤ 1000) (h : ∀ p, H p = none → R p) : n ≤ sizeLine ∧ ∀ p, H p = none → R p := ⟨Nat.le_of_lt (small1000 h1), h⟩
theorem i_nil (h : AQ [] H) : tNil σ H AQ := h
theorem i_cons (h : te σ H fun x H1 => A σ H1 fun xs H2 => AQ (x :: xs) H2) : tCons te A σ H AQ := h
theorem i_cB {rb : List V → Hp → VK → Prop} (h : A σ H fun vs H1 => rb vs H1 Q) : tCB rb A σ H Q := h
theorem i_call {sp : Sp} {dvs : List V} {E : XK} (h : A σ H fun vs H1 => sp (vs ++ dvs) H1 Q E) : tCall sp dvs E A σ H Q := h
theorem i_callN {n m : Nat} {sp : Sp} {gV : List V → List V → List V} {E : XK} {B : TA} (h : A σ H fun vs H1 => B σ H1 fun zs H2 => vs.length = n ∧ zs.length = m ∧ sp (gV vs zs) H2 Q E) : tCallN n m sp gV E A B σ H Q := h
theorem i_lenS {z : Str} (h0 : z.length ≤ sizeLine) (h : Q (.int z.length) H) : rLenU K [.str z] H Q := ⟨_, _, rfl, ⟨h0, rfl⟩, h⟩
theorem i_lenL {p : Addr} {xs : List V} (h0 : SqL K H p xs) (h : Q (.int xs.length) H) : rLenU K [.ref p] H Q := ⟨_, _, rfl, .inl ⟨xs, h0, rfl⟩, h⟩
theorem i_lenT {p : Addr} {xs : List V} (h0 : SqT K H p xs) (h : Q (.int xs.length) H) : rLenU K [.ref p] H Q := ⟨_, _, rfl, .inr ⟨xs, h0, rfl⟩, h⟩
theorem i_isiB {d : Kd} (h1 : y = .ty d.name) (h : isO K x H fun f _ => Q (.bl (f d)) H) : rIsiB d K [x, y] H Q := ⟨x, by rw [h1], h⟩
theorem i_isiBs {ds : List Kd} {p : Addr} (h0 : H p = some (.tup (ds.map fun d => .ty d.name))) (h : isO K x H fun f _ => Q (.bl (ds.any f)) H) : rIsiBs ds K [x, .ref p] H Q := ⟨x, p, rfl, h0, h⟩
theorem i_all {p : Addr} {bs : List Bool} (h0 : SqL K H p (bs.map V.bl)) (h : Q (.bl (bs.all id)) H) : rAll K [.ref p] H Q := ⟨p, bs, rfl, h0, h⟩
theorem i_isoN {R : (Kd → Bool) → Option Addr → Prop} (h : R (fun _ => false) none) : isO K .non H R := h
theorem i_isoB {R : (Kd → Bool) → Option Addr → Prop} {b : Bool} (h : R (fun d => d == .int || d == .bl) none) : isO K (.bl b) H R := h
theorem i_isoI {R : (Kd → Bool) → Option Addr → Prop} {n : Int} (h : R (fun d => d == .int) none) : isO K (.int n) H R := h
theorem i_isoS {R : (Kd → Bool) → Option Addr → Prop} {z : Str} (h : R (fun d => d == .str) none) : isO K (.str z) H R := h
theorem i_isoL {R : (Kd → Bool) → Option Addr → Prop} {p : Addr} {xs : List V} (h0 : SqL K H p xs) (h : R (fun d => d == .lst) none) : isO K (.ref p) H R := ⟨.lst xs, h0, h⟩
theorem i_isoT {R : (Kd → Bool) → Option Addr → Prop} {p : Addr} {xs : List V} (h0 : SqT K H p xs) (h : R (fun d => d == .tup) none) : isO K (.ref p) H R := ⟨.tup xs, h0, h⟩
/-- of an object: it is none of int, bool, str -/
theorem i_isoR {R : (Kd → Bool) → Option Addr → Prop} {p : Addr} (kn : Kn K H (.ref p)) (h : ∀ f c, f .int = false → f .bl = false → f .str = false → R f c) : isO K (.ref p) H R := by
  obtain ⟨o, ho, k⟩ := kn
  refine ⟨o, ho, ?_⟩
  cases o <;> first | exact h _ _ rfl rfl rfl | exact ⟨k.1, k.2, h _ _ rfl rfl rfl⟩ | exact k.elim
theorem i_dec {p : Prop} [Decidable p] {A' B' : Prop} (h1 : p → A') (h2 : ¬ p → B') : if decide p = true then A' else B' := by
  by_cases h : p
  · rw [if_pos (decide_eq_true h)]
    exact h1 h
  · rw [if_neg (by rw [decide_eq_false h]; exact Bool.false_ne_true)]
    exact h2 h
theorem i_decT {p : Prop} [Decidable p] {A' B' : Prop} (h : p) (h1 : A') : if decide p = true then A' else B' := i_dec (fun _ => h1) (fun z => absurd h z)
theorem i_decF {p : Prop} [Decidable p] {A' B' : Prop} (h : ¬ p) (h1 : B') : if decide p = true then A' else B' := i_dec (fun z => absurd z h) (fun _ => h1)
theorem i_ifN {b : Bool} {A' B' : Prop} (h : if b = true then B' else A') : if (!b) = true then A' else B' := by cases b <;> exact h
theorem i_ifAnd {b c : Bool} {A' B' : Prop} (h : if b = true then (if c = true then A' else B') else B') : if (b && c) = true then A' else B' := by cases b <;> exact h
theorem i_isIf {c A' B' : Prop} [Decidable c] (h : if c then A' else B') : if c then A' else B' := h
theorem i_tT {b : Bool} {A' B' : Prop} (h : b = true) (h1 : A') : if b = true then A' else B' := by rw [h]; exact h1
theorem i_tF {b : Bool} {A' B' : Prop} (h : b = false) (h1 : B') : if b = true then A' else B' := by rw [h]; exact h1
theorem i_boo {b : Bool} {A' B' : Prop} (h1 : b = true → A') (h2 : b = false → B') : if b = true then A' else B' := by cases b <;> first | exact h1 rfl | exact h2 rfl
end
/-! ### loops and comprehensions, up to the loop's own question -/
section
variable {D : Ends} {σ : St} {H : Hp} {Q : VK} {K : PySem.W.Frag} {tb : TS} {te : TE} {wi : TI} {g : TG} {A : TA} {R : It → Hp → Prop}
theorem i_for (h : wi σ H fun J H1 => ∃ W : Nat → Nat → St → Hp → Prop, (∃ m, W 0 m σ H1) ∧ ∀ i m σ H, W i m σ H →
  (J.stop i H ∧ D.nx σ H) ∨ (J.go i H ∧ ∃ N : St → Hp → Prop, (∀ σ' H', N σ' H' → ∃ m', m' < m ∧ W (i + 1) m' σ' H') ∧ ∀ x H', J.yld i H x H' → g x σ H' fun σ2 H2 => tb { D with nx := N, ct := N, bk := D.nx } σ2 H2)) : tFor wi g tb D σ H := h
theorem i_lc {tt : TT} {vs : List Nat} (h : wi σ H fun J H1 => ∀ D, H1 D = none → ∃ W : Nat → Nat → Hp → Prop, (∃ m, W 0 m (upd H1 D (.lst []))) ∧ ∀ i m H, W i m H →
  (J.stop i H ∧ Q (.ref D) H) ∨ (J.go i H ∧ ∃ Nx : Hp → Prop, (∀ H', Nx H' → ∃ m', m' < m ∧ W (i + 1) m' H') ∧ ∀ x H', J.yld i H x H' → g x (wipe σ vs) H' fun σ2 H2 => wipe σ2 vs = wipe σ vs ∧ tt σ2 H2 fun b H3 =>
    if b = true then te σ2 H3 fun y H4 => ∃ acc, H4 D = some (.lst acc) ∧ acc.length < sizeLine ∧ Nx (upd H4 D (.lst (acc ++ [y]))) else Nx H3)) : tLc wi g tt te vs σ H Q := h
theorem i_iStr (h : te σ H fun v H1 => ∃ x, v = .str x ∧ R (Its x) H1) : iStr te σ H R := h
theorem i_itS {z : Str} {R : Str → Prop} (h : R z) : ∃ x, V.str z = .str x ∧ R x := ⟨z, rfl, h⟩
theorem i_iList (h : te σ H fun x H1 => ∃ a, x = .ref a ∧ (∃ xs, SqL K H1 a xs) ∧ R (Itl K a) H1) : iList K te σ H R := h
theorem i_iTup (h : te σ H fun x H1 => ∃ a, x = .ref a ∧ (∃ xs, SqT K H1 a xs) ∧ R (Itt K a) H1) : iTup K te σ H R := h
theorem i_itL {a : Addr} {xs : List V} {R : Addr → Prop} (h0 : SqL K H a xs) (h : R a) : ∃ b, V.ref a = .ref b ∧ (∃ xs, SqL K H b xs) ∧ R b := ⟨a, rfl, ⟨xs, h0⟩, h⟩
theorem i_itT {a : Addr} {xs : List V} {R : Addr → Prop} (h0 : SqT K H a xs) (h : R a) : ∃ b, V.ref a = .ref b ∧ (∃ xs, SqT K H b xs) ∧ R b := ⟨a, rfl, ⟨xs, h0⟩, h⟩
theorem i_iR1 (h : A σ H fun vs H1 => ∃ j : Int, vs = [.int j] ∧ -(2 ^ 62) ≤ j ∧ j < 2 ^ 62 ∧ R (Itr 0 j.toNat) H1) : iRng1 A σ H R := h
theorem i_r1 {j : Int} {R : Int → Prop} (h0 : -(2 ^ 62) ≤ j ∧ j < 2 ^ 62) (h : R j) : ∃ i, [V.int j] = [.int i] ∧ -(2 ^ 62) ≤ i ∧ i < 2 ^ 62 ∧ R i := ⟨j, rfl, h0.1, h0.2, h⟩
theorem i_forC {G : Hp → Prop} {x : V} {xs : List V} (h1 : G H) (h2 : g x σ H fun σ2 H2 => tb { D with nx := forW G g tb D xs, ct := forW G g tb D xs, bk := D.nx } σ2 H2) : forW G g tb D (x :: xs) σ H := ⟨h1, h2⟩
theorem i_forN {G : Hp → Prop} (h1 : G H) (h2 : D.nx σ H) : forW G g tb D [] σ H := ⟨h1, h2⟩
end
theorem cast_bl {Q : VK} {H : Hp} {b c : Bool} (k : Q (.bl b) H) (e : b = c) : Q (.bl c) H := e ▸ k
theorem cast_v {Q : VK} {H : Hp} {b c : V} (k : Q b H) (e : b = c) : Q c H := e ▸ k
theorem atI_in {α : Type} {xs : List α} {r : Int} (h0 : 0 ≤ r) (h1 : r < xs.length) : ∃ v, v ∈ xs ∧ xs[r.toNat]? = some v ∧ atI xs r = some v := by
  obtain ⟨n, rfl⟩ : ∃ n : Nat, r = n := ⟨r.toNat, by omega⟩
  have h : n < xs.length := by omega
  exact ⟨xs[n], List.getElem_mem h, by simp [h], atI_nat (by simp [h])⟩
/-- an object's class stays known -/
theorem Rd.same {H H' : Hp} {a : Addr} {u : HO} (s : Same H H') (r : Rd H a u) : Rd H' a u := by
  rcases r with h | ⟨o, h⟩
  · exact .inl (s _ _ h)
  · exact .inr ⟨o, s _ _ h⟩
theorem SqT.same {K : PySem.W.Frag} {H H' : Hp} {a : Addr} {xs : List V} (s : Same H H') (h : SqT K H a xs) : SqT K H' a xs := by
  rcases h with h | h
  · exact .inl (Rd.same s h)
  · exact .inr h
theorem Obs.same {K : PySem.W.Frag} {H H' : Hp} {a : Addr} {o : HO} (s : Same H H') (h : Obs K H a o) : Obs K H' a o := by
  cases o with
  | lst xs => exact Same.seq s h
  | tup xs => exact SqT.same s h
  | _ => exact s _ _ h
theorem Kn.same {K : PySem.W.Frag} {H H' : Hp} {x : V} (s : Same H H') (h : Kn K H x) : Kn K H' x := by
  cases x <;> first | exact h | skip
  obtain ⟨o, ho, k⟩ := h
  exact ⟨o, ho.same s, k⟩
theorem Kn.of {K : PySem.W.Frag} {H : Hp} {a : Addr} {o : HO} (h : H a = some o) (k : KnO K o) : Kn K H (.ref a) := ⟨o, .of h, k⟩
theorem i_yes {σ : St} {H : Hp} {TQ : Bool → Hp → Prop} (h : TQ true H) : tYes σ H TQ := h
theorem i_wipe {σ σ' : St} {vs : List Nat} {R : Prop} (h1 : wipe σ vs = wipe σ' vs) (h : R) : wipe σ vs = wipe σ' vs ∧ R := ⟨h1, h⟩
/-- is x one sign of z -/
def sgIn (z : Str) : V → Bool
  | .str y => match y.cps.toList with
    | [c] => decide (c ∈ z.cps.toList)
    | _ => false
  | _ => false
theorem signs_all (z u : Str) : ((signs u).map fun x => sgIn z x).all id = u.cps.toList.all fun c => decide (c ∈ z.cps.toList) := by
  unfold signs
  rw [List.map_map, List.all_map]
  rfl
theorem mulW {i j : Int} (hi : i.natAbs < 2 ^ 400) (hj : j.natAbs < 2 ^ 400) : CMulW i j := wide_mul hi hj (by decide) (by decide) (by decide)
theorem mulW64 {i j : Int} (hi : i.natAbs < 18446744073709551616) (hj : j.natAbs < 18446744073709551616) : CMulW i j := wide_mul (a := 64) (b := 64) hi hj (by decide) (by decide) (by decide)
theorem cpow {i j : Int} (h0 : 0 ≤ j) (h1 : j ≤ 1000000) (hi : i.natAbs < 18446744073709551616) : CPow i j := ⟨h0, h1, hi⟩
/-- all but what stands at p is kept -/
def SameBut (p : Addr) (H H' : Hp) : Prop := ∀ b o, b ≠ p → H b = some o → H' b = some o
theorem SameBut.refl (p : Addr) (H : Hp) : SameBut p H H := fun _ _ _ h => h
theorem SameBut.trans {p : Addr} {H H1 H2 : Hp} (a : SameBut p H H1) (b : SameBut p H1 H2) : SameBut p H H2 := fun c o n h => b c o n (a c o n h)
theorem SameBut.of {p : Addr} {H H' : Hp} (s : Same H H') : SameBut p H H' := fun b o _ h => s b o h
theorem SameBut.upd (p : Addr) (H : Hp) (o : HO) : SameBut p H (upd H p o) := fun b u n h => by
  rw [upd_ne n]
  exact h
theorem SameBut.new {p q : Addr} {H H' : Hp} {o : HO} (s : SameBut p H H') (h : H' q = none) : SameBut p H (L2.upd H' q o) := fun b u n e => get_upd h (s b u n e)
theorem SameBut.at {p : Addr} {H H' : Hp} {o : HO} (s : SameBut p H H') : SameBut p H (L2.upd H' p o) := s.trans (SameBut.upd p H' o)
/-- what was new ahead is not lost -/
theorem SameBut.same {p : Addr} {H H' : Hp} (s : SameBut p H H') (h : H p = none) : Same H H' := fun b o e => s b o (ne_of_none e h) e
theorem get_but {p : Addr} {H H' : Hp} {a : Addr} {o : HO} (s : SameBut p H H') (n : a ≠ p) (h : H a = some o) : H' a = some o := s a o n h
theorem get_ne {H : Hp} {a p : Addr} {o u : HO} (n : a ≠ p) (h : H a = some o) : upd H p u a = some o := by
  rw [upd_ne n]
  exact h
theorem str_pos {t : Str} (h : ¬ t = "") : 0 < t.length := by
  rcases Nat.eq_zero_or_pos t.length with e | e
  · refine absurd ?_ h
    cases t with
    | mk c =>
      have : c = #[] := Array.eq_empty_of_size_eq_zero e
      rw [this]
      rfl
  · exact e
theorem str_len (t : Str) : t.cps.toList.length = t.length := rfl
theorem len_app (a b : Str) : (a ++ b).length = a.length + b.length := by
  show (a.cps ++ b.cps).size = _
  rw [Array.size_append]
  rfl
theorem line_le {n : Nat} (h : n ≤ 1000) : n ≤ sizeLine := Nat.le_of_lt (small1000 h)
theorem pool_next (z X : Int) (q : Nat) (h0 : 0 ≤ z) (h1 : z.natAbs < q) : 0 ≤ z * 2147483629 + X % 2147483629 ∧ (z * 2147483629 + X % 2147483629).natAbs < q * 2147483648 := by omega
theorem i_maxU {m n : Int} {H : Hp} {Q : VK} (h : Q (.int (maxP m n)) H) : rMaxU [.int m, .int n] H Q := ⟨m, n, rfl, h⟩
theorem i_minU {m n : Int} {H : Hp} {Q : VK} (h : Q (.int (minP m n)) H) : rMinU [.int m, .int n] H Q := ⟨m, n, rfl, h⟩
theorem bT {b : Bool} (e : b = true) : ¬ b = false := by rw [e]; decide
theorem bF {b : Bool} (e : ¬ b = true) : b = false := by cases b <;> first | rfl | exact absurd rfl e
theorem i_lens {m n k l : Nat} {R : Prop} (h1 : m = n) (h2 : k = l) (h : R) : m = n ∧ k = l ∧ R := ⟨h1, h2, h⟩
theorem i_eqDv {K : PySem.W.Frag} {H : Hp} {Q : VK} {x y : V} {a' b' : PyData} {c : Bool} (h0 : eqS x y = none) (h1 : Dp K H x a') (h2 : Dp K H y b') (h3 : SeqAt.shaped a' = true) (h4 : SeqAt.shaped b' = true) (hv : PyData.eqv a' b' = c) (h : Q (.bl c) H) : rEqU K x y H Q := i_eqD h0 h1 h2 h3 h4 (by rw [hv]; exact h)
theorem i_neDv {K : PySem.W.Frag} {H : Hp} {Q : VK} {x y : V} {a' b' : PyData} {c : Bool} (h0 : eqS x y = none) (h1 : Dp K H x a') (h2 : Dp K H y b') (h3 : SeqAt.shaped a' = true) (h4 : SeqAt.shaped b' = true) (hv : PyData.eqv a' b' = c) (h : Q (.bl (!c)) H) : rNeU K x y H Q := i_neD h0 h1 h2 h3 h4 (by rw [hv]; exact h)
/-! ### == of lists and tuples of numbers, truths, None -/
def isNB : V → Bool
  | .non => true
  | .bl _ => true
  | .int _ => true
  | _ => false
def datNB : V → PyData
  | .bl b => .bool b
  | .int i => .int i
  | _ => .none
def eqNB : V → V → Bool
  | .bl a, .bl b => a == b
  | .bl a, .int j => (if a then 1 else 0) == j
  | .int i, .bl b => i == (if b then 1 else 0)
  | .int i, .int j => i == j
  | .non, .non => true
  | _, _ => false
def eqLF : List V → List V → Bool
  | [], [] => true
  | x :: xs, y :: ys => eqNB x y && eqLF xs ys
  | _, _ => false
theorem dp_NB {K : PySem.W.Frag} {H : Hp} {x : V} (f : isNB x = true) : Dp K H x (datNB x) := by
  cases x with
  | non => exact .non
  | bl b => exact .bl b
  | int i => exact .int i
  | _ => cases f
theorem dps_NB {K : PySem.W.Frag} {H : Hp} : ∀ {xs : List V}, xs.all isNB = true → DpAll K H xs (xs.map datNB)
  | [], _ => .nil
  | x :: xs, f => by
    rw [List.all_cons, Bool.and_eq_true] at f
    exact .cons (dp_NB f.1) (dps_NB f.2)
theorem eqv_NB {x y : V} (f : isNB x = true) (g : isNB y = true) : PyData.eqv (datNB x) (datNB y) = eqNB x y := by
  cases x <;> first | (cases f; done) | skip
  all_goals cases y <;> first | (cases g; done) | rfl
theorem eqv_NBs : ∀ {xs ys : List V}, xs.all isNB = true → ys.all isNB = true → PyData.eqvAll (xs.map datNB) (ys.map datNB) = eqLF xs ys
  | [], [], _, _ => rfl
  | [], _ :: _, _, _ => rfl
  | _ :: _, [], _, _ => rfl
  | x :: xs, y :: ys, f, g => by
    rw [List.all_cons, Bool.and_eq_true] at f g
    show (PyData.eqv (datNB x) (datNB y) && PyData.eqvAll (xs.map datNB) (ys.map datNB)) = _
    rw [eqv_NB f.1 g.1, eqv_NBs f.2 g.2]
    rfl
theorem lay_NBs : ∀ {xs : List V}, PyData.canLayAll0 (xs.map datNB) = true
  | [] => rfl
  | x :: xs => by
    show (PyData.canLay0 (datNB x) && PyData.canLayAll0 (xs.map datNB)) = true
    rw [lay_NBs (xs := xs), Bool.and_true]
    cases x <;> rfl
theorem dep_NBs : ∀ {xs : List V}, PyData.depthAll (xs.map datNB) ≤ 1
  | [] => Nat.zero_le _
  | x :: xs => by
    have h := dep_NBs (xs := xs)
    show max (PyData.depth (datNB x)) (PyData.depthAll (xs.map datNB)) ≤ 1
    have : PyData.depth (datNB x) ≤ 1 := by cases x <;> exact Nat.zero_le 1
    omega
theorem shp_NBl {xs : List V} : SeqAt.shaped (.list (xs.map datNB)) = true := by
  show (PyData.canLayAll0 (xs.map datNB) && decide (PyData.depth (.list (xs.map datNB)) ≤ 64)) = true
  rw [lay_NBs, Bool.true_and]
  have h := dep_NBs (xs := xs)
  refine decide_eq_true ?_
  show PyData.depthAll (xs.map datNB) + 1 ≤ 64
  omega
theorem shp_NBt {xs : List V} : SeqAt.shaped (.tuple (xs.map datNB)) = true := by
  show (PyData.canLayAll0 (xs.map datNB) && decide (PyData.depth (.tuple (xs.map datNB)) ≤ 64)) = true
  rw [lay_NBs, Bool.true_and]
  have h := dep_NBs (xs := xs)
  refine decide_eq_true ?_
  show PyData.depthAll (xs.map datNB) + 1 ≤ 64
  omega
section
variable {K : PySem.W.Frag} {H : Hp} {Q : VK} {p q : Addr} {xs ys : List V}
theorem i_eqLF (h1 : SqL K H p xs) (h2 : SqL K H q ys) (f1 : xs.all isNB = true) (f2 : ys.all isNB = true) (h : Q (.bl (eqLF xs ys)) H) : rEqU K (.ref p) (.ref q) H Q :=
  i_eqDv rfl (.lst h1 (dps_NB f1)) (.lst h2 (dps_NB f2)) shp_NBl shp_NBl (eqv_NBs f1 f2) h
theorem i_neLF (h1 : SqL K H p xs) (h2 : SqL K H q ys) (f1 : xs.all isNB = true) (f2 : ys.all isNB = true) (h : Q (.bl (!eqLF xs ys)) H) : rNeU K (.ref p) (.ref q) H Q :=
  i_neDv rfl (.lst h1 (dps_NB f1)) (.lst h2 (dps_NB f2)) shp_NBl shp_NBl (eqv_NBs f1 f2) h
theorem i_eqTF (h1 : SqT K H p xs) (h2 : SqT K H q ys) (f1 : xs.all isNB = true) (f2 : ys.all isNB = true) (h : Q (.bl (eqLF xs ys)) H) : rEqU K (.ref p) (.ref q) H Q :=
  i_eqDv rfl (.tup h1 (dps_NB f1)) (.tup h2 (dps_NB f2)) shp_NBt shp_NBt (eqv_NBs f1 f2) h
theorem i_neTF (h1 : SqT K H p xs) (h2 : SqT K H q ys) (f1 : xs.all isNB = true) (f2 : ys.all isNB = true) (h : Q (.bl (!eqLF xs ys)) H) : rNeU K (.ref p) (.ref q) H Q :=
  i_neDv rfl (.tup h1 (dps_NB f1)) (.tup h2 (dps_NB f2)) shp_NBt shp_NBt (eqv_NBs f1 f2) h
end
theorem lc_mapL {K : PySem.W.Frag} {a : Addr} {xs : List V} {g : TG} {tt : TT} {te : TE} {vs : List Nat} {σ : St} {H1 : Hp} {D : Addr} {Qd : Hp → Prop} (f : V → V) (h0 : SqL K H1 a xs) (hD : H1 D = none) (hl : xs.length ≤ 1000)
    (hs : ∀ x ∈ xs, ∀ H (Q : VK) (R : Hp → Prop), Same H1 H → (∀ H', Same H H' → Q (f x) H') → g x (wipe σ vs) H fun σ2 H2 => wipe σ2 vs = wipe σ vs ∧ tt σ2 H2 fun b H3 => if b = true then te σ2 H3 Q else R H3)
    (hd : ∀ H, Same H1 H → H D = some (.lst (xs.map f)) → Qd H) :
    ∃ W : Nat → Nat → Hp → Prop, (∃ m, W 0 m (upd H1 D (.lst []))) ∧ ∀ i m H, W i m H →
      ((Itl K a).stop i H ∧ Qd H) ∨ ((Itl K a).go i H ∧ ∃ Nx : Hp → Prop, (∀ H', Nx H' → ∃ m', m' < m ∧ W (i + 1) m' H') ∧ ∀ x H', (Itl K a).yld i H x H' → g x (wipe σ vs) H' fun σ2 H2 => wipe σ2 vs = wipe σ vs ∧ tt σ2 H2 fun b H3 =>
        if b = true then te σ2 H3 fun y H4 => ∃ acc, H4 D = some (.lst acc) ∧ acc.length < sizeLine ∧ Nx (upd H4 D (.lst (acc ++ [y]))) else Nx H3) :=
  lc_map xs f walk_list (small1000 hl) (fun _ s => Same.seq s h0) hD hs hd
theorem lc_mapT {K : PySem.W.Frag} {a : Addr} {xs : List V} {g : TG} {tt : TT} {te : TE} {vs : List Nat} {σ : St} {H1 : Hp} {D : Addr} {Qd : Hp → Prop} (f : V → V) (h0 : SqT K H1 a xs) (hD : H1 D = none) (hl : xs.length ≤ 1000)
    (hs : ∀ x ∈ xs, ∀ H (Q : VK) (R : Hp → Prop), Same H1 H → (∀ H', Same H H' → Q (f x) H') → g x (wipe σ vs) H fun σ2 H2 => wipe σ2 vs = wipe σ vs ∧ tt σ2 H2 fun b H3 => if b = true then te σ2 H3 Q else R H3)
    (hd : ∀ H, Same H1 H → H D = some (.lst (xs.map f)) → Qd H) :
    ∃ W : Nat → Nat → Hp → Prop, (∃ m, W 0 m (upd H1 D (.lst []))) ∧ ∀ i m H, W i m H →
      ((Itt K a).stop i H ∧ Qd H) ∨ ((Itt K a).go i H ∧ ∃ Nx : Hp → Prop, (∀ H', Nx H' → ∃ m', m' < m ∧ W (i + 1) m' H') ∧ ∀ x H', (Itt K a).yld i H x H' → g x (wipe σ vs) H' fun σ2 H2 => wipe σ2 vs = wipe σ vs ∧ tt σ2 H2 fun b H3 =>
        if b = true then te σ2 H3 fun y H4 => ∃ acc, H4 D = some (.lst acc) ∧ acc.length < sizeLine ∧ Nx (upd H4 D (.lst (acc ++ [y]))) else Nx H3) :=
  lc_map xs f walk_tup (small1000 hl) (fun _ s => SqT.same s h0) hD hs hd
/-! ### a list or a tuple walked -/
def iSeq (K : PySem.W.Frag) (tl : TE) : TI := fun σ H R => tl σ H fun x H1 => ∃ a, x = .ref a ∧ (((∃ xs, SqL K H1 a xs) ∧ R (Itl K a) H1) ∨ ((∃ xs, SqT K H1 a xs) ∧ R (Itt K a) H1))
theorem pi_seqK {X : Cx} {tg l : Expr} {tl : TE} {K : PySem.W.Frag} (hl : PE X l tl) (hK : X.K = K := by rfl) : PI X tg l (iSeq K tl) := by
  subst hK
  refine ⟨fun pins s σ H R I h => thn (hl.run pins s σ H _ I h) fun v s1 ⟨x, H1, I1, r1, a, ea, q1⟩ => ?_⟩
  subst ea
  cases r1
  rcases q1 with ⟨⟨xs, hq⟩, q⟩ | ⟨⟨xs, hq⟩, q⟩
  · obtain ⟨its, _, pl, _⟩ := I1.list hq
    exact wpAny_pyIter_list pl.isList (pi_one (tk := s1.toks) I1 _ (turn_list a _) ⟨_, Heap.get?_push_size _ rfl, rfl, rfl⟩ q)
  · obtain ⟨its, _, pt, _⟩ := I1.tuple hq
    exact wpAny_pyIter_tuple (show s1.heap.IsTuple a its.toArray from pt) (pi_one (tk := s1.toks) I1 _ (turn_tuple a _) ⟨_, Heap.get?_push_size _ rfl, rfl, rfl⟩ q)
section
variable {D : Ends} {σ : St} {H : Hp} {Q : VK} {K : PySem.W.Frag} {te : TE} {A : TA} {R : It → Hp → Prop}
theorem i_iSeq (h : te σ H fun x H1 => ∃ a, x = .ref a ∧ (((∃ xs, SqL K H1 a xs) ∧ R (Itl K a) H1) ∨ ((∃ xs, SqT K H1 a xs) ∧ R (Itt K a) H1))) : iSeq K te σ H R := h
theorem i_sqL {a : Addr} {xs : List V} {R R' : Addr → Prop} {L : Addr → Prop} (h0 : SqL K H a xs) (h : R a) : ∃ b, V.ref a = .ref b ∧ (((∃ xs, SqL K H b xs) ∧ R b) ∨ (L b ∧ R' b)) := ⟨a, rfl, .inl ⟨⟨xs, h0⟩, h⟩⟩
theorem i_sqT {a : Addr} {xs : List V} {R R' : Addr → Prop} {L : Addr → Prop} (h0 : SqT K H a xs) (h : R' a) : ∃ b, V.ref a = .ref b ∧ ((L b ∧ R b) ∨ ((∃ xs, SqT K H b xs) ∧ R' b)) := ⟨a, rfl, .inr ⟨⟨xs, h0⟩, h⟩⟩
theorem i_fld {f : Str} (h : te σ H fun x H1 => ∃ a C dx fs v, x = .ref a ∧ H1 a = some (.ins C dx fs) ∧ Cls K C ∧ NoAttr K C f ∧ fs.lookup f = some v ∧ Q v H1) : tFld K te f σ H Q := h
theorem i_sfld {tv : TE} {f : Str} (h : tv σ H fun y H1 => te σ H1 fun x H2 => ∃ a C dx fs, x = .ref a ∧ H2 a = some (.ins C dx fs) ∧ Cls K C ∧ NoAttr K C f ∧ fs.length < 1000 ∧ D.nx σ (upd H2 a (.ins C dx (putF f y fs)))) : sFld K te tv f D σ H := h
theorem i_fldR {a C dx : Addr} {fs : List (Str × V)} {f : Str} {v : V} {R : V → Prop} (h1 : H a = some (.ins C dx fs)) (h2 : Cls K C) (h3 : NoAttr K C f) (h4 : fs.lookup f = some v) (h : R v) :
    ∃ b C dx fs v, V.ref a = .ref b ∧ H b = some (.ins C dx fs) ∧ Cls K C ∧ NoAttr K C f ∧ fs.lookup f = some v ∧ R v := ⟨a, C, dx, fs, v, rfl, h1, h2, h3, h4, h⟩
theorem i_sfldR {a C dx : Addr} {fs : List (Str × V)} {f : Str} {R : Addr → Addr → Addr → List (Str × V) → Prop} (h1 : H a = some (.ins C dx fs)) (h2 : Cls K C) (h3 : NoAttr K C f) (h4 : fs.length < 1000) (h : R a C dx fs) :
    ∃ b C dx fs, V.ref a = .ref b ∧ H b = some (.ins C dx fs) ∧ Cls K C ∧ NoAttr K C f ∧ fs.length < 1000 ∧ R b C dx fs := ⟨a, C, dx, fs, rfl, h1, h2, h3, h4, h⟩
theorem i_make {C : Addr} {sp : Sp} {dvs : List V} {E : XK} (h : A σ H fun vs H1 => ∀ x dx, H1 x = none → H1 dx = none → dx ≠ x → sp (.ref x :: (vs ++ dvs)) (upd (upd H1 dx (.own x)) x (.ins C dx [])) (fun v H2 => v = .non ∧ Q (.ref x) H2) E) : tMake C sp dvs E A σ H Q := h
theorem i_meth {C : Addr} {m : Str} {sp : Sp} {dvs : List V} {E : XK} (h : te σ H fun x H1 => ∃ a dx fs, x = .ref a ∧ H1 a = some (.ins C dx fs) ∧ fs.lookup m = none ∧ A σ H1 fun vs H2 => sp (x :: (vs ++ dvs)) H2 Q E) : tMeth C m sp dvs E te A σ H Q := h
theorem i_methR {a C dx : Addr} {fs : List (Str × V)} {m : Str} {R : Prop} (h1 : H a = some (.ins C dx fs)) (h2 : fs.lookup m = none) (h : R) : ∃ b dx fs, V.ref a = .ref b ∧ H b = some (.ins C dx fs) ∧ fs.lookup m = none ∧ R := ⟨a, dx, fs, rfl, h1, h2, h⟩
end
def rTupOf (K : PySem.W.Frag) : List V → Hp → VK → Prop := fun xs H Q => ∃ p ys, xs = [.ref p] ∧ ((SqL K H p ys ∧ ∀ l, H l = none → Q (.ref l) (upd H l (.tup ys))) ∨ (SqT K H p ys ∧ Q (.ref p) H))
def rLstOf (K : PySem.W.Frag) : List V → Hp → VK → Prop := fun xs H Q => ∃ p ys, xs = [.ref p] ∧ (SqL K H p ys ∨ SqT K H p ys) ∧ ∀ l, H l = none → Q (.ref l) (upd H l (.lst ys))
theorem call_tupOf {X : Cx} {K : PySem.W.Frag} (hK : X.K = K := by rfl) : CallR X (.type "tuple") (rTupOf K) := by
  subst hK
  exact call_tuple_of
theorem call_lstOf {X : Cx} {K : PySem.W.Frag} (hK : X.K = K := by rfl) : CallR X (.type "list") (rLstOf K) := by
  subst hK
  exact call_list_of
section
variable {H : Hp} {Q : VK} {K : PySem.W.Frag} {p : Addr} {xs : List V}
theorem i_tupOfL (h0 : SqL K H p xs) (h : ∀ l, H l = none → Q (.ref l) (upd H l (.tup xs))) : rTupOf K [.ref p] H Q := ⟨p, xs, rfl, .inl ⟨h0, h⟩⟩
theorem i_tupOfT (h0 : SqT K H p xs) (h : Q (.ref p) H) : rTupOf K [.ref p] H Q := ⟨p, xs, rfl, .inr ⟨h0, h⟩⟩
theorem i_lstOfL (h0 : SqL K H p xs) (h : ∀ l, H l = none → Q (.ref l) (upd H l (.lst xs))) : rLstOf K [.ref p] H Q := ⟨p, xs, rfl, .inl h0, h⟩
theorem i_lstOfT (h0 : SqT K H p xs) (h : ∀ l, H l = none → Q (.ref l) (upd H l (.lst xs))) : rLstOf K [.ref p] H Q := ⟨p, xs, rfl, .inr h0, h⟩
end
section
variable {σ : St} {H : Hp} {Q : VK} {K : PySem.W.Frag}
theorem i_dnew (h : ∀ p, H p = none → Q (.ref p) (upd H p (.dK []))) : tDNewK σ H Q := h
theorem i_dnewT (h : ∀ p, H p = none → Q (.ref p) (upd H p (.dT []))) : tDNewT σ H Q := h
theorem i_all1 {R : Addr → Prop} (h : ∀ p, H p = none → R p) : ∀ p, H p = none → R p := h
theorem i_disp {trs : List (TE × TE)} (h : ∀ p, H p = none → tPairs trs σ (upd H p (.dK [])) fun ps H2 => H2 p = some (.dK []) ∧ ∃ kvs : List (Key × V), ps = kvs.map (fun kv => (kV kv.1, kv.2)) ∧ kvs.length ≤ 15 ∧ Q (.ref p) (upd H2 p (.dK (mergeK [] kvs)))) : tDisp trs σ H Q := h
end
theorem upd_same' {H : Hp} {a : Addr} {o o' : HO} (e : o = o') : upd H a o a = some o' := by rw [← e]; exact upd_same
theorem SqL.up {K : PySem.W.Frag} {H : Hp} {p q : Addr} {o : HO} {xs : List V} (hq : H q = none) (h : SqL K H p xs) : SqL K (upd H q o) p xs := Same.seq (same_upd (Same.refl _) hq) h
theorem SqT.up {K : PySem.W.Frag} {H : Hp} {p q : Addr} {o : HO} {xs : List V} (hq : H q = none) (h : SqT K H p xs) : SqT K (upd H q o) p xs := SqT.same (same_upd (Same.refl _) hq) h
theorem Rd.ne {H : Hp} {p q : Addr} {o u : HO} (n : p ≠ q) (h : Rd H p u) : Rd (upd H q o) p u := by
  rcases h with h | ⟨b, h⟩
  · exact .inl (get_ne n h)
  · exact .inr ⟨b, get_ne n h⟩
theorem SqL.un {K : PySem.W.Frag} {H : Hp} {p q : Addr} {o : HO} {xs : List V} (n : p ≠ q) (h : SqL K H p xs) : SqL K (upd H q o) p xs := by
  rcases h with h | h
  · exact .inl (Rd.ne n h)
  · exact .inr h
theorem SqT.un {K : PySem.W.Frag} {H : Hp} {p q : Addr} {o : HO} {xs : List V} (n : p ≠ q) (h : SqT K H p xs) : SqT K (upd H q o) p xs := by
  rcases h with h | h
  · exact .inl (Rd.ne n h)
  · exact .inr h
theorem Rd.but {H H' : Hp} {p q : Addr} {u : HO} (s : SameBut q H H') (n : p ≠ q) (h : Rd H p u) : Rd H' p u := by
  rcases h with h | ⟨b, h⟩
  · exact .inl (s _ _ n h)
  · exact .inr ⟨b, s _ _ n h⟩
theorem SqL.but {K : PySem.W.Frag} {H H' : Hp} {p q : Addr} {xs : List V} (s : SameBut q H H') (n : p ≠ q) (h : SqL K H p xs) : SqL K H' p xs := by
  rcases h with h | h
  · exact .inl (Rd.but s n h)
  · exact .inr h
theorem SqT.but {K : PySem.W.Frag} {H H' : Hp} {p q : Addr} {xs : List V} (s : SameBut q H H') (n : p ≠ q) (h : SqT K H p xs) : SqT K H' p xs := by
  rcases h with h | h
  · exact .inl (Rd.but s n h)
  · exact .inr h
theorem SqL.sm {K : PySem.W.Frag} {H H' : Hp} {p : Addr} {xs : List V} (s : Same H H') (h : SqL K H p xs) : SqL K H' p xs := Same.seq s h
theorem Kn.up {K : PySem.W.Frag} {H : Hp} {x : V} {q : Addr} {o : HO} (hq : H q = none) (h : Kn K H x) : Kn K (upd H q o) x := h.same (same_upd (Same.refl _) hq)
theorem i_tp0 {σ : St} {H : Hp} {R : List (V × V) → Hp → Prop} (h : R [] H) : tPairs [] σ H R := h
theorem i_tp1 {σ : St} {H : Hp} {R : List (V × V) → Hp → Prop} {tk tv : TE} {r : List (TE × TE)} (h : tk σ H fun x H1 => tv σ H1 fun y H2 => tPairs r σ H2 fun ps H3 => R ((x, y) :: ps) H3) : tPairs ((tk, tv) :: r) σ H R := h
theorem i_call0 {sp : Sp} {σ : St} {H : Hp} {Q : VK} {E : XK} {A : TA} (h : A σ H fun vs H1 => sp vs H1 Q E) : tCall sp [] E A σ H Q := by
  unfold tCall
  simp only [List.append_nil]
  exact h
theorem i_mk {H : Hp} {R : Addr → Addr → Prop} (h : ∀ x dx, H dx = none → upd H dx (.own x) x = none → H x = none → dx ≠ x → R x dx) : ∀ x dx, H x = none → H dx = none → dx ≠ x → R x dx := fun x dx h1 h2 n =>
  h x dx h2 (by rw [upd_ne (Ne.symm n)]; exact h1) h1 n
theorem Rd.uk {H : Hp} {p q : Addr} {o u v : HO} (hq : H q = some v) (h1 : v ≠ u) (h2 : ∀ b, v ≠ .frz b u) (h : Rd H p u) : Rd (upd H q o) p u := by
  rcases h with h | ⟨b, h⟩
  · exact .inl (get_ne (ne_of h hq (Ne.symm h1)) h)
  · exact .inr ⟨b, get_ne (ne_of h hq (Ne.symm (h2 b))) h⟩
theorem SqT.uk {K : PySem.W.Frag} {H : Hp} {p q : Addr} {o v : HO} {xs : List V} (hq : H q = some v) (h1 : ∀ ys, v ≠ .tup ys) (h2 : ∀ b u, v ≠ .frz b u) (h : SqT K H p xs) : SqT K (upd H q o) p xs := by
  rcases h with h | h
  · exact .inl (Rd.uk hq (h1 _) (fun b => h2 b _) h)
  · exact .inr h
theorem SqL.uk {K : PySem.W.Frag} {H : Hp} {p q : Addr} {o v : HO} {xs : List V} (hq : H q = some v) (h1 : ∀ ys, v ≠ .lst ys) (h2 : ∀ b u, v ≠ .frz b u) (h : SqL K H p xs) : SqL K (upd H q o) p xs := by
  rcases h with h | h
  · exact .inl (Rd.uk hq (h1 _) (fun b => h2 b _) h)
  · exact .inr h
/-! ### one look for all kinds -/
theorem get_o {H : Hp} {a : Addr} {o o' : HO} (h : H a = some o) (e : o = o') : H a = some o' := by rw [← e]; exact h
def seqOf : HO → Option (List V)
  | .lst xs => some xs
  | .tup xs => some xs
  | _ => none
theorem seqOf_sq {K : PySem.W.Frag} {H : Hp} {a : Addr} {o : HO} {xs : List V} (h : H a = some o) (e : seqOf o = some xs) : SqL K H a xs ∨ SqT K H a xs := by
  cases o <;> first | (cases e; done) | skip
  · cases Option.some.inj e
    exact .inl (.of h)
  · cases Option.some.inj e
    exact .inr (.of h)
section
variable {H : Hp} {Q : VK} {K : PySem.W.Frag} {p : Addr} {o : HO} {xs : List V}
theorem i_ixG {n : Int} {w' : V} (h : H p = some o) (e : seqOf o = some xs) (h2 : atI xs n = some w') (q : Q w' H) : rIxU K (.ref p) (.int n) H Q := ⟨xs, w', seqOf_sq h e, h2, q⟩
theorem i_lenG (h : H p = some o) (e : seqOf o = some xs) (q : Q (.int xs.length) H) : rLenU K [.ref p] H Q := by
  rcases seqOf_sq (K := K) h e with h | h
  · exact i_lenL h q
  · exact i_lenT h q
theorem i_isoG {R : (Kd → Bool) → Option Addr → Prop} {f : Kd → Bool} (h : H p = some o) (e : (match o with | .lst _ => some fun d => d == Kd.lst | .tup _ => some fun d => d == Kd.tup | .dK _ => some fun d => d == Kd.dct | .dT _ => some fun d => d == Kd.dct | _ => none) = some f) (q : R f none) : isO K (.ref p) H R := by
  refine ⟨o, .of h, ?_⟩
  cases o <;> first | (cases e; done) | (cases Option.some.inj e; exact q)
theorem i_isoC {R : (Kd → Bool) → Option Addr → Prop} {C dx : Addr} {fs : List (Str × V)} (h : H p = some (.ins C dx fs)) (c : Cls K C) (i : IsC K C) (q : R (fun _ => false) (some C)) : isO K (.ref p) H R := ⟨_, .of h, c, i, q⟩
theorem SqL.of' (h : H p = some o) (e : o = .lst xs) : SqL K H p xs := .of (get_o h e)
theorem SqT.of' (h : H p = some o) (e : o = .tup xs) : SqT K H p xs := .of (get_o h e)
end
/-- a for over a list whose body changes nothing that stood ahead of the loop -/
theorem for_pred {K : PySem.W.Frag} {a : Addr} {xs : List V} {g : TG} {tb : TS} {D : Ends} {σ : St} {H : Hp} (S : St → Prop) (Pr : Hp → V → Prop) (hL : SqL K H a xs) (hp : ∀ y ∈ xs, Pr H y) (h0 : S σ)
    (hs : ∀ y σ H', Pr H y → S σ → Same H H' → g y σ H' fun σ2 H2 => tb { D with nx := fun σ H' => S σ ∧ Same H H', ct := fun σ H' => S σ ∧ Same H H', bk := D.nx } σ2 H2) (hd : ∀ σ H', S σ → Same H H' → D.nx σ H') :
    ∃ W : Nat → Nat → St → Hp → Prop, (∃ m, W 0 m σ H) ∧ ∀ i m σ H, W i m σ H →
      ((Itl K a).stop i H ∧ D.nx σ H) ∨ ((Itl K a).go i H ∧ ∃ N : St → Hp → Prop, (∀ σ' H', N σ' H' → ∃ m', m' < m ∧ W (i + 1) m' σ' H') ∧ ∀ x H', (Itl K a).yld i H x H' → g x σ H' fun σ2 H2 => tb { D with nx := N, ct := N, bk := D.nx } σ2 H2) :=
  for_list (xs := xs) (fun _ σ H' => S σ ∧ Same H H') ⟨h0, Same.refl _⟩ (fun _ _ _ _ h => Same.seq h.2 hL) (fun _ y σ H' hi h => hs y σ H' (hp y (List.mem_of_getElem? hi)) h.1 h.2) (fun σ H' h => hd σ H' h.1 h.2)
theorem Kn.ofG {K : PySem.W.Frag} {H : Hp} {a : Addr} {o : HO} (h : H a = some o) (k : KnO K o) : Kn K H (.ref a) := .of h k
end My
/-! try: body / except clauses of one class or of a tuple of classes, with a name or without / else. -/
namespace My
open PySem PySem.Spec L2
open PyProof.Rows hiding St
/-- what a clause asks for: a class, or a tuple of two to four classes -/
inductive ClT (X : Cx) : Expr → List Value → Prop
  | one {x : Str} {p : Pos} {c : Value} (h : Names X x c) : ClT X (.Name x p) [c]
  | two {x1 x2 : Str} {p1 p2 p : Pos} {c1 c2 : Value} {k : Nat} (h1 : Names X x1 c1) (h2 : Names X x2 c2) : ClT X (.Tuple [.Name x1 p1, .Name x2 p2] k p) [c1, c2]
  | three {x1 x2 x3 : Str} {p1 p2 p3 p : Pos} {c1 c2 c3 : Value} {k : Nat} (h1 : Names X x1 c1) (h2 : Names X x2 c2) (h3 : Names X x3 c3) : ClT X (.Tuple [.Name x1 p1, .Name x2 p2, .Name x3 p3] k p) [c1, c2, c3]
  | four {x1 x2 x3 x4 : Str} {p1 p2 p3 p4 p : Pos} {c1 c2 c3 c4 : Value} {k : Nat} (h1 : Names X x1 c1) (h2 : Names X x2 c2) (h3 : Names X x3 c3) (h4 : Names X x4 c4) :
      ClT X (.Tuple [.Name x1 p1, .Name x2 p2, .Name x3 p3, .Name x4 p4] k p) [c1, c2, c3, c4]
/-- one clause: its classes, the slot of its name, its suite -/
structure Clause where
  cs : List Value
  nm : Option Nat
  ts : Addr → Value → Option Addr → TS
def unD (i : Nat) (D : Ends) : Ends := { nx := fun σ' H' => D.nx (σ'.set i none) H', rt := D.rt, bk := fun σ' H' => D.bk (σ'.set i none) H', ct := fun σ' H' => D.ct (σ'.set i none) H' }
def Clause.go (q : Clause) (a : Addr) (cls : Value) (d : Option Addr) : TS := fun D σ H => match q.nm with
  | none => q.ts a cls d D σ H
  | some i => q.ts a cls d (unD i D) (σ.set i (some (.ref a))) H
/-- what the clauses wish of an exception of the body, one behind the other -/
def wCl (K : PySem.W.Frag) (Wout : WX) (D : Ends) : List Clause → WX
  | [] => Wout
  | q :: r => fun cls d σ H => ∃ b, PySem.W.exmAny K cls q.cs = some b ∧ (b = true → ∀ a, H a = none → q.go a cls d D σ H) ∧ (b = false → wCl K Wout D r cls d σ H)
abbrev SuOk (X : Cx) (su : List Stmt) (ts : Addr → Value → Option Addr → TS) : Prop :=
  ∀ (a : Addr) (oe : Obj) (cls : Value) (d : Option Addr) (pn : List (Addr × Obj)), Zc cls d oe → (∃ vs, oe.data = .fields vs) → PSs (X.suite a ((a, oe) :: pn)) su (ts a cls d)
inductive ClsOk (X : Cx) : List ExceptHandler → List Clause → Prop
  | nil : ClsOk X [] []
  | bare {e : Expr} {cs : List Value} {ts : Addr → Value → Option Addr → TS} {b₀ : Stmt} {su : List Stmt} {p : Pos} {hd : List ExceptHandler} {l : List Clause} (hc : ClT X e cs) (hs : SuOk X (b₀ :: su) ts) (r : ClsOk X hd l) :
      ClsOk X (.ExceptHandler (some e) none (b₀ :: su) p :: hd) (⟨cs, none, ts⟩ :: l)
  | named {e : Expr} {cs : List Value} {ts : Addr → Value → Option Addr → TS} {b₀ : Stmt} {su : List Stmt} {p : Pos} {hd : List ExceptHandler} {l : List Clause} {i : Nat} {n : Str} (hi : X.N[i]? = some n) (hl : X.env.kindOf n = some .local) (hc : ClT X e cs) (hs : SuOk X (b₀ :: su) ts) (r : ClsOk X hd l) :
      ClsOk X (.ExceptHandler (some e) (some n) (b₀ :: su) p :: hd) (⟨cs, some i, ts⟩ :: l)
theorem exm1 {K : PySem.W.Frag} {cls c : Value} {b : Bool} (h : PySem.W.exmAny K cls [c] = some b) : PySem.W.exmOne K cls c = some b := by
  obtain ⟨b1, d1, x1, y1, z1⟩ := PySem.W.exmAny_cons h
  cases (show some false = some d1 from y1)
  rw [z1, x1, Bool.or_false]
section
variable {X : Cx}
theorem names_ld {pins : List (Addr × Obj)} {σ : St} {H : Hp} {s : Shared} {x : Str} {c : Value} {p : Pos} {a : Addr} {pn : List (Addr × Obj)} {Q : Value → Shared → Prop} {E : Value → Shared → Prop} (h : Names X x c) (I : Inv (X.suite a pn) pins σ H s) (q : Q c s) :
    wpAny (model X.prog X.w) (X.A.mark (some (.ref a))) (eval (.Name x p) X.env) Q E s := by
  obtain ⟨g, nd, hm | ⟨hm, hv, nn⟩⟩ := h
  · exact ld_glob (X := X.suite a pn) I g hm q nd
  · exact ld_blt (X := X.suite a pn) I g hm hv q nn nd
theorem ClT.test {e : Expr} {cs : List Value} {pins : List (Addr × Obj)} {σ : St} {H : Hp} {s : Shared} {a : Addr} {pn : List (Addr × Obj)} {cls : Value} {b : Bool} {Q : Bool → Shared → Prop} {E : Value → Shared → Prop} (h : ClT X e cs)
    (I : Inv (X.suite a pn) pins σ H s) (L : PySem.W.Looks (model X.prog X.w) s.heap (typeOf (.ref a)) cls) (hb : PySem.W.exmAny X.K cls cs = some b) (q : ∀ h', (∀ y o, s.heap.get? y = some o → h'.get? y = some o) → Q b { s with heap := h' }) :
    wpAny (model X.prog X.w) (X.A.mark (some (.ref a))) (eval e X.env) (fun c s1 => wpAny (model X.prog X.w) (X.A.mark (some (.ref a))) (excMatches (.ref a) c) Q E s1) E s := by
  have kp : ∀ (o : Obj) y z, s.heap.get? y = some z → (s.heap.push o).get? y = some z := fun o _ _ z => Heap.get?_push_of_some _ z
  have kI : X.K.In s.heap := I.kIn
  cases h with
  | one n => exact names_ld n I ((PySem.W.exm_one kI L (exm1 hb)).here (q _ fun _ _ z => z))
  | two n1 n2 =>
    refine wpAny_Tuple (wpAny_items_cons (names_ld n1 I (wpAny_items_cons (names_ld n2 I (wpAny_items_nil ⟨by size_fits, ?_⟩)))))
    exact (PySem.W.exm_tup2 (kI.keeps (kp _)) (L.keeps (kp _)) (Heap.get?_push_size s.heap rfl) hb).here (q _ (kp _))
  | three n1 n2 n3 =>
    refine wpAny_Tuple (wpAny_items_cons (names_ld n1 I (wpAny_items_cons (names_ld n2 I (wpAny_items_cons (names_ld n3 I (wpAny_items_nil ⟨by size_fits, ?_⟩)))))))
    exact (PySem.W.exm_tup3 (kI.keeps (kp _)) (L.keeps (kp _)) (Heap.get?_push_size s.heap rfl) hb).here (q _ (kp _))
  | four n1 n2 n3 n4 =>
    refine wpAny_Tuple (wpAny_items_cons (names_ld n1 I (wpAny_items_cons (names_ld n2 I (wpAny_items_cons (names_ld n3 I (wpAny_items_cons (names_ld n4 I (wpAny_items_nil ⟨by size_fits, ?_⟩)))))))))
    exact (PySem.W.exm_tup4 (kI.keeps (kp _)) (L.keeps (kp _)) (Heap.get?_push_size s.heap rfl) hb).here (q _ (kp _))
theorem fly_keeps {B h h' : Heap} {l : List Env} {a : Addr} {Z : Obj → Prop} (f : HandSPX.FlyingZ B l a Z h) (k : ∀ y o, h.get? y = some o → h'.get? y = some o) : HandSPX.FlyingZ B l a Z h' := by
  obtain ⟨f1, f2, f3, oe, vs, T, oT, ts, he, hz, hd, h1, hn, hne, hT, hdT, h3⟩ := f
  exact ⟨fun y o q => k _ _ (f1 y o q), f2, f3.of_keeps fun y o q _ => ⟨o, k _ _ q, rfl⟩, oe, vs, T, oT, ts, k _ _ he, hz, hd, h1, hn, hne, k _ _ hT, hdT, h3⟩
theorem fly_out {B h : Heap} {l : List Env} {a : Addr} {Z : Obj → Prop} (f : HandSPX.FlyingZ B l a Z h) : a ∉ frs l := fun m => by
  obtain ⟨oe, vs, e1, _, e2⟩ := f.there
  obtain ⟨_, o, e3, no⟩ := f.2.2.1.mem m
  rw [e1] at e3
  cases e3
  exact no _ e2
variable {body orelse : List Stmt} {h₀ : ExceptHandler} {hds : List ExceptHandler} {l : List Clause} {pos : Pos} {tb : WX → TS} {u : TS} {Wout : WX}
theorem handle_cl {pins : List (Addr × Obj)} {σ : St} {H : Hp} {sI s : Shared} {B : Heap} {a : Addr} {cls : Value} {d : Option Addr} {D : Ends} {hs : List ExceptHandler} {l : List Clause} (hst : X.stack = X.env :: X.outer) (hf : X.env.frame = some X.env.locals) (hN : X.N.Nodup) (tk : Takes X Wout)
    (hk : ClsOk X hs l) (J : Inv X pins σ H sI) (nb : ∀ b o, sI.heap.get? b = some o → b ∉ frs X.stack → B.get? b = some o) (os : s.os = sI.os) (ag : AllBare s.gens) (na : H a = none) :
    ∀ h, HandSPX.FlyingZ B (X.env :: X.outer) a (Zc cls d) h → sI.heap.UpToSlots h → wCl X.K Wout D l cls d σ H → wpAny (model X.prog X.w) X.A (handleBy (.ref a) X.env hs) (SP X pins D) X.xe { s with heap := h } := by
  have ok := J.ok
  have nLF : ∀ {h}, HandSPX.FlyingZ B (X.env :: X.outer) a (Zc cls d) h → a ≠ X.env.locals ∧ a ∉ X.fs := fun f => by
    have nf := fly_out f
    refine ⟨fun z => nf (List.mem_filterMap.mpr ⟨X.env, List.mem_cons_self, by rw [hf, z]⟩), fun m => ?_⟩
    obtain ⟨e, he, q⟩ := List.mem_filterMap.mp m
    exact nf (List.mem_filterMap.mpr ⟨e, List.mem_cons_of_mem _ he, q⟩)
  have su : ∀ {h}, HandSPX.FlyingZ B (X.env :: X.outer) a (Zc cls d) h → sI.heap.UpToSlots h → ∃ oe, Zc cls d oe ∧ (∃ vs, oe.data = .fields vs) ∧ h.get? a = some oe ∧ ∀ t, Inv (X.suite a ((a, oe) :: (X.pn ++ pins))) [] σ H { s with heap := h, toks := t } := fun {h} f up => by
    obtain ⟨oe, vs, e1, e2, e3⟩ := f.there
    exact ⟨oe, e2, ⟨vs, e3⟩, e1, fun t => ((J.landed (s' := { s with heap := h, toks := t }) nb f.1 up os ag).suite e1 e3 na (nLF f).1 (nLF f).2)⟩
  induction hk with
  | nil =>
    intro h f up w
    refine wpAny_handleBy_nil ?_
    obtain ⟨-, -, -, oe, vs, T, -, -, he, -, hd, h1, -⟩ := id f
    unfold PySem.passOn
    refine wpAny_bind (wpAny_field he hd h1 ?_)
    rw [if_neg (show ¬ ((Value.ref T == Value.none) = true) from by simp)]
    have fin : wpAny (model X.prog X.w) X.A (setFlight (.ref a) X.env.frame) (fun _ s4 => wpAny (model X.prog X.w) X.A (throw (.ref a) : Sem Flow) (SP X pins D) X.xe s4) X.xe { s with heap := h } := by
      rw [hf]
      refine HandSPX.setFlight_upZ f fun h4 f4 up4 => wpAny_throw (tk _ _ ⟨a, B, sI, pins, σ, H, cls, d, rfl, J, nb, up.trans up4, .inr (.inr ?_), na, os, ag, w⟩)
      rw [hst]
      exact f4
    first
      | exact wpAny_bind (wpAny_pure (wpAny_bind fin))
      | exact wpAny_bind fin
  | @bare e cs ts b₀ su' p hd l hc hs r ih =>
    intro h f up w
    obtain ⟨b, hb, hy, hn⟩ := w
    obtain ⟨oe, z1, z2, z3, S⟩ := su f up
    refine wpAny_handleBy_cons (codeAny_handlers_test (hc.test (S s.toks) (fun A Q E s k q => wpAny_typeOf_ref (k _ _ z3) (by rw [z1.1]; exact q)) hb fun h2 k => ?_)) (fun q => by cases q)
    have f2 := fly_keeps f k
    have up2 := up.trans (Heap.UpToSlots.of_keeps k)
    cases b with
    | true =>
      refine codeAny_handlers_suite (HandSPX.lands_againZ f2 fun h4 f4 up4 => ?_)
      obtain ⟨oe4, y1, y2, y3, S4⟩ := su f4 (up2.trans up4)
      refine wpAny_mono ((hs a oe4 cls d _ y1 y2).run [] _ _ H _ (S4 s.toks) (hy rfl a na)) (fun fl s6 hq => ?_) (fun _ _ z => False.elim z)
      cases fl with
      | next => exact hq.imp fun _ q => q.imp fun _ q => ⟨q.1.unsuite ok, q.2⟩
      | brk => exact hq.imp fun _ q => q.imp fun _ q => ⟨q.1.unsuite ok, q.2⟩
      | cont => exact hq.imp fun _ q => q.imp fun _ q => ⟨q.1.unsuite ok, q.2⟩
      | ret v => exact hq.imp fun _ q => q.imp fun _ q => q.imp fun _ q => ⟨q.1.unsuite ok, q.2⟩
    | false => exact ih h2 f2 up2 (hn rfl)
  | @named e cs ts b₀ su' p hd l i n hi hl hc hs r ih =>
    intro h f up w
    obtain ⟨b, hb, hy, hn⟩ := w
    obtain ⟨oe, z1, z2, z3, S⟩ := su f up
    refine wpAny_handleBy_cons (codeAny_handlers_test (hc.test (S s.toks) (fun A Q E s k q => wpAny_typeOf_ref (k _ _ z3) (by rw [z1.1]; exact q)) hb fun h2 k => ?_)) (fun q => by cases q)
    have f2 := fly_keeps f k
    have up2 := up.trans (Heap.UpToSlots.of_keeps k)
    cases b with
    | true =>
      refine codeAny_handlers_suite_as (HandSPX.lands_againZ f2 fun h4 f4 up4 => ?_)
      obtain ⟨oe4, y1, y2, y3, S4⟩ := su f4 (up2.trans up4)
      refine store_ok (X := X.suite a ((a, oe4) :: (X.pn ++ pins))) (v := .ref a) (S4 s.toks) hN hi (.inl hl) rfl (fun s5 S5 => ?_) (.inr hl)
      refine wpAny_mono ((hs a oe4 cls d _ y1 y2).run [] s5 _ H _ S5 (hy rfl a na)) (fun fl s6 hq => ?_) (fun _ _ z => False.elim z)
      cases fl with
      | next =>
        obtain ⟨σ6, H6, S6, q6⟩ := hq
        exact gone_ok (S6.unsuite ok) hN hi hl fun s7 J7 => ⟨_, _, J7, q6⟩
      | brk =>
        obtain ⟨σ6, H6, S6, q6⟩ := hq
        exact gone_ok (S6.unsuite ok) hN hi hl fun s7 J7 => ⟨_, _, J7, q6⟩
      | cont =>
        obtain ⟨σ6, H6, S6, q6⟩ := hq
        exact gone_ok (S6.unsuite ok) hN hi hl fun s7 J7 => ⟨_, _, J7, q6⟩
      | ret v =>
        obtain ⟨v6, σ6, H6, S6, r6, q6⟩ := hq
        exact gone_ok (S6.unsuite ok) hN hi hl fun s7 J7 => ⟨_, _, _, J7, r6, q6⟩
    | false => exact ih h2 f2 up2 (hn rfl)
theorem ps_tryC (hst : X.stack = X.env :: X.outer) (hf : X.env.frame = some X.env.locals) (hN : X.N.Nodup) (tk : Takes X Wout)
    (hb : ∀ (W : WX) (pn : List (Addr × Obj)) (xe : Value → Shared → Prop), Takes (X.tr pn xe) W → PassesOwn (model X.prog X.w) X.A X.env xe → PSs (X.tr pn xe) body (tb W))
    (hh : ClsOk X (h₀ :: hds) l) (ho : PSs X orelse u) : PS X (.Try body (h₀ :: hds) orelse [] pos) (fun D σ H => tb (wCl X.K Wout D l) { D with nx := u D } σ H) := by
  refine ⟨fun pins s σ H D I h => wpAny_Try_except ?_⟩
  have ok := I.ok
  refine wpAny_mono ((hb (wCl X.K Wout D l) (X.pn ++ pins) _ (fun v s' xx => ?_) PassesOwn.looking).run [] s σ H { D with nx := u D } (I.toTry _) h) (fun f s1 hq => ?_) (fun e s1 he => he)
  · obtain ⟨a, B, sI, pins', σ', H', cls, d, rfl, J, nb, up, sky, na, os, ag, w⟩ := xx
    refine Sky.land Zc.steady (by rw [ok.frames, hst]) hf (by rw [← hst]; exact sky) fun h3 f3 up3 => ?_
    exact handle_cl hst hf hN tk hh (J.ofTry ok) nb os ag na h3 f3 (up.trans up3) w
  · cases f with
    | next =>
      obtain ⟨σ', H', J, q⟩ := hq
      exact ho.run pins s1 σ' H' D (J.ofTry ok) q
    | brk => exact hq.imp fun _ q => q.imp fun _ q => ⟨q.1.ofTry ok, q.2⟩
    | cont => exact hq.imp fun _ q => q.imp fun _ q => ⟨q.1.ofTry ok, q.2⟩
    | ret v => exact hq.imp fun _ q => q.imp fun _ q => q.imp fun _ q => ⟨q.1.ofTry ok, q.2⟩
end
end My
/-! Errors of the text: made, raised, caught. -/
namespace My
open PySem L2
section
variable {X : Cx} {CX : CXT} {k : Nat} {f C : Addr} {fd : FuncData} {ps : List Str} {sp : Sp} {dvs : List V} {ds : List Value} {E : St → XK} {x m : Str} {p pos apos : Pos} {e o : Expr} {es : List Expr} {ta : TE} {t : TA}
/-- o.m(e, ..), what is raised wished for at the caller's slots -/
def tMethS (C : Addr) (m : Str) (sp : Sp) (dvs : List V) (E : St → XK) (ta : TE) (t : TA) : TE := fun σ H Q => ta σ H fun x H1 => ∃ a dx fs, x = .ref a ∧ H1 a = some (.ins C dx fs) ∧ fs.lookup m = none ∧ t σ H1 fun vs H2 => sp (x :: (vs ++ dvs)) H2 Q (E σ)
theorem pe_methS {pl : Sem Bool} (he : PE X o ta) (c : Cls X.K C) (hm : Meth X.K C m f) (F : FnOk X.prog X.w X.K X.mg X.base CX k f fd ps sp) (hr : Room k X.A) (hb : Binds X.K fd ps ds) (hd : Vals dvs ds) (hx : ∀ σ, PassesAt CX X σ (E σ)) (ha : PA X (e :: es) t)
    (hst : starEach (e :: es) X.env = (false, eval e X.env) :: starEach es X.env := by rfl) (hpl : (backTo pos (starEach es X.env)).any (·.1) = false := by rfl)
    (ht : eval (.Call (.Attribute o m apos) (e :: es) [] pos) X.env = (do let ov ← eval o X.env; standAt apos.atName; let (f, first) ← holding [ov] (getMethod ov m pl); callWith pos f first (backTo pos (starEach (e :: es) X.env)) (backToKw pos (keywordEach [] X.env))) := by rfl) : PE X (.Call (.Attribute o m apos) (e :: es) [] pos) (tMethS C m sp dvs E ta t) := by
  refine ⟨fun pins s σ H Q I h => PySem.W.methodCall_KW (pl := pl) (thn (he.run pins s σ H _ I h) fun u s1 ⟨y, H1, I1, ry, a, dx, fs, ey, ea, l, q⟩ => ?_) ht⟩
  subst ey
  cases (show u = Value.ref a from ry)
  refine getmeth_ok I1 ea c hm l (PySem.W.callWith_K (first := [.ref a]) (h₀ := X.base) I.ok.mod.kin hm.kp (thn (ha.run pos pins s1 σ H1 _ I1 q) fun us s2 ⟨vs, H2, I2, r, q2⟩ => ⟨I2.kIn, ?_⟩) hst hpl)
  exact run_fnSD (us := .ref a :: us) (vs := .ref a :: vs) F hr hb hd (hx σ) I2 (.cons rfl r) q2
theorem pe_meth0S {pl : Sem Bool} (he : PE X o ta) (c : Cls X.K C) (hm : Meth X.K C m f) (F : FnOk X.prog X.w X.K X.mg X.base CX k f fd ps sp) (hr : Room k X.A) (hb : Binds X.K fd ps ds) (hd : Vals dvs ds) (hx : ∀ σ, PassesAt CX X σ (E σ))
    (ht : eval (.Call (.Attribute o m apos) [] [] pos) X.env = (do let ov ← eval o X.env; standAt apos.atName; let (f, first) ← holding [ov] (getMethod ov m pl); callWith pos f first (backTo pos (starEach [] X.env)) (backToKw pos (keywordEach [] X.env))) := by rfl) : PE X (.Call (.Attribute o m apos) [] [] pos) (tMethS C m sp dvs E ta tNil) := by
  refine ⟨fun pins s σ H Q I h => PySem.W.methodCall_KW (pl := pl) (thn (he.run pins s σ H _ I h) fun u s1 ⟨y, H1, I1, ry, a, dx, fs, ey, ea, l, q⟩ => ?_) ht⟩
  subst ey
  cases (show u = Value.ref a from ry)
  refine getmeth_ok I1 ea c hm l (PySem.W.callWith_K0 (first := [.ref a]) I1.kIn hm.kp ?_)
  exact run_fnSD (us := [.ref a]) (vs := [.ref a]) F hr hb hd (hx σ) I1 (.cons rfl .nil) q
def tMakeS (C : Addr) (sp : Sp) (dvs : List V) (E : St → XK) (t : TA) : TE := fun σ H Q => t σ H fun vs H1 => ∀ x dx, H1 x = none → H1 dx = none → dx ≠ x →
  sp (.ref x :: (vs ++ dvs)) (upd (upd H1 dx (.own x)) x (.ins C dx [])) (fun v H2 => v = .non ∧ Q (.ref x) H2) (E σ)
theorem run_makeS {pins : List (Addr × Obj)} {σ : St} {H : Hp} {s : Shared} {Q : VK} {us : List Value} {vs : List V} (M : Mk X.K C f) (F : FnOk X.prog X.w X.K X.mg X.base CX k f fd ps sp) (hr : Room (k + 1) X.A) (hb : Binds X.K fd ps ds) (hd : Vals dvs ds) (hx : PassesAt CX X σ (E σ))
    (I : Inv X pins σ H s) (rv : Vals vs us) (h : ∀ x dx, H x = none → H dx = none → dx ≠ x → sp (.ref x :: (vs ++ dvs)) (upd (upd H dx (.own x)) x (.ins C dx [])) (fun v H2 => v = .non ∧ Q (.ref x) H2) (E σ)) : wpAny (model X.prog X.w) X.A (call (.ref C) us) (EP X pins σ Q) X.xe s := by
  have q0 := h (s.heap.objs.size + 1) s.heap.objs.size (I.hok.fresh (Nat.le_succ _)) (I.hok.fresh (Nat.le_refl _)) (Nat.ne_of_lt (Nat.lt_succ_self _))
  have J := Inv.made (C := C) I
  have rr : Vals (V.ref (s.heap.objs.size + 1) :: (vs ++ dvs)) (Value.ref (s.heap.objs.size + 1) :: (us ++ ds)) := .cons rfl (rv.append hd)
  have len : (Value.ref (s.heap.objs.size + 1) :: us ++ ds).length = ps.length := (rr.length.symm.trans (F.len _ _ _ _ q0))
  have run := F.run _ X.stack _ _ ⟨Value.ref (s.heap.objs.size + 1) :: us, []⟩ (Value.ref (s.heap.objs.size + 1) :: (us ++ ds)) _ _ (E σ) (hr.make C us []) (J.env0.make C us []) (hb _ (Value.ref (s.heap.objs.size + 1) :: us) J.kIn len) rr q0
  refine wpAny_call (make_map (f := f) I.kIn M.makes M.init (beq_iff_eq.mp M.fn) (codeAny_mono run fun r s' z => ?_))
  match r, z with
  | .error e, z => exact hx pins _ _ e s' J z
  | .ok (.ret u), z =>
    obtain ⟨v, H', J', r', rfl, q'⟩ := J.after z
    exact ⟨r', ⟨V.ref (s.heap.objs.size + 1), H', J', rfl, q'⟩⟩
  | .ok .next, z => exact z.elim
  | .ok .brk, z => exact z.elim
  | .ok .cont, z => exact z.elim
/-- C(e, ..), C's own __init__ may raise -/
theorem pe_makeS (M : Mk X.K C f) (F : FnOk X.prog X.w X.K X.mg X.base CX k f fd ps sp) (hr : Room (k + 1) X.A) (hg : Gl X x) (hm : X.mg x = some (.ref C)) (hb : Binds X.K fd ps ds) (hd : Vals dvs ds) (hx : ∀ σ, PassesAt CX X σ (E σ)) (ha : PA X (e :: es) t)
    (hdb : (x == ("__debug__" : Str)) = false := by decide) (he : starEach (e :: es) X.env = (false, eval e X.env) :: starEach es X.env := by rfl) (hpl : (backTo pos (starEach es X.env)).any (·.1) = false := by rfl) : PE X (.Call (.Name x p) (e :: es) [] pos) (tMakeS C sp dvs E t) :=
  ⟨fun pins s σ H Q I h => wpAny_Call_Name_kw (ld_glob I hg hm (PySem.W.callWith_K (h₀ := X.base) I.ok.mod.kin M.kp (thn (ha.run pos pins s σ H _ I h) fun us s1 ⟨vs, H1, I1, rv, q⟩ => ⟨I1.kIn, run_makeS M F hr hb hd (hx _) I1 rv q⟩) he hpl) hdb)⟩
/-- an argument list's reading by what follows it -/
def taM (t : TA) : TA := fun σ H Q => ∃ R : List V → Hp → Prop, t σ H R ∧ ∀ vs H1, R vs H1 → Q vs H1
theorem pa_M (h : PA X es t) : PA X es (taM t) := ⟨fun pos pins s σ H Q I ⟨R, h1, h2⟩ => thn (h.run pos pins s σ H R I h1) fun us s1 ⟨vs, H1, I1, r, q⟩ => ⟨vs, H1, I1, r, h2 vs H1 q⟩⟩
/-! ### an error class of the text: class C(HallError): def __init__(self, f): HallError.__init__(self, '..'); self.f = f -/
/-- what its __init__ does -/
def spExI (C : Addr) (f : Str) : Sp := fun vs H Q _ => ∃ (a : Addr) (v : V), vs = [.ref a, v] ∧ H a = some (exo a C none) ∧ ∀ d, H d = none → d ≠ a → Q .non (upd (upd H d (exd d [(f, v)])) a (exo a C (some d)))
def tExc (C : Addr) (f : Str) (t : TA) : St → Hp → XK → Prop := fun σ H Q => t σ H fun vs H1 => ∃ v, vs = [v] ∧ ∀ d, H1 d = none → Q (.ref C) (some d) (upd H1 d (.xd [(f, v)]))
theorem pmk_exc {fI : Addr} {fl : Str} (T : OexC X.K C) (iC : PySem.W.findIn X.K (.ref C) "__init__" = some (some (.ref fI))) (tI : PySem.W.typeIn X.K (.ref fI) = some (.type "function"))
    (F1 : FnOk X.prog X.w X.K X.mg X.base CX0 k fI fd ps (spExI C fl)) (hr : Room (k + 1) X.A) (hb : Binds X.K fd ps []) (hg : Gl X x) (hm : X.mg x = some (.ref C)) (ha : PA X (e :: es) t)
    (hdb : (x == ("__debug__" : Str)) = false := by decide) (he : starEach (e :: es) X.env = (false, eval e X.env) :: starEach es X.env := by rfl) (hpl : (backTo pos (starEach es X.env)).any (·.1) = false := by rfl) : PMk X (.Call (.Name x p) (e :: es) [] pos) (tExc C fl t) := by
  intro pins s σ H Q I h
  refine pmk_oex T iC tI F1 hr hb .nil (fun _ _ _ _ _ _ _ z => z.elim) hg hm (pa_M ha) hdb he hpl pins s σ H Q I ⟨_, h, fun vs H1 hv => ?_⟩
  obtain ⟨v, rfl, hq⟩ := hv
  refine ⟨(by show 1 ≤ 1000; decide), fun a na => ⟨a, v, rfl, upd_same, fun d hd nd => ⟨rfl, d, [(fl, v)], upd_same, ?_, ?_, ?_⟩⟩⟩
  · rw [upd_ne nd, upd_same]
  · rw [upd_ne nd] at hd
    exact hd
  · have hd' : H1 d = none := by
      rw [upd_ne nd] at hd
      exact hd
    have e1 : upd (del (upd (upd (upd H1 a (exo a C none)) d (exd d [(fl, v)])) a (exo a C (some d))) a) d (.xd [(fl, v)]) = upd H1 d (.xd [(fl, v)]) := by
      funext b
      by_cases h1 : b = d
      · rw [h1, upd_same, upd_same]
      · rw [upd_ne h1, upd_ne h1]
        by_cases h2 : b = a
        · rw [h2, del_same, na]
        · rw [del_ne h2, upd_ne h2, upd_ne h1, upd_ne h2]
    rw [e1]
    exact hq d hd'
/-- HallError.__init__(self, '..'), HallError a class of the text over ValueError -/
theorem pe_hinit {H0 : Addr} {pl : Sem Bool} {p1 p2 : Pos} (hg : Gl X x) (hm : X.mg x = some (.ref H0)) (hs : PySem.W.specialIn X.K (.ref H0) "__getattribute__" = some (some (.builtin "type.__getattribute__"))) (hrd : PySem.W.readsIn X.K H0 (.type "type") = true)
    (hf : PySem.W.findCls X.K (.ref H0) (.type "type") "__init__" = some (.val (.builtin "ValueError.__init__"))) (ha : PA X (e :: es) t) (hdb : (x == ("__debug__" : Str)) = false := by decide)
    (hc : eval (.Call (.Attribute (.Name x p1) "__init__" p2) (e :: es) [] pos) X.env = (do let ov ← eval (.Name x p1) X.env; standAt p2.atName; let (f, first) ← holding [ov] (getMethod ov "__init__" pl); callWith pos f first (backTo pos (starEach (e :: es) X.env)) (backToKw pos (keywordEach [] X.env))) := by rfl)
    (he : starEach (e :: es) X.env = (false, eval e X.env) :: starEach es X.env := by rfl) (hpl : (backTo pos (starEach es X.env)).any (·.1) = false := by rfl) : PE X (.Call (.Attribute (.Name x p1) "__init__" p2) (e :: es) [] pos) (tVeI X.K t) := by
  refine ⟨fun pins s σ H Q I h => PySem.W.methodCall_KW (ld_glob I hg hm ?_ hdb) hc⟩
  refine PySem.W.method_cls I.kIn hs (PySem.W.cls_value I.kIn hrd hf (by decide +kernel) ?_)
  show wpAny _ _ (callWith pos (Value.builtin "ValueError.__init__") [] (backTo pos (starEach (e :: es) X.env)) []) _ _ _
  refine PyProof.Rows.callWith_method1 (thn (ha.run pos pins _ σ H _ (I.tok _) h) fun us s1 ⟨vs, H1, I1, r1, a, C, ws, ev, hl, T, ea, q⟩ => ?_) he hpl
  subst ev
  cases r1 with
  | @cons _ u0 _ ur ra rw' =>
    cases (show u0 = Value.ref a from ra)
    refine oinit_ok T I1 ea ?_ fun s' J => ⟨.non, H1, J, rfl, q⟩
    rw [← Paired.length rw']
    exact line_le hl
/-! ### in an except suite: e.f, isinstance(e, C), isinstance(e, (C, D)) -/
end
/-- what the text says of an error class -/
structure XcC (K : PySem.W.Frag) (D : Addr) : Prop where
  ga : PySem.W.findIn K (.ref D) "__getattribute__" = some (some (.builtin "BaseException.__getattribute__"))
  gg : PySem.W.findIn K (.ref D) "__getattr__" = some none
  ex : PySem.W.subIn K (.ref D) (.type "BaseException") = some true
  hd : PySem.W.hasDictIn K D = true
  ha : PySem.W.findIn K (.ref D) "__class__" = some (some (.builtin "object.__class__"))
  hn : PySem.W.specialIn K (.builtin "object.__class__") "__get__" = some (some (.builtin "getset_descriptor.__get__"))
  ht : PySem.W.takesIn K (.builtin "object.__class__") = some true
  hm : PySem.W.mroIn K D (.type "object") = some true
  ty : PySem.W.typeIn K (.ref D) = some (.type "type")
/-- the own dict of the caught one -/
def XdAt (H : Hp) (d : Option Addr) : Prop := d = none ∨ ∃ dd fs, d = some dd ∧ H dd = some (.xd fs)
/-- e.f, e the caught error -/
def tXfA (K : PySem.W.Frag) (a : Addr) (cls : Value) (d : Option Addr) (f : Str) (te : TE) : TE := fun σ H Q => te σ H fun x H1 => x = .ref a ∧ ∃ (C dd : Addr) (fs : List (Str × V)) (v : V), cls = .ref C ∧ XcC K C ∧ PySem.W.findIn K (.ref C) f = some none ∧ d = some dd ∧ H1 dd = some (.xd fs) ∧ fs.lookup f = some v ∧ Q v H1
section
variable {X : Cx} {a : Addr} {oe : Obj} {cls : Value} {d : Option Addr} {pn : List (Addr × Obj)}
theorem pe_xfA {e : Expr} {te : TE} {pos : Pos} {n : Str} {K : PySem.W.Frag} (hz : Zc cls d oe) (hf : ∃ vs, oe.data = .fields vs) (he : PE (X.suite a ((a, oe) :: pn)) e te) (hb : attributeBase e n X.env (eval e X.env) = eval e X.env := by rfl) (hK : X.K = K := by rfl) :
    PE (X.suite a ((a, oe) :: pn)) (.Attribute e n pos) (tXfA K a cls d n te) := by
  subst hK
  refine ⟨fun pins s σ H Q I h => attr_of hb (thn (he.run pins s σ H _ I h) fun u s1 hh => ?_)⟩
  obtain ⟨x, H1, I1, rx, rfl, C, dd, fs, v, rfl, T, no, rfl, xa, l, q⟩ := hh
  obtain rfl : u = Value.ref a := rx
  obtain ⟨pa, _⟩ := I1.pin (a, oe) (List.mem_append_left _ List.mem_cons_self)
  obtain ⟨vs, hv⟩ := hf
  obtain ⟨mA, ns, rl⟩ := (show ObjOk X.prog X.w H1 s1.heap dd (.xd fs) from I1.hok dd _ xa)
  obtain ⟨od, ho, hl⟩ := lookIn_ns ns
  obtain ⟨u, hu, ru⟩ := RelO.some_of (v := v) (o := mA n) (by rw [← l]; exact rl n)
  exact HandSPX.exc_get I1.kIn (od := some od) ⟨pa, hz.1, by unfold PySem.W.notCls; rw [hv] <;> rfl, by rw [hz.2]; exact ho⟩ T.ga T.gg T.ex (PySem.W.findObj_own T.hd no rfl (by rw [hl, hu])) (handed_of ru) ⟨v, H1, I1.tok _, ru, q⟩
/-- isinstance(e, C) -/
def rIsX (K : PySem.W.Frag) (a : Addr) (cls : Value) (d : Option Addr) : List V → Hp → VK → Prop := fun xs H Q => ∃ (D : Addr) (c : V) (cv : Value) (b : Bool), xs = [.ref a, c] ∧ cls = .ref D ∧ XcC K D ∧ XdAt H d ∧ ClsV c cv ∧ PySem.W.kitOne K (.ref D) cv = some b ∧ Q (.bl b) H
/-- isinstance(e, (C, D)), the tuple just laid -/
def rIsXs (K : PySem.W.Frag) (a : Addr) (cls : Value) (d : Option Addr) : List V → Hp → VK → Prop := fun xs H Q => ∃ (D tp : Addr) (cs : List V) (cvs : List Value) (b : Bool), xs = [.ref a, .ref tp] ∧ H tp = some (.tup cs) ∧ cls = .ref D ∧ XcC K D ∧ XdAt H d ∧ Paired ClsV cs cvs ∧ PySem.W.kitAny K (.ref D) cvs = some b ∧ Q (.bl b) H
theorem xc_kit {K : PySem.W.Frag} {D x : Addr} {ox : Obj} {od : Option Obj} (T : XcC K D) : PySem.W.KitX K (.ref x) (.ref D) (fun h => PySem.W.InstAt h x ox D od) := by
  have hc : (PySem.W.clsIn K D).isSome = true := by
    obtain ⟨cd, hc, _⟩ := PySem.W.any_some T.hd
    rw [hc]
    rfl
  exact PySem.W.kitx_exc hc T.ga T.gg T.ex T.ha T.hn T.ht T.hm
theorem xc_at {pins : List (Addr × Obj)} {σ : St} {H : Hp} {s : Shared} {D : Addr} (hz : Zc (.ref D) d oe) (hf : ∃ vs, oe.data = .fields vs) (I : Inv (X.suite a ((a, oe) :: pn)) pins σ H s) (xd : XdAt H d) : ∃ od, PySem.W.InstAt s.heap a oe D od := by
  obtain ⟨pa, _⟩ := I.pin (a, oe) (List.mem_append_left _ List.mem_cons_self)
  obtain ⟨vs, hv⟩ := hf
  have nc : PySem.W.notCls oe = true := by unfold PySem.W.notCls; rw [hv] <;> rfl
  rcases xd with rfl | ⟨dd, fs, rfl, xa⟩
  · exact ⟨none, pa, hz.1, nc, by rw [hz.2]; trivial⟩
  · obtain ⟨mA, ns, rl⟩ := (show ObjOk X.prog X.w H s.heap dd (.xd fs) from I.hok dd _ xa)
    obtain ⟨od, ho, hl⟩ := lookIn_ns ns
    exact ⟨some od, pa, hz.1, nc, by rw [hz.2]; exact ho⟩
theorem call_isX {K : PySem.W.Frag} (hz : Zc cls d oe) (hf : ∃ vs, oe.data = .fields vs) (hK : X.K = K := by rfl) : CallR (X.suite a ((a, oe) :: pn)) (.builtin "isinstance") (rIsX K a cls d) := by
  subst hK
  intro pins s σ H xs us Q I r h
  obtain ⟨D, c, cv, b, rfl, rfl, T, xd, k, e, q⟩ := h
  obtain ⟨u1, u2, rfl, r1, r2⟩ := vals2 r
  cases (show u1 = Value.ref a from r1)
  cases k.eq r2
  obtain ⟨od, J⟩ := xc_at hz hf I xd
  exact PySem.W.kia_one (xc_kit T) I.kIn J e (fun z => nomatch z) fun tk => ⟨.bl b, H, I.tok tk, rfl, q⟩
theorem call_isXs {K : PySem.W.Frag} (hz : Zc cls d oe) (hf : ∃ vs, oe.data = .fields vs) (hK : X.K = K := by rfl) : CallR (X.suite a ((a, oe) :: pn)) (.builtin "isinstance") (rIsXs K a cls d) := by
  subst hK
  intro pins s σ H xs us Q I r h
  obtain ⟨D, tp, cs, cvs, b, rfl, ht, rfl, T, xd, k, e, q⟩ := h
  obtain ⟨u1, u2, rfl, r1, r2⟩ := vals2 r
  cases (show u1 = Value.ref a from r1)
  cases (show u2 = Value.ref tp from r2)
  obtain ⟨od, J⟩ := xc_at hz hf I xd
  obtain ⟨_, its, rv, ⟨oc, odd, dt, sl⟩, h1, h2, n, h3⟩ := (show ObjOk X.prog X.w H s.heap tp (.tup cs) from I.hok tp _ ht)
  cases ClsV.all k rv
  simp only at h2 h3
  subst h2 h3
  exact PySem.W.kia_tup (xc_kit T) I.kIn J h1 e (fun z => nomatch z) fun tk => ⟨.bl b, H, I.tok tk, rfl, q⟩
end
theorem kit_self {K : PySem.W.Frag} {C : Addr} : PySem.W.kitOne K (.ref C) (.ref C) = some true := by
  unfold PySem.W.kitOne
  rw [if_pos (by simp)]
/-- does the class cls lie under D, an own error class -/
theorem exm_own {K : PySem.W.Frag} {C D : Addr} {b : Bool} (T : XcC K D) (h : PySem.W.subIn K (.ref C) (.ref D) = some b) : PySem.W.exmOne K (.ref C) (.ref D) = some b := PySem.W.exm_ref T.ex T.hd T.ty h
theorem any_nil {K : PySem.W.Frag} {c : Value} : PySem.W.exmAny K c [] = some false := rfl
theorem any_cons {K : PySem.W.Frag} {c e : Value} {r : List Value} {b1 b2 : Bool} (h1 : PySem.W.exmOne K c e = some b1) (h2 : PySem.W.exmAny K c r = some b2) : PySem.W.exmAny K c (e :: r) = some (b1 || b2) := by
  unfold PySem.W.exmAny
  rw [h1, h2]
theorem kany_nil {K : PySem.W.Frag} {c : Value} : PySem.W.kitAny K c [] = some false := rfl
theorem kany_cons {K : PySem.W.Frag} {c e : Value} {r : List Value} {b1 b2 : Bool} (h1 : PySem.W.kitOne K c e = some b1) (h2 : PySem.W.kitAny K c r = some b2) : PySem.W.kitAny K c (e :: r) = some (b1 || b2) := by
  unfold PySem.W.kitAny
  rw [h1]
  cases b1
  · exact h2
  · rfl
/-! ### statements, in the forms that the printed texts use -/
def tRaise (t : St → Hp → XK → Prop) (W : WX) : TS := fun _ σ H => t σ H fun cls d H' => W cls d σ H'
def tTry (K : PySem.W.Frag) (tb : WX → TS) (Wout : WX) (l : List Clause) (u : TS) : TS := fun D σ H => tb (wCl K Wout D l) { D with nx := u D } σ H
section
variable {X : Cx}
theorem ps_raiseM {W : WX} {e : Expr} {t : St → Hp → XK → Prop} {pos : Pos} (hc : X.calm = true) (tk : Takes X W) (he : PMk X e t) : PS X (.Raise (some e) none pos) (tRaise t W) := ps_raise hc tk he
theorem ps_tryM {body orelse : List Stmt} {h₀ : ExceptHandler} {hds : List ExceptHandler} {l : List Clause} {pos : Pos} {tb : WX → TS} {u : TS} {Wout : WX} (hst : X.stack = X.env :: X.outer) (hf : X.env.frame = some X.env.locals) (hN : X.N.Nodup) (tk : Takes X Wout)
    (hb : ∀ (W : WX) (pn : List (Addr × Obj)) (xe : Value → Shared → Prop), Takes (X.tr pn xe) W → PassesOwn (model X.prog X.w) X.A X.env xe → PSs (X.tr pn xe) body (tb W)) (hh : ClsOk X (h₀ :: hds) l) (ho : PSs X orelse u) : PS X (.Try body (h₀ :: hds) orelse [] pos) (tTry X.K tb Wout l u) :=
  ps_tryC hst hf hN tk hb hh ho
end
/-- a def that may raise -/
theorem fund_okX {P : Program} {w : World} {K : PySem.W.Frag} {mg : Str → Option Value} {base : Heap} {x qual : Str} {params : Arguments} {body : List Stmt} {scope : Scope} {dvs : List V} {f : Addr} {fd : FuncData} {N ps : List Str} {k : Nat} {sp : Sp}
    (F : FunD K x qual params body scope dvs [] f fd) (S : FnScope N ps scope) (len : ∀ vs H Q E, sp vs H Q E → vs.length = ps.length)
    (hbody : ∀ (cdv : Value) (A : Around) (outer : List Env) (s : Shared) (H : Hp) (vs : List V) (Q : VK) (E : XK), Room k (A.deeper (PyProof.Rows.envOfC qual scope s.heap.objs.size f cdv)) →
      Takes (cxOf (L2.CX P w) P w K mg base N qual scope f cdv A outer s H E) (fun cls d _ H' => E cls d H') →
      PassesOwn (model P w) (cxOf (L2.CX P w) P w K mg base N qual scope f cdv A outer s H E).A (cxOf (L2.CX P w) P w K mg base N qual scope f cdv A outer s H E).env (cxOf (L2.CX P w) P w K mg base N qual scope f cdv A outer s H E).xe → sp vs H Q E →
      ∃ t, PSs (cxOf (L2.CX P w) P w K mg base N qual scope f cdv A outer s H E) body t ∧ t { nx := fun _ H' => Q .non H', rt := Q } (start N vs) H) : FnOk P w K mg base (L2.CX P w) (k + 1) f fd ps sp :=
  F.ok S len fun cdv A outer s H vs Q E hr h => hbody cdv A outer s H vs Q E hr (takes_of rfl rfl rfl rfl) (passes_of rfl) h
section
variable {D : Ends} {σ : St} {H : Hp} {Q : VK} {K : PySem.W.Frag} {A : TA} {te ta : TE} {C : Addr} {m f : Str} {sp : Sp} {dvs : List V} {E : St → XK}
theorem i_raise {t : St → Hp → XK → Prop} {W : WX} (h : t σ H fun cls d H' => W cls d σ H') : tRaise t W D σ H := h
theorem i_exc {XQ : XK} (h : A σ H fun vs H1 => ∃ v, vs = [v] ∧ ∀ d, H1 d = none → XQ (.ref C) (some d) (upd H1 d (.xd [(f, v)]))) : tExc C f A σ H XQ := h
theorem i_excV {v : V} {R : V → Prop} (h : R v) : ∃ x, [v] = [x] ∧ R x := ⟨v, rfl, h⟩
theorem i_try {tb : WX → TS} {Wout : WX} {l : List Clause} {u : TS} (h : tb (wCl K Wout D l) { D with nx := u D } σ H) : tTry K tb Wout l u D σ H := h
theorem i_methS (h : te σ H fun x H1 => ∃ a dx fs, x = .ref a ∧ H1 a = some (.ins C dx fs) ∧ fs.lookup m = none ∧ A σ H1 fun vs H2 => sp (x :: (vs ++ dvs)) H2 Q (E σ)) : tMethS C m sp dvs E te A σ H Q := h
theorem i_callS (h : A σ H fun vs H1 => sp (vs ++ dvs) H1 Q (E σ)) : tCallSD sp dvs E A σ H Q := h
theorem i_makeS (h : A σ H fun vs H1 => ∀ x dx, H1 x = none → H1 dx = none → dx ≠ x → sp (.ref x :: (vs ++ dvs)) (upd (upd H1 dx (.own x)) x (.ins C dx [])) (fun v H2 => v = .non ∧ Q (.ref x) H2) (E σ)) : tMakeS C sp dvs E A σ H Q := h
/-- the clause takes it -/
theorem i_clT {Wout : WX} {q : Clause} {r : List Clause} {cls : Value} {d : Option Addr} (hb : PySem.W.exmAny K cls q.cs = some true) (h : ∀ ea, H ea = none → q.go ea cls d D σ H) : wCl K Wout D (q :: r) cls d σ H := ⟨true, hb, fun _ => h, fun z => by cases z⟩
/-- it doesn't -/
theorem i_clF {Wout : WX} {q : Clause} {r : List Clause} {cls : Value} {d : Option Addr} (hb : PySem.W.exmAny K cls q.cs = some false) (h : wCl K Wout D r cls d σ H) : wCl K Wout D (q :: r) cls d σ H := ⟨false, hb, (fun z => by cases z), fun _ => h⟩
theorem i_goN {cs : List Value} {i : Nat} {ts : Addr → Value → Option Addr → TS} {a : Addr} {cls : Value} {d : Option Addr} (h : ts a cls d (unD i D) (σ.set i (some (.ref a))) H) : Clause.go ⟨cs, some i, ts⟩ a cls d D σ H := h
theorem i_go0 {cs : List Value} {ts : Addr → Value → Option Addr → TS} {a : Addr} {cls : Value} {d : Option Addr} (h : ts a cls d D σ H) : Clause.go ⟨cs, none, ts⟩ a cls d D σ H := h
theorem i_xf {a dd : Addr} {fs : List (Str × V)} {v : V} {R : V → Prop} {C' : Addr} (T : XcC K C') (no : PySem.W.findIn K (.ref C') f = some none) (h1 : H dd = some (.xd fs)) (h2 : fs.lookup f = some v) (h : R v) :
    V.ref a = .ref a ∧ ∃ (C e : Addr) (fs : List (Str × V)) (v : V), Value.ref C' = .ref C ∧ XcC K C ∧ PySem.W.findIn K (.ref C) f = some none ∧ some dd = some e ∧ H e = some (.xd fs) ∧ fs.lookup f = some v ∧ R v := ⟨rfl, C', dd, fs, v, rfl, T, no, rfl, h1, h2, h⟩
theorem i_xfA {a : Addr} {d : Option Addr} {cls : Value} (h : te σ H fun x H1 => x = .ref a ∧ ∃ (C dd : Addr) (fs : List (Str × V)) (v : V), cls = .ref C ∧ XcC K C ∧ PySem.W.findIn K (.ref C) f = some none ∧ d = some dd ∧ H1 dd = some (.xd fs) ∧ fs.lookup f = some v ∧ Q v H1) : tXfA K a cls d f te σ H Q := h
theorem i_isX {a D' : Addr} {c : V} {cv cls : Value} {d : Option Addr} {b : Bool} (hc : cls = .ref D') (T : XcC K D') (xd : XdAt H d) (k : ClsV c cv) (e : PySem.W.kitOne K (.ref D') cv = some b) (h : Q (.bl b) H) : rIsX K a cls d [.ref a, c] H Q := ⟨D', c, cv, b, rfl, hc, T, xd, k, e, h⟩
theorem i_isXs {a D' tp : Addr} {cs : List V} {cvs : List Value} {cls : Value} {d : Option Addr} {b : Bool} (ht : H tp = some (.tup cs)) (hc : cls = .ref D') (T : XcC K D') (xd : XdAt H d) (k : Paired ClsV cs cvs) (e : PySem.W.kitAny K (.ref D') cvs = some b) (h : Q (.bl b) H) : rIsXs K a cls d [.ref a, .ref tp] H Q :=
  ⟨D', tp, cs, cvs, b, rfl, ht, hc, T, xd, k, e, h⟩
end
/-- an own error class's __init__, read -/
theorem exc_read {K : PySem.W.Frag} {C : Addr} {f : Str} {vs : List V} {H : Hp} {Q : VK} {E : XK} {N : List Str} {z : Str} (hN : N.length = 2) (T : OexC K C) (no : PySem.W.findIn K (.ref C) f = some none) (h : spExI C f vs H Q E) :
    tSeq (tDrop (tVeI K (tCons (tVar 0) (tCons (tC (.str z)) tNil)))) (tOst K f (tVar 0) (tVar 1)) { nx := fun _ H' => Q .non H', rt := Q } (start N vs) H := by
  obtain ⟨a, v, rfl, ha, k⟩ := h
  refine i_seq (i_drop ?_)
  show tVeI K _ _ _ _
  refine ⟨_, rfl, ?_⟩
  refine i_c (i_nil ⟨a, C, [.str z], rfl, Nat.le_of_ble_eq_true rfl, T, ha, ?_⟩)
  exact ⟨v, rfl, .ref a, rfl, a, C, rfl, T, no, .inl ⟨ha, fun d hd nd => k d hd nd⟩⟩
/-! ### isinstance(x, C), C of the text -/
section
variable {K : PySem.W.Frag} {H : Hp} {Q : VK} {x : V} {C : Addr}
theorem i_isiC (h : isO K x H fun _ c => match c with | none => Q (.bl false) H | some D => ∃ b, PySem.W.kitOne K (.ref D) (.ref C) = some b ∧ Q (.bl b) H) : rIsiC C K [x, .ref C] H Q := ⟨x, rfl, h⟩
theorem i_kit {c d : Value} {b : Bool} {R : Bool → Prop} (h1 : PySem.W.kitOne K c d = some b) (h : R b) : ∃ b, PySem.W.kitOne K c d = some b ∧ R b := ⟨b, h1, h⟩
end
end My
/-! comprehensions over zip -/
namespace My
open PySem L2 RZ
theorem walk_zipT {K : PySem.W.Frag} {a b : Addr} {xs ys : List V} {n : Nat} (hn : n = min xs.length ys.length) : Walk (ItzT K a b) n (fun H => SqT K H a xs ∧ SqT K H b ys) (YPair (fun i => xs[i]?) (fun i => ys[i]?)) := by
  subst hn
  refine ⟨fun i _ hi q => ?_, fun _ q => ⟨xs, ys, q.1, q.2, by omega⟩, fun i H v H' _ q ⟨T, x, z, y1, y2, y3, y4, y5⟩ => ⟨T, x, z, y1, y2, y3, y4 xs q.1, y5 ys q.2⟩⟩
  have l1 : i < xs.length := by omega
  have l2 : i < ys.length := by omega
  exact ⟨xs, ys, xs[i], ys[i], q.1, q.2, List.getElem?_eq_getElem l1, List.getElem?_eq_getElem l2⟩
theorem zw_take {α β γ : Type} (f : α → β → γ) {xs : List α} {ys : List β} {i : Nat} {x : α} {y : β} (hx : xs[i]? = some x) (hy : ys[i]? = some y) : (List.zipWith f xs ys).take (i + 1) = (List.zipWith f xs ys).take i ++ [f x y] := by
  rw [List.take_succ, List.getElem?_zipWith, hx, hy]
  rfl
/-- [.. for x, y in zip(xs, ys)] -/
theorem lc_zip {J : It} {G : Hp → Prop} {g : TG} {tt : TT} {te : TE} {vs : List Nat} {σ : St} {H1 : Hp} {D : Addr} {Qd : Hp → Prop} {n : Nat} (xs ys : List V) (f : V → V → V) (w : Walk J n G (YPair (fun i => xs[i]?) (fun i => ys[i]?))) (hn : n = min xs.length ys.length) (hl : n ≤ 1000)
    (hG : ∀ H, Same H1 H → G H) (hD : H1 D = none)
    (hs : ∀ (i : Nat) x y, xs[i]? = some x → ys[i]? = some y → ∀ H T (Q : VK) (R : Hp → Prop), Same H1 H → H T = some (.tup [x, y]) → (∀ H', Same H H' → Q (f x y) H') → g (.ref T) (wipe σ vs) H fun σ2 H2 => wipe σ2 vs = wipe σ vs ∧ tt σ2 H2 fun b H3 => if b = true then te σ2 H3 Q else R H3)
    (hd : ∀ H, Same H1 H → H D = some (.lst (List.zipWith f xs ys)) → Qd H) :
    ∃ W : Nat → Nat → Hp → Prop, (∃ m, W 0 m (upd H1 D (.lst []))) ∧ ∀ i m H, W i m H →
      (J.stop i H ∧ Qd H) ∨ (J.go i H ∧ ∃ Nx : Hp → Prop, (∀ H', Nx H' → ∃ m', m' < m ∧ W (i + 1) m' H') ∧ ∀ x H', J.yld i H x H' → g x (wipe σ vs) H' fun σ2 H2 => wipe σ2 vs = wipe σ vs ∧ tt σ2 H2 fun b H3 =>
        if b = true then te σ2 H3 fun y H4 => ∃ acc, H4 D = some (.lst acc) ∧ acc.length < sizeLine ∧ Nx (upd H4 D (.lst (acc ++ [y]))) else Nx H3) := by
  refine lc_it w (fun i H => Same H1 H ∧ H D = some (.lst ((List.zipWith f xs ys).take i))) ⟨same_upd (Same.refl H1) hD, upd_same⟩ (fun i H _ h => hG H h.1) ?_ (fun H h => hd H h.1 (h.2.trans ?_))
  · rintro i v H H' hi ⟨s1, e1⟩ ⟨T, x, y, rfl, nT, rfl, hx, hy⟩
    have s2 : Same H (upd H T (.tup [x, y])) := same_upd (Same.refl H) nT
    refine hs i x y hx hy _ T _ _ (s1.trans s2) upd_same fun H4 s4 => ?_
    have e4 := s4 _ _ (s2 _ _ e1)
    refine ⟨_, e4, ?_, fun b o q => ?_, ?_⟩
    · refine small1000 ?_
      rw [List.length_take]
      omega
    · by_cases z : b = D
      · subst z
        rw [hD] at q
        cases q
      · rw [upd_ne z]
        exact s4 _ _ (s2 _ _ (s1 _ _ q))
    · rw [upd_same, zw_take f hx hy]
  · rw [List.take_of_length_le (by rw [List.length_zipWith, hn]; exact Nat.le_refl _)]
theorem lc_zipT {K : PySem.W.Frag} {a b : Addr} {xs ys : List V} {g : TG} {tt : TT} {te : TE} {vs : List Nat} {σ : St} {H1 : Hp} {D : Addr} {Qd : Hp → Prop} (f : V → V → V) (h1 : SqT K H1 a xs) (h2 : SqT K H1 b ys) (hD : H1 D = none) (hl : min xs.length ys.length ≤ 1000)
    (hs : ∀ (i : Nat) x y, xs[i]? = some x → ys[i]? = some y → ∀ H T (Q : VK) (R : Hp → Prop), Same H1 H → H T = some (.tup [x, y]) → (∀ H', Same H H' → Q (f x y) H') → g (.ref T) (wipe σ vs) H fun σ2 H2 => wipe σ2 vs = wipe σ vs ∧ tt σ2 H2 fun b H3 => if b = true then te σ2 H3 Q else R H3)
    (hd : ∀ H, Same H1 H → H D = some (.lst (List.zipWith f xs ys)) → Qd H) :
    ∃ W : Nat → Nat → Hp → Prop, (∃ m, W 0 m (upd H1 D (.lst []))) ∧ ∀ i m H, W i m H →
      ((ItzT K a b).stop i H ∧ Qd H) ∨ ((ItzT K a b).go i H ∧ ∃ Nx : Hp → Prop, (∀ H', Nx H' → ∃ m', m' < m ∧ W (i + 1) m' H') ∧ ∀ x H', (ItzT K a b).yld i H x H' → g x (wipe σ vs) H' fun σ2 H2 => wipe σ2 vs = wipe σ vs ∧ tt σ2 H2 fun b H3 =>
        if b = true then te σ2 H3 fun y H4 => ∃ acc, H4 D = some (.lst acc) ∧ acc.length < sizeLine ∧ Nx (upd H4 D (.lst (acc ++ [y]))) else Nx H3) :=
  lc_zip xs ys f (walk_zipT rfl) rfl hl (fun _ s => ⟨SqT.same s h1, SqT.same s h2⟩) hD hs hd
theorem i_zipT {K : PySem.W.Frag} {σ : St} {H : Hp} {A : TA} {R : It → Hp → Prop} (h : A σ H fun vs H1 => ∃ a b xs ys, vs = [.ref a, .ref b] ∧ ((SqL K H1 a xs ∧ SqL K H1 b ys ∧ R (Itz K a b) H1) ∨ (SqT K H1 a xs ∧ SqT K H1 b ys ∧ R (ItzT K a b) H1))) : iZipA K A σ H R := h
theorem i_zipTT {K : PySem.W.Frag} {H : Hp} {a b : Addr} {xs ys : List V} {R1 R2 : Addr → Addr → Prop} (h1 : SqT K H a xs) (h2 : SqT K H b ys) (h : R2 a b) : ∃ a' b' xs ys, [V.ref a, V.ref b] = [.ref a', .ref b'] ∧ ((SqL K H a' xs ∧ SqL K H b' ys ∧ R1 a' b') ∨ (SqT K H a' xs ∧ SqT K H b' ys ∧ R2 a' b')) :=
  ⟨a, b, xs, ys, rfl, .inr ⟨h1, h2, h⟩⟩
theorem i_zipLL {K : PySem.W.Frag} {H : Hp} {a b : Addr} {xs ys : List V} {R1 R2 : Addr → Addr → Prop} (h1 : SqL K H a xs) (h2 : SqL K H b ys) (h : R1 a b) : ∃ a' b' xs ys, [V.ref a, V.ref b] = [.ref a', .ref b'] ∧ ((SqL K H a' xs ∧ SqL K H b' ys ∧ R1 a' b') ∨ (SqT K H a' xs ∧ SqT K H b' ys ∧ R2 a' b')) :=
  ⟨a, b, xs, ys, rfl, .inl ⟨h1, h2, h⟩⟩
theorem pi_zipK {X : Cx} {e e2 : Expr} {ta : TA} {p pos tpos : Pos} {elts : List Expr} {kk : Nat} {K : PySem.W.Frag} (hg : Gl X "zip") (hm : X.mg "zip" = none) (ha : PA X [e, e2] ta)
    (hs : starEach [e, e2] X.env = (false, eval e X.env) :: starEach [e2] X.env := by rfl) (hpl : (backTo pos (starEach [e2] X.env)).any (·.1) = false := by rfl) (hK : X.K = K := by rfl) :
    PI X (.Tuple elts kk tpos) (.Call (.Name "zip" p) [e, e2] [] pos) (iZipA K ta) := by
  subst hK
  exact pi_zipA hg hm ha hs hpl
def vI : V → Int
  | .int i => i
  | _ => 0
theorem zw_int (f : Int → Int → Int) (ns ms : List Int) : List.zipWith (fun x y => V.int (f (vI x) (vI y))) (ns.map V.int) (ms.map V.int) = (List.zipWith f ns ms).map V.int := by
  induction ns generalizing ms with
  | nil => rfl
  | cons n ns ih => cases ms with
    | nil => rfl
    | cons m ms => exact congrArg _ (ih ms)
theorem zw_bl (f : Int → Int → Bool) (ns ms : List Int) : List.zipWith (fun x y => V.bl (f (vI x) (vI y))) (ns.map V.int) (ms.map V.int) = (List.zipWith f ns ms).map V.bl := by
  induction ns generalizing ms with
  | nil => rfl
  | cons n ns ih => cases ms with
    | nil => rfl
    | cons m ms => exact congrArg _ (ih ms)
theorem map_int_at {ns : List Int} {i : Nat} {x : V} (h : (ns.map V.int)[i]? = some x) : ∃ n, n ∈ ns ∧ x = .int n ∧ ns[i]? = some n := by
  rw [List.getElem?_map, Option.map_eq_some_iff] at h
  obtain ⟨n, h1, rfl⟩ := h
  exact ⟨n, List.mem_of_getElem? h1, rfl, h1⟩
/-- [.. for k in range(n)], each item drawn of the pool at p -/
theorem lc_pool {J : It} {G : Hp → Prop} {g : TG} {tt : TT} {te : TE} {vs : List Nat} {σ : St} {H1 : Hp} {D p : Addr} {m0 : Int} {Qd : Hp → Prop} {n : Nat} {f : Nat → V} (Pr : V → Prop) (w : Walk J n G (YFn f)) (hl : n ≤ 1000) (hG : ∀ H, G H) (hp : H1 p = some (.lst [.int m0])) (hD : H1 D = none)
    (hs : ∀ i, i < n → ∀ H m (Q : VK) (R : Hp → Prop), SameBut p H1 H → H p = some (.lst [.int m]) → (∀ y H' m', SameBut p H H' → H' p = some (.lst [.int m']) → Pr y → Q y H') → g (f i) (wipe σ vs) H fun σ2 H2 => wipe σ2 vs = wipe σ vs ∧ tt σ2 H2 fun b H3 => if b = true then te σ2 H3 Q else R H3)
    (hd : ∀ H m ys, SameBut p H1 H → H p = some (.lst [.int m]) → H D = some (.lst ys) → ys.length = n → (∀ y ∈ ys, Pr y) → Qd H) :
    ∃ W : Nat → Nat → Hp → Prop, (∃ m, W 0 m (upd H1 D (.lst []))) ∧ ∀ i m H, W i m H →
      (J.stop i H ∧ Qd H) ∨ (J.go i H ∧ ∃ Nx : Hp → Prop, (∀ H', Nx H' → ∃ m', m' < m ∧ W (i + 1) m' H') ∧ ∀ x H', J.yld i H x H' → g x (wipe σ vs) H' fun σ2 H2 => wipe σ2 vs = wipe σ vs ∧ tt σ2 H2 fun b H3 =>
        if b = true then te σ2 H3 fun y H4 => ∃ acc, H4 D = some (.lst acc) ∧ acc.length < sizeLine ∧ Nx (upd H4 D (.lst (acc ++ [y]))) else Nx H3) := by
  have np : p ≠ D := ne_of_none hp hD
  have sb : ∀ {H o}, SameBut p H1 H → SameBut p H1 (upd H D o) := fun {H o} s b u nb e => by
    rw [upd_ne (ne_of_none e hD)]
    exact s b u nb e
  refine lc_it w (fun i H => SameBut p H1 H ∧ (∃ m, H p = some (.lst [.int m])) ∧ ∃ ys, H D = some (.lst ys) ∧ ys.length = i ∧ ∀ y ∈ ys, Pr y) ⟨sb (SameBut.refl p H1), ⟨m0, by rw [upd_ne np]; exact hp⟩, [], upd_same, rfl, fun _ h => nomatch h⟩ (fun i H _ _ => hG H) ?_ ?_
  · rintro i v H H' hi ⟨s1, ⟨m, e1⟩, ys, e2, e3, e4⟩ ⟨rfl, rfl⟩
    refine hs i hi H' m _ _ s1 e1 fun y H4 m' s2 e5 hy => ⟨ys, s2 _ _ (Ne.symm np) e2, small1000 (by omega), sb (s1.trans s2), ⟨m', by rw [upd_ne np]; exact e5⟩, ys ++ [y], upd_same, by rw [List.length_append, e3]; rfl, fun z hz => ?_⟩
    rcases List.mem_append.mp hz with h | h
    · exact e4 z h
    · rw [List.mem_singleton.mp h]
      exact hy
  · rintro H ⟨s1, ⟨m, e1⟩, ys, e2, e3, e4⟩
    exact hd H m ys s1 e1 e2 e3 e4
/-! ### xs.append(y) -/
def tApp (K : PySem.W.Frag) (to : TE) (A : TA) : TE := tBM K "list" rAppend to A
theorem pe_appK {X : Cx} {K : PySem.W.Frag} {e : Expr} {to : TE} {t : TA} (h : PE X e (tBM X.K "list" rAppend to t)) (hK : X.K = K := by rfl) : PE X e (tApp K to t) := by
  subst hK
  exact h
section
variable {K : PySem.W.Frag} {σ : St} {H : Hp} {Q : VK} {to : TE} {A : TA} {l : Addr} {xs : List V} {y : V}
theorem i_app (h : to σ H fun x H1 => tyV K "list" x H1 ∧ A σ H1 fun vs H2 => rAppend x vs H2 Q) : tApp K to A σ H Q := h
theorem i_tyL {R : Prop} (h0 : SqL K H l xs) (h : R) : tyV K "list" (.ref l) H ∧ R := ⟨.inl ⟨rfl, xs, h0⟩, h⟩
theorem i_rapp (h1 : H l = some (.lst xs)) (h2 : xs.length < sizeLine) (h : Q .non (upd H l (.lst (xs ++ [y])))) : rAppend (.ref l) [y] H Q := ⟨l, xs, y, rfl, rfl, h1, h2, h⟩
end
/-- [.. for k in range(n)], nothing older changed -/
theorem lc_rng {g : TG} {tt : TT} {te : TE} {vs : List Nat} {σ : St} {H1 : Hp} {D : Addr} {Qd : Hp → Prop} {n : Nat} (f : Nat → V) (hl : n ≤ 1000) (hD : H1 D = none)
    (hs : ∀ i, i < n → ∀ H (Q : VK) (R : Hp → Prop), Same H1 H → (∀ H', Same H H' → Q (f i) H') → g (.int (0 + i)) (wipe σ vs) H fun σ2 H2 => wipe σ2 vs = wipe σ vs ∧ tt σ2 H2 fun b H3 => if b = true then te σ2 H3 Q else R H3)
    (hd : ∀ H, Same H1 H → H D = some (.lst ((List.range n).map f)) → Qd H) :
    ∃ W : Nat → Nat → Hp → Prop, (∃ m, W 0 m (upd H1 D (.lst []))) ∧ ∀ i m H, W i m H →
      ((Itr 0 n).stop i H ∧ Qd H) ∨ ((Itr 0 n).go i H ∧ ∃ Nx : Hp → Prop, (∀ H', Nx H' → ∃ m', m' < m ∧ W (i + 1) m' H') ∧ ∀ x H', (Itr 0 n).yld i H x H' → g x (wipe σ vs) H' fun σ2 H2 => wipe σ2 vs = wipe σ vs ∧ tt σ2 H2 fun b H3 =>
        if b = true then te σ2 H3 fun y H4 => ∃ acc, H4 D = some (.lst acc) ∧ acc.length < sizeLine ∧ Nx (upd H4 D (.lst (acc ++ [y]))) else Nx H3) := by
  refine lc_it walk_range (fun i H => Same H1 H ∧ H D = some (.lst ((List.range i).map f))) ⟨same_upd (Same.refl H1) hD, upd_same⟩ (fun i H _ _ => trivial) ?_ (fun H h => hd H h.1 h.2)
  rintro i v H H' hi ⟨s1, e1⟩ ⟨rfl, rfl⟩
  refine hs i hi H' _ _ s1 fun H4 s4 => ⟨_, s4 _ _ e1, small1000 (by rw [List.length_map, List.length_range]; omega), fun b o q => ?_, ?_⟩
  · rw [upd_ne (ne_of_none q hD)]
    exact s4 _ _ (s1 _ _ q)
  · rw [upd_same, List.range_succ, List.map_append]
    rfl
theorem atI_D {ns : List Int} {i : Nat} (h : i < ns.length) : atI (ns.map V.int) (0 + (i : Int)) = some (.int (ns.getD i 0)) := by
  rw [Int.zero_add]
  refine atI_nat ?_
  rw [List.getElem?_map, List.getD_eq_getElem?_getD, List.getElem?_eq_getElem h]
  rfl
theorem rng_zip {α : Type} (f : Int → Int → α) {ns ms : List Int} (e : ms.length = ns.length) : (List.range ns.length).map (fun i => f (ns.getD i 0) (ms.getD i 0)) = List.zipWith f ns ms := by
  refine List.ext_getElem (by simp [e]) fun i h1 h2 => ?_
  simp only [List.length_map, List.length_range] at h1
  simp [List.getD_eq_getElem?_getD, List.getElem?_eq_getElem h1, List.getElem?_eq_getElem (show i < ms.length by omega)]
theorem i_intB {H : Hp} {Q : VK} {k : Bool} (h : Q (.int (if k then 1 else 0)) H) : rIntU [.bl k] H Q := h
theorem i_intI {H : Hp} {Q : VK} {i : Int} (h : Q (.int i) H) : rIntU [.int i] H Q := h
/-! ### comprehensions whose items are told by a word that holds of later heaps, too -/
theorem Rd.butO {H H' : Hp} {p D : Addr} {o u : HO} (hD : H D = some o) (n1 : o ≠ u) (n2 : ∀ b, o ≠ .frz b u) (s : SameBut D H H') (h : Rd H p u) : Rd H' p u := by
  rcases h with h | ⟨b, h⟩
  · exact .inl (s _ _ (ne_of h hD (Ne.symm n1)) h)
  · exact .inr ⟨b, s _ _ (ne_of h hD (Ne.symm (n2 b))) h⟩
theorem SqT.butL {K : PySem.W.Frag} {H H' : Hp} {p D : Addr} {acc xs : List V} (hD : H D = some (.lst acc)) (s : SameBut D H H') (h : SqT K H p xs) : SqT K H' p xs := by
  rcases h with h | h
  · exact .inl (Rd.butO hD (by intro z; cases z) (by intro b z; cases z) s h)
  · exact .inr h
/-- [.. for x in xs if ..]: each item keeps Pr, whatever is done later at the list itself -/
theorem lc_pr {J : It} {G : Hp → Prop} {g : TG} {tt : TT} {te : TE} {vs : List Nat} {σ : St} {H1 : Hp} {D : Addr} {Qd : Hp → Prop} {n : Nat} (at_ : Nat → V → Prop) (Pr : Hp → V → Prop) (w : Walk J n G fun i H x H' => H' = H ∧ at_ i x) (hl : n < sizeLine)
    (mono : ∀ H H' y, (∀ acc, H D = some (.lst acc) → SameBut D H H' → Pr H y → Pr H' y)) (hG : ∀ H, Same H1 H → G H) (hD : H1 D = none)
    (hs : ∀ i x, i < n → at_ i x → ∀ H (Q : VK) (R : Hp → Prop), Same H1 H → (∃ acc, H D = some (.lst acc)) → (∀ y H', Same H H' → Pr H' y → Q y H') → (∀ H', Same H H' → R H') → g x (wipe σ vs) H fun σ2 H2 => wipe σ2 vs = wipe σ vs ∧ tt σ2 H2 fun b H3 => if b = true then te σ2 H3 Q else R H3)
    (hd : ∀ H ys, Same H1 H → H D = some (.lst ys) → ys.length ≤ n → (∀ y ∈ ys, Pr H y) → Qd H) :
    ∃ W : Nat → Nat → Hp → Prop, (∃ m, W 0 m (upd H1 D (.lst []))) ∧ ∀ i m H, W i m H →
      (J.stop i H ∧ Qd H) ∨ (J.go i H ∧ ∃ Nx : Hp → Prop, (∀ H', Nx H' → ∃ m', m' < m ∧ W (i + 1) m' H') ∧ ∀ x H', J.yld i H x H' → g x (wipe σ vs) H' fun σ2 H2 => wipe σ2 vs = wipe σ vs ∧ tt σ2 H2 fun b H3 =>
        if b = true then te σ2 H3 fun y H4 => ∃ acc, H4 D = some (.lst acc) ∧ acc.length < sizeLine ∧ Nx (upd H4 D (.lst (acc ++ [y]))) else Nx H3) := by
  have sb : ∀ {H o}, Same H1 H → Same H1 (upd H D o) := fun {H o} s b u e => by
    rw [upd_ne (ne_of_none e hD)]
    exact s b u e
  refine lc_it w (fun i H => Same H1 H ∧ ∃ ys, H D = some (.lst ys) ∧ ys.length ≤ i ∧ ∀ y ∈ ys, Pr H y) ⟨sb (Same.refl H1), [], upd_same, Nat.le_refl _, fun _ h => nomatch h⟩ (fun i H _ h => hG H h.1) ?_ ?_
  · rintro i v H H' hi ⟨s1, ys, e2, e3, e4⟩ ⟨rfl, hx⟩
    refine hs i v hi hx H' _ _ s1 ⟨ys, e2⟩ (fun y H4 s4 hy => ?_) (fun H4 s4 => ?_)
    · have e5 := s4 _ _ e2
      have sD : SameBut D H4 (upd H4 D (.lst (ys ++ [y]))) := SameBut.upd _ _ _
      refine ⟨ys, e5, Nat.lt_of_le_of_lt (by omega) hl, sb (s1.trans s4), _, upd_same, by rw [List.length_append]; show ys.length + 1 ≤ i + 1; omega, fun z hz => ?_⟩
      rcases List.mem_append.mp hz with h | h
      · exact mono _ _ _ _ e5 sD (mono _ _ _ _ e2 (SameBut.of s4) (e4 z h))
      · rw [List.mem_singleton.mp h]
        exact mono _ _ _ _ e5 sD hy
    · exact ⟨s1.trans s4, ys, s4 _ _ e2, by omega, fun z hz => mono _ _ _ _ e2 (SameBut.of s4) (e4 z hz)⟩
  · rintro H ⟨s1, ys, e2, e3, e4⟩
    exact hd H ys s1 e2 e3 e4
/-- [.. for x in xs]: of each item the one at its place -/
theorem lc_rel {J : It} {G : Hp → Prop} {g : TG} {tt : TT} {te : TE} {vs : List Nat} {σ : St} {H1 : Hp} {D : Addr} {Qd : Hp → Prop} {n : Nat} (at_ : Nat → V → Prop) (Rl : Nat → Hp → V → Prop) (w : Walk J n G fun i H x H' => H' = H ∧ at_ i x) (hl : n < sizeLine)
    (mono : ∀ i H H' y, (∀ acc, H D = some (.lst acc) → SameBut D H H' → Rl i H y → Rl i H' y)) (hG : ∀ H, Same H1 H → G H) (hD : H1 D = none)
    (hs : ∀ i x, i < n → at_ i x → ∀ H (Q : VK) (R : Hp → Prop), Same H1 H → (∃ acc, H D = some (.lst acc)) → (∀ y H', Same H H' → Rl i H' y → Q y H') → g x (wipe σ vs) H fun σ2 H2 => wipe σ2 vs = wipe σ vs ∧ tt σ2 H2 fun b H3 => if b = true then te σ2 H3 Q else R H3)
    (hd : ∀ H (ys : List V), Same H1 H → H D = some (.lst ys) → ys.length = n → (∀ (i : Nat) (y : V), ys[i]? = some y → Rl i H y) → Qd H) :
    ∃ W : Nat → Nat → Hp → Prop, (∃ m, W 0 m (upd H1 D (.lst []))) ∧ ∀ i m H, W i m H →
      (J.stop i H ∧ Qd H) ∨ (J.go i H ∧ ∃ Nx : Hp → Prop, (∀ H', Nx H' → ∃ m', m' < m ∧ W (i + 1) m' H') ∧ ∀ x H', J.yld i H x H' → g x (wipe σ vs) H' fun σ2 H2 => wipe σ2 vs = wipe σ vs ∧ tt σ2 H2 fun b H3 =>
        if b = true then te σ2 H3 fun y H4 => ∃ acc, H4 D = some (.lst acc) ∧ acc.length < sizeLine ∧ Nx (upd H4 D (.lst (acc ++ [y]))) else Nx H3) := by
  have sb : ∀ {H o}, Same H1 H → Same H1 (upd H D o) := fun {H o} s b u e => by
    rw [upd_ne (ne_of_none e hD)]
    exact s b u e
  refine lc_it w (fun i H => Same H1 H ∧ ∃ ys, H D = some (.lst ys) ∧ ys.length = i ∧ ∀ j y, ys[j]? = some y → Rl j H y) ⟨sb (Same.refl H1), [], upd_same, rfl, fun j y h => by simp at h⟩ (fun i H _ h => hG H h.1) ?_ ?_
  · rintro i v H H' hi ⟨s1, ys, e2, e3, e4⟩ ⟨rfl, hx⟩
    refine hs i v hi hx H' _ _ s1 ⟨ys, e2⟩ (fun y H4 s4 hy => ?_)
    have e5 := s4 _ _ e2
    have sD : SameBut D H4 (upd H4 D (.lst (ys ++ [y]))) := SameBut.upd _ _ _
    refine ⟨ys, e5, Nat.lt_of_le_of_lt (by omega) hl, sb (s1.trans s4), _, upd_same, by rw [List.length_append, e3]; rfl, fun j z hz => ?_⟩
    by_cases c : j < ys.length
    · rw [List.getElem?_append_left c] at hz
      exact mono _ _ _ _ _ e5 sD (mono _ _ _ _ _ e2 (SameBut.of s4) (e4 j z hz))
    · rw [List.getElem?_append_right (by omega)] at hz
      have hj : j - ys.length = 0 := by
        have := (List.getElem?_eq_some_iff.mp hz).1
        simp at this
        omega
      rw [hj] at hz
      obtain rfl := Option.some.inj hz
      have : j = i := by omega
      subst this
      exact mono _ _ _ _ _ e5 sD hy
  · rintro H ⟨s1, ys, e2, e3, e4⟩
    exact hd H ys s1 e2 e3 e4
theorem EqV.selfI {K : PySem.W.Frag} {x : V} {H : Hp} {R : (Kd → Bool) → Option Addr → Prop} {n : Nat} (h : isO K x H R) : EqV K H n x x true := by
  cases x with
  | non => exact .flat rfl
  | bl b => exact .flat (by simp [eqF])
  | int i => exact .flat (by simp [eqF])
  | str z => exact .flat (by simp [eqF])
  | ref p => exact .one
  | _ => exact h.elim
theorem lc_prL {K : PySem.W.Frag} {a : Addr} {xs : List V} {g : TG} {tt : TT} {te : TE} {vs : List Nat} {σ : St} {H1 : Hp} {D : Addr} {Qd : Hp → Prop} (Pr : Hp → V → Prop) (h0 : SqL K H1 a xs) (hD : H1 D = none) (hl : xs.length ≤ 1000)
    (mono : ∀ H H' y, (∀ acc, H D = some (.lst acc) → SameBut D H H' → Pr H y → Pr H' y))
    (hs : ∀ x ∈ xs, ∀ H (Q : VK) (R : Hp → Prop), Same H1 H → (∃ acc, H D = some (.lst acc)) → (∀ y H', Same H H' → Pr H' y → Q y H') → (∀ H', Same H H' → R H') → g x (wipe σ vs) H fun σ2 H2 => wipe σ2 vs = wipe σ vs ∧ tt σ2 H2 fun b H3 => if b = true then te σ2 H3 Q else R H3)
    (hd : ∀ H ys, Same H1 H → H D = some (.lst ys) → ys.length ≤ xs.length → (∀ y ∈ ys, Pr H y) → Qd H) :
    ∃ W : Nat → Nat → Hp → Prop, (∃ m, W 0 m (upd H1 D (.lst []))) ∧ ∀ i m H, W i m H →
      ((Itl K a).stop i H ∧ Qd H) ∨ ((Itl K a).go i H ∧ ∃ Nx : Hp → Prop, (∀ H', Nx H' → ∃ m', m' < m ∧ W (i + 1) m' H') ∧ ∀ x H', (Itl K a).yld i H x H' → g x (wipe σ vs) H' fun σ2 H2 => wipe σ2 vs = wipe σ vs ∧ tt σ2 H2 fun b H3 =>
        if b = true then te σ2 H3 fun y H4 => ∃ acc, H4 D = some (.lst acc) ∧ acc.length < sizeLine ∧ Nx (upd H4 D (.lst (acc ++ [y]))) else Nx H3) :=
  lc_pr (fun i x => xs[i]? = some x) Pr walk_list (small1000 hl) mono (fun _ s => Same.seq s h0) hD (fun _ x _ hx => hs x (List.mem_of_getElem? hx)) hd
theorem lc_relL {K : PySem.W.Frag} {a : Addr} {xs : List V} {g : TG} {tt : TT} {te : TE} {vs : List Nat} {σ : St} {H1 : Hp} {D : Addr} {Qd : Hp → Prop} (Rl : Hp → V → V → Prop) (h0 : SqL K H1 a xs) (hD : H1 D = none) (hl : xs.length ≤ 1000)
    (mono : ∀ x H H' y, (∀ acc, H D = some (.lst acc) → SameBut D H H' → Rl H x y → Rl H' x y))
    (hs : ∀ x ∈ xs, ∀ H (Q : VK) (R : Hp → Prop), Same H1 H → (∃ acc, H D = some (.lst acc)) → (∀ y H', Same H H' → Rl H' x y → Q y H') → g x (wipe σ vs) H fun σ2 H2 => wipe σ2 vs = wipe σ vs ∧ tt σ2 H2 fun b H3 => if b = true then te σ2 H3 Q else R H3)
    (hd : ∀ H (ys : List V), Same H1 H → H D = some (.lst ys) → ys.length = xs.length → (∀ (i : Nat) (x y : V), xs[i]? = some x → ys[i]? = some y → Rl H x y) → Qd H) :
    ∃ W : Nat → Nat → Hp → Prop, (∃ m, W 0 m (upd H1 D (.lst []))) ∧ ∀ i m H, W i m H →
      ((Itl K a).stop i H ∧ Qd H) ∨ ((Itl K a).go i H ∧ ∃ Nx : Hp → Prop, (∀ H', Nx H' → ∃ m', m' < m ∧ W (i + 1) m' H') ∧ ∀ x H', (Itl K a).yld i H x H' → g x (wipe σ vs) H' fun σ2 H2 => wipe σ2 vs = wipe σ vs ∧ tt σ2 H2 fun b H3 =>
        if b = true then te σ2 H3 fun y H4 => ∃ acc, H4 D = some (.lst acc) ∧ acc.length < sizeLine ∧ Nx (upd H4 D (.lst (acc ++ [y]))) else Nx H3) :=
  lc_rel (fun i x => xs[i]? = some x) (fun i H y => ∀ x, xs[i]? = some x → Rl H x y) walk_list (small1000 hl) (fun i H H' y acc e s h x hx => mono x H H' y acc e s (h x hx)) (fun _ s => Same.seq s h0) hD
    (fun i x _ hx H Q R s e k => hs x (List.mem_of_getElem? hx) H Q R s e fun y H' s' r => k y H' s' fun x' hx' => by rw [hx] at hx'; cases hx'; exact r) (fun H ys s e l h => hd H ys s e l fun i x y hx hy => h i y hy x hx)
/-- for k in range(n): nothing older than the loop is changed -/
theorem for_rngS {n : Nat} {g : TG} {tb : TS} {D : Ends} {σ : St} {H : Hp} (S : St → Prop) (h0 : S σ)
    (hs : ∀ (i : Nat) σ H', i < n → S σ → Same H H' → g (.int (0 + i)) σ H' fun σ2 H2 => tb { D with nx := fun σ H' => S σ ∧ Same H H', ct := fun σ H' => S σ ∧ Same H H', bk := D.nx } σ2 H2) (hd : ∀ σ H', S σ → Same H H' → D.nx σ H') :
    ∃ W : Nat → Nat → St → Hp → Prop, (∃ m, W 0 m σ H) ∧ ∀ i m σ H, W i m σ H →
      ((Itr 0 n).stop i H ∧ D.nx σ H) ∨ ((Itr 0 n).go i H ∧ ∃ N : St → Hp → Prop, (∀ σ' H', N σ' H' → ∃ m', m' < m ∧ W (i + 1) m' σ' H') ∧ ∀ x H', (Itr 0 n).yld i H x H' → g x σ H' fun σ2 H2 => tb { D with nx := N, ct := N, bk := D.nx } σ2 H2) :=
  for_range (lo := 0) (fun _ σ H' => S σ ∧ Same H H') ⟨h0, Same.refl _⟩ (fun i σ H' hi h => hs i σ H' hi h.1 h.2) (fun σ H' h => hd σ H' h.1 h.2)
theorem i_rep1 {H : Hp} {Q : VK} {p : Addr} {z m : Int} (h1 : H p = some (.lst [.int z])) (h2 : -1000 ≤ m ∧ m ≤ 1000) (h : ∀ q, H q = none → Q (.ref q) (upd H q (.lst ((List.replicate m.toNat z).map V.int)))) : rMulU (.ref p) (.int m) H Q := by
  refine ⟨p, m, _, rfl, rfl, h1, by omega, by omega, line_le (by simp only [List.length_cons, List.length_nil]; omega), fun q hq => ?_⟩
  have e : (List.replicate m.toNat [V.int z]).flatten = (List.replicate m.toNat z).map V.int := by
    generalize m.toNat = k
    induction k with
    | zero => rfl
    | succ k ih => rw [List.replicate_succ, List.flatten_cons, ih]; rfl
  rw [e]
  exact h q hq
theorem nn_rep {z : Int} {k : Nat} (h : 0 ≤ z) : ∀ n ∈ List.replicate k z, 0 ≤ n := fun n hn => by rw [List.eq_of_mem_replicate hn]; exact h
theorem lc_rel2L {K : PySem.W.Frag} {a : Addr} {xs : List V} {g : TG} {tt : TT} {te : TE} {vs : List Nat} {σ : St} {H1 : Hp} {D : Addr} {Qd : Hp → Prop} (Rl : Nat → Hp → V → Prop) (h0 : SqL K H1 a xs) (hD : H1 D = none) (hl : xs.length ≤ 1000)
    (mono : ∀ i H H' y, (∀ acc, H D = some (.lst acc) → SameBut D H H' → Rl i H y → Rl i H' y))
    (hs : ∀ i x, xs[i]? = some x → ∀ H (Q : VK) (R : Hp → Prop), Same H1 H → (∃ acc, H D = some (.lst acc)) → (∀ y H', Same H H' → Rl i H' y → Q y H') → g x (wipe σ vs) H fun σ2 H2 => wipe σ2 vs = wipe σ vs ∧ tt σ2 H2 fun b H3 => if b = true then te σ2 H3 Q else R H3)
    (hd : ∀ H (ys : List V), Same H1 H → H D = some (.lst ys) → ys.length = xs.length → (∀ (i : Nat) (y : V), ys[i]? = some y → Rl i H y) → Qd H) :
    ∃ W : Nat → Nat → Hp → Prop, (∃ m, W 0 m (upd H1 D (.lst []))) ∧ ∀ i m H, W i m H →
      ((Itl K a).stop i H ∧ Qd H) ∨ ((Itl K a).go i H ∧ ∃ Nx : Hp → Prop, (∀ H', Nx H' → ∃ m', m' < m ∧ W (i + 1) m' H') ∧ ∀ x H', (Itl K a).yld i H x H' → g x (wipe σ vs) H' fun σ2 H2 => wipe σ2 vs = wipe σ vs ∧ tt σ2 H2 fun b H3 =>
        if b = true then te σ2 H3 fun y H4 => ∃ acc, H4 D = some (.lst acc) ∧ acc.length < sizeLine ∧ Nx (upd H4 D (.lst (acc ++ [y]))) else Nx H3) :=
  lc_rel (fun i x => xs[i]? = some x) Rl walk_list (small1000 hl) mono (fun _ s => Same.seq s h0) hD (fun i x _ hx => hs i x hx) hd
theorem lc_rel2T {K : PySem.W.Frag} {a : Addr} {xs : List V} {g : TG} {tt : TT} {te : TE} {vs : List Nat} {σ : St} {H1 : Hp} {D : Addr} {Qd : Hp → Prop} (Rl : Nat → Hp → V → Prop) (h0 : SqT K H1 a xs) (hD : H1 D = none) (hl : xs.length ≤ 1000)
    (mono : ∀ i H H' y, (∀ acc, H D = some (.lst acc) → SameBut D H H' → Rl i H y → Rl i H' y))
    (hs : ∀ i x, xs[i]? = some x → ∀ H (Q : VK) (R : Hp → Prop), Same H1 H → (∃ acc, H D = some (.lst acc)) → (∀ y H', Same H H' → Rl i H' y → Q y H') → g x (wipe σ vs) H fun σ2 H2 => wipe σ2 vs = wipe σ vs ∧ tt σ2 H2 fun b H3 => if b = true then te σ2 H3 Q else R H3)
    (hd : ∀ H (ys : List V), Same H1 H → H D = some (.lst ys) → ys.length = xs.length → (∀ (i : Nat) (y : V), ys[i]? = some y → Rl i H y) → Qd H) :
    ∃ W : Nat → Nat → Hp → Prop, (∃ m, W 0 m (upd H1 D (.lst []))) ∧ ∀ i m H, W i m H →
      ((Itt K a).stop i H ∧ Qd H) ∨ ((Itt K a).go i H ∧ ∃ Nx : Hp → Prop, (∀ H', Nx H' → ∃ m', m' < m ∧ W (i + 1) m' H') ∧ ∀ x H', (Itt K a).yld i H x H' → g x (wipe σ vs) H' fun σ2 H2 => wipe σ2 vs = wipe σ vs ∧ tt σ2 H2 fun b H3 =>
        if b = true then te σ2 H3 fun y H4 => ∃ acc, H4 D = some (.lst acc) ∧ acc.length < sizeLine ∧ Nx (upd H4 D (.lst (acc ++ [y]))) else Nx H3) :=
  lc_rel (fun i x => xs[i]? = some x) Rl walk_tup (small1000 hl) mono (fun _ s => SqT.same s h0) hD (fun i x _ hx => hs i x hx) hd
def flatV : V → Bool
  | .non => true
  | .bl _ => true
  | .int _ => true
  | .str _ => true
  | _ => false
theorem EqV.selfB {K : PySem.W.Frag} {x : V} {H : Hp} {n : Nat} (h : flatV x = true) : EqV K H n x x true := by
  cases x <;> first | (cases h; done) | exact .flat (by simp [eqF])
def plainO : HO → Bool
  | .lst _ => true
  | .tup _ => true
  | .dK _ => true
  | .dT _ => true
  | _ => false
theorem EqVs.selfs {K : PySem.W.Frag} {H : Hp} {n : Nat} : ∀ {xs : List V}, (∀ x ∈ xs, EqV K H n x x true) → EqVs K H n xs xs true
  | [], _ => .nil
  | x :: xs, h => .cons (b := true) (c := true) (h x List.mem_cons_self) (EqVs.selfs fun y hy => h y (List.mem_cons_of_mem _ hy))
theorem isO_mono {K : PySem.W.Frag} {x : V} {H : Hp} {R R' : (Kd → Bool) → Option Addr → Prop} (h : isO K x H R) (m : ∀ f c, R f c → R' f c) : isO K x H R' := by
  cases x with
  | ref a =>
    obtain ⟨o, ho, h⟩ := h
    refine ⟨o, ho, ?_⟩
    cases o <;> first | exact m _ _ h | exact h.elim | exact ⟨h.1, h.2.1, m _ _ h.2.2⟩
  | _ => first | exact m _ _ h | exact h.elim
/-- no instance of a class of the text -/
def NoC (K : PySem.W.Frag) (H : Hp) (x : V) : Prop := isO K x H fun _ c => c = none
def NoSeq (K : PySem.W.Frag) (H : Hp) (x : V) : Prop := isO K x H fun f _ => f .lst = false ∧ f .tup = false
theorem isO_same {K : PySem.W.Frag} {x : V} {H H' : Hp} {R : (Kd → Bool) → Option Addr → Prop} (s : Same H H') (h : isO K x H R) : isO K x H' R := by
  cases x with
  | ref a =>
    obtain ⟨o, ho, h⟩ := h
    exact ⟨o, ho.same s, h⟩
  | _ => exact h
theorem NoC.same {K : PySem.W.Frag} {H H' : Hp} {x : V} (s : Same H H') (h : NoC K H x) : NoC K H' x := isO_same s h
theorem NoC.ofG {K : PySem.W.Frag} {H : Hp} {p : Addr} {o : HO} (h : H p = some o) (e : plainO o = true) : NoC K H (.ref p) := by
  refine ⟨o, .of h, ?_⟩
  cases o <;> first | (cases e; done) | rfl
theorem NoC.non {K : PySem.W.Frag} {H : Hp} : NoC K H .non := rfl
theorem NoC.bl {K : PySem.W.Frag} {H : Hp} {b : Bool} : NoC K H (.bl b) := rfl
theorem NoC.int {K : PySem.W.Frag} {H : Hp} {b : Int} : NoC K H (.int b) := rfl
theorem NoC.str {K : PySem.W.Frag} {H : Hp} {b : Str} : NoC K H (.str b) := rfl
theorem EqV.noc {K : PySem.W.Frag} {x : V} {H : Hp} {n : Nat} (h : NoC K H x) : EqV K H n x x true := EqV.selfI h
/-! what is new later is new now -/
theorem none_upd {H : Hp} {p D : Addr} {o : HO} (h : upd H p o D = none) : H D = none := by
  by_cases e : D = p
  · subst e
    rw [upd_same] at h
    cases h
  · rw [upd_ne e] at h
    exact h
theorem none_same {H H' : Hp} {D : Addr} (s : Same H H') (h : H' D = none) : H D = none := by
  cases e : H D with
  | none => rfl
  | some o =>
    have := s _ _ e
    rw [h] at this
    cases this
theorem none_but {H H' : Hp} {p D : Addr} {o : HO} (s : SameBut p H H') (hp : H' p = some o) (h : H' D = none) : H D = none := by
  cases e : H D with
  | none => rfl
  | some o =>
    by_cases c : D = p
    · subst c
      rw [h] at hp
      cases hp
    · have := s _ _ c e
      rw [h] at this
      cases this
section
open PySem.Spec
open PyProof.Rows hiding St
/-! ### xs[::-1] -/
def tRev (K : PySem.W.Frag) (te : TE) (th : TO) : TE := fun σ H Q => te σ H fun x H1 => th σ H1 fun o H2 => o = some (-1) ∧ ∃ a xs, x = .ref a ∧ SqL K H2 a xs ∧ ∀ p, H2 p = none → Q (.ref p) (upd H2 p (.lst xs.reverse))
theorem pe_rev {X : Cx} {e : Expr} {st : Option Expr} {te : TE} {th : TO} {pos p2 : Pos} {K : PySem.W.Frag} (he : PE X e te) (hu : PO X st th) (hs : ∀ a sl : Addr, subscripted (.Slice none none st p2) false (.ref a) (.ref sl) = operate [.ref a, .ref sl] (getItem (.ref a) (.ref sl)) := by intro _ _; rfl) (hK : X.K = K := by rfl) : PE X (.Subscript e (.Slice none none st p2) pos) (tRev K te th) := by
  subst hK
  refine ⟨fun pins s σ H Q I h => ?_⟩
  refine Subscript_ (thn (he.run pins s σ H _ I h) fun v s1 ⟨x, H1, I1, r1, q1⟩ => ?_)
  refine wpAny_Slice ?_
  rw [evalPart_none]
  refine wpAny_pure ?_
  refine wpAny_pure ?_
  refine thn (hu.run pins s1 σ H1 _ I1 q1) fun vu s3 ⟨u, H3, I3, pu, eu, a, xs, ex, hx, q⟩ => ?_
  subst eu
  subst ex
  cases r1
  have I4 : Inv X pins σ H3 { s3 with heap := s3.heap.push { cls := .type "slice", data := .fields #[.none, .none, vu] } } := I3.kept (t' := s3.toks) fun b ob q => Heap.get?_push_of_some _ q
  obtain ⟨its, r, ht, hz⟩ := I4.list hx
  have hlen := r.length
  refine tail_any (ops := [.ref a, .ref s3.heap.objs.size]) ht.isList.typeIs slot_list_getitem.lookup ?_ (hs _ _)
  refine wpAny_getItem_list_slice ht.isList (Heap.IsSliceOf.new ..) .none .none pu (by decide) ?_ (by rw [List.size_toArray] <;> omega)
  rw [PySem.W.krv_pick]
  refine ⟨.ref _, _, I4.laid (t' := s3.toks) (o := .lst xs.reverse) (fun b ob q => Heap.get?_push_of_some _ q) (Nat.le_refl _) ?_, rfl, q _ (I4.hok.fresh (Nat.le_refl _))⟩
  exact ⟨by rw [List.length_reverse]; exact hz, _, 0, r.reverse, Heap.get?_push_size _ rfl⟩
end
theorem i_rev {K : PySem.W.Frag} {te : TE} {th : TO} {σ : St} {H : Hp} {Q : VK} (h : te σ H fun x H1 => th σ H1 fun o H2 => o = some (-1) ∧ ∃ a xs, x = .ref a ∧ SqL K H2 a xs ∧ ∀ p, H2 p = none → Q (.ref p) (upd H2 p (.lst xs.reverse))) : tRev K te th σ H Q := h
theorem i_revL {K : PySem.W.Frag} {H : Hp} {a : Addr} {xs : List V} {n : Int} {R : Addr → List V → Prop} (e : n = -1) (h1 : SqL K H a xs) (h : R a xs) : some n = some (-1) ∧ ∃ b xs, V.ref a = .ref b ∧ SqL K H b xs ∧ R b xs := ⟨by rw [e], a, xs, rfl, h1, h⟩
theorem NoSeq.same {K : PySem.W.Frag} {H H' : Hp} {x : V} (s : Same H H') (h : NoSeq K H x) : NoSeq K H' x := isO_same s h
theorem NoSeq.flat {K : PySem.W.Frag} {H : Hp} {x : V} (h : flatV x = true) : NoSeq K H x := by
  cases x <;> first | (cases h; done) | exact ⟨rfl, rfl⟩
theorem NoSeq.dict {K : PySem.W.Frag} {H : Hp} {p : Addr} {kvs : List (Key × V)} (h : H p = some (.dK kvs)) : NoSeq K H (.ref p) := ⟨_, .of h, rfl, rfl⟩
theorem NoSeq.inst {K : PySem.W.Frag} {H : Hp} {p C dx : Addr} {fs : List (Str × V)} (h : H p = some (.ins C dx fs)) (c : Cls K C) (i : IsC K C) : NoSeq K H (.ref p) := ⟨_, .of h, c, i, rfl, rfl⟩
theorem NoC.flat {K : PySem.W.Frag} {H : Hp} {x : V} (h : flatV x = true) : NoC K H x := by
  cases x <;> first | (cases h; done) | rfl
theorem NoC.sqL {K : PySem.W.Frag} {H : Hp} {p : Addr} {xs : List V} (h : SqL K H p xs) : NoC K H (.ref p) := ⟨.lst xs, h, rfl⟩
theorem NoC.sqT {K : PySem.W.Frag} {H : Hp} {p : Addr} {xs : List V} (h : SqT K H p xs) : NoC K H (.ref p) := ⟨.tup xs, h, rfl⟩
theorem i_isiBsN {K : PySem.W.Frag} {H : Hp} {Q : VK} {x : V} {p : Addr} (h0 : H p = some (.tup ([Kd.lst, Kd.tup].map fun d => .ty d.name))) (hn : NoSeq K H x) (h : Q (.bl false) H) : rIsiBs [.lst, .tup] K [x, .ref p] H Q := by
  refine ⟨x, p, rfl, h0, isO_mono hn fun f c e => ?_⟩
  have ea : [Kd.lst, Kd.tup].any f = false := by simp [e.1, e.2]
  rw [ea]
  exact h
theorem i_isiLN {K : PySem.W.Frag} {H : Hp} {Q : VK} {x : V} (hn : NoSeq K H x) (h : Q (.bl false) H) : rIsiB .lst K [x, .ty "list"] H Q := ⟨x, rfl, isO_mono hn fun f c e => by rw [e.1]; exact h⟩
theorem i_isiTN {K : PySem.W.Frag} {H : Hp} {Q : VK} {x : V} (hn : NoSeq K H x) (h : Q (.bl false) H) : rIsiB .tup K [x, .ty "tuple"] H Q := ⟨x, rfl, isO_mono hn fun f c e => by rw [e.2]; exact h⟩
theorem i_isiCN {K : PySem.W.Frag} {H : Hp} {Q : VK} {x : V} {C : Addr} (hn : NoC K H x) (h : Q (.bl false) H) : rIsiC C K [x, .ref C] H Q := ⟨x, rfl, isO_mono hn fun f c e => by subst e; exact h⟩
/-- for x in a tuple: nothing older than the loop is changed -/
theorem for_seqI {K : PySem.W.Frag} {a : Addr} {xs : List V} {g : TG} {tb : TS} {D : Ends} {σ : St} {H : Hp} (Pv : Nat → St → Hp → Prop) (hT : SqT K H a xs) (h0 : Pv 0 σ H)
    (hs : ∀ (i : Nat) x σ H', xs[i]? = some x → Same H H' → Pv i σ H' → g x σ H' fun σ2 H2 => tb { D with nx := fun σ H' => Same H H' ∧ Pv (i + 1) σ H', ct := fun σ H' => Same H H' ∧ Pv (i + 1) σ H', bk := D.nx } σ2 H2) (hd : ∀ σ H', Same H H' → Pv xs.length σ H' → D.nx σ H') :
    ∃ W : Nat → Nat → St → Hp → Prop, (∃ m, W 0 m σ H) ∧ ∀ i m σ H, W i m σ H →
      ((Itt K a).stop i H ∧ D.nx σ H) ∨ ((Itt K a).go i H ∧ ∃ N : St → Hp → Prop, (∀ σ' H', N σ' H' → ∃ m', m' < m ∧ W (i + 1) m' σ' H') ∧ ∀ x H', (Itt K a).yld i H x H' → g x σ H' fun σ2 H2 => tb { D with nx := N, ct := N, bk := D.nx } σ2 H2) :=
  for_tup (xs := xs) (fun i σ H' => Same H H' ∧ Pv i σ H') ⟨Same.refl _, h0⟩ (fun _ _ _ _ h => SqT.same h.1 hT) (fun i y σ H' hi h => hs i y σ H' hi h.1 h.2) (fun σ H' h => hd σ H' h.1 h.2)
theorem for_seqL {K : PySem.W.Frag} {a : Addr} {xs : List V} {g : TG} {tb : TS} {D : Ends} {σ : St} {H : Hp} (Pv : Nat → St → Hp → Prop) (hT : SqL K H a xs) (h0 : Pv 0 σ H)
    (hs : ∀ (i : Nat) x σ H', xs[i]? = some x → Same H H' → Pv i σ H' → g x σ H' fun σ2 H2 => tb { D with nx := fun σ H' => Same H H' ∧ Pv (i + 1) σ H', ct := fun σ H' => Same H H' ∧ Pv (i + 1) σ H', bk := D.nx } σ2 H2) (hd : ∀ σ H', Same H H' → Pv xs.length σ H' → D.nx σ H') :
    ∃ W : Nat → Nat → St → Hp → Prop, (∃ m, W 0 m σ H) ∧ ∀ i m σ H, W i m σ H →
      ((Itl K a).stop i H ∧ D.nx σ H) ∨ ((Itl K a).go i H ∧ ∃ N : St → Hp → Prop, (∀ σ' H', N σ' H' → ∃ m', m' < m ∧ W (i + 1) m' σ' H') ∧ ∀ x H', (Itl K a).yld i H x H' → g x σ H' fun σ2 H2 => tb { D with nx := N, ct := N, bk := D.nx } σ2 H2) :=
  for_list (xs := xs) (fun i σ H' => Same H H' ∧ Pv i σ H') ⟨Same.refl _, h0⟩ (fun _ _ _ _ h => Same.seq h.1 hT) (fun i y σ H' hi h => hs i y σ H' hi h.1 h.2) (fun σ H' h => hd σ H' h.1 h.2)
theorem i_nn {R : Prop} (h : R) : V.non = V.non ∧ R := ⟨rfl, h⟩
/-- a tuple of these ints -/
def TpAt (K : PySem.W.Frag) (H : Hp) (y : V) (ns : List Int) : Prop := ∃ t, y = .ref t ∧ SqT K H t (ns.map V.int)
theorem EqVs.ints {K : PySem.W.Frag} {H : Hp} {n : Nat} (ns : List Int) : EqVs K H n (ns.map V.int) (ns.map V.int) true := EqVs.selfs fun x hx => by
  obtain ⟨i, _, rfl⟩ := List.mem_map.mp hx
  exact .selfB rfl
theorem EqV.tp {K : PySem.W.Frag} {H : Hp} {n : Nat} {x y : V} {ns : List Int} (h1 : TpAt K H x ns) (h2 : TpAt K H y ns) : EqV K H (n + 1) x y true := by
  obtain ⟨t, rfl, h1⟩ := h1
  obtain ⟨u, rfl, h2⟩ := h2
  by_cases e : t = u
  · subst e
    exact .one
  · exact .tups e h1 h2 (.ints ns)
theorem EqVs.of_at {K : PySem.W.Frag} {H : Hp} {n : Nat} : ∀ {xs ys : List V}, xs.length = ys.length → (∀ (i : Nat) x y, xs[i]? = some x → ys[i]? = some y → EqV K H n x y true) → EqVs K H n xs ys true
  | [], [], _, _ => .nil
  | [], _ :: _, l, _ => by cases l
  | _ :: _, [], l, _ => by cases l
  | x :: xs, y :: ys, l, h => .cons (b := true) (c := true) (h 0 x y rfl rfl) (EqVs.of_at (Nat.succ.inj l) fun i u v h1 h2 => h (i + 1) u v h1 h2)
theorem line_lt {n : Nat} (h : n ≤ 16000000) : n < sizeLine := Nat.lt_of_le_of_lt h (by decide)
theorem EqV.selfA {K : PySem.W.Frag} {x : V} {H : Hp} {n : Nat} (h : Kn K H x) : EqV K H n x x true := by
  cases x <;> first | exact h.elim | exact .selfB rfl | exact .one
theorem lc_noneT {K : PySem.W.Frag} {a : Addr} {xs : List V} {g : TG} {tt : TT} {te : TE} {vs : List Nat} {σ : St} {H1 : Hp} {D : Addr} {Qd : Hp → Prop} (h0 : SqT K H1 a xs) (hl : xs.length ≤ 1000) (hD : H1 D = none)
    (hs : ∀ x ∈ xs, ∀ H (Q : VK) (R : Hp → Prop), Same H1 H → (∀ H', Same H H' → R H') → g x (wipe σ vs) H fun σ2 H2 => wipe σ2 vs = wipe σ vs ∧ tt σ2 H2 fun b H3 => if b = true then te σ2 H3 Q else R H3)
    (hd : ∀ H, Same H1 H → H D = some (.lst []) → Qd H) :
    ∃ W : Nat → Nat → Hp → Prop, (∃ m, W 0 m (upd H1 D (.lst []))) ∧ ∀ i m H, W i m H →
      ((Itt K a).stop i H ∧ Qd H) ∨ ((Itt K a).go i H ∧ ∃ Nx : Hp → Prop, (∀ H', Nx H' → ∃ m', m' < m ∧ W (i + 1) m' H') ∧ ∀ x H', (Itt K a).yld i H x H' → g x (wipe σ vs) H' fun σ2 H2 => wipe σ2 vs = wipe σ vs ∧ tt σ2 H2 fun b H3 =>
        if b = true then te σ2 H3 fun y H4 => ∃ acc, H4 D = some (.lst acc) ∧ acc.length < sizeLine ∧ Nx (upd H4 D (.lst (acc ++ [y]))) else Nx H3) :=
  lc_fm xs (fun _ => none) walk_tup (small1000 hl) (fun _ s => SqT.same s h0) hD hs (fun H s e => hd H s (by rw [e]; simp))
theorem for_predH {K : PySem.W.Frag} {a : Addr} {xs : List V} {g : TG} {tb : TS} {D : Ends} {σ : St} {H : Hp} (S : St → Hp → Prop) (Pr : Hp → V → Prop) (hL : SqL K H a xs) (hp : ∀ y ∈ xs, Pr H y) (h0 : S σ H)
    (hs : ∀ y σ H', Pr H y → S σ H' → Same H H' → g y σ H' fun σ2 H2 => tb { D with nx := fun σ H' => S σ H' ∧ Same H H', ct := fun σ H' => S σ H' ∧ Same H H', bk := D.nx } σ2 H2) (hd : ∀ σ H', S σ H' → Same H H' → D.nx σ H') :
    ∃ W : Nat → Nat → St → Hp → Prop, (∃ m, W 0 m σ H) ∧ ∀ i m σ H, W i m σ H →
      ((Itl K a).stop i H ∧ D.nx σ H) ∨ ((Itl K a).go i H ∧ ∃ N : St → Hp → Prop, (∀ σ' H', N σ' H' → ∃ m', m' < m ∧ W (i + 1) m' σ' H') ∧ ∀ x H', (Itl K a).yld i H x H' → g x σ H' fun σ2 H2 => tb { D with nx := N, ct := N, bk := D.nx } σ2 H2) :=
  for_list (xs := xs) (fun _ σ H' => S σ H' ∧ Same H H') ⟨h0, Same.refl _⟩ (fun _ _ _ _ h => Same.seq h.2 hL) (fun _ y σ H' hi h => hs y σ H' (hp y (List.mem_of_getElem? hi)) h.1 h.2) (fun σ H' h => hd σ H' h.1 h.2)
theorem EqV.nos {K : PySem.W.Frag} {x : V} {H : Hp} {n : Nat} (h : NoSeq K H x) : EqV K H n x x true := EqV.selfI h
theorem for_butL {K : PySem.W.Frag} {a p : Addr} {xs : List V} {g : TG} {tb : TS} {D : Ends} {σ : St} {H : Hp} (Pv : Nat → St → Hp → Prop) (hT : ∀ H', SameBut p H H' → SqL K H' a xs) (h0 : Pv 0 σ H)
    (hs : ∀ (i : Nat) x σ H', xs[i]? = some x → SameBut p H H' → Pv i σ H' → g x σ H' fun σ2 H2 => tb { D with nx := fun σ H' => SameBut p H H' ∧ Pv (i + 1) σ H', ct := fun σ H' => SameBut p H H' ∧ Pv (i + 1) σ H', bk := D.nx } σ2 H2) (hd : ∀ σ H', SameBut p H H' → Pv xs.length σ H' → D.nx σ H') :
    ∃ W : Nat → Nat → St → Hp → Prop, (∃ m, W 0 m σ H) ∧ ∀ i m σ H, W i m σ H →
      ((Itl K a).stop i H ∧ D.nx σ H) ∨ ((Itl K a).go i H ∧ ∃ N : St → Hp → Prop, (∀ σ' H', N σ' H' → ∃ m', m' < m ∧ W (i + 1) m' σ' H') ∧ ∀ x H', (Itl K a).yld i H x H' → g x σ H' fun σ2 H2 => tb { D with nx := N, ct := N, bk := D.nx } σ2 H2) :=
  for_list (xs := xs) (fun i σ H' => SameBut p H H' ∧ Pv i σ H') ⟨SameBut.refl _ _, h0⟩ (fun _ _ _ _ h => hT _ h.1) (fun i y σ H' hi h => hs i y σ H' hi h.1 h.2) (fun σ H' h => hd σ H' h.1 h.2)
theorem for_butT {K : PySem.W.Frag} {a p : Addr} {xs : List V} {g : TG} {tb : TS} {D : Ends} {σ : St} {H : Hp} (Pv : Nat → St → Hp → Prop) (hT : ∀ H', SameBut p H H' → SqT K H' a xs) (h0 : Pv 0 σ H)
    (hs : ∀ (i : Nat) x σ H', xs[i]? = some x → SameBut p H H' → Pv i σ H' → g x σ H' fun σ2 H2 => tb { D with nx := fun σ H' => SameBut p H H' ∧ Pv (i + 1) σ H', ct := fun σ H' => SameBut p H H' ∧ Pv (i + 1) σ H', bk := D.nx } σ2 H2) (hd : ∀ σ H', SameBut p H H' → Pv xs.length σ H' → D.nx σ H') :
    ∃ W : Nat → Nat → St → Hp → Prop, (∃ m, W 0 m σ H) ∧ ∀ i m σ H, W i m σ H →
      ((Itt K a).stop i H ∧ D.nx σ H) ∨ ((Itt K a).go i H ∧ ∃ N : St → Hp → Prop, (∀ σ' H', N σ' H' → ∃ m', m' < m ∧ W (i + 1) m' σ' H') ∧ ∀ x H', (Itt K a).yld i H x H' → g x σ H' fun σ2 H2 => tb { D with nx := N, ct := N, bk := D.nx } σ2 H2) :=
  for_tup (xs := xs) (fun i σ H' => SameBut p H H' ∧ Pv i σ H') ⟨SameBut.refl _ _, h0⟩ (fun _ _ _ _ h => hT _ h.1) (fun i y σ H' hi h => hs i y σ H' hi h.1 h.2) (fun σ H' h => hd σ H' h.1 h.2)
/-- no tuple -/
def NoTup (K : PySem.W.Frag) (H : Hp) (x : V) : Prop := isO K x H fun f _ => f .tup = false
theorem NoTup.same {K : PySem.W.Frag} {H H' : Hp} {x : V} (s : Same H H') (h : NoTup K H x) : NoTup K H' x := isO_same s h
theorem NoTup.seq {K : PySem.W.Frag} {H : Hp} {x : V} (h : NoSeq K H x) : NoTup K H x := isO_mono h fun _ _ e => e.2
theorem NoTup.lst {K : PySem.W.Frag} {H : Hp} {p : Addr} {xs : List V} (h : SqL K H p xs) : NoTup K H (.ref p) := ⟨.lst xs, h, rfl⟩
theorem i_isiTN2 {K : PySem.W.Frag} {H : Hp} {Q : VK} {x : V} (hn : NoTup K H x) (h : Q (.bl false) H) : rIsiB .tup K [x, .ty "tuple"] H Q := ⟨x, rfl, isO_mono hn fun f c e => by rw [e]; exact h⟩
/-- two lists, place by place -/
def All2 {α β : Type} (R : α → β → Prop) (xs : List α) (ys : List β) : Prop := xs.length = ys.length ∧ ∀ (i : Nat) x y, xs[i]? = some x → ys[i]? = some y → R x y
theorem All2.mono {α β : Type} {R R' : α → β → Prop} {xs : List α} {ys : List β} (h : All2 R xs ys) (m : ∀ x y, R x y → R' x y) : All2 R' xs ys := ⟨h.1, fun i x y h1 h2 => m x y (h.2 i x y h1 h2)⟩
theorem All2.get {α β : Type} {R : α → β → Prop} {xs : List α} {ys : List β} (h : All2 R xs ys) {i : Nat} {x : α} (e : xs[i]? = some x) : ∃ y, ys[i]? = some y ∧ R x y := by
  have hi := (List.getElem?_eq_some_iff.mp e).1
  have hj : i < ys.length := h.1 ▸ hi
  exact ⟨ys[i], List.getElem?_eq_getElem hj, h.2 i x _ e (List.getElem?_eq_getElem hj)⟩
theorem All2.swap {α β : Type} {R : α → β → Prop} {xs : List α} {ys : List β} (h : All2 R xs ys) : All2 (fun y x => R x y) ys xs := ⟨h.1.symm, fun i y x h1 h2 => h.2 i x y h2 h1⟩
theorem All2.nil {α β : Type} {R : α → β → Prop} : All2 R [] [] := ⟨rfl, fun i x y h => by simp at h⟩
theorem All2.cons {α β : Type} {R : α → β → Prop} {x : α} {y : β} {xs : List α} {ys : List β} (h : R x y) (t : All2 R xs ys) : All2 R (x :: xs) (y :: ys) := by
  refine ⟨by rw [List.length_cons, List.length_cons, t.1], fun i u v h1 h2 => ?_⟩
  cases i with
  | zero => cases h1; cases h2; exact h
  | succ i => exact t.2 i u v h1 h2
theorem All2.append {α β : Type} {R : α → β → Prop} {xs xs' : List α} {ys ys' : List β} (h : All2 R xs ys) (t : All2 R xs' ys') : All2 R (xs ++ xs') (ys ++ ys') := by
  refine ⟨by rw [List.length_append, List.length_append, h.1, t.1], fun i u v h1 h2 => ?_⟩
  by_cases c : i < xs.length
  · rw [List.getElem?_append_left c] at h1
    rw [List.getElem?_append_left (h.1 ▸ c)] at h2
    exact h.2 i u v h1 h2
  · rw [List.getElem?_append_right (by omega)] at h1
    rw [List.getElem?_append_right (by have := h.1; omega), ← h.1] at h2
    exact t.2 _ u v h1 h2
theorem All2.take {α β : Type} {R : α → β → Prop} {xs : List α} {ys : List β} (h : All2 R xs ys) (n : Nat) : All2 R (xs.take n) (ys.take n) := by
  refine ⟨by rw [List.length_take, List.length_take, h.1], fun i u v h1 h2 => ?_⟩
  rw [List.getElem?_take] at h1 h2
  split at h1
  · rename_i c
    rw [if_pos c] at h2
    exact h.2 i u v h1 h2
  · cases h1
theorem All2.drop {α β : Type} {R : α → β → Prop} {xs : List α} {ys : List β} (h : All2 R xs ys) (n : Nat) : All2 R (xs.drop n) (ys.drop n) := by
  refine ⟨by rw [List.length_drop, List.length_drop, h.1], fun i u v h1 h2 => ?_⟩
  rw [List.getElem?_drop] at h1 h2
  exact h.2 _ u v h1 h2
theorem All2.rev {α β : Type} {R : α → β → Prop} {xs : List α} {ys : List β} (h : All2 R xs ys) : All2 R xs.reverse ys.reverse := by
  refine ⟨by rw [List.length_reverse, List.length_reverse, h.1], fun i u v h1 h2 => ?_⟩
  have hi := (List.getElem?_eq_some_iff.mp h1).1
  rw [List.length_reverse] at hi
  have e := h.1
  rw [List.getElem?_reverse hi] at h1
  rw [List.getElem?_reverse (by omega), ← e] at h2
  exact h.2 _ u v h1 h2
end My
/-! own classes under the language's own words: len(x), str(x), repr(x), f"{x}", x == y, x != y. -/
namespace My
open PySem L2
section
variable {X : Cx} {CX : CXT} {n : Nat} {f C : Addr} {fd : FuncData} {ps : List Str} {sp : Sp} {E : XK}
/-- an own def run from within a word of the language -/
theorem run_own {A : Around} {pins : List (Addr × Obj)} {σ : St} {H : Hp} {s : Shared} {Q : VK} {vs : List V} {us : List Value} (F : FnOk X.prog X.w X.K X.mg X.base CX n f fd ps sp) (hb : Binds X.K fd ps []) (hx : Passes CX X E) (sb : Sub X n A) (I : Inv X pins σ H s)
    (rv : Vals vs us) (h : sp vs H Q E) : wpAny (model X.prog X.w) A (call (.ref f) us) (EP X pins σ Q) X.xe s := by
  have e0 : Env0 X.prog X.w X.K X.mg X.base A X.stack s H := by
    have e := I.env0
    exact ⟨by rw [sb.fr]; exact e.frames, e.mod, e.bs, e.bsz, e.funs, e.frf, e.hok, e.bare⟩
  have hl := F.len _ _ _ _ h
  refine wpAny_call (codeAny_mono (F.run A X.stack s H ⟨us, []⟩ us vs Q E sb.room e0 (by
    have := hb s us I.kIn (by rw [List.append_nil, ← rv.length]; exact hl)
    rw [List.append_nil] at this
    exact this) rv h) fun r s' hq => ?_)
  cases r with
  | error e => exact hx pins σ H s e s' I hq
  | ok fl =>
    cases fl with
    | ret w =>
      obtain ⟨z, H', I', rz, q⟩ := I.after hq
      exact ⟨z, H', I', rz, q⟩
    | next => exact False.elim hq
    | brk => exact False.elim hq
    | cont => exact False.elim hq
/-- len(x), str(x), repr(x): x of C, whose own word is sp -/
def rLenO (C : Addr) (sp : Sp) (E : XK) : List V → Hp → VK → Prop := fun xs H Q => ∃ a dx fs, xs = [.ref a] ∧ H a = some (.ins C dx fs) ∧ sp [.ref a] H (fun v H' => ∃ k : Int, v = .int k ∧ (0 ≤ k ∧ k < 2 ^ 63) ∧ Q (.int k) H') E
def rStrO (C : Addr) (sp : Sp) (E : XK) : List V → Hp → VK → Prop := fun xs H Q => ∃ a dx fs, xs = [.ref a] ∧ H a = some (.ins C dx fs) ∧ sp [.ref a] H (fun v H' => ∃ z : Str, v = .str z ∧ Q (.str z) H') E
theorem call_lenO (m : Meth X.K C "__len__" f) (F : FnOk X.prog X.w X.K X.mg X.base CX n f fd ps sp) (hr : Room (n + 1) X.A) (hb : Binds X.K fd ps []) (hx : Passes CX X E) : CallR X (.builtin "len") (rLenO C sp E) := by
  intro pins s σ H xs us Q I r h
  obtain ⟨a, dx, fs, rfl, ha, h⟩ := h
  obtain ⟨u, rfl, rx⟩ := vals1 r
  cases rx
  obtain ⟨mA, J, _⟩ := ins_get I.hok ha
  obtain ⟨od, J, _⟩ := J.look
  obtain ⟨mm, hF⟩ := I.fr
  refine PySem.W.len_K hF I.ok.mod.kin J m.at_ m.fn (wpAny_mono (run_own F hb hx ⟨hr.in1, rfl⟩ I (show Vals [V.ref a] [Value.ref a] from .cons rfl .nil) h) (fun v s' q => ?_) fun _ _ z => z)
  obtain ⟨x, H', I', rx, k, rfl, hk, q⟩ := q
  obtain ⟨t, rfl⟩ : ∃ t, v = Value.int k t := rx
  exact ⟨hk, .int k, H', I'.tok _, ⟨_, rfl⟩, q⟩
theorem call_strO (m : Meth X.K C "__str__" f) (F : FnOk X.prog X.w X.K X.mg X.base CX n f fd ps sp) (hr : Room (n + 2) X.A) (hb : Binds X.K fd ps []) (hx : Passes CX X E) : CallR X (.type "str") (rStrO C sp E) := by
  intro pins s σ H xs us Q I r h
  obtain ⟨a, dx, fs, rfl, ha, h⟩ := h
  obtain ⟨u, rfl, rx⟩ := vals1 r
  cases rx
  obtain ⟨mA, J, _⟩ := ins_get I.hok ha
  obtain ⟨od, J, _⟩ := J.look
  refine PySem.W.kso_call hr.in1.in1.units0 I.kIn J m.at_ m.fn (wpAny_mono (run_own F hb hx ⟨hr.in1.in1, rfl⟩ I (show Vals [V.ref a] [Value.ref a] from .cons rfl .nil) h) (fun v s' q => ?_) fun _ _ z => z)
  obtain ⟨x, H', I', rx, z, rfl, q⟩ := q
  obtain ⟨t, rfl⟩ : ∃ t, v = Value.str z t := rx
  exact ⟨.str z, H', I', ⟨_, rfl⟩, q⟩
theorem call_reprO (m : Meth X.K C "__repr__" f) (F : FnOk X.prog X.w X.K X.mg X.base CX n f fd ps sp) (hr : Room (n + 1) X.A) (hb : Binds X.K fd ps []) (hx : Passes CX X E) : CallR X (.builtin "repr") (rStrO C sp E) := by
  intro pins s σ H xs us Q I r h
  obtain ⟨a, dx, fs, rfl, ha, h⟩ := h
  obtain ⟨u, rfl, rx⟩ := vals1 r
  cases rx
  obtain ⟨mA, J, _⟩ := ins_get I.hok ha
  obtain ⟨od, J, _⟩ := J.look
  obtain ⟨mm, hF⟩ := I.fr
  refine PySem.W.repr_K hr.in1.units0 hF I.ok.mod.kin J m.at_ m.fn (wpAny_mono (run_own F hb hx ⟨hr.in1, rfl⟩ I (show Vals [V.ref a] [Value.ref a] from .cons rfl .nil) h) (fun v s' q => ?_) fun _ _ z => z)
  obtain ⟨x, H', I', rx, z, rfl, q⟩ := q
  obtain ⟨t, rfl⟩ : ∃ t, v = Value.str z t := rx
  exact ⟨.str z, H', I', ⟨_, rfl⟩, q⟩
end
section
open PySem.W Builtin PySem.Calls
open PyProof.Rows hiding St
variable {prog : Program} {w : World} {A : Around} {E : Value → Shared → Prop} {s : Shared} {K : Frag} {x C L f : Addr} {h₀ : Heap} {m : Str → Option Value} {ox : Obj} {od : Option Obj} {b tb : Value}
theorem ifBound_B {M : Model} {name : Str} {id : String} {args : List Value} {Q : Option Value → Shared → Prop} (X : K.In s.heap) (I : InstAt s.heap x ox C od) (hs : findIn K (.ref C) name = some (some (.builtin id))) (hb : ∀ self, bindSpecial (.builtin id) self = pure (.builtin id, [self]))
    (h : wpAny M A (call (.builtin id) (.ref x :: args)) (fun v => Q (some v)) E s) : wpAny M A (callSpecialIfBound? (.ref x) name args) Q E s := by
  simp only [callSpecialIfBound?, bindSpecialIfBound?]
  refine wpAny_holding (wpAny_bind (wpAny_bind (wpAny_bind (I.type.here ((looks_findIn X hs).here ?_)))))
  refine wpAny_bind (wpAny_askSetting (wpAny_ite ?_))
  have fin : wpAny M A (call (.builtin id) ([.ref x] ++ args) >>= fun v => pure (some v)) Q E s := wpAny_bind (wpAny_mono h (fun v s' h' => wpAny_pure h') fun _ _ h' => h')
  split
  · exact wpAny_bind ((Looks.of_pure (hb _)).here (wpAny_pure (by exact fin)))
  · exact wpAny_tryCatch (wpAny_bind ((Looks.of_pure (hb _)).here (wpAny_pure (by exact fin))))
/-- x != y by an own __eq__ -/
theorem ne_K {Q : Value → Shared → Prop} (hu : A.in1.units < cLine) (hu0 : A.units < cLine) (F : Fr h₀ L s.heap m) (X₀ : K.In h₀) (I : InstAt s.heap x ox C od) (hb : Looks (model prog w) s.heap (typeOf b) tb) (hn : notFirst K C tb = true)
    (hs : findIn K (.ref C) "__ne__" = some (some (.builtin "object.__ne__"))) (ho : mroIn K C (.type "object") = some true) (he : findIn K (.ref C) "__eq__" = some (some (.ref f))) (hf : isFn K (.ref f) = true)
    (h : wpAny (model prog w) A.in1 (call (.ref f) [.ref x, b]) (fun v s' => ∃ k, v = .bool k ∧ Q (.bool (!k)) s') E s) : wpAny (model prog w) A (richCompare .NotEq (.ref x) b) Q E s := by
  have X := X₀.keeps F.keep
  have body : wpAny (model prog w) A (call (.builtin "object.__ne__") [.ref x, b]) (fun v s' => v ≠ .notImplemented ∧ Q v s') E s := by
    refine wpAny_call (codeAny_call_builtin (by decide +kernel) PySem.F.cmpEntry_ne (check_slot (i := "object.__ne__") (owner := "object") (n := "__ne__") (by decide +kernel) (by decide +kernel) (I.type.andThen (looks_mroIn X ho)) (PySem.F.cmpArgs_ne _ _) ?_))
    unfold Builtin.«object.__ne__»
    refine wpAny_bind (m := slotArgs "__ne__" 1 _) (wpAny_pure ?_)
    refine wpAny_bind (m := cRoomFor _ _) (wpAny_cRoomFor hu ?_)
    refine wpAny_bind (m := callSpecialIfBound? (.ref x) (Str.ofString "__eq__") _) (ifBound_K X I he hf (wpAny_mono h (fun r s' hq => ?_) fun _ _ y => y))
    obtain ⟨k, rfl, hq⟩ := hq
    refine wpAny_bind (m := truthy (.bool _)) (wpAny_truthy_bool ?_)
    exact wpAny_pure ⟨(by intro z; cases z), hq⟩
  have one : wpAny (model prog w) A (tryCompare (.ref x) (cmpInfo .NotEq).2.1 b) (fun r s' => ∃ v, r = some v ∧ Q v s') E s := by
    unfold tryCompare
    refine wpAny_bind (ifBound_B X I hs PySem.F.cmp_object.ne.bind (wpAny_mono body (fun v s' hv => ?_) fun _ _ e => e))
    obtain ⟨hv, hq⟩ := hv
    cases v <;> first | exact absurd rfl hv | exact wpAny_pure ⟨_, rfl, hq⟩
  unfold richCompare
  simp only [oneThing_ref]
  refine wpAny_holding (wpAny_bind (wpAny_cRoomFor hu0 ?_))
  refine wpAny_bind (I.type.here (wpAny_bind (hb.here ?_)))
  split
  · rename_i q
    have e : subIn K tb (.ref C) = some false := by
      rcases Bool.or_eq_true_iff.mp hn with e | e
      · rw [beq_iff_eq.mp e] at q; simp at q
      · exact beq_iff_eq.mp e
    refine wpAny_bind ((looks_subIn X e).here ?_)
    simp only [Bool.false_eq_true, if_false]
    refine wpAny_bind (wpAny_mono one (fun r s' z => ?_) fun _ _ e => e)
    obtain ⟨v, rfl, hq⟩ := z
    exact wpAny_pure hq
  · refine wpAny_bind (wpAny_pure ?_)
    simp only [Bool.false_eq_true, if_false]
    refine wpAny_bind (wpAny_mono one (fun r s' z => ?_) fun _ _ e => e)
    obtain ⟨v, rfl, hq⟩ := z
    exact wpAny_pure hq
end
/-- the built-in classes stand not under C -/
def EqC (K : PySem.W.Frag) (C : Addr) : Prop := ∀ t : String, t ∈ ["NoneType", "int", "bool", "str", "list", "tuple", "dict"] → PySem.W.subIn K (.type t) (.ref C) = some false
/-- x == y, x != y: x of C, whose own == is sp -/
def rEqO (K : PySem.W.Frag) (C : Addr) (sp : Sp) (E : XK) (neg : Bool) : R2 := fun x y H Q => ∃ a dx fs, x = .ref a ∧ H a = some (.ins C dx fs) ∧ isO K y H (fun _ c => c = none ∨ c = some C) ∧ sp [x, y] H (fun v H' => ∃ b, v = .bl b ∧ Q (.bl (if neg then !b else b)) H') E
section
variable {X : Cx} {CX : CXT} {n : Nat} {f C : Addr} {fd : FuncData} {ps : List Str} {sp : Sp} {E : XK}
theorem ty_looks {pins : List (Addr × Obj)} {σ : St} {H : Hp} {s : Shared} {y : V} {u : Value} (q : EqC X.K C) (I : Inv X pins σ H s) (ry : RelV y u) (h : isO X.K y H (fun _ c => c = none ∨ c = some C)) :
    ∃ t, PySem.W.Looks (model X.prog X.w) s.heap (typeOf u) t ∧ PySem.W.notFirst X.K C t = true := by
  obtain ⟨t, f, c, ty, hc, _, e⟩ := isO_ty h
  obtain ⟨P, kx, hp, _⟩ := kit_of I ry ty
  refine ⟨t, kx.ty _ _ I.kIn hp, ?_⟩
  unfold PySem.W.notFirst
  rcases e with ⟨_, n, rfl, hn⟩ | ⟨D, rfl, rfl, _⟩
  · rw [q n hn]
    simp
  · rcases hc with hc | hc
    · cases hc
    · cases hc
      simp
theorem op_eqO {K : PySem.W.Frag} (m : Meth X.K C "__eq__" f) (F : FnOk X.prog X.w X.K X.mg X.base CX n f fd ps sp) (hr : Room (n + 1) X.A) (hb : Binds X.K fd ps []) (hx : Passes CX X E) (q : EqC X.K C) (hK : X.K = K := by rfl) : OpR X (compareOp .Eq) (rEqO K C sp E false) := by
  subst hK
  intro pins s σ H x y v u Q I rx ry h
  obtain ⟨a, dx, fs, rfl, ha, hy, h⟩ := h
  cases rx
  obtain ⟨mA, J, _⟩ := ins_get I.hok ha
  obtain ⟨od, J, _⟩ := J.look
  obtain ⟨mm, hF⟩ := I.fr
  obtain ⟨t, hl, hn⟩ := ty_looks q I ry hy
  show wpAny (model X.prog X.w) X.A (richCompare .Eq (.ref a) u) (EP X pins σ Q) X.xe s
  refine PySem.W.cmp_K (op := .Eq) hr.units0 hF I.ok.mod.kin J hl hn m.at_ m.fn (wpAny_mono (run_own F hb hx ⟨hr.mono (Nat.le_succ _), rfl⟩ I (show Vals [V.ref a, y] [Value.ref a, u] from .cons rfl (.cons ry .nil)) h) (fun v s' z => ?_) fun _ _ z => z)
  obtain ⟨x, H', I', rx, b, rfl, z⟩ := z
  obtain rfl : v = Value.bool b := rx
  exact ⟨.bl b, H', I', rfl, z⟩
theorem op_neO {K : PySem.W.Frag} (m : Meth X.K C "__eq__" f) (F : FnOk X.prog X.w X.K X.mg X.base CX n f fd ps sp) (hr : Room (n + 1) X.A) (hb : Binds X.K fd ps []) (hx : Passes CX X E) (q : EqC X.K C) (hs : PySem.W.findIn X.K (.ref C) "__ne__" = some (some (.builtin "object.__ne__"))) (ic : IsC X.K C) (hK : X.K = K := by rfl) : OpR X (compareOp .NotEq) (rEqO K C sp E true) := by
  subst hK
  intro pins s σ H x y v u Q I rx ry h
  obtain ⟨a, dx, fs, rfl, ha, hy, h⟩ := h
  cases rx
  obtain ⟨mA, J, _⟩ := ins_get I.hok ha
  obtain ⟨od, J, _⟩ := J.look
  obtain ⟨mm, hF⟩ := I.fr
  obtain ⟨t, hl, hn⟩ := ty_looks q I ry hy
  show wpAny (model X.prog X.w) X.A (richCompare .NotEq (.ref a) u) (EP X pins σ Q) X.xe s
  refine ne_K hr.in1.units0 hr.units0 hF I.ok.mod.kin J hl hn hs ic.hm m.at_ m.fn (wpAny_mono (run_own F hb hx ⟨hr.in1, rfl⟩ I (show Vals [V.ref a, y] [Value.ref a, u] from .cons rfl (.cons ry .nil)) h) (fun v s' z => ?_) fun _ _ z => z)
  obtain ⟨x, H', I', rx, b, rfl, z⟩ := z
  obtain rfl : v = Value.bool b := rx
  exact ⟨b, rfl, .bl (!b), H', I', rfl, z⟩
end
/-! ### o.m(e, .., k=v): what is raised wished for at the caller's slots -/
def tMethSN (C : Addr) (m : Str) (n nk : Nat) (sp : Sp) (gV : List V → List V → List V) (E : St → XK) (ta : TE) (t tk : TA) : TE := fun σ H Q => ta σ H fun x H1 => ∃ a dx fs, x = .ref a ∧ H1 a = some (.ins C dx fs) ∧ fs.lookup m = none ∧ t σ H1 fun vs H2 => tk σ H2 fun zs H3 => vs.length = n ∧ zs.length = nk ∧ sp (gV (x :: vs) zs) H3 Q (E σ)
section
variable {X : Cx} {CX : CXT} {k n : Nat} {f C : Addr} {fd : FuncData} {ps ks : List Str} {sp : Sp} {gV : List V → List V → List V} {E : St → XK} {m : Str} {pos apos : Pos} {e o : Expr} {es : List Expr} {kws : List Keyword} {ta : TE} {t tk : TA}
theorem run_fnSN {pins : List (Addr × Obj)} {σ : St} {H : Hp} {s : Shared} {Q : VK} {us ws : List Value} {vs zs : List V} {g : List Value → List Value → List Value} (F : FnOk X.prog X.w X.K X.mg X.base CX k f fd ps sp) (hr : Room k X.A) (hb : KBn X.K fd ps n ks g gV) (hx : PassesAt CX X σ (E σ)) (I : Inv X pins σ H s)
    (rv : Vals vs us) (rz : Vals zs ws) (l1 : vs.length = n) (l2 : zs.length = ks.length) (h : sp (gV vs zs) H Q (E σ)) : wpAny (model X.prog X.w) X.A (call (.ref f) us (ks.zip ws)) (EP X pins σ Q) X.xe s := by
  refine wpAny_call (codeAny_mono (F.run X.A X.stack s H ⟨us, ks.zip ws⟩ (g us ws) (gV vs zs) Q (E σ) hr I.env0 (hb.to s us ws I.kIn (by rw [← rv.length]; exact l1) (by rw [← rz.length]; exact l2)) (hb.rel rv rz) h) fun r s' hq => ?_)
  cases r with
  | error e => exact hx pins H s e s' I hq
  | ok fl =>
    cases fl with
    | ret w =>
      obtain ⟨z, H', I', rz, q⟩ := I.after hq
      exact ⟨z, H', I', rz, q⟩
    | next => exact False.elim hq
    | brk => exact False.elim hq
    | cont => exact False.elim hq
theorem pe_methSN {pl : Sem Bool} (he : PE X o ta) (c : Cls X.K C) (hm : Meth X.K C m f) (F : FnOk X.prog X.w X.K X.mg X.base CX k f fd ps sp) (hr : Room k X.A) (hb : ∃ g, KBn X.K fd ps (n + 1) ks g gV) (hx : ∀ σ, PassesAt CX X σ (E σ)) (ha : PA X (e :: es) t) (hkw : PK X kws tk)
    (hall : (backToKw pos (keywordEach kws X.env)).all (·.1.isSome) = true := by rfl) (hks : (backToKw pos (keywordEach kws X.env)).filterMap (·.1) = ks := by rfl)
    (hst : starEach (e :: es) X.env = (false, eval e X.env) :: starEach es X.env := by rfl) (hpl : ((backTo pos (starEach (e :: es) X.env)).any (·.1) || (backToKw pos (keywordEach kws X.env)).any (·.1.isNone)) = false := by rfl)
    (ht : eval (.Call (.Attribute o m apos) (e :: es) kws pos) X.env = (do let ov ← eval o X.env; standAt apos.atName; let (f, first) ← holding [ov] (getMethod ov m pl); callWith pos f first (backTo pos (starEach (e :: es) X.env)) (backToKw pos (keywordEach kws X.env))) := by rfl) :
    PE X (.Call (.Attribute o m apos) (e :: es) kws pos) (tMethSN C m n ks.length sp gV E ta t tk) := by
  obtain ⟨g, hb⟩ := hb
  refine ⟨fun pins s σ H Q I h => PySem.W.methodCall_KW (pl := pl) (thn (he.run pins s σ H _ I h) fun u s1 ⟨y, H1, I1, ry, a, dx, fs, ey, ea, l, q⟩ => ?_) ht⟩
  subst ey
  cases (show u = Value.ref a from ry)
  refine getmeth_ok I1 ea c hm l (PySem.W.callWith_KW (first := [.ref a]) (h₀ := X.base) I.ok.mod.kin hm.kp hall (thn (ha.run pos pins s1 σ H1 _ I1 q) fun us s2 ⟨vs, H2, I2, r, q2⟩ => ?_) hpl hst)
  refine thn (hkw.run pos pins s2 σ H2 _ I2 q2) fun ws s3 ⟨zs, H3, I3, rz, l1, l2, q3⟩ => ⟨I3.kIn, ?_⟩
  rw [hks]
  exact run_fnSN (us := .ref a :: us) (vs := .ref a :: vs) F hr hb (hx σ) I3 (.cons rfl r) rz (by rw [List.length_cons, l1]) l2 q3
/-- o.m(e, ..), the last parameters by their defaults -/
theorem pe_methSD {dvs : List V} {pl : Sem Bool} (he : PE X o ta) (c : Cls X.K C) (hm : Meth X.K C m f) (F : FnOk X.prog X.w X.K X.mg X.base CX k f fd ps sp) (hr : Room k X.A) (hb : ∃ ds, Vals dvs ds ∧ Binds X.K fd ps ds) (hx : ∀ σ, PassesAt CX X σ (E σ)) (ha : PA X (e :: es) t)
    (hst : starEach (e :: es) X.env = (false, eval e X.env) :: starEach es X.env := by rfl) (hpl : (backTo pos (starEach es X.env)).any (·.1) = false := by rfl)
    (ht : eval (.Call (.Attribute o m apos) (e :: es) [] pos) X.env = (do let ov ← eval o X.env; standAt apos.atName; let (f, first) ← holding [ov] (getMethod ov m pl); callWith pos f first (backTo pos (starEach (e :: es) X.env)) (backToKw pos (keywordEach [] X.env))) := by rfl) : PE X (.Call (.Attribute o m apos) (e :: es) [] pos) (tMethS C m sp dvs E ta t) := by
  obtain ⟨ds, hd, hb⟩ := hb
  exact pe_methS he c hm F hr hb hd hx ha hst hpl ht
end
/-! ### o[i] of a list, by values -/
def rGetL (K : PySem.W.Frag) : V → V → Hp → VK → Prop := fun x y H Q => ∃ p xs i z, x = .ref p ∧ y = .int i ∧ SqL K H p xs ∧ atI xs i = some z ∧ Q z H
theorem get_list {X : Cx} {K : PySem.W.Frag} (hK : X.K = K := by rfl) : PGet X (rGetL K) := by
  subst hK
  intro pins s σ H x y v u Q I rx ry h
  obtain ⟨p, xs, i, z, rfl, rfl, hq, he, q⟩ := h
  cases rx
  obtain ⟨t, rfl⟩ := ry
  obtain ⟨its, r, pl, hz⟩ := I.list hq
  obtain ⟨j, h1, h2, h3, h4, h5⟩ := atI_get he
  obtain ⟨w, ew, rw'⟩ := r.get h2
  have hl := r.length
  have hn := line63
  have fin : EP X pins σ Q w s := ⟨z, H, I, rw', q⟩
  by_cases h0 : 0 ≤ i
  · have hj : i.toNat = j := by
      rw [seqIndex_of h0 h5] at h1
      exact Option.some.inj h1
    exact wpAny_getItem_list pl.isList h0 (by omega) (by rw [hj]; simpa using ew) fin
  · have hj : (i + (its.toArray.size : Int)).toNat = j := by
      rw [seqIndex_neg (by omega) h4] at h1
      rw [List.size_toArray, ← hl]
      exact Option.some.inj h1
    exact wpAny_getItem_list_neg pl.isList (by omega) (by rw [List.size_toArray] <;> omega) (by omega) (by rw [hj]; simpa using ew) fin
theorem unit1 {k : Nat} {A : Around} (r : Room k A) : A.units + 1 < cLine := by have := r.units; omega
/-! ### steps -/
section
variable {K : PySem.W.Frag} {D : Ends} {σ : St} {H : Hp} {Q : VK} {C : Addr} {m : Str} {n nk : Nat} {sp : Sp} {gV : List V → List V → List V} {E : St → XK} {E0 : XK} {ta te to ti td ty : TE} {t tk : TA} {x y v : V}
theorem i_methSN (h : ta σ H fun x H1 => ∃ a dx fs, x = .ref a ∧ H1 a = some (.ins C dx fs) ∧ fs.lookup m = none ∧ t σ H1 fun vs H2 => tk σ H2 fun zs H3 => vs.length = n ∧ zs.length = nk ∧ sp (gV (x :: vs) zs) H3 Q (E σ)) : tMethSN C m n nk sp gV E ta t tk σ H Q := h
theorem i_augS {tget : V → V → Hp → VK → Prop} {tip : TIp} {tset : TSet} (h : to σ H fun o H1 => ti σ H1 fun i H2 => tget o i H2 fun x H3 => te σ H3 fun y H4 => tip x y H4 fun z H5 => tset o i z H5 fun H6 => D.nx σ H6) : tAugS to ti te tget tip tset D σ H := h
theorem i_getL {p : Addr} {xs : List V} {i : Int} {z : V} (h1 : SqL K H p xs) (h2 : atI xs i = some z) (h : Q z H) : rGetL K (.ref p) (.int i) H Q := ⟨p, xs, i, z, rfl, rfl, h1, h2, h⟩
theorem i_ipI {f : Int → Int → Int} {i j : Int} (h : Q (.int (f i j)) H) : ipI f (.int i) (.int j) H Q := ⟨i, j, rfl, rfl, h⟩
theorem i_din (h : ty σ H fun y H1 => td σ H1 fun x H2 => ∃ a o, x = .ref a ∧ DGet H2 a y o ∧ Q (.bl o.isSome) H2) : tDIn ty td σ H Q := h
theorem i_dnotin (h : ty σ H fun y H1 => td σ H1 fun x H2 => ∃ a o, x = .ref a ∧ DGet H2 a y o ∧ Q (.bl (!o.isSome)) H2) : tDNotIn ty td σ H Q := h
theorem i_dgk {p : Addr} {kvs : List (Key × V)} {k : Key} {R : Option V → Prop} (e : y = kV k) (h1 : H p = some (.dK kvs)) (h : R (valV kvs k)) : ∃ a o, V.ref p = .ref a ∧ DGet H a y o ∧ R o := ⟨p, _, rfl, e ▸ .k h1, h⟩
theorem i_dgkI {p : Addr} {kvs : List (Key × V)} {i : Int} {R : Option V → Prop} (h1 : H p = some (.dK kvs)) (h : R (valV kvs (.inl i))) : ∃ a o, V.ref p = .ref a ∧ DGet H a (.int i) o ∧ R o := ⟨p, _, rfl, .k (k := .inl i) h1, h⟩
theorem i_setDkI {p : Addr} {kvs : List (Key × V)} {i : Int} {HQ : Hp → Prop} (h1 : H p = some (.dK kvs)) (hl : kvs.length < sizeLine) (h : HQ (upd H p (.dK (putK kvs (.inl i) v)))) : rSetD (.ref p) (.int i) v H HQ := ⟨p, _, rfl, .k (k := .inl i) h1 hl, h⟩
theorem i_dgt {p b : Addr} {kvs : List (List Key × V)} {k : List Key} {R : Option V → Prop} (h1 : H p = some (.dT kvs)) (h2 : H b = some (.tup (k.map kV))) (h : R (valV kvs k)) : ∃ a o, V.ref p = .ref a ∧ DGet H a (.ref b) o ∧ R o := ⟨p, _, rfl, .t h1 h2, h⟩
theorem i_setDk {p : Addr} {kvs : List (Key × V)} {k : Key} {HQ : Hp → Prop} (e : x = kV k) (h1 : H p = some (.dK kvs)) (hl : kvs.length < sizeLine) (h : HQ (upd H p (.dK (putK kvs k v)))) : rSetD (.ref p) x v H HQ := ⟨p, _, rfl, e ▸ .k h1 hl, h⟩
theorem i_eqO {neg : Bool} {a dx : Addr} {fs : List (Str × V)} (ha : H a = some (.ins C dx fs)) (hy : isO K y H (fun _ c => c = none ∨ c = some C)) (h : sp [.ref a, y] H (fun v H' => ∃ b, v = .bl b ∧ Q (.bl (if neg then !b else b)) H') E0) : rEqO K C sp E0 neg (.ref a) y H Q := ⟨a, dx, fs, rfl, ha, hy, h⟩
theorem i_lenO {a dx : Addr} {fs : List (Str × V)} (ha : H a = some (.ins C dx fs)) (h : sp [.ref a] H (fun v H' => ∃ k : Int, v = .int k ∧ (0 ≤ k ∧ k < 2 ^ 63) ∧ Q (.int k) H') E0) : rLenO C sp E0 [.ref a] H Q := ⟨a, dx, fs, rfl, ha, h⟩
end
end My
/-! enumerate over a tuple; max, min, sum of a tuple of ints -/
namespace My
open PySem L2
section
open PySem.Spec PySem.Calls
open PyProof.Rows hiding St
set_option maxHeartbeats 4000000 in
theorem meets_enum1 {v : Value} {o : Obj} {H : Heap → Prop} (B : Begins v o H) :
    Meets (Builtin.«enumerate.__new__» ⟨[.type "enumerate", v], []⟩) (fun _ R s => H s.heap ∧
      R (.ok (.ret (.ref (s.heap.push o).objs.size))) { s with heap := (s.heap.push o).push { cls := .type "enumerate", data := .fields #[.none, .bool false, .ref s.heap.objs.size, rawInt 0, .none, .none] } }) :=
  .of_wp fun prog w A R s h => by
    obtain ⟨hp, g, d, tk, os⟩ := s; obtain ⟨h1, h⟩ := h
    have hsub := sub_enumerate
    have q1 : ∀ {A' : Around} {E : Value → Shared → Prop} {Q : Value → Shared → Prop}, Q (.ref hp.objs.size) ⟨hp.push o, g, d, tk, os⟩ → wpAny (model prog w) A' (pyIter v) Q E ⟨hp, g, d, tk, os⟩ :=
      fun q => B.iter prog w _ _ ⟨hp, g, d, tk, os⟩ _ h1 q
    wp_walk using q1
    refine wpAny_stack_any fun st => wpAny_pure ?_
    split
    · rename_i c _ _ _ _ _
      cases (c == Value.type "enumerate")
      · wp_walk using q1
        exact ⟨_, rfl, h⟩
      · wp_walk using q1
        exact ⟨_, rfl, h⟩
    · wp_walk using q1
      exact ⟨_, rfl, h⟩
theorem call_enum1 {prog : Program} {w : World} {A : Around} {E : Value → Shared → Prop} {s : Shared} {v : Value} {o : Obj} {H : Heap → Prop} {Q : Value → Shared → Prop} (B : Begins v o H) (h1 : H s.heap)
    (h : ∀ h', IsEnum h' (s.heap.objs.size + 1) s.heap.objs.size 0 .none → h'.get? s.heap.objs.size = some o → h'.objs.size = s.heap.objs.size + 2 →
      (∀ b o, s.heap.get? b = some o → h'.get? b = some o) → Q (.ref (s.heap.objs.size + 1)) { s with heap := h' }) :
    wpAny (model prog w) A (call (.type "enumerate") [v]) Q E s := by
  refine callType_new F.called_enumerate (by decide) (F.typeCall_enumerate_1 _) (F.newCall_enumerate_1 _) (fun obj => F.args_object_init_2 obj _) F.entry_enumerate_new
    (meets_enum1 B) ⟨h1, ?_⟩
  have hz : (s.heap.push o).objs.size = s.heap.objs.size + 1 := Heap.size_push ..
  show _ ∧ _
  rw [hz]
  have he : IsEnum ((s.heap.push o).push { cls := .type "enumerate", data := .fields #[.none, .bool false, .ref s.heap.objs.size, rawInt 0, .none, .none] }) (s.heap.objs.size + 1) s.heap.objs.size 0 .none := by
    have := Heap.get?_push_size (s.heap.push o) (o := { cls := .type "enumerate", data := .fields #[.none, .bool false, .ref s.heap.objs.size, rawInt 0, .none, .none] }) rfl
    rw [hz] at this; exact this
  refine ⟨⟨_, he, rfl⟩, h _ he (Heap.get?_push_of_some _ (Heap.get?_push_size _ B.free)) (by rw [Heap.size_push, hz]) fun b o x => Heap.get?_push_of_some _ (Heap.get?_push_of_some _ x)⟩
end
/-- the tuple at a as it stands at each turn, the items in new pairs with their places -/
def Itet (K : PySem.W.Frag) (a : Addr) : It :=
  ⟨fun i H => ∃ (xs : List V) (x : V), SqT K H a xs ∧ xs[i]? = some x, fun i H v H' => ∃ T x, v = .ref T ∧ H T = none ∧ H' = upd H T (.tup [.int (i : Nat), x]) ∧ ∀ xs, SqT K H a xs → xs[i]? = some x, fun i H => ∃ xs : List V, SqT K H a xs ∧ xs.length = i⟩
section
open PySem.Spec
open PyProof.Rows hiding St
theorem turn_enumT {P : Program} {w : World} {K : PySem.W.Frag} {elts : List Expr} {kk : Nat} {tpos : Pos} (a e it : Addr) :
    Turn P w K (.Tuple elts kk tpos) (Itet K a) [e, it] e (fun i h => (∃ old, IsEnum h e it ((i : Nat) : Int) old) ∧ h.IsTupleIter it a i ∧ e ≠ it) where
  mem := by simp
  obj := fun i h st b hb => by
    obtain ⟨⟨old, he⟩, ⟨o, ho, hc, hd⟩, _⟩ := st
    have e' : b = e ∨ b = it := by simpa using hb
    rcases e' with z | z
    · rw [z]; exact ⟨_, he, fun v q => nomatch q⟩
    · rw [z]; exact ⟨o, ho, fun v q => by rw [hd] at q; cases q⟩
  keep := fun i h h' st k => let ⟨⟨old, he⟩, hi, hne⟩ := st; ⟨⟨old, k e (by simp) _ he⟩, hi.at fun o q => k it (by simp) o q, hne⟩
  item := by
    intro X hP hw hK hc i pins s σ H E I hf st hg
    subst hP hw hK
    obtain ⟨⟨old, he⟩, hit, hne⟩ := st
    obtain ⟨xs, x, hq, hx⟩ := hg
    obtain ⟨its, rv, p, hz⟩ := I.tuple hq
    obtain ⟨u, hu, ru⟩ := rv.get hx
    have hel : e < s.heap.objs.size := Heap.lt_size he
    have hil : it < s.heap.objs.size := by obtain ⟨_, q, _⟩ := hit; exact Heap.lt_size q
    have pT : s.heap.IsTuple a its.toArray := p
    have hat : a ≠ it := fun z => by
      obtain ⟨o1, g1, c1, _⟩ := pT
      obtain ⟨o2, g2, c2, _⟩ := hit
      rw [z] at g1
      rw [g1] at g2
      cases g2
      rw [c1] at c2
      exact absurd c2 (by decide)
    have hea : e ≠ a := fun z => by
      obtain ⟨o1, g1, c1, _⟩ := pT
      have he' : s.heap.get? e = some _ := he
      rw [← z] at g1
      rw [g1] at he'
      cases he'
      have c1 : Value.type "enumerate" = Value.type "tuple" := c1
      exact absurd c1 (by decide)
    have hlt : i < its.toArray.size := by
      have := (List.getElem?_eq_some_iff.mp hu).1
      simpa using this
    refine wpAny_pyNext_enum_itemD (Draws.tuple (A := X.A.in1) (I.ok.hd hc) it a hat its.toArray) he ⟨hit, pT⟩ hlt hne (by simp [hne, hea]) fun x' h' tk hx' ho st' hT hsz hk => ?_
    obtain rfl : x' = u := by
      have : its[i]? = some x' := by simpa using hx'
      rw [hu] at this
      exact (Option.some.inj this).symm
    refine ⟨_, rfl, wpAny_letOwnedTupleGo_enum (s := { s with heap := h', toks := tk + 1 }) ho fun h'' he' sb => ?_⟩
    have hT2 : h''.get? s.heap.objs.size = some { cls := .type "tuple", data := .seq #[.int i tk, x'] } := (sb.2 _ (Nat.ne_of_gt hel)).trans hT
    have new : ObjOk X.prog X.w (upd H s.heap.objs.size (.tup [.int (i : Nat), x])) h'' s.heap.objs.size (.tup [.int (i : Nat), x]) :=
      ⟨by show 2 ≤ sizeLine; decide, [.int i tk, x'], .cons ⟨_, rfl⟩ (.cons ru .nil), ⟨_, hT2, rfl, _, rfl⟩⟩
    have I1 : Inv X pins σ (upd H s.heap.objs.size (.tup [.int (i : Nat), x])) { s with heap := h'', toks := tk + 1 } :=
      I.turnedNew (ch := [e, it]) (fun b ob hb q => (sb.2 b (fun z => hb (by simp [z]))).trans (hk b ob (fun z => hb (by simp [z])) (fun z => hb (by simp [z])) q)) hf (Nat.le_refl _) new
    refine ⟨.ref s.heap.objs.size, _, I1, rfl, ⟨_, x, rfl, I.hok.fresh (Nat.le_refl _), rfl, fun ys hy => by rw [I.tuple_inj hy hq]; exact hx⟩, ⟨⟨x', ?_⟩, st'.1.at fun o q => (sb.2 it (Ne.symm hne)).trans q, hne⟩, fun b hb => ?_⟩
    · have e1 : ((i + 1 : Nat) : Int) = (i : Int) + 1 := by omega
      rw [e1]; exact he'
    · have hb' : b < s.heap.objs.size := by
        have e' : b = e ∨ b = it := by simpa using hb
        rcases e' with z | z
        · rw [z]; exact hel
        · rw [z]; exact hil
      rw [upd_ne (Nat.ne_of_lt hb')]
      exact (hf b hb).1
  done := by
    intro X hP hw hK hc i pins s σ H E I hf st hg
    subst hP hw hK
    obtain ⟨⟨old, he⟩, hit, hne⟩ := st
    obtain ⟨xs, hq, hx⟩ := hg
    obtain ⟨its, rv, p, hz⟩ := I.tuple hq
    have pT : s.heap.IsTuple a its.toArray := p
    obtain ⟨f0, f1, f2, f3, f4, f5⟩ := hf it (by simp)
    have hl := rv.length
    have hat : a ≠ it := fun z => by
      obtain ⟨o1, g1, c1, _⟩ := pT
      obtain ⟨o2, g2, c2, _⟩ := hit
      rw [z] at g1
      rw [g1] at g2
      cases g2
      rw [c1] at c2
      exact absurd c2 (by decide)
    have hn : i = its.toArray.size := by rw [List.size_toArray]; omega
    exact wpAny_pyNext_enum_endD (Draws.tuple (A := X.A.in1) (I.ok.hd hc) it a hat its.toArray) he ⟨hn ▸ hit, pT⟩ fun h' eb => ⟨rfl, I.turned (t' := s.toks) (fun b o hb q => eb b o hb q) f0 f1 f3 f4 f5⟩
  self := fun A i s Q E st h => let ⟨⟨_, he⟩, _⟩ := st; wpAny_pyIter_enum he h
def iEnumT (K : PySem.W.Frag) (ta : TA) : TI := fun σ H R => ta σ H fun vs H1 => ∃ a xs, vs = [.ref a] ∧ SqT K H1 a xs ∧ R (Itet K a) H1
theorem pi_enumT {X : Cx} {e : Expr} {ta : TA} {p pos tpos : Pos} {elts : List Expr} {kk : Nat} {K : PySem.W.Frag} (hg : Gl X "enumerate") (hm : X.mg "enumerate" = none) (ha : PA X [e] ta) (hs : starEach [e] X.env = [(false, eval e X.env)] := by rfl) (hK : X.K = K := by rfl) :
    PI X (.Tuple elts kk tpos) (.Call (.Name "enumerate" p) [e] [] pos) (iEnumT K ta) := by
  subst hK
  refine ⟨fun pins s σ H R I h => ?_⟩
  refine Call_ (ld_blt I hg hm boot_enumerate (PyProof.Rows.callWith_type1 (thn (ha.run pos pins s σ H _ I h) fun us s1 ⟨vs, H1, I1, r1, q1⟩ => ?_) hs rfl))
  obtain ⟨a, xs, ex, hq, q⟩ := q1
  subst ex
  cases r1 with
  | cons r rr =>
    cases rr
    cases r
    obtain ⟨its, rv, p', hz⟩ := I1.tuple hq
    refine call_enum1 (begins_tuple a its.toArray) p' fun h' he hit hsz hk => wpAny_pyIter_enum he ?_
    have I2 : Inv X pins σ H1 { s1 with heap := h' } := I1.kept (t' := s1.toks) hk
    refine ⟨s1.heap.objs.size + 1, [s1.heap.objs.size + 1, s1.heap.objs.size], _, _, H1, rfl, I2, turn_enumT a (s1.heap.objs.size + 1) s1.heap.objs.size, ⟨⟨.none, he⟩, ⟨_, hit, rfl, rfl⟩, Nat.succ_ne_self _⟩, fun b hb => ?_, q⟩
    have e' : b = s1.heap.objs.size + 1 ∨ b = s1.heap.objs.size := by simpa using hb
    have hle : s1.heap.objs.size ≤ b := by
      rcases e' with z | z
      · rw [z]; exact Nat.le_add_right _ _
      · rw [z]; exact Nat.le_refl _
    exact I1.fpOk hle (I1.hok.fresh hle)
theorem walk_enumT {K : PySem.W.Frag} {a : Addr} {xs : List V} : Walk (Itet K a) xs.length (fun H => SqT K H a xs) (YPair (fun i => some (.int (i : Nat))) (fun i => xs[i]?)) :=
  ⟨fun i H hi q => ⟨xs, xs[i], q, List.getElem?_eq_getElem hi⟩, fun H q => ⟨xs, q, rfl⟩, fun i H v H' hi q ⟨T, x, h1, h2, h3, h4⟩ => ⟨T, .int (i : Nat), x, h1, h2, h3, rfl, h4 xs q⟩⟩
/-! max, sum -/
section
variable {prog : Program} {w : World} {A : Around} {E : Value → Shared → Prop} {s : Shared} {l : Addr}
theorem iterT {items : Array Value} {Q : Value → Shared → Prop} (hl : s.heap.IsTuple l items)
    (h : ∀ s₂ : Shared, s₂ = { s with heap := s.heap.push { cls := .type "tuple_iterator", data := .fields #[.ref l, .int 0 0] } } →
      (s₂.heap.IsTupleIter s.heap.objs.size l 0 ∧ s₂.heap.IsTuple l items) → (∀ b ∈ [s.heap.objs.size, l], b < s₂.heap.objs.size) → l ≠ s.heap.objs.size → Q (.ref s.heap.objs.size) s₂) :
    wpAny (model prog w) A (pyIter (.ref l)) Q E s := by
  have hlt : l < s.heap.objs.size := by obtain ⟨_, e, _⟩ := hl; exact Heap.lt_size e
  refine wpAny_pyIter_tuple hl (h _ rfl ⟨⟨_, Heap.get?_push_size _ rfl, rfl, rfl⟩, hl.push _⟩ (fun b hb => ?_) (Nat.ne_of_lt hlt))
  show b < (s.heap.push _).objs.size
  rw [Heap.size_push]
  rcases List.mem_cons.mp hb with rfl | hb
  · exact Nat.lt_succ_self _
  · rcases List.mem_cons.mp hb with rfl | hb
    · exact Nat.lt_succ_of_lt hlt
    · cases hb
theorem oldT {h' : Heap} {o1 : Obj} (hk : ∀ b o, b ∉ [s.heap.objs.size] → (s.heap.push o1).get? b = some o → h'.get? b = some o) :
    ∀ b o, s.heap.get? b = some o → h'.get? b = some o := fun b o e => by
  refine hk b o (fun hm => ?_) (Heap.get?_push_of_some _ e)
  rcases List.mem_cons.mp hm with e1 | hm
  · exact absurd (e1 ▸ Heap.lt_size e) (Nat.lt_irrefl _)
  · cases hm
theorem max_rawT {its : List Value} {ns : List Int} {Q : Value → Shared → Prop} (hh : A.handled = none) (hl : s.heap.IsTuple l its.toArray) (hi : IntsAre its ns) (hne : 0 < ns.length)
    (h : ∀ h' tk M t', (∀ b o, s.heap.get? b = some o → h'.get? b = some o) → M ∈ ns → (∀ a, a ∈ ns → a ≤ M) → Q (.int M t') { s with heap := h', toks := tk }) : wpAny (model prog w) A (call (.builtin "max") [.ref l]) Q E s := by
  obtain ⟨xs, e⟩ := hi.allInts.items
  have hn : numsOf (intItems xs).toList = ns := by rw [← e]; exact hi.numsOf
  rw [nums_intItems] at hn
  subst hn
  rw [e] at hl
  have hsz : 0 < xs.size := by simpa using hne
  refine call_max_walk (iterT hl fun s₂ e st hfp hlI => ?_)
  subst e
  refine ⟨_, _, _, _, _, _, _, rfl, Walks.tuple (A := A.in1) hh _ l hlI (intItems xs), st, hfp, by simpa [intItems] using hsz, CmpOf.ints_gt (numAt xs) (fun _ _ => intItems_at), fun v h' tk hP hk => ?_⟩
  have hP : (intItems xs)[argBest (fun i j => decide (numAt xs i > numAt xs j)) (xs.size - 1)]? = some v := by simpa [intItems] using hP
  obtain ⟨t, rfl⟩ := intItems_at hP
  obtain ⟨h1, h2⟩ := argBest_gt (numAt xs) (xs.size - 1)
  refine h h' tk _ t (oldT hk) ?_ fun a ha => ?_
  · rw [numAt_eq]; exact PySem.getD_mem (by rw [List.length_map, Array.length_toList]; omega)
  · obtain ⟨j, hj, rfl⟩ := mem_getD ha
    rw [List.length_map, Array.length_toList] at hj
    rw [← numAt_eq]; exact h2 j (by omega)
theorem sum_rawT {its : List Value} {ns : List Int} {Q : Value → Shared → Prop} (hh : A.handled = none) (hl : s.heap.IsTuple l its.toArray) (hi : IntsAre its ns)
    (h : ∀ h' tk t', (∀ b o, s.heap.get? b = some o → h'.get? b = some o) → Q (.int ns.sum t') { s with heap := h', toks := tk }) : wpAny (model prog w) A (call (.builtin "sum") [.ref l]) Q E s := by
  obtain ⟨xs, e⟩ := hi.allInts.items
  have hn : numsOf (intItems xs).toList = ns := by rw [← e]; exact hi.numsOf
  rw [nums_intItems] at hn
  rw [e] at hl
  refine call_sum_walkG (iterT hl fun s₂ e st hfp hlI => ?_)
  subst e
  refine ⟨_, _, _, _, _, _, numAt xs, rfl, Walks.tuple (A := A.in1) hh _ l hlI (intItems xs), st, hfp, (fun _ _ => intItems_at), fun h' tk t' hk => ?_⟩
  have := h h' tk t' (oldT hk)
  rw [← hn] at this
  have e2 : preSum (numAt xs) (intItems xs).size = (xs.toList.map (·.1)).sum := by
    rw [show (intItems xs).size = xs.size by simp [intItems], preSum_eq, List.take_of_length_le (by simp)]
  rw [e2]
  exact this
end
def rMaxT (K : PySem.W.Frag) : List V → Hp → VK → Prop := fun vs H Q => ∃ (a : Addr) (ns : List Int), vs = [V.ref a] ∧ SqT K H a (ns.map V.int) ∧ 0 < ns.length ∧ ∀ m, m ∈ ns → (∀ y, y ∈ ns → y ≤ m) → Q (.int m) H
def rSumT (K : PySem.W.Frag) : List V → Hp → VK → Prop := fun vs H Q => ∃ (a : Addr) (ns : List Int), vs = [V.ref a] ∧ SqT K H a (ns.map V.int) ∧ Q (.int ns.sum) H
theorem cr_maxT {X : Cx} {K : PySem.W.Frag} (hc : X.calm = true) (hK : X.K = K := by rfl) : CallR X (.builtin "max") (rMaxT K) := by
  subst hK
  intro pins s σ H xs us Q I r h
  obtain ⟨a, ns, rfl, hq, hne, q⟩ := h
  obtain ⟨u, rfl, rx⟩ := vals1 r
  cases rx
  obtain ⟨its, rv, p, hz⟩ := I.tuple hq
  exact max_rawT (I.ok.hd hc) (show s.heap.IsTuple a its.toArray from p) rv.ints hne fun h' tk m t' hk h1 h2 => ⟨.int _, H, I.kept hk, ⟨_, rfl⟩, q m h1 h2⟩
theorem cr_sumT {X : Cx} {K : PySem.W.Frag} (hc : X.calm = true) (hK : X.K = K := by rfl) : CallR X (.builtin "sum") (rSumT K) := by
  subst hK
  intro pins s σ H xs us Q I r h
  obtain ⟨a, ns, rfl, hq, q⟩ := h
  obtain ⟨u, rfl, rx⟩ := vals1 r
  cases rx
  obtain ⟨its, rv, p, hz⟩ := I.tuple hq
  exact sum_rawT (I.ok.hd hc) (show s.heap.IsTuple a its.toArray from p) rv.ints fun h' tk t' hk => ⟨.int _, H, I.kept hk, ⟨_, rfl⟩, q⟩
/-- [.. for i, x in enumerate(xs) if ..], xs a tuple: of each place what f says, or nothing -/
theorem lc_enumF {α : Type} {K : PySem.W.Frag} {a : Addr} {xs : List V} {g : TG} {tt : TT} {te : TE} {vs : List Nat} {σ : L2.St} {H1 : Hp} {D : Addr} {Qd : Hp → Prop} (f : Nat → Option α) (R : Hp → V → α → Prop) (mono : ∀ H H' y c acc, H D = some (.lst acc) → SameBut D H H' → R H y c → R H' y c)
    (h0 : SqT K H1 a xs) (hD : H1 D = none) (hl : xs.length ≤ 1000)
    (hs : ∀ (i : Nat) x, xs[i]? = some x → ∀ H T (Q : VK) (Rr : Hp → Prop), Same H1 H → H T = some (.tup [.int i, x]) → (∃ acc, H D = some (.lst acc)) → (∀ c, f i = some c → ∀ y H', Same H H' → R H' y c → Q y H') → (f i = none → ∀ H', Same H H' → Rr H') →
      g (.ref T) (wipe σ vs) H fun σ2 H2 => wipe σ2 vs = wipe σ vs ∧ tt σ2 H2 fun b H3 => if b = true then te σ2 H3 Q else Rr H3)
    (hd : ∀ H (ys : List V), Same H1 H → H D = some (.lst ys) → All2 (R H) ys ((List.range xs.length).filterMap f) → Qd H) :
    ∃ W : Nat → Nat → Hp → Prop, (∃ m, W 0 m (upd H1 D (.lst []))) ∧ ∀ i m H, W i m H →
      ((Itet K a).stop i H ∧ Qd H) ∨ ((Itet K a).go i H ∧ ∃ Nx : Hp → Prop, (∀ H', Nx H' → ∃ m', m' < m ∧ W (i + 1) m' H') ∧ ∀ x H', (Itet K a).yld i H x H' → g x (wipe σ vs) H' fun σ2 H2 => wipe σ2 vs = wipe σ vs ∧ tt σ2 H2 fun b H3 =>
        if b = true then te σ2 H3 fun y H4 => ∃ acc, H4 D = some (.lst acc) ∧ acc.length < sizeLine ∧ Nx (upd H4 D (.lst (acc ++ [y]))) else Nx H3) := by
  have sb : ∀ {H o}, Same H1 H → Same H1 (upd H D o) := fun {H o} s b u e => by
    rw [upd_ne (ne_of_none e hD)]
    exact s b u e
  refine lc_it walk_enumT (fun i H => Same H1 H ∧ ∃ ys, H D = some (.lst ys) ∧ ys.length ≤ i ∧ All2 (R H) ys ((List.range i).filterMap f)) ⟨sb (Same.refl H1), [], upd_same, Nat.le_refl _, All2.nil⟩ (fun i H _ h => SqT.same h.1 h0) ?_ ?_
  · rintro i v H H' hi ⟨s1, ys, e2, e3, e4⟩ ⟨T, x, y, rfl, nT, rfl, hx, hy⟩
    have hx : x = .int (i : Nat) := (Option.some.inj hx).symm
    subst hx
    have s2 : Same H (upd H T (.tup [.int (i : Nat), y])) := same_upd (Same.refl H) nT
    have e2' := s2 _ _ e2
    refine hs i y hy _ T _ _ (s1.trans s2) upd_same ⟨ys, e2'⟩ (fun c hc z H4 s4 hz => ?_) (fun hn H4 s4 => ?_)
    · have e5 := s4 _ _ e2'
      have sD : SameBut D H4 (upd H4 D (.lst (ys ++ [z]))) := SameBut.upd _ _ _
      refine ⟨ys, e5, Nat.lt_of_le_of_lt (Nat.le_trans e3 (Nat.le_of_lt hi)) (small1000 hl), sb ((s1.trans s2).trans s4), _, upd_same, by rw [List.length_append]; show ys.length + 1 ≤ i + 1; omega, ?_⟩
      rw [List.range_succ, List.filterMap_append, List.filterMap_cons, hc]
      refine All2.append (e4.mono fun u w h => mono _ _ _ _ _ e5 sD (mono _ _ _ _ _ e2' (SameBut.of s4) (mono _ _ _ _ _ e2 (SameBut.of s2) h))) (All2.cons (mono _ _ _ _ _ e5 sD hz) All2.nil)
    · refine ⟨(s1.trans s2).trans s4, ys, s4 _ _ e2', by omega, ?_⟩
      rw [List.range_succ, List.filterMap_append, List.filterMap_cons, hn, List.filterMap_nil, List.append_nil]
      exact e4.mono fun u w h => mono _ _ _ _ _ e2' (SameBut.of s4) (mono _ _ _ _ _ e2 (SameBut.of s2) h)
  · rintro H ⟨s1, ys, e2, e3, e4⟩
    exact hd H ys s1 e2 e4
theorem i_enumT {K : PySem.W.Frag} {σ : L2.St} {H : Hp} {A : TA} {R : It → Hp → Prop} (h : A σ H fun vs H1 => ∃ a xs, vs = [.ref a] ∧ SqT K H1 a xs ∧ R (Itet K a) H1) : iEnumT K A σ H R := h
theorem i_enumA {K : PySem.W.Frag} {H : Hp} {a : Addr} {xs : List V} {R : Addr → Prop} (h1 : SqT K H a xs) (h : R a) : ∃ b xs, [V.ref a] = [.ref b] ∧ SqT K H b xs ∧ R b := ⟨a, xs, rfl, h1, h⟩
theorem i_maxT {K : PySem.W.Frag} {H : Hp} {Q : VK} {a : Addr} {ns : List Int} (h1 : SqT K H a (ns.map V.int)) (h2 : 0 < ns.length) (h : ∀ m, m ∈ ns → (∀ y, y ∈ ns → y ≤ m) → Q (.int m) H) : rMaxT K [.ref a] H Q := ⟨a, ns, rfl, h1, h2, h⟩
theorem i_sumT {K : PySem.W.Frag} {H : Hp} {Q : VK} {a : Addr} {ns : List Int} (h1 : SqT K H a (ns.map V.int)) (h : Q (.int ns.sum) H) : rSumT K [.ref a] H Q := ⟨a, ns, rfl, h1, h⟩
end
end My
/-! cuts of rows, xs.insert(i, y), data of all makes -/
namespace My
open PySem L2
theorem cut_take {xs : List V} {i : Nat} : cutV xs none (some (i : Int)) = xs.take i := by
  unfold cutV
  rw [HT.sIx_none, HT.sIx_nat, List.drop_zero, Nat.sub_zero, ← List.take_eq_take_min]
theorem cut_drop {xs : List V} {i : Nat} : cutV xs (some (i : Int)) none = xs.drop i := by
  unfold cutV
  rw [HT.sIx_none, HT.sIx_nat]
  by_cases h : i ≤ xs.length
  · rw [Nat.min_eq_left h, List.take_of_length_le (by rw [List.length_drop]; exact Nat.le_refl _)]
  · rw [Nat.min_eq_right (by omega), List.drop_length, List.drop_of_length_le (by omega)]
    simp
theorem cut_drop1 {xs : List V} {i : Nat} : cutV xs (some ((i : Int) + 1)) none = xs.drop (i + 1) := cut_drop
theorem cut_set {ns : List Int} {i : Nat} {z : Int} (h : i < ns.length) : cutV (ns.map V.int) none (some (i : Int)) ++ [V.int z] ++ cutV (ns.map V.int) (some ((i : Int) + 1)) none = (ns.set i z).map V.int := by
  rw [cut_take, cut_drop1, List.set_eq_take_append_cons_drop, if_pos h, List.map_append, List.map_cons, List.map_take, List.map_drop, List.append_assoc]
  rfl
theorem kn_flat {K : PySem.W.Frag} {H : Hp} {x : V} (h : flatV x = true) : Kn K H x := by
  cases x <;> first | exact trivial | (cases h; done)
theorem log2_le {n : Int} (h0 : 0 ≤ n) (h1 : n ≤ 1000) : n.natAbs.log2 < 9000 := Nat.lt_of_le_of_lt (Nat.log2_le_self _) (by omega)
/-- xs.insert(i, y) -/
def rIns : V → List V → Hp → VK → Prop := fun x vs H Q => ∃ (l : Addr) (xs : List V) (i : Int) (y : V), x = .ref l ∧ vs = [.int i, y] ∧ H l = some (.lst xs) ∧ xs.length < sizeLine ∧ 0 ≤ i ∧ i < 2 ^ 63 ∧ Q .non (upd H l (.lst (xs.take i.toNat ++ [y] ++ xs.drop i.toNat)))
def tIns (K : PySem.W.Frag) (to : TE) (A : TA) : TE := tBM K "list" rIns to A
theorem pe_insK {X : Cx} {K : PySem.W.Frag} {e : Expr} {to : TE} {t : TA} (h : PE X e (tBM X.K "list" rIns to t)) (hK : X.K = K := by rfl) : PE X e (tIns K to t) := by
  subst hK
  exact h
theorem i_ins {K : PySem.W.Frag} {σ : St} {H : Hp} {Q : VK} {to : TE} {A : TA} (h : to σ H fun x H1 => tyV K "list" x H1 ∧ A σ H1 fun vs H2 => rIns x vs H2 Q) : tIns K to A σ H Q := h
theorem i_rins {H : Hp} {Q : VK} {l : Addr} {xs : List V} {i : Int} {y : V} (h1 : H l = some (.lst xs)) (h2 : xs.length < sizeLine) (h3 : 0 ≤ i) (h4 : i < 2 ^ 63) (h : Q .non (upd H l (.lst (xs.take i.toNat ++ [y] ++ xs.drop i.toNat)))) : rIns (.ref l) [.int i, y] H Q := ⟨l, xs, i, y, rfl, rfl, h1, h2, h3, h4, h⟩
end My
/-! x in [l, x]: x of an own class with an own ==, l a list -/
namespace My
open PySem L2
section
open PySem.W Builtin PySem.Calls
open PyProof.Rows hiding St
variable {prog : Program} {w : World} {A : Around} {E : Value → Shared → Prop} {s : Shared} {K : Frag} {x l C L f : Addr} {h₀ : Heap} {m : Str → Option Value} {ox : Obj} {od : Option Obj} {its : Array Value} {n : Nat}
theorem leq_other {Q : Value → Shared → Prop} (X : K.In s.heap) (I : InstAt s.heap x ox C od) (hl : s.heap.IsList l its) (hs : subIn K (.ref C) (.type "list") = some false) (h : Q .notImplemented s) :
    wpAny (model prog w) A (call (.builtin "list.__eq__") [.ref l, .ref x]) Q E s := by
  obtain ⟨ol, el, cl, kl, dl⟩ := hl
  refine GQ.call_here F.slot_list_eq ⟨ol, el, cl⟩ F.entry_list_eq (F.args_list_eq_2 _ _) ?_
  unfold Builtin.«list.__eq__»
  show wpAny _ _ (do
    let (a, [b]) ← slotArgs "__eq__" 1 ⟨[.ref l, .ref x], []⟩ | unsupported "internal:list.compare"
    _) _ _ _
  refine wpAny_bind (m := slotArgs "__eq__" 1 _) (wpAny_pure ?_)
  refine wpAny_bind (m := isInstance _ _) ((show Looks (model prog w) s.heap (isInstance (.ref x) (.type "list")) false from I.type.andThen (looks_subIn X hs)).here ?_)
  exact wpAny_pure h
/-- l == x, l a list, x of an own class -/
theorem rc_lx {Q : Value → Shared → Prop} (hu : A.units < cLine) (Fh : Fr h₀ L s.heap m) (X₀ : K.In h₀) (I : InstAt s.heap x ox C od) (hl : s.heap.IsList l its) (hs : subIn K (.ref C) (.type "list") = some false)
    (he : findIn K (.ref C) "__eq__" = some (some (.ref f))) (hf : isFn K (.ref f) = true)
    (h : wpAny (model prog w) A (call (.ref f) [.ref x, .ref l]) (fun v s' => ∃ k, v = .bool k ∧ Q (.bool k) s') E s) : wpAny (model prog w) A (richCompare .Eq (.ref l) (.ref x)) Q E s := by
  have X := X₀.keeps Fh.keep
  have tl : s.TypeIs (.ref l) "list" := by
    obtain ⟨ol, el, cl, _⟩ := hl
    exact ⟨ol, el, cl⟩
  have one : wpAny (model prog w) A (tryCompare (.ref l) (cmpInfo .Eq).2.1 (.ref x)) (fun r s' => r = none ∧ s' = s) E s := by
    unfold tryCompare
    refine wpAny_bind (wpAny_callSpecialIfBound?_slot tl F.slot_list_eq (leq_other X I hl hs ?_))
    exact wpAny_pure ⟨rfl, rfl⟩
  have two : wpAny (model prog w) A (tryCompare (.ref x) (cmpInfo .Eq).2.2 (.ref l)) (fun r s' => ∃ k, r = some (.bool k) ∧ Q (.bool k) s') E s := by
    unfold tryCompare
    refine wpAny_bind (ifBound_K X I he hf (wpAny_mono h (fun v s' hv => ?_) fun _ _ e => e))
    obtain ⟨k, rfl, hq⟩ := hv
    exact wpAny_pure ⟨k, rfl, hq⟩
  unfold richCompare
  simp only [oneThing_ref]
  refine wpAny_holding (wpAny_bind (wpAny_cRoomFor hu ?_))
  refine wpAny_bind (wpAny_typeOf tl ?_)
  refine wpAny_bind (I.type.here ?_)
  split
  · refine wpAny_bind ((looks_subIn X hs).here ?_)
    simp only [Bool.false_eq_true, if_false]
    refine wpAny_bind (wpAny_mono one (fun r s' z => ?_) fun _ _ e => e)
    obtain ⟨rfl, rfl⟩ := z
    simp only [Bool.not_false, if_true]
    refine wpAny_bind (wpAny_mono two (fun r s' z => ?_) fun _ _ e => e)
    obtain ⟨k, rfl, hq⟩ := z
    exact wpAny_pure hq
  · rename_i q
    simp at q
/-- the loop of `in` over a list, when the second one is it -/
def Is2 (h : Heap) (p : Addr) (u v : Value) : Prop := ∃ (dd : Option Addr) (sl : Array (Option Value)) (k : Nat) (items : Array Value), h.get? p = some { cls := .type "list", dict := dd, data := .seq items k, slots := sl } ∧ items[0]? = some u ∧ items[1]? = some v
theorem loop1 {p : Addr} {u : Value} {R : Except Value Flow → Shared → Prop} (hp : Is2 s.heap p u (.ref x)) (h : R (.ok (.ret (.bool true))) s) :
    wpAny (model prog w) A.in1 (Builtin.«list.__contains__.loop» ⟨[.ref p, .ref x, rawInt 1], []⟩) (GQ.FinOf prog w A R) (fun e s' => R (.error e) s') s := by
  obtain ⟨dd, sl, k, items, hg, _, h1⟩ := hp
  have hb : wpAny (model prog w) A.in1 (eqBool (.ref x) (.ref x)) (fun r s' => r = true ∧ s' = s) (fun e s' => R (.error e) s') s := SeqAt.EqAt.same _ _ _ _ _ ⟨rfl, rfl⟩
  obtain ⟨hp0, g, d, tk, os⟩ := s
  wp_walk using AutoSeq1.wpAny_loadPart' hg
  have e1 : items[(1 : Int).toNat]? = some (.ref x) := h1
  rw [e1]
  refine wpAny_bind (wpAny_mono hb (fun r s' z => ?_) fun _ _ z => z)
  obtain ⟨rfl, rfl⟩ := z
  wp_walk
  exact h
theorem loop0 {p : Addr} {R : Except Value Flow → Shared → Prop} (nlx : l ≠ x) (hp : Is2 s.heap p (.ref l) (.ref x))
    (h : wpAny (model prog w) A.in1 (richCompare .Eq (.ref l) (.ref x)) (fun v s' => v = .bool false ∧ Is2 s'.heap p (.ref l) (.ref x) ∧ R (.ok (.ret (.bool true))) s') (fun e s' => R (.error e) s') s) :
    wpAny (model prog w) A.in1 (Builtin.«list.__contains__.loop» ⟨[.ref p, .ref x, rawInt 0], []⟩) (GQ.FinOf prog w A R) (fun e s' => R (.error e) s') s := by
  have hb : wpAny (model prog w) A.in1 (eqBool (.ref l) (.ref x)) (fun r s' => r = false ∧ Is2 s'.heap p (.ref l) (.ref x) ∧ R (.ok (.ret (.bool true))) s') (fun e s' => R (.error e) s') s :=
    GQ.eqBool_refG nlx (wpAny_mono h (fun v s' z => ⟨false, z.1, rfl, z.2⟩) fun _ _ z => z)
  obtain ⟨dd, sl, k, items, hg, h0, _⟩ := hp
  obtain ⟨hp0, g, d, tk, os⟩ := s
  wp_walk using AutoSeq1.wpAny_loadPart' hg
  have e1 : items[(0 : Int).toNat]? = some (.ref l) := h0
  rw [e1]
  refine wpAny_bind (wpAny_mono hb (fun r s' z => ?_) fun _ _ z => z)
  obtain ⟨rfl, e, q⟩ := z
  have hrec := loop1 (prog := prog) (w := w) (A := A) e q
  obtain ⟨hp2, g2, d2, tk2, os2⟩ := s'
  wp_walk
  exact ⟨plainId_quiet MeetsSeq.plain_contains_loop _, codeAny_builtin MeetsSeq.entry_contains_loop (by
    rw [Around.under_plainId MeetsSeq.plain_contains_loop _]
    exact hrec)⟩
theorem in_lx {p : Addr} {Q : Value → Shared → Prop} (nlx : l ≠ x) (hp : Is2 s.heap p (.ref l) (.ref x))
    (h : wpAny (model prog w) A.in1 (richCompare .Eq (.ref l) (.ref x)) (fun v s' => v = .bool false ∧ Is2 s'.heap p (.ref l) (.ref x) ∧ Q (.bool true) s') E s) : wpAny (model prog w) A (compareOp .In (.ref x) (.ref p)) Q E s := by
  have hT : s.TypeIs (.ref p) "list" := by
    obtain ⟨dd, sl, k, items, hg, _⟩ := hp
    exact ⟨_, hg, rfl⟩
  show wpAny _ _ (do return .bool (← contains (.ref p) (.ref x))) Q E s
  refine wpAny_bind (PySem.wpAny_contains_slot hT F.slot_list_contains (GQ.call_here F.slot_list_contains hT F.entry_list_contains (F.args_list_contains_2 _ _) ?_))
  unfold Builtin.«list.__contains__»
  refine wpAny_bind (m := slotArgs "__contains__" 1 _) (wpAny_pure ?_)
  refine wpAny_pure ⟨plainId_quiet MeetsSeq.plain_contains_loop _, codeAny_builtin MeetsSeq.entry_contains_loop ?_⟩
  rw [Around.under_plainId MeetsSeq.plain_contains_loop _]
  exact loop0 nlx hp (wpAny_mono h (fun v s' z => ⟨z.1, z.2.1, wpAny_truthy_bool (wpAny_pure z.2.2)⟩) fun _ _ z => z)
end
/-- x in [l, x]: x of an own class whose own == of x and the list l tells False -/
def rIn2 (K : PySem.W.Frag) (C : Addr) (sp : Sp) (E : XK) : R2 := fun x y H Q => ∃ a dx fs p l xs, x = .ref a ∧ H a = some (.ins C dx fs) ∧ y = .ref p ∧ H p = some (.lst [.ref l, .ref a]) ∧ SqL K H l xs ∧ l ≠ a ∧ sp [.ref a, .ref l] H (fun v H' => v = .bl false ∧ H' p = some (.lst [.ref l, .ref a]) ∧ Q (.bl true) H') E
section
variable {X : Cx} {CX : CXT} {n : Nat} {f C : Addr} {fd : FuncData} {ps : List Str} {sp : Sp} {E : XK}
theorem is2_of {P : Program} {w : World} {H : Hp} {h : Heap} {p l a : Addr} (hok : HOk P w H h) (e : H p = some (.lst [.ref l, .ref a])) : Is2 h p (.ref l) (.ref a) := by
  obtain ⟨_, its, k, r, g⟩ := (show ObjOk P w H h p (.lst [.ref l, .ref a]) from hok p _ e)
  cases r with
  | cons r1 r =>
    cases r with
    | cons r2 r =>
      cases r
      cases r1
      cases r2
      exact ⟨none, #[], k, _, g, rfl, rfl⟩
theorem op_in2 {K : PySem.W.Frag} (m : Meth X.K C "__eq__" f) (F : FnOk X.prog X.w X.K X.mg X.base CX n f fd ps sp) (hr : Room (n + 2) X.A) (hb : Binds X.K fd ps []) (hx : Passes CX X E) (hs : PySem.W.subIn X.K (.ref C) (.type "list") = some false) (hK : X.K = K := by rfl) : OpR X (compareOp .In) (rIn2 K C sp E) := by
  subst hK
  intro pins s σ H x y v u Q I rx ry h
  obtain ⟨a, dx, fs, p, l, xs, rfl, ha, rfl, hp, hl, nla, h⟩ := h
  cases rx
  cases ry
  obtain ⟨mA, J, _⟩ := ins_get I.hok ha
  obtain ⟨od, J, _⟩ := J.look
  obtain ⟨mm, hF⟩ := I.fr
  obtain ⟨us, r1, p1, _⟩ := I.list hl
  have h1 : Room (n + 1) X.A.in1 := hr.in1
  refine in_lx nla (is2_of I.hok hp) (rc_lx h1.units0 hF I.ok.mod.kin J p1.isList hs m.at_ m.fn (wpAny_mono (run_own F hb hx ⟨h1.mono (Nat.le_succ _), rfl⟩ I (show Vals [V.ref a, .ref l] [Value.ref a, .ref l] from .cons rfl (.cons rfl .nil)) h) (fun v s' z => ?_) fun _ _ z => z))
  obtain ⟨x, H', I', rx, rfl, hp', z⟩ := z
  obtain rfl : v = Value.bool false := rx
  exact ⟨false, rfl, rfl, is2_of I'.hok hp', .bl true, H', I', rfl, z⟩
end
end My
/-! an own == asked within an except suite -/
namespace My
open PySem L2
open L2H (RoomH PinOk cxH)
theorem _root_.L2H.RoomH.units {k : Nat} {A : Around} (r : RoomH k A) : A.units + 64 < cLine := by
  have := r.un
  omega
/-- what a def does where an exception is handled; it raises nothing -/
structure FnP (P : Program) (w : World) (K : PySem.W.Frag) (mg : Str → Option Value) (base : Heap) (k : Nat) (f : Addr) (fd : FuncData) (ps : List Str) (sp : Sp) : Prop where
  len : ∀ vs H Q E, sp vs H Q E → vs.length = ps.length
  run : ∀ (A : Around) (outer : List Env) (s : Shared) (H : Hp) (args : Args) (us : List Value) (vs : List V) (Q : VK) (E : XK) (p : Addr × Obj), RoomH k A → PinOk outer H s p → Env0 P w K mg base A outer s H → BindsTo s fd args (ps.zip us) → Vals vs us → sp vs H Q E →
    codeAny (model P w) A (.call (.ref f) args) (CR CX0 outer P w H s Q E) s
theorem fund_okP {P : Program} {w : World} {K : PySem.W.Frag} {mg : Str → Option Value} {base : Heap} {x qual : Str} {params : Arguments} {body : List Stmt} {scope : Scope} {dvs : List V} {f : Addr} {fd : FuncData} {N ps : List Str} {k : Nat} {sp : Sp}
    (F : FunD K x qual params body scope dvs [] f fd) (S : FnScope N ps scope) (len : ∀ vs H Q E, sp vs H Q E → vs.length = ps.length)
    (hbody : ∀ (cdv : Value) (A : Around) (outer : List Env) (s : Shared) (H : Hp) (vs : List V) (Q : VK) (E : XK) (p : Addr × Obj), RoomH k (A.deeper (PyProof.Rows.envOfC qual scope s.heap.objs.size f cdv)) → sp vs H Q E →
      ∃ t, PSs (cxH CX0 P w K mg base N qual scope f cdv A outer s H E p) body t ∧ t { nx := fun _ H' => Q .non H', rt := Q } (start N vs) H) : FnP P w K mg base (k + 1) f fd ps sp := by
  obtain ⟨oc, od, dV, kV, doc, pm, an, cdv, ct, osl, rfl, look, code, _, _⟩ := F.ex
  refine ⟨len, fun A outer s H args us vs Q E p room pin e1 bound rv wish => ?_⟩
  have eq1 := len _ _ _ _ wish
  have kin := e1.mod.kin.keeps fun b o z => (e1.bs b o z).1
  have nolim := e1.mod.nolimit.keeps fun b o z => (e1.bs b o z).1
  have kinds : ∀ y ∈ ps.zip us, scope.names.lookup y.1 = some .local ∨ (scope.names.lookup y.1 = some .cell ∧ ((cellsFrom (s.heap.objs.size + 1) scope.names []).lookup y.1).isSome = true) := by
    rintro ⟨n, v⟩ hm
    have hn := S.par n (List.of_mem_zip hm).1
    exact hn.imp id fun z => ⟨z, PySem.W.cellsFrom_some _ _ _ (.inl z)⟩
  refine codeAny_call_function room.depth (kin _ _ look) rfl S.co S.gen rfl (PySem.W.codeRec_of kin code) (bound _ _ _ _ ?_)
  refine wpAny_newFunctionEnv_cells S.kind kinds fun env ee s2 called => ?_
  cases ee
  obtain ⟨t, walk, ends⟩ := hbody cdv A outer s H vs Q E p (room.deeper _) wish
  have J0 := L2H.inv_startH (CX := CX0) (E := E) (qual := qual) S pin e1 eq1 rv called
  refine ⟨nolim.keeps called.toInCall.keep, codeAny_func (wpAny_mono (walk.run [] s2 (start N vs) H _ J0 ends) (fun fl s3 z => ?_) fun _ _ z => z)⟩
  match fl, z with
  | .ret u, ⟨v, σ', H', J, rv', q⟩ => exact ⟨v, H', J.os, J.bare, J.base, J.hok, rv', q⟩
  | .next, ⟨σ', H', J, q⟩ => exact ⟨V.non, H', J.os, J.bare, J.base, J.hok, rfl, q⟩
  | .brk, ⟨_, _, _, q⟩ => exact q.elim
  | .cont, ⟨_, _, _, q⟩ => exact q.elim
section
variable {X : Cx} {n : Nat} {f C : Addr} {fd : FuncData} {ps : List Str} {sp : Sp}
theorem run_ownP {p : Addr × Obj} {pins : List (Addr × Obj)} {σ : St} {H : Hp} {s : Shared} {Q : VK} {us : List Value} {vs : List V} (F : FnP X.prog X.w X.K X.mg X.base n f fd ps sp) (hr : RoomH n X.A) (hp : p ∈ X.pn) (hb : Binds X.K fd ps [])
    (I : Inv X pins σ H s) (rv : Vals vs us) (h : sp vs H Q (fun _ _ _ => False)) : wpAny (model X.prog X.w) X.A (call (.ref f) us) (EP X pins σ Q) X.xe s := by
  have lens : us.length = ps.length := rv.length.symm.trans (F.len _ _ _ _ h)
  have bound := hb s us I.kIn (by rw [List.append_nil]; exact lens)
  rw [List.append_nil] at bound
  obtain ⟨g1, g2, g3, g4, g5⟩ := I.pin p (List.mem_append_left _ hp)
  have pin : PinOk X.stack H s p := ⟨g1, g2, fun z => (List.mem_cons.mp (I.stkSub p.1 z)).elim g3 g4, g5⟩
  refine wpAny_call (codeAny_mono (F.run X.A X.stack s H ⟨us, []⟩ us vs Q (fun _ _ _ => False) p hr pin I.env0 bound rv h) fun r s2 z => ?_)
  match r, z with
  | .error e, z => exact (show Passes CX0 X (fun _ _ _ => False) from pass0) pins σ H s e s2 I z
  | .ok (.ret u), z => exact I.after z
  | .ok .next, z => exact z.elim
  | .ok .brk, z => exact z.elim
  | .ok .cont, z => exact z.elim
/-- x == y within a suite: x of C, whose own == is sp -/
theorem op_eqP {p : Addr × Obj} {K : PySem.W.Frag} (m : Meth X.K C "__eq__" f) (F : FnP X.prog X.w X.K X.mg X.base n f fd ps sp) (hr : RoomH n X.A) (hp : p ∈ X.pn) (hb : Binds X.K fd ps []) (q : EqC X.K C) (hK : X.K = K := by rfl) : OpR X (compareOp .Eq) (rEqO K C sp (fun _ _ _ => False) false) := by
  subst hK
  intro pins s σ H x y v u Q I rx ry h
  obtain ⟨a, dx, fs, rfl, ha, hy, h⟩ := h
  cases rx
  obtain ⟨mA, J, _⟩ := ins_get I.hok ha
  obtain ⟨od, J, _⟩ := J.look
  obtain ⟨mm, hF⟩ := I.fr
  obtain ⟨t, hl, hn⟩ := ty_looks q I ry hy
  show wpAny (model X.prog X.w) X.A (richCompare .Eq (.ref a) u) (EP X pins σ Q) X.xe s
  refine PySem.W.cmp_K (op := .Eq) (by have := hr.un; omega) hF I.ok.mod.kin J hl hn m.at_ m.fn (wpAny_mono (run_ownP F hr hp hb I (show Vals [V.ref a, y] [Value.ref a, u] from .cons rfl (.cons ry .nil)) h) (fun v s' z => ?_) fun _ _ z => z)
  obtain ⟨x, H', I', rx, b, rfl, z⟩ := z
  obtain rfl : v = Value.bool b := rx
  exact ⟨.bl b, H', I', rfl, z⟩
theorem roomH_suite {k : Nat} {a : Addr} {pn : List (Addr × Obj)} {X : Cx} (r : Room k X.A) : RoomH k (X.suite a pn).A := ⟨r.dp, r.un⟩
end
end My
/-! texts of numbers: str(n), sep.join(row), f"..{x}.." -/
namespace My
open PySem L2
/-- a number's text -/
def numT (n : Int) : Str := Str.ofString (toString n)
def rStrI : List V → Hp → VK → Prop := fun xs H Q => ∃ i : Int, xs = [.int i] ∧ i.natAbs.log2 < 1920 ∧ Q (.str (numT i)) H
theorem call_strI {X : Cx} : CallR X (.type "str") rStrI := call_str_int
theorem i_strI {i : Int} {H : Hp} {Q : VK} (h1 : i.natAbs.log2 < 1920) (h : Q (.str (numT i)) H) : rStrI [.int i] H Q := ⟨i, rfl, h1, h⟩
def tJoinK (K : PySem.W.Frag) (to te : TE) : TE := fun σ H Q => to σ H fun x H1 => (∃ a, x = .str a) ∧ te σ H1 fun y H2 => ∃ (a : Str) (p : Addr) (ys : List Str), x = .str a ∧ [y] = [.ref p] ∧ (SqL K H2 p (ys.map V.str) ∨ SqT K H2 p (ys.map V.str)) ∧ (ys.map (·.length)).sum + ys.length * a.length ≤ 16777216 ∧ Q (.str (Txt.join a ys)) H2
theorem pe_joinK {X : Cx} {K : PySem.W.Frag} {o e : Expr} {to te : TE} {apos pos : Pos} (ho : PE X o to) (he : PE X e te) (hK : X.K = K := by rfl)
    (hbase : attributeBase o "join" X.env (eval o X.env) = eval o X.env := by rfl) (hline : (apos.endLine == pos.line) = true := by rfl) (hst : starEach [e] X.env = [(false, eval e X.env)] := by rfl) : PE X (.Call (.Attribute o "join" apos) [e] [] pos) (tJoinK K to te) := by
  subst hK
  exact pe_join ho he (hs := hst) (hbase := hbase) (hline := hline)
theorem i_joinK {K : PySem.W.Frag} {to te : TE} {σ : St} {H : Hp} {Q : VK} (h : to σ H fun x H1 => (∃ a, x = .str a) ∧ te σ H1 fun y H2 => ∃ (a : Str) (p : Addr) (ys : List Str), x = .str a ∧ [y] = [.ref p] ∧ (SqL K H2 p (ys.map V.str) ∨ SqT K H2 p (ys.map V.str)) ∧ (ys.map (·.length)).sum + ys.length * a.length ≤ 16777216 ∧ Q (.str (Txt.join a ys)) H2) : tJoinK K to te σ H Q := h
theorem i_joinA {a : Str} {R : Prop} (h : R) : (∃ b, V.str a = .str b) ∧ R := ⟨⟨a, rfl⟩, h⟩
theorem i_joinR {K : PySem.W.Frag} {H : Hp} {R : Str → List Str → Prop} {a : Str} {p : Addr} {ys : List Str} (h1 : SqL K H p (ys.map V.str) ∨ SqT K H p (ys.map V.str)) (h2 : (ys.map (·.length)).sum + ys.length * a.length ≤ 16777216) (h : R a ys) :
    ∃ (b : Str) (q : Addr) (zs : List Str), V.str a = .str b ∧ [V.ref p] = [.ref q] ∧ (SqL K H q (zs.map V.str) ∨ SqT K H q (zs.map V.str)) ∧ (zs.map (·.length)).sum + zs.length * b.length ≤ 16777216 ∧ R b zs := ⟨a, p, ys, rfl, rfl, h1, h2, h⟩
def tFs (ts : List TE) : TE := fun σ H Q => tJs ts Str.empty σ H fun out H1 => Q (.str out) H1
theorem pe_fs {X : Cx} {v1 v2 : Expr} {rest : List Expr} {ts : List TE} {pos : Pos} (h : PJ X (v1 :: v2 :: rest) ts) : PE X (.JoinedStr (v1 :: v2 :: rest) pos) (tFs ts) := pe_joined h
section
variable {σ : St} {H : Hp} {Q : VK} {t te : TE} {ts : List TE} {acc z : Str} {R : Str → Hp → Prop}
theorem i_fs (h : tJs ts Str.empty σ H fun out H1 => Q (.str out) H1) : tFs ts σ H Q := h
theorem i_js0 (h : R acc H) : tJs [] acc σ H R := h
theorem i_js1 (h : t σ H fun x H1 => ∃ y : Str, x = .str y ∧ (acc ++ y).length ≤ sizeLine ∧ tJs ts (acc ++ y) σ H1 R) : tJs (t :: ts) acc σ H R := h
theorem i_jsS (h1 : (acc ++ z).length ≤ sizeLine) (h : tJs ts (acc ++ z) σ H R) : ∃ y : Str, V.str z = .str y ∧ (acc ++ y).length ≤ sizeLine ∧ tJs ts (acc ++ y) σ H R := ⟨z, rfl, h1, h⟩
theorem i_fmt (h : te σ H fun x H1 => (∃ y : Str, x = .str y ∧ y.length ≤ sizeLine ∧ Q (.str y) H1) ∨ ∃ i : Int, x = .int i ∧ i.natAbs.log2 < 1920 ∧ Q (.str (numT i)) H1) : tFmt te σ H Q := h
theorem i_fmtS {S : Str → Prop} {L : Prop} (h1 : z.length ≤ sizeLine) (h : S z) : (∃ y : Str, V.str z = .str y ∧ y.length ≤ sizeLine ∧ S y) ∨ L := .inl ⟨z, rfl, h1, h⟩
end
theorem numT_len {n : Int} (h0 : 0 ≤ n) (h : n < 10 ^ 40) : (numT n).length ≤ 40 := PyProof.Rows.toString_length_le h0 (by decide) h
theorem num_log {n : Int} (h0 : 0 ≤ n) (h : n < 10 ^ 40) : n.natAbs.log2 < 1920 := by
  have h1 : n.natAbs < 2 ^ 140 := by
    have : (10 : Int) ^ 40 < 2 ^ 140 := by decide
    omega
  have : n.natAbs.log2 < 140 := by
    by_cases hz : n.natAbs = 0
    · rw [hz]; decide
    · exact (Nat.log2_lt hz).mpr h1
  omega
/-- the texts of a row of numbers -/
def numsT (ns : List Int) : List Str := ns.map numT
theorem numsT_sum : ∀ {ns : List Int}, (∀ n ∈ ns, 0 ≤ n ∧ n < 10 ^ 40) → ((numsT ns).map (·.length)).sum ≤ ns.length * 40
  | [], _ => Nat.le_refl _
  | n :: ns, h => by
    have h1 := numT_len (h n List.mem_cons_self).1 (h n List.mem_cons_self).2
    have h2 := numsT_sum (ns := ns) fun x hx => h x (List.mem_cons_of_mem _ hx)
    show (numT n).length + ((numsT ns).map (·.length)).sum ≤ (ns.length + 1) * 40
    omega
theorem joinT_len {ns : List Int} {sep : Str} (h : ∀ n ∈ ns, 0 ≤ n ∧ n < 10 ^ 40) (hl : ns.length ≤ 5) (hs : sep.length ≤ 2) : (Txt.join sep (numsT ns)).length ≤ 300 := by
  rw [show Txt.join sep (numsT ns) = Str.join sep (numsT ns) from StrLaws.glued_eq_join sep _]
  have h1 := StrLaws.join_length_le sep (numsT ns)
  have h2 := numsT_sum h
  have h3 : (numsT ns).length = ns.length := List.length_map ..
  rw [h3] at h1
  have h4 : ns.length * sep.length ≤ 5 * 2 := Nat.mul_le_mul hl hs
  omega
theorem joinT_ok {ns : List Int} {sep : Str} (h : ∀ n ∈ ns, 0 ≤ n ∧ n < 10 ^ 40) (hl : ns.length ≤ 5) (hs : sep.length ≤ 2) : ((numsT ns).map (·.length)).sum + (numsT ns).length * sep.length ≤ 16777216 := by
  have h2 := numsT_sum h
  have h3 : (numsT ns).length = ns.length := List.length_map ..
  rw [h3]
  have h4 : ns.length * sep.length ≤ 5 * 2 := Nat.mul_le_mul hl hs
  omega
/-- two readings of one operator -/
def r2or (r1 r2 : R2) : R2 := fun x y H Q => r1 x y H Q ∨ r2 x y H Q
theorem opr_or {X : Cx} {o : Value → Value → Sem Value} {r1 r2 : R2} (h1 : OpR X o r1) (h2 : OpR X o r2) : OpR X o (r2or r1 r2) := by
  intro pins s σ H x y v u Q I rx ry h
  rcases h with h | h
  · exact h1 pins s σ H x y v u Q I rx ry h
  · exact h2 pins s σ H x y v u Q I rx ry h
theorem i_or1 {r1 r2 : R2} {x y : V} {H : Hp} {Q : VK} (h : r1 x y H Q) : r2or r1 r2 x y H Q := .inl h
theorem i_or2 {r1 r2 : R2} {x y : V} {H : Hp} {Q : VK} (h : r2 x y H Q) : r2or r1 r2 x y H Q := .inr h
end My
/-! a dict of the module with text keys; a call of a def that a name or an item holds -/
namespace My
open PySem L2
def KDc (K : PySem.W.Frag) (w : World) (a : Addr) (x : Str) (v : V) : Prop := KDct K w a x v ∧ (a == sysModules) = false
def rInKd (K : PySem.W.Frag) (w : World) : R2 := fun x y H Q => ∃ p z v, x = .str z ∧ y = .ref p ∧ KDc K w p z v ∧ Q (.bl true) H
def rNotInKd (K : PySem.W.Frag) (w : World) : R2 := fun x y H Q => ∃ p z v, x = .str z ∧ y = .ref p ∧ KDc K w p z v ∧ Q (.bl false) H
def rIxKd (K : PySem.W.Frag) (w : World) : R2 := fun x y H Q => ∃ p z v, x = .ref p ∧ y = .str z ∧ KDc K w p z v ∧ Q v H
section
variable {X : Cx} {K : PySem.W.Frag}
theorem op_inKd {w : World} (hK : X.K = K := by rfl) (hW : X.w = w := by rfl) : OpR X (compareOp .In) (rInKd K w) := by
  subst hK hW
  intro pins s σ H x y v u Q I rx ry h
  obtain ⟨p, z, r, rfl, rfl, ⟨⟨es, n, u0, hl, hk, e, ru⟩, hd⟩, q⟩ := h
  exact op_in_kd ⟨hl, hk, hd⟩ pins s σ H _ _ v u Q I rx ry ⟨z, _, rfl, rfl, e, q⟩
theorem op_notInKd {w : World} (hK : X.K = K := by rfl) (hW : X.w = w := by rfl) : OpR X (compareOp .NotIn) (rNotInKd K w) := by
  subst hK hW
  intro pins s σ H x y v u Q I rx ry h
  obtain ⟨p, z, r, rfl, rfl, ⟨⟨es, n, u0, hl, hk, e, ru⟩, hd⟩, q⟩ := h
  exact op_notIn_kd ⟨hl, hk, hd⟩ pins s σ H _ _ v u Q I rx ry ⟨z, _, rfl, rfl, e, q⟩
theorem ix_Kd {w : World} (hK : X.K = K := by rfl) (hW : X.w = w := by rfl) : IxR X (rIxKd K w) := by
  subst hK hW
  intro value slice pins s σ H x y v u Q I rx ry h hs
  obtain ⟨p, z, r, rfl, rfl, D, q⟩ := h
  exact ix_kdict value slice pins s σ H _ _ v u Q I rx ry ⟨p, z, r, rfl, rfl, D.1, q⟩ hs
theorem i_inKd {w : World} {H : Hp} {Q : VK} {p : Addr} {z : Str} {v : V} (h1 : KDc K w p z v) (h : Q (.bl true) H) : rInKd K w (.str z) (.ref p) H Q := ⟨p, z, v, rfl, rfl, h1, h⟩
theorem i_notInKd {w : World} {H : Hp} {Q : VK} {p : Addr} {z : Str} {v : V} (h1 : KDc K w p z v) (h : Q (.bl false) H) : rNotInKd K w (.str z) (.ref p) H Q := ⟨p, z, v, rfl, rfl, h1, h⟩
theorem i_ixKd {w : World} {H : Hp} {Q : VK} {p : Addr} {z : Str} {v : V} (h1 : KDc K w p z v) (h : Q v H) : rIxKd K w (.ref p) (.str z) H Q := ⟨p, z, v, rfl, rfl, h1, h⟩
/-- the i-th slot holds one of some defs -/
def tCallR (i : Nat) (S : Addr → Sp → Prop) (t : TA) : TE := fun σ H Q => ∃ f sp, σ[i]? = some (some (.ref f)) ∧ S f sp ∧ t σ H fun vs H1 => sp vs H1 Q (fun _ _ _ => False)
theorem pe_callR {k i : Nat} {x : Str} {p pos : Pos} {e : Expr} {es : List Expr} {t : TA} {S : Addr → Sp → Prop} (A : ∀ f sp, S f sp → Held X.prog X.w X.K X.mg X.base k f sp) (hr : Room k X.A) (hN : X.N[i]? = some x) (hv : Vis X.env.scope x) (ha : PA X (e :: es) t)
    (hdb : (x == ("__debug__" : Str)) = false := by decide) (hcd : (x == ("__classdict__" : Str)) = false := by decide)
    (he : starEach (e :: es) X.env = (false, eval e X.env) :: starEach es X.env := by rfl) (hpl : (backTo pos (starEach es X.env)).any (·.1) = false := by rfl) : PE X (.Call (.Name x p) (e :: es) [] pos) (tCallR i S t) := by
  refine ⟨fun pins s σ H Q I h => ?_⟩
  obtain ⟨f, sp, hs, hS, ht⟩ := h
  obtain ⟨fd, ps, F, hk, hb⟩ := (A f sp hS).ex
  refine (pe_callL (i := i) (f := f) (sp := sp) (dvs := []) (E := fun _ _ _ => False) F hr hN hv hk hb .nil (fun _ _ _ _ _ _ _ z => z.elim) ha hdb hcd he hpl).run pins s σ H Q I ⟨hs, ?_⟩
  have e0 : (fun (vs : List V) (H1 : Hp) => sp (vs ++ []) H1 Q (fun _ _ _ => False)) = fun vs H1 => sp vs H1 Q (fun _ _ _ => False) := by
    funext vs H1
    rw [List.append_nil]
  show t σ H (fun vs H1 => sp (vs ++ []) H1 Q (fun _ _ _ => False))
  rw [e0]
  exact ht
theorem i_callR {i : Nat} {S : Addr → Sp → Prop} {t : TA} {σ : St} {H : Hp} {Q : VK} {f : Addr} (sp : Sp) (h1 : σ[i]? = some (some (.ref f))) (h2 : S f sp) (h : t σ H fun vs H1 => sp vs H1 Q (fun _ _ _ => False)) : tCallR i S t σ H Q := ⟨f, sp, h1, h2, h⟩
end
end My
/-! [.. for x in xs if ..]: of each place what f says, or nothing -/
namespace My
open PySem L2
theorem lc_fil {α : Type} {J : It} {G : Hp → Prop} {g : TG} {tt : TT} {te : TE} {vs : List Nat} {σ : L2.St} {H1 : Hp} {D : Addr} {Qd : Hp → Prop} {n : Nat} (at_ : Nat → V → Prop) (f : Nat → Option α) (R : Hp → V → α → Prop) (mono : ∀ H H' y c acc, H D = some (.lst acc) → SameBut D H H' → R H y c → R H' y c)
    (w : Walk J n G fun i H x H' => H' = H ∧ at_ i x) (hl : n < sizeLine) (hG : ∀ H, Same H1 H → G H) (hD : H1 D = none)
    (hs : ∀ i x, i < n → at_ i x → ∀ H (Q : VK) (Rr : Hp → Prop), Same H1 H → (∃ acc, H D = some (.lst acc)) → (∀ c, f i = some c → ∀ y H', Same H H' → R H' y c → Q y H') → (f i = none → ∀ H', Same H H' → Rr H') →
      g x (wipe σ vs) H fun σ2 H2 => wipe σ2 vs = wipe σ vs ∧ tt σ2 H2 fun b H3 => if b = true then te σ2 H3 Q else Rr H3)
    (hd : ∀ H (ys : List V), Same H1 H → H D = some (.lst ys) → All2 (R H) ys ((List.range n).filterMap f) → Qd H) :
    ∃ W : Nat → Nat → Hp → Prop, (∃ m, W 0 m (upd H1 D (.lst []))) ∧ ∀ i m H, W i m H →
      (J.stop i H ∧ Qd H) ∨ (J.go i H ∧ ∃ Nx : Hp → Prop, (∀ H', Nx H' → ∃ m', m' < m ∧ W (i + 1) m' H') ∧ ∀ x H', J.yld i H x H' → g x (wipe σ vs) H' fun σ2 H2 => wipe σ2 vs = wipe σ vs ∧ tt σ2 H2 fun b H3 =>
        if b = true then te σ2 H3 fun y H4 => ∃ acc, H4 D = some (.lst acc) ∧ acc.length < sizeLine ∧ Nx (upd H4 D (.lst (acc ++ [y]))) else Nx H3) := by
  have sb : ∀ {H o}, Same H1 H → Same H1 (upd H D o) := fun {H o} s b u e => by
    rw [upd_ne (ne_of_none e hD)]
    exact s b u e
  refine lc_it w (fun i H => Same H1 H ∧ ∃ ys, H D = some (.lst ys) ∧ ys.length ≤ i ∧ All2 (R H) ys ((List.range i).filterMap f)) ⟨sb (Same.refl H1), [], upd_same, Nat.le_refl _, All2.nil⟩ (fun i H _ h => hG H h.1) ?_ ?_
  · rintro i v H H' hi ⟨s1, ys, e2, e3, e4⟩ ⟨rfl, hx⟩
    refine hs i v hi hx H' _ _ s1 ⟨ys, e2⟩ (fun c hc z H4 s4 hz => ?_) (fun hn H4 s4 => ?_)
    · have e5 := s4 _ _ e2
      have sD : SameBut D H4 (upd H4 D (.lst (ys ++ [z]))) := SameBut.upd _ _ _
      refine ⟨ys, e5, Nat.lt_of_le_of_lt (Nat.le_trans e3 (Nat.le_of_lt hi)) hl, sb (s1.trans s4), _, upd_same, by rw [List.length_append]; show ys.length + 1 ≤ i + 1; omega, ?_⟩
      rw [List.range_succ, List.filterMap_append, List.filterMap_cons, hc]
      refine All2.append (e4.mono fun u w h => mono _ _ _ _ _ e5 sD (mono _ _ _ _ _ e2 (SameBut.of s4) h)) (All2.cons (mono _ _ _ _ _ e5 sD hz) All2.nil)
    · refine ⟨s1.trans s4, ys, s4 _ _ e2, by omega, ?_⟩
      rw [List.range_succ, List.filterMap_append, List.filterMap_cons, hn, List.filterMap_nil, List.append_nil]
      exact e4.mono fun u w h => mono _ _ _ _ _ e2 (SameBut.of s4) h
  · rintro H ⟨s1, ys, e2, e3, e4⟩
    exact hd H ys s1 e2 e4
theorem range_filter {α : Type} (P : α → Bool) (as : List α) : (List.range as.length).filterMap (fun i => (as[i]?).filter P) = as.filter P := by
  have key : ∀ (bs : List α), (List.range bs.length).filterMap (fun i => (bs[i]?).filter P) = bs.filter P := by
    intro bs
    induction bs with
    | nil => rfl
    | cons b bs ih =>
      rw [List.length_cons, List.range_succ_eq_map, List.filterMap_cons, List.filterMap_map]
      have e : (fun i => ((b :: bs)[i]?).filter P) ∘ Nat.succ = fun i => (bs[i]?).filter P := by
        funext i
        simp
      rw [e, ih]
      cases h : P b <;> simp [Option.filter, h]
  exact key as
/-- things that stay what they are -/
structure Stays {α : Type} (R : Hp → V → α → Prop) : Prop where
  but : ∀ {D H H' y c acc}, H D = some (.lst acc) → SameBut D H H' → R H y c → R H' y c
  same : ∀ {H H' y c}, Same H H' → R H y c → R H' y c
section
variable {α : Type} {K : PySem.W.Frag} {a : Addr} {xs : List V} {as : List α} {g : TG} {tt : TT} {te : TE} {vs : List Nat} {σ : L2.St} {H1 : Hp} {D : Addr} {Qd : Hp → Prop}
/-- [x for x in xs if ..] -/
theorem lc_filL (R : Hp → V → α → Prop) (P : α → Bool) (st : Stays R) (h0 : SqL K H1 a xs) (hx : All2 (R H1) xs as) (hD : H1 D = none) (hl : xs.length ≤ 1000)
    (hs : ∀ x c, c ∈ as → ∀ H (Q : VK) (Rr : Hp → Prop), Same H1 H → R H x c → (∃ acc, H D = some (.lst acc)) → (P c = true → ∀ H', Same H H' → Q x H') → (P c = false → ∀ H', Same H H' → Rr H') →
      g x (wipe σ vs) H fun σ2 H2 => wipe σ2 vs = wipe σ vs ∧ tt σ2 H2 fun b H3 => if b = true then te σ2 H3 Q else Rr H3)
    (hd : ∀ H (ys : List V), Same H1 H → H D = some (.lst ys) → All2 (R H) ys (as.filter P) → Qd H) :
    ∃ W : Nat → Nat → Hp → Prop, (∃ m, W 0 m (upd H1 D (.lst []))) ∧ ∀ i m H, W i m H →
      ((Itl K a).stop i H ∧ Qd H) ∨ ((Itl K a).go i H ∧ ∃ Nx : Hp → Prop, (∀ H', Nx H' → ∃ m', m' < m ∧ W (i + 1) m' H') ∧ ∀ x H', (Itl K a).yld i H x H' → g x (wipe σ vs) H' fun σ2 H2 => wipe σ2 vs = wipe σ vs ∧ tt σ2 H2 fun b H3 =>
        if b = true then te σ2 H3 fun y H4 => ∃ acc, H4 D = some (.lst acc) ∧ acc.length < sizeLine ∧ Nx (upd H4 D (.lst (acc ++ [y]))) else Nx H3) := by
  refine lc_fil (fun i x => xs[i]? = some x) (fun i => (as[i]?).filter P) R (fun H H' y c acc e s h => st.but e s h) walk_list (small1000 hl) (fun _ s => Same.seq s h0) hD (fun i x _ hi H Q Rr s1 hacc k1 k2 => ?_) (fun H ys s1 e1 e2 => hd H ys s1 e1 (by rw [hx.1, range_filter] at e2; exact e2))
  obtain ⟨c, hc, r⟩ := hx.get hi
  have r1 := st.same s1 r
  refine hs x c (List.mem_of_getElem? hc) H Q Rr s1 r1 hacc (fun p H' s' => k1 c (by show (as[i]?).filter P = some c; rw [hc]; simp [Option.filter, p]) x H' s' (st.same s' r1)) (fun p H' s' => k2 (by show (as[i]?).filter P = none; rw [hc]; simp [Option.filter, p]) H' s')
theorem lc_filT (R : Hp → V → α → Prop) (P : α → Bool) (st : Stays R) (h0 : SqT K H1 a xs) (hx : All2 (R H1) xs as) (hD : H1 D = none) (hl : xs.length ≤ 1000)
    (hs : ∀ x c, c ∈ as → ∀ H (Q : VK) (Rr : Hp → Prop), Same H1 H → R H x c → (∃ acc, H D = some (.lst acc)) → (P c = true → ∀ H', Same H H' → Q x H') → (P c = false → ∀ H', Same H H' → Rr H') →
      g x (wipe σ vs) H fun σ2 H2 => wipe σ2 vs = wipe σ vs ∧ tt σ2 H2 fun b H3 => if b = true then te σ2 H3 Q else Rr H3)
    (hd : ∀ H (ys : List V), Same H1 H → H D = some (.lst ys) → All2 (R H) ys (as.filter P) → Qd H) :
    ∃ W : Nat → Nat → Hp → Prop, (∃ m, W 0 m (upd H1 D (.lst []))) ∧ ∀ i m H, W i m H →
      ((Itt K a).stop i H ∧ Qd H) ∨ ((Itt K a).go i H ∧ ∃ Nx : Hp → Prop, (∀ H', Nx H' → ∃ m', m' < m ∧ W (i + 1) m' H') ∧ ∀ x H', (Itt K a).yld i H x H' → g x (wipe σ vs) H' fun σ2 H2 => wipe σ2 vs = wipe σ vs ∧ tt σ2 H2 fun b H3 =>
        if b = true then te σ2 H3 fun y H4 => ∃ acc, H4 D = some (.lst acc) ∧ acc.length < sizeLine ∧ Nx (upd H4 D (.lst (acc ++ [y]))) else Nx H3) := by
  refine lc_fil (fun i x => xs[i]? = some x) (fun i => (as[i]?).filter P) R (fun H H' y c acc e s h => st.but e s h) walk_tup (small1000 hl) (fun _ s => SqT.same s h0) hD (fun i x _ hi H Q Rr s1 hacc k1 k2 => ?_) (fun H ys s1 e1 e2 => hd H ys s1 e1 (by rw [hx.1, range_filter] at e2; exact e2))
  obtain ⟨c, hc, r⟩ := hx.get hi
  have r1 := st.same s1 r
  refine hs x c (List.mem_of_getElem? hc) H Q Rr s1 r1 hacc (fun p H' s' => k1 c (by show (as[i]?).filter P = some c; rw [hc]; simp [Option.filter, p]) x H' s' (st.same s' r1)) (fun p H' s' => k2 (by show (as[i]?).filter P = none; rw [hc]; simp [Option.filter, p]) H' s')
end
theorem all2_int : ∀ {ys : List V} {ks : List Nat}, All2 (fun y (k : Nat) => y = V.int k) ys ks → ys = ks.map fun k => V.int (k : Nat)
  | [], [], _ => rfl
  | y :: ys, k :: ks, h => by
    have e := h.2 0 y k rfl rfl
    have t := all2_int (ys := ys) (ks := ks) ⟨Nat.succ.inj h.1, fun i a b ha hb => h.2 (i + 1) a b ha hb⟩
    rw [List.map_cons, ← t, e]
  | [], _ :: _, h => nomatch h.1
  | _ :: _, [], h => nomatch h.1
theorem fm_if (P : Nat → Bool) : ∀ l : List Nat, l.filterMap (fun i => if P i = true then some i else none) = l.filter P
  | [] => rfl
  | x :: l => by
    rw [List.filterMap_cons, fm_if P l, List.filter_cons]
    cases h : P x <;> simp
/-- [k for k in range(n) if ..] -/
theorem lc_filR {g : TG} {tt : TT} {te : TE} {vs : List Nat} {σ : L2.St} {H1 : Hp} {D : Addr} {Qd : Hp → Prop} {n : Nat} (P : Nat → Bool) (hl : n ≤ 1000) (hD : H1 D = none)
    (hs : ∀ i, i < n → ∀ H (Q : VK) (Rr : Hp → Prop), Same H1 H → (∃ acc, H D = some (.lst acc)) → (P i = true → ∀ H', Same H H' → Q (.int (i : Nat)) H') → (P i = false → ∀ H', Same H H' → Rr H') →
      g (.int (0 + i)) (wipe σ vs) H fun σ2 H2 => wipe σ2 vs = wipe σ vs ∧ tt σ2 H2 fun b H3 => if b = true then te σ2 H3 Q else Rr H3)
    (hd : ∀ H, Same H1 H → H D = some (.lst (((List.range n).filter P).map fun k => V.int (k : Nat))) → Qd H) :
    ∃ W : Nat → Nat → Hp → Prop, (∃ m, W 0 m (upd H1 D (.lst []))) ∧ ∀ i m H, W i m H →
      ((Itr 0 n).stop i H ∧ Qd H) ∨ ((Itr 0 n).go i H ∧ ∃ Nx : Hp → Prop, (∀ H', Nx H' → ∃ m', m' < m ∧ W (i + 1) m' H') ∧ ∀ x H', (Itr 0 n).yld i H x H' → g x (wipe σ vs) H' fun σ2 H2 => wipe σ2 vs = wipe σ vs ∧ tt σ2 H2 fun b H3 =>
        if b = true then te σ2 H3 fun y H4 => ∃ acc, H4 D = some (.lst acc) ∧ acc.length < sizeLine ∧ Nx (upd H4 D (.lst (acc ++ [y]))) else Nx H3) := by
  refine lc_fil (fun i x => x = V.int (0 + i)) (fun i => if P i = true then some i else none) (fun _ y (k : Nat) => y = V.int k) (fun H H' y c acc e s h => h) walk_range (small1000 hl) (fun _ _ => trivial) hD (fun i x hi hx H Q Rr s1 hacc k1 k2 => ?_) (fun H ys s1 e1 e2 => hd H s1 (by rw [fm_if] at e2; rw [e1, all2_int e2]))
  subst hx
  refine hs i hi H Q Rr s1 hacc (fun p H' s' => k1 i (by rw [if_pos p]) _ H' s' rfl) (fun p H' s' => k2 (by rw [if_neg (by rw [p]; decide)]) H' s')
end My
/-! dicts with tuple keys, lists of ids, locks; the model of a history -/
namespace My
open PySem L2
section
variable {X : Cx} {K : PySem.W.Frag}
theorem unit65 {k : Nat} {A : Around} (r : Room k A) : A.units + 65 < cLine := by have := r.un; omega
theorem op_inDK (hu : X.A.units + 65 < cLine) (hK : X.K = K := by rfl) : OpR X (compareOp .In) (rInD K) := by
  subst hK
  exact op_inD hu
theorem op_notInDK (hu : X.A.units + 65 < cLine) (hK : X.K = K := by rfl) : OpR X (compareOp .NotIn) (rNotInD K) := by
  subst hK
  exact op_notInD hu
def tIdx (K : PySem.W.Frag) (to : TE) (A : TA) : TE := tBM K "list" (rIndexD K) to A
theorem pe_idxK {e : Expr} {to : TE} {t : TA} (h : PE X e (tBM X.K "list" (rIndexD X.K) to t)) (hK : X.K = K := by rfl) : PE X e (tIdx K to t) := by
  subst hK
  exact h
end
section
variable {K : PySem.W.Frag} {σ : St} {H : Hp} {Q : VK} {to td te : TE} {A : TA} {D : Ends}
theorem i_idx (h : to σ H fun x H1 => tyV K "list" x H1 ∧ A σ H1 fun vs H2 => rIndexD K x vs H2 Q) : tIdx K to A σ H Q := h
theorem i_lock {t : TS} {d : Addr} {u : HO} (h1 : H d = some u) (mu : Mut (some u)) (h : ∀ od HN, SameBut d H HN → HN d = some (.frz od u) → t ⟨fun σ' H' => H' d = some (.frz od u) ∧ D.nx σ' (upd H' d u), fun v H' => H' d = some (.frz od u) ∧ D.rt v (upd H' d u), fun σ' H' => H' d = some (.frz od u) ∧ D.bk σ' (upd H' d u), fun σ' H' => H' d = some (.frz od u) ∧ D.ct σ' (upd H' d u)⟩ σ HN) : tLock t D σ H :=
  ⟨d, u, h1, mu, fun od => h od _ (SameBut.upd _ _ _) upd_same⟩
theorem i_lockE {t : TE} {d : Addr} {u : HO} (h1 : H d = some u) (mu : Mut (some u)) (h : ∀ od HN, SameBut d H HN → HN d = some (.frz od u) → t σ HN fun v H' => H' d = some (.frz od u) ∧ Q v (upd H' d u)) : tLockE t σ H Q :=
  ⟨d, u, h1, mu, fun od => h od _ (SameBut.upd _ _ _) upd_same⟩
/-- what a lock leaves -/
theorem lock_same {HN H' : Hp} {d : Addr} {u : HO} (h1 : H d = some u) (s1 : SameBut d H HN) (s2 : Same HN H') : Same H (upd H' d u) := by
  intro b o e
  by_cases h : b = d
  · subst h
    rw [upd_same, ← h1, e]
  · rw [upd_ne h]
    exact s2 _ _ (s1 _ _ h e)
theorem i_keys {R : It → Hp → Prop} (h : td σ H fun x H1 => ∃ d o, x = .ref d ∧ ((∃ kvs, H1 d = some (.frz o (.dK kvs)) ∧ R (Itk d o kvs) H1) ∨ ∃ kvs, H1 d = some (.frz o (.dT kvs)) ∧ R (Itkt d o kvs) H1)) : iKeys td σ H R := h
theorem i_lenD {p : Addr} {kvs : List (List Key × V)} (h1 : H p = some (.dT kvs)) (h : Q (.int kvs.length) H) : rLenT [.ref p] H Q := ⟨p, kvs, rfl, h1, h⟩
theorem i_dget (h : td σ H fun x H1 => te σ H1 fun y H2 => ∃ a v, x = .ref a ∧ DGet H2 a y (some v) ∧ Q v H2) : tDGet td te σ H Q := h
theorem i_dgS {p : Addr} {kvs : List (Key × V)} {z : Str} {v : V} {R : V → Prop} (h1 : H p = some (.dK kvs)) (h2 : valV kvs (.inr z) = some v) (h : R v) : ∃ a v, V.ref p = .ref a ∧ DGet H a (.str z) (some v) ∧ R v := ⟨p, v, rfl, h2 ▸ .k (k := .inr z) h1, h⟩
section
variable {c w' g t : V}
theorem dg_causes : valV [((.inr "causes" : Key), c), (.inr "words", w'), (.inr "got", g), (.inr "told", t)] (.inr "causes") = some c := rfl
theorem dg_words : valV [((.inr "causes" : Key), c), (.inr "words", w'), (.inr "got", g), (.inr "told", t)] (.inr "words") = some w' := rfl
theorem dg_got : valV [((.inr "causes" : Key), c), (.inr "words", w'), (.inr "got", g), (.inr "told", t)] (.inr "got") = some g := rfl
theorem dg_told : valV [((.inr "causes" : Key), c), (.inr "words", w'), (.inr "got", g), (.inr "told", t)] (.inr "told") = some t := rfl
end
theorem i_dgT {p b : Addr} {kvs : List (List Key × V)} {k : List Key} {v : V} {R : V → Prop} (h1 : H p = some (.dT kvs)) (h2 : H b = some (.tup (k.map kV))) (h3 : valV kvs k = some v) (h : R v) : ∃ a v, V.ref p = .ref a ∧ DGet H a (.ref b) (some v) ∧ R v := ⟨p, v, rfl, h3 ▸ .t h1 h2, h⟩
theorem i_setDt {p b : Addr} {kvs : List (List Key × V)} {k : List Key} {v : V} {HQ : Hp → Prop} (h1 : H p = some (.dT kvs)) (h2 : H b = some (.tup (k.map kV))) (hl : kvs.length < sizeLine) (h : ∀ HN, SameBut p H HN → HN p = some (.dT (putK kvs k v)) → HQ HN) : rSetD (.ref p) (.ref b) v H HQ :=
  ⟨p, _, rfl, .t h1 h2 hl, h _ (SameBut.upd _ _ _) upd_same⟩
theorem i_lstRg {t : St → Hp → (Int → Int → Hp → Prop) → Prop} (h : t σ H fun a b H1 => RgOk a b ∧ ∀ q, H1 q = none → Q (.ref q) (upd H1 q (.lst (rgV a b)))) : tLstRg t σ H Q := h
theorem i_rg1 {Q : Int → Int → Hp → Prop} (h : te σ H fun x H1 => ∃ n, x = .int n ∧ Q 0 n H1) : tRg1 te σ H Q := h
theorem i_rg1n {R : Int → Prop} {n : Int} (h : R n) : ∃ m, V.int n = .int m ∧ R m := ⟨n, rfl, h⟩
end
theorem rgV_nats (n : Nat) : rgV 0 (n : Int) = (List.range n).map fun k => V.int (k : Nat) := by
  unfold rgV
  rw [Int.sub_zero, Int.toNat_natCast]
  refine List.map_congr_left fun k _ => ?_
  rw [Int.zero_add]
/-! ### ids -/
def idK (z : Int × Int) : List Key := [.inl z.1, .inl z.2]
def idD (z : Int × Int) : PyData := .tuple [.int z.1, .int z.2]
theorem idK_inj {y z : Int × Int} (h : idK y = idK z) : y = z := by
  obtain ⟨a, b⟩ := y
  obtain ⟨c, d⟩ := z
  simp only [idK, List.cons.injEq, Sum.inl.injEq, and_true] at h
  rw [h.1, h.2]
def IdAt (H : Hp) (x : V) (z : Int × Int) : Prop := ∃ q, x = .ref q ∧ H q = some (.tup [.int z.1, .int z.2])
theorem IdAt.keeps {H H' : Hp} {x : V} {z : Int × Int} (k : ∀ b xs, H b = some (.tup xs) → H' b = some (.tup xs)) (h : IdAt H x z) : IdAt H' x z := by
  obtain ⟨q, rfl, h⟩ := h
  exact ⟨q, rfl, k _ _ h⟩
theorem IdAt.same {H H' : Hp} {x : V} {z : Int × Int} (s : Same H H') (h : IdAt H x z) : IdAt H' x z := h.keeps fun _ _ => s _ _
theorem IdAt.dp {K : PySem.W.Frag} {H : Hp} {x : V} {z : Int × Int} (h : IdAt H x z) : Dp K H x (idD z) := by
  obtain ⟨q, rfl, h⟩ := h
  exact .tup (.of h) (.cons (.int _) (.cons (.int _) .nil))
theorem ids_dp {K : PySem.W.Frag} {H : Hp} : ∀ {xs : List V} {l : List (Int × Int)}, All2 (IdAt H) xs l → DpAll K H xs (l.map idD)
  | [], [], _ => .nil
  | x :: xs, z :: l, h => .cons (h.2 0 x z rfl rfl).dp (ids_dp ⟨Nat.succ.inj h.1, fun i a b ha hb => h.2 (i + 1) a b ha hb⟩)
  | [], _ :: _, h => nomatch h.1
  | _ :: _, [], h => nomatch h.1
theorem idD_eqv (y z : Int × Int) : PyData.eqv (idD y) (idD z) = decide (y = z) := by
  obtain ⟨a, b⟩ := y
  obtain ⟨c, d⟩ := z
  have e : PyData.eqv (idD (a, b)) (idD (c, d)) = ((a == c) && ((b == d) && true)) := by simp only [idD, PyData.eqv, PyData.eqvAll]
  rw [e, Bool.and_true, Bool.eq_iff_iff, Bool.and_eq_true, beq_iff_eq, beq_iff_eq, decide_eq_true_iff, Prod.mk.injEq]
theorem idD_shaped (z : Int × Int) : SeqAt.shaped (idD z) = true := by
  show ((idD z).canLay0 && decide ((idD z).depth ≤ 64)) = true
  rw [Bool.and_eq_true]
  exact ⟨by simp [idD, PyData.canLay0, PyData.canLayAll0], decide_eq_true (by simp [idD, PyData.depth, PyData.depthAll])⟩
theorem ids_lay : ∀ l : List (Int × Int), PyData.canLayAll0 (l.map idD) = true
  | [] => by simp [PyData.canLayAll0]
  | z :: l => by simp [PyData.canLayAll0, idD, PyData.canLay0, ids_lay l]
theorem ids_depth : ∀ l : List (Int × Int), PyData.depthAll (l.map idD) ≤ 1
  | [] => by simp [PyData.depthAll]
  | z :: l => by
    have h1 := ids_depth l
    have h2 : (idD z).depth = 1 := by simp [idD, PyData.depth, PyData.depthAll]
    simp only [List.map_cons, PyData.depthAll]
    omega
theorem ids_shaped (l : List (Int × Int)) : SeqAt.shaped (.list (l.map idD)) = true := by
  have h1 := ids_depth l
  show (PyData.canLay0 (.list (l.map idD)) && decide (PyData.depth (.list (l.map idD)) ≤ 64)) = true
  rw [Bool.and_eq_true]
  exact ⟨by simp only [PyData.canLay0]; exact ids_lay l, decide_eq_true (by simp only [PyData.depth]; omega)⟩
theorem ids_any (l : List (Int × Int)) (z : Int × Int) : ((l.map idD).any fun y => PyData.eqv y (idD z)) = decide (z ∈ l) := by
  rw [List.any_map, Bool.eq_iff_iff, List.any_eq_true, decide_eq_true_iff]
  constructor
  · rintro ⟨y, hy, e⟩
    rw [Function.comp_apply, idD_eqv, decide_eq_true_iff] at e
    exact e ▸ hy
  · exact fun h => ⟨z, h, by rw [Function.comp_apply, idD_eqv]; exact decide_eq_true rfl⟩
theorem first_at {α : Type} [DecidableEq α] {z : α} : ∀ {l : List α}, z ∈ l → ∃ j : Nat, l[j]? = some z ∧ ∀ (m : Nat) (y : α), m < j → l[m]? = some y → y ≠ z
  | x :: l, h => by
    by_cases c : x = z
    · exact ⟨0, by rw [c]; rfl, fun m y hm => absurd hm (Nat.not_lt_zero m)⟩
    · obtain ⟨j, h1, h2⟩ := first_at (z := z) (l := l) ((List.mem_cons.mp h).resolve_left fun e => c e.symm)
      refine ⟨j + 1, h1, fun m y hm hy => ?_⟩
      cases m with
      | zero => cases hy; exact c
      | succ m => exact h2 m y (by omega) hy
section
variable {K : PySem.W.Frag} {H : Hp} {Q : VK} {p : Addr} {x : V} {xs : List V} {l : List (Int × Int)} {z : Int × Int}
theorem i_inIds (h1 : SqL K H p xs) (h2 : All2 (IdAt H) xs l) (h3 : IdAt H x z) (h : Q (.bl (decide (z ∈ l))) H) : rInD K x (.ref p) H Q :=
  ⟨idD z, l.map idD, h3.dp, .lst h1 (ids_dp h2), idD_shaped z, ids_shaped l, by rw [ids_any]; exact h⟩
theorem i_ninIds (h1 : SqL K H p xs) (h2 : All2 (IdAt H) xs l) (h3 : IdAt H x z) (h : Q (.bl (!decide (z ∈ l))) H) : rNotInD K x (.ref p) H Q :=
  ⟨idD z, l.map idD, h3.dp, .lst h1 (ids_dp h2), idD_shaped z, ids_shaped l, by rw [ids_any]; exact h⟩
theorem i_idxIds (h1 : SqL K H p xs) (h2 : All2 (IdAt H) xs l) (h3 : IdAt H x z) (h4 : z ∈ l) (h : ∀ j : Nat, Q (.int j) H) : rIndexD K (.ref p) [x] H Q := by
  obtain ⟨j, e1, e2⟩ := first_at h4
  refine ⟨p, x, idD z, l.map idD, j, idD z, rfl, rfl, .lst h1 (ids_dp h2), h3.dp, ids_shaped l, idD_shaped z, by rw [List.getElem?_map, e1]; rfl, by rw [idD_eqv]; exact decide_eq_true rfl, fun m z' hm hz => ?_, h j⟩
  rw [List.getElem?_map, Option.map_eq_some_iff] at hz
  obtain ⟨y, hy, rfl⟩ := hz
  rw [idD_eqv]
  exact decide_eq_false (e2 m y hm hy)
end
/-! ### a dict whose keys are ids -/
theorem val_key {R : V → Prop} : ∀ {ck : List (List Key × V)} {ks : List (Int × Int)} {z : Int × Int}, All2 (fun p z => p.1 = idK z ∧ R p.2) ck ks → z ∈ ks → ∃ v, valV ck (idK z) = some v ∧ R v
  | p :: ck, y :: ks, z, h, hz => by
    obtain ⟨h1, h2⟩ := h.2 0 p y rfl rfl
    by_cases c : y = z
    · subst c
      exact ⟨p.2, by unfold valV; rw [List.find?_cons, decide_eq_true h1]; rfl, h2⟩
    · obtain ⟨v, e1, e2⟩ := val_key (R := R) (ck := ck) (ks := ks) (z := z) ⟨Nat.succ.inj h.1, fun i a b ha hb => h.2 (i + 1) a b ha hb⟩ ((List.mem_cons.mp hz).resolve_left fun e => c e.symm)
      refine ⟨v, ?_, e2⟩
      unfold valV
      rw [List.find?_cons, decide_eq_false (fun e => c (idK_inj (h1.symm.trans e)))]
      exact e1
  | [], _ :: _, _, h, _ => nomatch h.1
  | _ :: _, [], _, h, _ => nomatch h.1
theorem no_key {R : V → Prop} {ck : List (List Key × V)} {ks : List (Int × Int)} {z : Int × Int} (h : All2 (fun p z => p.1 = idK z ∧ R p.2) ck ks) (hz : z ∉ ks) : ∀ p ∈ ck, p.1 ≠ idK z := by
  intro p hp e
  obtain ⟨i, hi⟩ := List.mem_iff_getElem?.mp hp
  obtain ⟨y, hy, h1, _⟩ := h.get hi
  exact hz (idK_inj (h1.symm.trans e) ▸ List.mem_of_getElem? hy)
theorem val_none {R : V → Prop} {ck : List (List Key × V)} {ks : List (Int × Int)} {z : Int × Int} (h : All2 (fun p z => p.1 = idK z ∧ R p.2) ck ks) (hz : z ∉ ks) : valV ck (idK z) = none := by
  unfold valV
  rw [List.find?_eq_none.mpr fun p hp e => no_key h hz p hp (of_decide_eq_true e)]
  rfl
theorem val_some {R : V → Prop} {ck : List (List Key × V)} {ks : List (Int × Int)} {z : Int × Int} (h : All2 (fun p z => p.1 = idK z ∧ R p.2) ck ks) : (valV ck (idK z)).isSome = decide (z ∈ ks) := by
  by_cases c : z ∈ ks
  · obtain ⟨v, e, _⟩ := val_key h c
    rw [e, decide_eq_true c]
    rfl
  · rw [val_none h c, decide_eq_false c]
    rfl
theorem put_new {R : V → Prop} {ck : List (List Key × V)} {ks : List (Int × Int)} {z : Int × Int} {v : V} (h : All2 (fun p z => p.1 = idK z ∧ R p.2) ck ks) (hz : z ∉ ks) : putK ck (idK z) v = ck ++ [(idK z, v)] := by
  unfold putK
  rw [if_neg]
  intro e
  obtain ⟨p, hp, e⟩ := List.any_eq_true.mp e
  exact no_key h hz p hp (of_decide_eq_true e)
theorem put_len {κ : Type} [DecidableEq κ] (ck : List (κ × V)) (k : κ) (v : V) : (putK ck k v).length ≤ ck.length + 1 := by
  unfold putK
  split
  · rw [List.length_map]
    omega
  · rw [List.length_append]
    exact Nat.le_refl _
/-- how many ids have m -/
def cnt (ks : List (Int × Int)) (m : Int) : Nat := (ks.filter fun z => decide (z.1 = m)).length
theorem cnt_snoc {ks : List (Int × Int)} {z : Int × Int} {m : Int} : cnt (ks ++ [z]) m = cnt ks m + if z.1 = m then 1 else 0 := by
  unfold cnt
  rw [List.filter_append, List.length_append, List.filter_cons]
  by_cases c : z.1 = m
  · rw [if_pos (decide_eq_true c), if_pos c]
    rfl
  · rw [if_neg (by simp [c]), if_neg c]
    rfl
/-- the next id of a member -/
def nxt (ks : List (Int × Int)) (i : Int) : Int × Int := (i, 1 + ((cnt ks i : Nat) : Int))
/-! ### the model: causes, words, got, told -/
structure MdV where
  M : Nat
  F : Addr → Prop
  ks : List (Int × Int)
  n : Nat
  c : Addr
  wd : Addr
  g : Addr
  t : Addr
  ck : List (List Key × V)
  wk : List (List Key × V)
  gx : List V
  tx : List V
/-- a list of known ids -/
def LkI (H : Hp) (F : Addr → Prop) (ks : List (Int × Int)) (n : Nat) (x : V) : Prop := ∃ q xs l, x = .ref q ∧ F q ∧ H q = some (.lst xs) ∧ All2 (IdAt H) xs l ∧ (∀ z ∈ l, z ∈ ks) ∧ l.length ≤ n
structure Md (H : Hp) (o : Addr) (m : MdV) : Prop where
  ho : H o = some (.dK [(.inr "causes", .ref m.c), (.inr "words", .ref m.wd), (.inr "got", .ref m.g), (.inr "told", .ref m.t)])
  hc : H m.c = some (.dT m.ck)
  hw : H m.wd = some (.dT m.wk)
  hg : H m.g = some (.lst m.gx)
  ht : H m.t = some (.lst m.tx)
  cw : m.c ≠ m.wd
  fo : m.F o
  fc : m.F m.c
  fw : m.F m.wd
  fg : m.F m.g
  ft : m.F m.t
  fd : ∀ b, m.F b → H b ≠ none
  kc : All2 (fun p z => p.1 = idK z ∧ LkI H m.F m.ks m.n p.2) m.ck m.ks
  lg : m.gx.length = m.M
  kg : ∀ x ∈ m.gx, LkI H m.F m.ks m.n x
  lt : m.tx.length = m.M
  kt : ∀ x ∈ m.tx, LkI H m.F m.ks m.n x
  kw : m.wk.length ≤ m.ks.length
  kk : ∀ z ∈ m.ks, (0 ≤ z.1 ∧ z.1 ≤ (m.M : Int) - 1) ∧ 1 ≤ z.2 ∧ z.2 ≤ cnt m.ks z.1
  kn : m.ks.length ≤ 14
  nn : m.n ≤ 100
  M5 : 2 ≤ m.M ∧ m.M ≤ 5
/-- what stands in F, and all tuples, stay -/
def Kept (F : Addr → Prop) (H H' : Hp) : Prop := ∀ b u, (F b ∨ ∃ xs, u = .tup xs) → H b = some u → H' b = some u
theorem Kept.same {F : Addr → Prop} {H H' : Hp} (s : Same H H') : Kept F H H' := fun b u _ h => s b u h
theorem Kept.but {F : Addr → Prop} {H H' : Hp} {p : Addr} {ys : List V} (hp : H p = some (.lst ys)) (n : ¬ F p) (s : SameBut p H H') : Kept F H H' := by
  intro b u h e
  refine s b u (fun z => ?_) e
  subst z
  rcases h with h | ⟨xs, rfl⟩
  · exact n h
  · rw [hp] at e
    cases e
theorem LkI.kept {F : Addr → Prop} {H H' : Hp} {ks : List (Int × Int)} {n : Nat} {x : V} (k : Kept F H H') (h : LkI H F ks n x) : LkI H' F ks n x := by
  obtain ⟨q, xs, l, rfl, f, e, a, h1, h2⟩ := h
  exact ⟨q, xs, l, rfl, f, k _ _ (.inl f) e, a.mono fun _ _ => IdAt.keeps fun b xs => k _ _ (.inr ⟨xs, rfl⟩), h1, h2⟩
theorem LkI.mono {F F' : Addr → Prop} {H : Hp} {ks ks' : List (Int × Int)} {n n' : Nat} {x : V} (hF : ∀ b, F b → F' b) (hk : ∀ z ∈ ks, z ∈ ks') (hn : n ≤ n') (h : LkI H F ks n x) : LkI H F' ks' n' x := by
  obtain ⟨q, xs, l, rfl, f, e, a, h1, h2⟩ := h
  exact ⟨q, xs, l, rfl, hF _ f, e, a, fun z hz => hk z (h1 z hz), Nat.le_trans h2 hn⟩
section
variable {H H' : Hp} {o : Addr} {m : MdV}
theorem Md.kept (k : Kept m.F H H') (h : Md H o m) : Md H' o m where
  ho := k _ _ (.inl h.fo) h.ho
  hc := k _ _ (.inl h.fc) h.hc
  hw := k _ _ (.inl h.fw) h.hw
  hg := k _ _ (.inl h.fg) h.hg
  ht := k _ _ (.inl h.ft) h.ht
  cw := h.cw
  fo := h.fo
  fc := h.fc
  fw := h.fw
  fg := h.fg
  ft := h.ft
  fd := fun b f e => by
    cases c : H b with
    | none => exact h.fd b f c
    | some u => rw [k b u (.inl f) c] at e; cases e
  kc := h.kc.mono fun _ _ q => ⟨q.1, q.2.kept k⟩
  lg := h.lg
  kg := fun x hx => (h.kg x hx).kept k
  lt := h.lt
  kt := fun x hx => (h.kt x hx).kept k
  kw := h.kw
  kk := h.kk
  kn := h.kn
  nn := h.nn
  M5 := h.M5
theorem Md.same (s : Same H H') (h : Md H o m) : Md H' o m := h.kept (.same s)
theorem LkI.same {F : Addr → Prop} {ks : List (Int × Int)} {n : Nat} {x : V} (s : Same H H') (h : LkI H F ks n x) : LkI H' F ks n x := h.kept (.same s)
theorem Md.out {b : Addr} (h : Md H o m) (n : H b = none) : ¬ m.F b := fun f => h.fd b f n
theorem Md.got (h : Md H o m) {i : Int} (h0 : 0 ≤ i) (h1 : i ≤ (m.M : Int) - 1) : ∃ x, atI m.gx i = some x ∧ LkI H m.F m.ks m.n x := by
  obtain ⟨v, hv, _, e⟩ := atI_in (xs := m.gx) (r := i) h0 (by have := h.lg; omega)
  exact ⟨v, e, h.kg v hv⟩
theorem Md.told (h : Md H o m) {i : Int} (h0 : 0 ≤ i) (h1 : i ≤ (m.M : Int) - 1) : ∃ x, atI m.tx i = some x ∧ LkI H m.F m.ks m.n x := by
  obtain ⟨v, hv, _, e⟩ := atI_in (xs := m.tx) (r := i) h0 (by have := h.lt; omega)
  exact ⟨v, e, h.kt v hv⟩
/-- a list of lists is no list of ids -/
theorem no_row {F : Addr → Prop} {ks : List (Int × Int)} {n : Nat} {g q : Addr} {gx xs : List V} {l : List (Int × Int)} (hg : H g = some (.lst gx)) (hn : 0 < gx.length) (hx : ∀ x ∈ gx, LkI H F ks n x) (hq : H q = some (.lst xs)) (ha : All2 (IdAt H) xs l) : g ≠ q := by
  rintro rfl
  rw [hg] at hq
  cases hq
  obtain ⟨z, _, b, e1, e2⟩ := ha.get (List.getElem?_eq_getElem hn)
  obtain ⟨c, _, _, e3, _, e4, _⟩ := hx _ (List.getElem_mem hn)
  rw [e1] at e3
  cases e3
  rw [e2] at e4
  cases e4
/-- an id more in one of its rows -/
theorem Md.app {q : Addr} {xs : List V} {l : List (Int × Int)} {y : V} {z : Int × Int} (h : Md H o m) (hq : H q = some (.lst xs)) (ha : All2 (IdAt H) xs l) (hy : IdAt H y z) (hz : z ∈ m.ks) (hn : m.n < 100) (s : SameBut q H H') (hq' : H' q = some (.lst (xs ++ [y]))) : Md H' o { m with n := m.n + 1 } := by
  have tp : ∀ b xs, H b = some (.tup xs) → H' b = some (.tup xs) := fun b xs e => s b _ (fun c => by subst c; rw [hq] at e; cases e) e
  have lk : ∀ x, LkI H m.F m.ks m.n x → LkI H' m.F m.ks (m.n + 1) x := by
    rintro x ⟨r, ys, k, rfl, f, e, a, h1, h2⟩
    by_cases c : r = q
    · subst c
      rw [hq] at e
      cases e
      exact ⟨r, _, k ++ [z], rfl, f, hq', All2.append (a.mono fun _ _ => IdAt.keeps tp) (All2.cons (hy.keeps tp) All2.nil), fun w hw => (List.mem_append.mp hw).elim (h1 w) fun hw => by rw [List.mem_singleton.mp hw]; exact hz, by rw [List.length_append]; exact Nat.succ_le_succ h2⟩
    · exact ⟨r, ys, k, rfl, f, s _ _ c e, a.mono fun _ _ => IdAt.keeps tp, h1, Nat.le_succ_of_le h2⟩
  have ng := no_row h.hg (by rw [h.lg]; have := h.M5; omega) h.kg hq ha
  have nt := no_row h.ht (by rw [h.lt]; have := h.M5; omega) h.kt hq ha
  exact {
    ho := s _ _ (ne_of h.ho hq (by simp)) h.ho
    hc := s _ _ (ne_of h.hc hq (by simp)) h.hc
    hw := s _ _ (ne_of h.hw hq (by simp)) h.hw
    hg := s _ _ ng h.hg
    ht := s _ _ nt h.ht
    cw := h.cw
    fo := h.fo
    fc := h.fc
    fw := h.fw
    fg := h.fg
    ft := h.ft
    fd := fun b f e => by
      by_cases c : b = q
      · subst c
        rw [hq'] at e
        cases e
      · cases d : H b with
        | none => exact h.fd b f d
        | some u => rw [s b u c d] at e; cases e
    kc := h.kc.mono fun _ _ q => ⟨q.1, lk _ q.2⟩
    lg := h.lg
    kg := fun x hx => lk _ (h.kg x hx)
    lt := h.lt
    kt := fun x hx => lk _ (h.kt x hx)
    kw := h.kw
    kk := h.kk
    kn := h.kn
    nn := hn
    M5 := h.M5 }
/-- a key more: the next id of a member, its causes the new list at L -/
theorem Md.put {H1 H2 : Hp} {L : Addr} {xs : List V} {l : List (Int × Int)} {i : Int} {v : V} (h : Md H o m) (hL : H L = some (.lst xs)) (nL : ¬ m.F L) (ha : All2 (IdAt H) xs l) (hl : ∀ z ∈ l, z ∈ m.ks) (hn : l.length ≤ m.n) (h0 : 0 ≤ i) (h1 : i ≤ (m.M : Int) - 1) (hk : m.ks.length < 14)
    (s1 : SameBut m.c H H1) (e1 : H1 m.c = some (.dT (putK m.ck (idK (nxt m.ks i)) (.ref L)))) (s2 : SameBut m.wd H1 H2) (e2 : H2 m.wd = some (.dT (putK m.wk (idK (nxt m.ks i)) v))) :
    Md H2 o { m with F := fun b => m.F b ∨ b = L, ks := m.ks ++ [nxt m.ks i], ck := m.ck ++ [(idK (nxt m.ks i), .ref L)], wk := putK m.wk (idK (nxt m.ks i)) v } := by
  have fresh : (nxt m.ks i) ∉ m.ks := fun hz => by
    have := (h.kk _ hz).2.2
    simp only [nxt] at this
    omega
  have st : ∀ b u, b ≠ m.c → b ≠ m.wd → H b = some u → H2 b = some u := fun b u n1 n2 e => s2 b u n2 (s1 b u n1 e)
  have ls : ∀ b xs, H b = some (.lst xs) → H2 b = some (.lst xs) := fun b xs e => st b _ (ne_of e h.hc (by simp)) (ne_of e h.hw (by simp)) e
  have tp : ∀ b xs, H b = some (.tup xs) → H2 b = some (.tup xs) := fun b xs e => st b _ (ne_of e h.hc (by simp)) (ne_of e h.hw (by simp)) e
  have hc1 : H1 m.wd = some (.dT m.wk) := s1 _ _ (Ne.symm h.cw) h.hw
  have hc2 : H2 m.c = some (.dT (putK m.ck (idK (nxt m.ks i)) (.ref L))) := s2 _ _ h.cw e1
  have lk : ∀ x, LkI H m.F m.ks m.n x → LkI H2 (fun b => m.F b ∨ b = L) (m.ks ++ [nxt m.ks i]) m.n x := by
    rintro x ⟨r, ys, k, rfl, f, e, a, h1, h2⟩
    exact ⟨r, ys, k, rfl, .inl f, ls _ _ e, a.mono fun _ _ => IdAt.keeps tp, fun z hz => List.mem_append_left _ (h1 z hz), h2⟩
  exact {
    ho := st _ _ (ne_of h.ho h.hc (by simp)) (ne_of h.ho h.hw (by simp)) h.ho
    hc := by rw [← put_new h.kc fresh]; exact hc2
    hw := e2
    hg := ls _ _ h.hg
    ht := ls _ _ h.ht
    cw := h.cw
    fo := .inl h.fo
    fc := .inl h.fc
    fw := .inl h.fw
    fg := .inl h.fg
    ft := .inl h.ft
    fd := fun b f e => by
      by_cases c1 : b = m.wd
      · subst c1
        rw [e2] at e
        cases e
      by_cases c2 : b = m.c
      · subst c2
        rw [hc2] at e
        cases e
      rcases f with f | rfl
      · cases d : H b with
        | none => exact h.fd b f d
        | some u => rw [st b u c2 c1 d] at e; cases e
      · rw [ls _ _ hL] at e
        cases e
    kc := All2.append (h.kc.mono fun _ _ q => ⟨q.1, lk _ q.2⟩) (All2.cons ⟨rfl, L, xs, l, rfl, .inr rfl, ls _ _ hL, ha.mono fun _ _ => IdAt.keeps tp, fun z hz => List.mem_append_left _ (hl z hz), hn⟩ All2.nil)
    lg := h.lg
    kg := fun x hx => lk _ (h.kg x hx)
    lt := h.lt
    kt := fun x hx => lk _ (h.kt x hx)
    kw := by
      rw [List.length_append]
      exact Nat.le_trans (put_len _ _ _) (Nat.succ_le_succ h.kw)
    kk := fun z hz => by
      rcases List.mem_append.mp hz with hz | hz
      · obtain ⟨a1, a2, a3⟩ := h.kk z hz
        refine ⟨a1, a2, ?_⟩
        show z.2 ≤ ((cnt (m.ks ++ _) z.1 : Nat) : Int)
        rw [cnt_snoc]
        omega
      · rw [List.mem_singleton.mp hz]
        refine ⟨⟨h0, h1⟩, by show (1 : Int) ≤ 1 + _; omega, ?_⟩
        show 1 + ((cnt m.ks i : Nat) : Int) ≤ ((cnt (m.ks ++ _) i : Nat) : Int)
        rw [cnt_snoc, if_pos (show (nxt m.ks i).1 = i from rfl)]
        omega
    kn := by
      rw [List.length_append]
      exact hk
    nn := h.nn
    M5 := h.M5 }
end
/-! ### the keys of a locked dict walked -/
section
variable {R : V → Prop} {d D : Addr} {od : Obj} {kvs : List (List Key × V)} {ks : List (Int × Int)}
theorem key_at {H : Hp} {i : Nat} {x : V} (hk : All2 (fun p z => p.1 = idK z ∧ R p.2) kvs ks) (h : ∃ (k : List Key) (v : V) (q : Addr), kvs[i]? = some (k, v) ∧ x = .ref q ∧ H q = some (.tup (k.map kV))) : ∃ z, ks[i]? = some z ∧ IdAt H x z := by
  obtain ⟨k, v, q, e1, rfl, e2⟩ := h
  obtain ⟨z, hz, e3, _⟩ := hk.get e1
  simp only at e3
  subst e3
  exact ⟨z, hz, q, rfl, e2⟩
/-- [x for x in d if ..], by how many -/
theorem lc_keys {g : TG} {tt : TT} {te : TE} {vs : List Nat} {σ : L2.St} {H1 : Hp} {Qd : Hp → Prop} (P : Int × Int → Bool) (hk : All2 (fun p z => p.1 = idK z ∧ R p.2) kvs ks) (hc : H1 d = some (.frz od (.dT kvs))) (hD : H1 D = none) (hl : ks.length ≤ 1000)
    (hs : ∀ x z, z ∈ ks → ∀ H (Q : VK) (Rr : Hp → Prop), Same H1 H → IdAt H x z → (P z = true → ∀ H', Same H H' → Q x H') → (P z = false → ∀ H', Same H H' → Rr H') →
      g x (wipe σ vs) H fun σ2 H2 => wipe σ2 vs = wipe σ vs ∧ tt σ2 H2 fun b H3 => if b = true then te σ2 H3 Q else Rr H3)
    (hd : ∀ H (ys : List V), Same H1 H → H D = some (.lst ys) → ys.length = (ks.filter P).length → Qd H) :
    ∃ W : Nat → Nat → Hp → Prop, (∃ m, W 0 m (upd H1 D (.lst []))) ∧ ∀ i m H, W i m H →
      ((Itkt d od kvs).stop i H ∧ Qd H) ∨ ((Itkt d od kvs).go i H ∧ ∃ Nx : Hp → Prop, (∀ H', Nx H' → ∃ m', m' < m ∧ W (i + 1) m' H') ∧ ∀ x H', (Itkt d od kvs).yld i H x H' → g x (wipe σ vs) H' fun σ2 H2 => wipe σ2 vs = wipe σ vs ∧ tt σ2 H2 fun b H3 =>
        if b = true then te σ2 H3 fun y H4 => ∃ acc, H4 D = some (.lst acc) ∧ acc.length < sizeLine ∧ Nx (upd H4 D (.lst (acc ++ [y]))) else Nx H3) := by
  have lk : kvs.length = ks.length := hk.1
  have sb : ∀ {H o}, Same H1 H → Same H1 (upd H D o) := fun {H o} s b u e => by
    rw [upd_ne (ne_of_none e hD)]
    exact s b u e
  refine lc_it walk_keysT (fun i H => Same H1 H ∧ ∃ ys, H D = some (.lst ys) ∧ ys.length = ((ks.take i).filter P).length) ⟨sb (Same.refl H1), [], upd_same, rfl⟩ (fun i H _ h => h.1 _ _ hc) ?_ ?_
  · rintro i v H H' hi ⟨s1, ys, e2, e3⟩ ⟨rfl, hx⟩
    obtain ⟨z, hz, ha⟩ := key_at hk hx
    have e4 : (ks.take (i + 1)).filter P = (ks.take i).filter P ++ if P z = true then [z] else [] := by
      rw [List.take_add_one, hz, List.filter_append]
      congr 1
      cases c : P z <;> simp [List.filter_cons, c]
    have b4 : ((ks.take i).filter P).length ≤ i := Nat.le_trans (List.length_filter_le _ _) (List.length_take_le _ _)
    refine hs v z (List.mem_of_getElem? hz) H' _ _ s1 ha (fun hp H4 s4 => ?_) (fun hp H4 s4 => ?_)
    · refine ⟨ys, s4 _ _ e2, small1000 (by omega), sb (s1.trans s4), _, upd_same, ?_⟩
      rw [e4, if_pos hp, List.length_append, List.length_append, e3]
      rfl
    · refine ⟨s1.trans s4, ys, s4 _ _ e2, ?_⟩
      rw [e4, if_neg (by rw [hp]; decide), List.append_nil, e3]
  · rintro H ⟨s1, ys, e2, e3⟩
    exact hd H ys s1 e2 (by rw [e3, lk, List.take_length])
end
/-- [[] for k in range(n)]: new lists -/
theorem lc_new0 {g : TG} {tt : TT} {te : TE} {vs : List Nat} {σ : L2.St} {H1 : Hp} {D : Addr} {Qd : Hp → Prop} {n : Nat} (hl : n ≤ 1000) (hD : H1 D = none)
    (hs : ∀ i, i < n → ∀ H (Q : VK) (Rr : Hp → Prop), Same H1 H → (∀ q HN, H q = none → Same H HN → HN q = some (.lst []) → Q (.ref q) HN) →
      g (.int (0 + i)) (wipe σ vs) H fun σ2 H2 => wipe σ2 vs = wipe σ vs ∧ tt σ2 H2 fun b H3 => if b = true then te σ2 H3 Q else Rr H3)
    (hd : ∀ H (ys : List V), Same H1 H → H D = some (.lst ys) → ys.length = n → (∀ y ∈ ys, ∃ q, y = .ref q ∧ H1 q = none ∧ H q = some (.lst [])) → Qd H) :
    ∃ W : Nat → Nat → Hp → Prop, (∃ m, W 0 m (upd H1 D (.lst []))) ∧ ∀ i m H, W i m H →
      ((Itr 0 n).stop i H ∧ Qd H) ∨ ((Itr 0 n).go i H ∧ ∃ Nx : Hp → Prop, (∀ H', Nx H' → ∃ m', m' < m ∧ W (i + 1) m' H') ∧ ∀ x H', (Itr 0 n).yld i H x H' → g x (wipe σ vs) H' fun σ2 H2 => wipe σ2 vs = wipe σ vs ∧ tt σ2 H2 fun b H3 =>
        if b = true then te σ2 H3 fun y H4 => ∃ acc, H4 D = some (.lst acc) ∧ acc.length < sizeLine ∧ Nx (upd H4 D (.lst (acc ++ [y]))) else Nx H3) := by
  have sb : ∀ {H o}, Same H1 H → Same H1 (upd H D o) := fun {H o} s b u e => by
    rw [upd_ne (ne_of_none e hD)]
    exact s b u e
  refine lc_it walk_range (fun i H => Same H1 H ∧ ∃ ys, H D = some (.lst ys) ∧ ys.length = i ∧ ∀ y ∈ ys, ∃ q, y = .ref q ∧ q ≠ D ∧ H1 q = none ∧ H q = some (.lst [])) ⟨sb (Same.refl H1), [], upd_same, rfl, fun _ h => nomatch h⟩ (fun _ _ _ _ => trivial) ?_ ?_
  · rintro i v H H' hi ⟨s1, ys, e2, e3, e4⟩ ⟨rfl, rfl⟩
    refine hs i hi H' _ _ s1 (fun q HN hq sa hg => ?_)
    have nq : q ≠ D := fun c => by rw [c, e2] at hq; cases hq
    have nq1 : H1 q = none := by
      cases c : H1 q with
      | none => rfl
      | some u => rw [s1 _ _ c] at hq; cases hq
    refine ⟨ys, sa _ _ e2, small1000 (by omega), sb (s1.trans sa), _, upd_same, by rw [List.length_append, e3]; rfl, fun y hy => ?_⟩
    rcases List.mem_append.mp hy with hy | hy
    · obtain ⟨p, rfl, n1, n2, e⟩ := e4 y hy
      exact ⟨p, rfl, n1, n2, by rw [upd_ne n1]; exact sa _ _ e⟩
    · rw [List.mem_singleton.mp hy]
      exact ⟨q, rfl, nq, nq1, by rw [upd_ne nq]; exact hg⟩
  · rintro H ⟨s1, ys, e2, e3, e4⟩
    exact hd H ys s1 e2 e3 fun y hy => let ⟨q, a, _, b, c⟩ := e4 y hy; ⟨q, a, b, c⟩
/-- [x for x in xs if ..], whichever are kept -/
theorem lc_some {α : Type} {K : PySem.W.Frag} {a : Addr} {xs : List V} {as : List α} {g : TG} {tt : TT} {te : TE} {vs : List Nat} {σ : L2.St} {H1 : Hp} {D : Addr} {Qd : Hp → Prop} (R : Hp → V → α → Prop) (st : Stays R) (h0 : SqL K H1 a xs) (hx : All2 (R H1) xs as) (hD : H1 D = none) (hl : xs.length ≤ 1000)
    (hs : ∀ x c, c ∈ as → ∀ H (Q : VK) (Rr : Hp → Prop), Same H1 H → R H x c → (∀ H', Same H H' → Q x H') → (∀ H', Same H H' → Rr H') →
      g x (wipe σ vs) H fun σ2 H2 => wipe σ2 vs = wipe σ vs ∧ tt σ2 H2 fun b H3 => if b = true then te σ2 H3 Q else Rr H3)
    (hd : ∀ H (ys : List V) cs, Same H1 H → H D = some (.lst ys) → All2 (R H) ys cs → (∀ c ∈ cs, c ∈ as) → ys.length ≤ xs.length → Qd H) :
    ∃ W : Nat → Nat → Hp → Prop, (∃ m, W 0 m (upd H1 D (.lst []))) ∧ ∀ i m H, W i m H →
      ((Itl K a).stop i H ∧ Qd H) ∨ ((Itl K a).go i H ∧ ∃ Nx : Hp → Prop, (∀ H', Nx H' → ∃ m', m' < m ∧ W (i + 1) m' H') ∧ ∀ x H', (Itl K a).yld i H x H' → g x (wipe σ vs) H' fun σ2 H2 => wipe σ2 vs = wipe σ vs ∧ tt σ2 H2 fun b H3 =>
        if b = true then te σ2 H3 fun y H4 => ∃ acc, H4 D = some (.lst acc) ∧ acc.length < sizeLine ∧ Nx (upd H4 D (.lst (acc ++ [y]))) else Nx H3) := by
  have sb : ∀ {H o}, Same H1 H → Same H1 (upd H D o) := fun {H o} s b u e => by
    rw [upd_ne (ne_of_none e hD)]
    exact s b u e
  refine lc_it (walk_list (K := K) (a := a) (xs := xs)) (fun i H => Same H1 H ∧ ∃ ys cs, H D = some (.lst ys) ∧ All2 (R H) ys cs ∧ (∀ c ∈ cs, c ∈ as) ∧ ys.length ≤ i) ⟨sb (Same.refl H1), [], [], upd_same, All2.nil, (fun _ h => nomatch h), Nat.le_refl _⟩ (fun i H _ h => Same.seq h.1 h0) ?_ ?_
  · rintro i x H H' hi ⟨s1, ys, cs, e2, e3, e4, e5⟩ ⟨rfl, hxi⟩
    obtain ⟨c, hc, hr⟩ := hx.get hxi
    have hr1 := st.same s1 hr
    refine hs x c (List.mem_of_getElem? hc) H' _ _ s1 hr1 (fun H4 s4 => ?_) (fun H4 s4 => ?_)
    · have e6 := s4 _ _ e2
      have sD : SameBut D H4 (upd H4 D (.lst (ys ++ [x]))) := SameBut.upd _ _ _
      refine ⟨ys, e6, small1000 (by omega), sb (s1.trans s4), _, cs ++ [c], upd_same, All2.append (e3.mono fun _ _ h => st.but e6 sD (st.same s4 h)) (All2.cons (st.but e6 sD (st.same s4 hr1)) All2.nil), fun d hd => ?_, by rw [List.length_append]; exact Nat.succ_le_succ e5⟩
      rcases List.mem_append.mp hd with hd | hd
      · exact e4 d hd
      · rw [List.mem_singleton.mp hd]
        exact List.mem_of_getElem? hc
    · exact ⟨s1.trans s4, ys, cs, s4 _ _ e2, e3.mono fun _ _ h => st.same s4 h, e4, by omega⟩
  · rintro H ⟨s1, ys, cs, e2, e3, e4, e5⟩
    exact hd H ys cs s1 e2 e3 e4 e5
/-- xs[-1:] -/
theorem cut_last {α : Type} {R : V → α → Prop} {xs : List V} {as : List α} (h : All2 R xs as) (h0 : 0 < xs.length) : ∃ bs, All2 R (cutV xs (some (-1)) none) bs ∧ (∀ b ∈ bs, b ∈ as) ∧ (cutV xs (some (-1)) none).length = 1 := by
  have e : cutV xs (some (-1)) none = xs.drop (xs.length - 1) := by
    unfold cutV
    rw [HT.sIx_none, show HT.sIx xs.length 0 (some (-1)) = xs.length - 1 by
      show (if (-1 : Int) < 0 then (-1 + (xs.length : Int)).toNat else min (-1 : Int).toNat xs.length) = _
      rw [if_pos (by decide)]
      omega, List.take_of_length_le (by rw [List.length_drop]; exact Nat.le_refl _)]
  rw [e]
  exact ⟨as.drop (xs.length - 1), h.drop _, fun b hb => List.mem_of_mem_drop hb, by rw [List.length_drop]; omega⟩
theorem ne_F {F : Addr → Prop} {H : Hp} {b q : Addr} {u o : HO} (n : ¬ F b ∨ ∃ xs, u = .tup xs) (e : H b = some u) (f : F q) (hq : H q = some o) (ho : ∀ xs, o ≠ .tup xs) : b ≠ q := by
  rintro rfl
  rcases n with n | ⟨xs, rfl⟩
  · exact n f
  · rw [hq] at e
    exact ho xs (Option.some.inj e)
end My
/-! rows of a history -/
namespace My
open PySem L2
def isWord : V → Bool
  | .str z => decide (1 ≤ z.length) && (decide (z.length ≤ 8) && z.cps.toList.all fun c => decide (c ∈ ("abcdefghijklmnopqrstuvwxyz" : Str).cps.toList))
  | _ => false
/-- a row: a letter sent, one delivered, one told -/
inductive Rw where
  | sent (m : Int) (z : Str)
  | got (m s n : Int)
  | told (m p s n : Int)
deriving DecidableEq
def Rw.vs : Rw → List V
  | .sent m z => [.str "sent", .int m, .str z]
  | .got m s n => [.str "got", .int m, .int s, .int n]
  | .told m p s n => [.str "told", .int m, .int p, .int s, .int n]
def Rw.mem : Rw → Int
  | .sent m _ => m
  | .got m _ _ => m
  | .told m _ _ _ => m
def Rw.sentB : Rw → Bool
  | .sent _ _ => true
  | _ => false
def inR (M x : Int) : Bool := decide (0 ≤ x) && decide (x ≤ M - 1)
/-- can the row be one of so many members -/
def Rw.okB (M : Int) : Rw → Bool
  | .sent m z => inR M m && isWord (.str z)
  | .got m s n => inR M m && (inR M s && decide (1 ≤ n))
  | .told m p s n => inR M m && (decide (1 ≤ p) && (inR M s && decide (1 ≤ n)))
def Rw.sml : Rw → Prop
  | .sent _ z => z.length ≤ 1000
  | _ => True
def RwAt (H : Hp) (x : V) (r : Rw) : Prop := ∃ a, x = .ref a ∧ H a = some (.tup r.vs)
theorem RwAt.stays : Stays RwAt where
  but := by
    rintro D H H' y c acc e s ⟨a, rfl, h⟩
    exact ⟨a, rfl, s a _ (ne_of h e (by simp)) h⟩
  same := by
    rintro H H' y c s ⟨a, rfl, h⟩
    exact ⟨a, rfl, s _ _ h⟩
theorem RwAt.same {H H' : Hp} {x : V} {r : Rw} (s : Same H H') (h : RwAt H x r) : RwAt H' x r := RwAt.stays.same s h
def iS : V → Bool
  | .int _ => true
  | .str _ => true
  | _ => false
theorem EqV.iS {K : PySem.W.Frag} {H : Hp} {n : Nat} {x y : V} (hx : iS x = true) (hy : iS y = true) : EqV K H n x y (decide (x = y)) := by
  cases x <;> first | (cases hx; done) | skip
  all_goals cases y <;> first | (cases hy; done) | skip
  all_goals refine .flat (congrArg some ?_)
  all_goals first | exact (decide_eq_false (by simp)).symm | (simp only [V.int.injEq, V.str.injEq]; rw [Bool.eq_iff_iff, beq_iff_eq, decide_eq_true_iff])
theorem EqVs.iS {K : PySem.W.Frag} {H : Hp} {n : Nat} : ∀ {xs ys : List V}, xs.all My.iS = true → ys.all My.iS = true → EqVs K H n xs ys (decide (xs = ys))
  | [], [], _, _ => .nil
  | [], _ :: _, _, _ => .nilc
  | _ :: _, [], _, _ => .cnil
  | x :: xs, y :: ys, h1, h2 => by
    rw [List.all_cons, Bool.and_eq_true] at h1 h2
    have t := EqVs.cons (EqV.iS h1.1 h2.1) (EqVs.iS (K := K) (H := H) (n := n) h1.2 h2.2)
    have e : (decide (x = y) && decide (xs = ys)) = decide (x :: xs = y :: ys) := by
      rw [Bool.eq_iff_iff]
      simp
    rw [e] at t
    exact t
theorem Rw.iS (r : Rw) : r.vs.all My.iS = true := by cases r <;> rfl
theorem Rw.vs_inj {r q : Rw} (h : r.vs = q.vs) : r = q := by
  cases r <;> cases q <;> simp only [Rw.vs, List.cons.injEq, V.str.injEq, V.int.injEq, and_true] at h
  case sent.got => exact absurd h.1 (by decide)
  case sent.told => exact absurd h.1 (by decide)
  case got.sent => exact absurd h.1 (by decide)
  case got.told => exact absurd h.1 (by decide)
  case told.sent => exact absurd h.1 (by decide)
  case told.got => exact absurd h.1 (by decide)
  case sent.sent => rw [h.2.1, h.2.2]
  case got.got => rw [h.2.1, h.2.2.1, h.2.2.2]
  case told.told => rw [h.2.1, h.2.2.1, h.2.2.2.1, h.2.2.2.2]
theorem RwAt.eqv {K : PySem.W.Frag} {H : Hp} {x y : V} {r q : Rw} {n : Nat} (hx : RwAt H x r) (hy : RwAt H y q) : EqV K H (n + 1) x y (decide (r = q)) := by
  obtain ⟨p, rfl, hp⟩ := hx
  obtain ⟨p', rfl, hp'⟩ := hy
  by_cases d : p = p'
  · subst d
    have e : r = q := Rw.vs_inj (by
      rw [hp] at hp'
      exact HO.tup.inj (Option.some.inj hp'))
    rw [decide_eq_true e]
    exact .one
  · have t := EqVs.iS (K := K) (H := H) (n := n) r.iS q.iS
    have e : decide (r.vs = q.vs) = decide (r = q) := by
      rw [decide_eq_decide]
      exact ⟨Rw.vs_inj, fun h => by rw [h]⟩
    rw [e] at t
    exact .tups d (.of hp) (.of hp') t
theorem RwAt.eqvs {K : PySem.W.Frag} {H : Hp} {n : Nat} : ∀ {xs ys : List V} {rs qs : List Rw}, All2 (RwAt H) xs rs → All2 (RwAt H) ys qs → EqVs K H (n + 1) xs ys (decide (rs = qs))
  | [], [], [], [], _, _ => .nil
  | [], y :: ys, [], q :: qs, _, _ => .nilc
  | x :: xs, [], r :: rs, [], _, _ => .cnil
  | x :: xs, y :: ys, r :: rs, q :: qs, h1, h2 => by
    have t := EqVs.cons (RwAt.eqv (n := n) (h1.2 0 x r rfl rfl) (h2.2 0 y q rfl rfl)) (RwAt.eqvs (K := K) (n := n) (xs := xs) (ys := ys) (rs := rs) (qs := qs) ⟨Nat.succ.inj h1.1, fun i a b ha hb => h1.2 (i + 1) a b ha hb⟩ ⟨Nat.succ.inj h2.1, fun i a b ha hb => h2.2 (i + 1) a b ha hb⟩)
    have e : (decide (r = q) && decide (rs = qs)) = decide (r :: rs = q :: qs) := by
      rw [Bool.eq_iff_iff]
      simp
    rw [e] at t
    exact t
  | [], _, _ :: _, _, h, _ => nomatch h.1
  | _ :: _, _, [], _, h, _ => nomatch h.1
  | _, [], _, _ :: _, _, h => nomatch h.1
  | _, _ :: _, _, [], _, h => nomatch h.1
/-- is it a history of so many members -/
def histB (M : Int) (rs : List Rw) : Bool := rs.all (Rw.okB M) && decide ((rs.filter Rw.sentB).length ≤ 30)
theorem Rw.ok_mem {M : Int} {r : Rw} (h : r.okB M = true) : 0 ≤ r.mem ∧ r.mem ≤ M - 1 := by
  cases r <;> simp only [Rw.okB, inR, Rw.mem, Bool.and_eq_true, decide_eq_true_eq] at * <;> exact h.1
theorem i_slTn {K : PySem.W.Frag} {H : Hp} {Q : VK} {p : Addr} {xs : List V} {lo hi : Option Int} (h0 : SqT K H p xs) (h1 : ¬ (HT.sIx xs.length 0 lo = 0 ∧ HT.sIx xs.length xs.length hi = xs.length)) (h : ∀ b, H b = none → Q (.ref b) (upd H b (.tup (cutV xs lo hi)))) : rSlU K (.ref p) lo hi H Q := .inr ⟨p, xs, rfl, h0, h1, h⟩
end My
/-! histories: why a row can't be, and what it does (no program in sight) -/
namespace My
open PySem L2
abbrev Idn := Int × Int
/-- the ids of each sender are those from 1 on -/
def Num (l : List Idn) : Prop := ∀ s n : Int, (s, n) ∈ l ↔ 1 ≤ n ∧ n ≤ (cnt l s : Int)
theorem Num.nil : Num [] := fun s n => by
  simp only [List.not_mem_nil, false_iff, cnt, List.filter_nil, List.length_nil]
  omega
theorem Num.snoc {l : List Idn} {s n : Int} (h : Num l) (e : n = (cnt l s : Int) + 1) : Num (l ++ [(s, n)]) := by
  intro t k
  rw [List.mem_append, List.mem_singleton, h t k, cnt_snoc, Prod.mk.injEq]
  by_cases c : s = t
  · subst c
    rw [if_pos rfl]
    omega
  · rw [if_neg c]
    constructor
    · rintro (h | h)
      · omega
      · exact absurd h.1.symm c
    · intro h
      exact .inl (by omega)
theorem cnt_le {l : List Idn} {s : Int} : cnt l s ≤ l.length := List.length_filter_le _ _
theorem cnt_pos {l : List Idn} {s : Int} (h : 0 < cnt l s) : ∃ n, (s, n) ∈ l := by
  obtain ⟨z, hz⟩ := List.exists_mem_of_length_pos h
  rw [List.mem_filter, decide_eq_true_eq] at hz
  obtain ⟨a, b⟩ := z
  cases hz.2
  exact ⟨b, hz.1⟩
/-- has all of C -/
def hasB (C R : List Idn) : Bool := C.all fun z => decide (z ∈ R)
theorem has_num {C R : List Idn} (hC : Num C) (hR : Num R) : hasB C R = true ↔ ∀ s, cnt C s ≤ cnt R s := by
  rw [hasB, List.all_eq_true]
  constructor
  · intro h s
    by_cases c : cnt C s = 0
    · omega
    · have h1 := (hC s (cnt C s)).mpr ⟨by omega, Int.le_refl _⟩
      have h2 := of_decide_eq_true (h _ h1)
      have h3 := ((hR s (cnt C s)).mp h2).2
      omega
  · rintro h ⟨s, n⟩ hz
    have h1 := (hC s n).mp hz
    have h2 := h s
    exact decide_eq_true ((hR s n).mpr ⟨h1.1, by omega⟩)
/-- the counts of a row of ids, by members -/
def cnts (M : Nat) (l : List Idn) : List Int := (List.range M).map fun s => (cnt l (s : Nat) : Int)
theorem has_cnts {M : Nat} {C R : List Idn} (hC : Num C) (hR : Num R) (hr : ∀ z ∈ C, 0 ≤ z.1 ∧ z.1 ≤ (M : Int) - 1) : hasB C R = (List.range M).all fun s => decide (cnt C (s : Nat) ≤ cnt R (s : Nat)) := by
  rw [Bool.eq_iff_iff, has_num hC hR, List.all_eq_true]
  constructor
  · exact fun h s _ => decide_eq_true (h s)
  · intro h s
    by_cases c : cnt C s = 0
    · omega
    · obtain ⟨n, hn⟩ := cnt_pos (l := C) (s := s) (by omega)
      have b := hr _ hn
      simp only at b
      obtain ⟨k, rfl⟩ := Int.eq_ofNat_of_zero_le b.1
      exact of_decide_eq_true (h k (List.mem_range.mpr (by omega)))
structure Ms where
  cs : List (Idn × List Idn)
  got : List (List Idn)
  told : List (List Idn)
  lg : List Idn
  lt : List (Idn × List Idn × Str)
def Ms.keys (S : Ms) : List Idn := S.cs.map (·.1)
def rowOf (ls : List (List Idn)) (i : Int) : List Idn := ls.getD i.toNat []
def causesOf (cs : List (Idn × List Idn)) (z : Idn) : List Idn := ((cs.find? fun p => decide (p.1 = z)).map (·.2)).getD []
def otherB (lg : List Idn) (p : Int) (z : Idn) : Bool := if p ≤ lg.length then decide (lg[(p - 1).toNat]? ≠ some z) else decide (z ∈ lg)
def whyGot (S : Ms) (m : Int) (z : Idn) : Option Str :=
  if z.1 = m then some "own" else if z ∉ S.keys then some "unsent" else if z ∈ rowOf S.got m then some "again" else if hasB (causesOf S.cs z) (rowOf S.got m) = true then none else some "early"
def whyTold (S : Ms) (m p : Int) (z : Idn) : Option Str :=
  if p ≠ ((rowOf S.told m).length : Int) + 1 then some "place" else if z ∉ rowOf S.got m then some "not got" else if z ∈ rowOf S.told m then some "again" else if otherB S.lg p z = true then some "other" else if hasB (causesOf S.cs z) (rowOf S.told m) = true then none else some "causes"
def Ms.sent (S : Ms) (m : Int) (y : Str) : Ms := { S with cs := S.cs ++ [(nxt S.keys m, rowOf S.got m)], got := S.got.set m.toNat (rowOf S.got m ++ [nxt S.keys m]), lt := S.lt ++ [(nxt S.keys m, rowOf S.got m, y)] }
def Ms.goGot (S : Ms) (m : Int) (z : Idn) : Ms := { S with got := S.got.set m.toNat (rowOf S.got m ++ [z]) }
def Ms.goTold (S : Ms) (m : Int) (z : Idn) : Ms := { S with told := S.told.set m.toNat (rowOf S.told m ++ [z]), lg := if (rowOf S.told m).length + 1 > S.lg.length then S.lg ++ [z] else S.lg }
structure Inw (M : Nat) (S : Ms) : Prop where
  m5 : M ≤ 5
  lgot : S.got.length = M
  ltold : S.told.length = M
  kr : ∀ z ∈ S.keys, 0 ≤ z.1 ∧ z.1 ≤ (M : Int) - 1
  kn : Num S.keys
  cn : ∀ p ∈ S.cs, Num p.2 ∧ (∀ z ∈ p.2, z ∈ S.keys) ∧ (cnt p.2 p.1.1 : Int) = p.1.2 - 1
  gn : ∀ l ∈ S.got, Num l ∧ ∀ z ∈ l, z ∈ S.keys
  own : ∀ i : Nat, i < M → cnt (rowOf S.got (i : Nat)) (i : Nat) = cnt S.keys (i : Nat)
  tn : ∀ l ∈ S.told, Num l ∧ ∀ z ∈ l, z ∈ S.keys
  tp : ∀ l ∈ S.told, l <+: S.lg
  ln : S.lg.Nodup
  le : S.lg = [] ∨ S.lg ∈ S.told
  lc : S.lt.map (fun x => (x.1, x.2.1)) = S.cs
def Ms.new (M : Nat) : Ms := ⟨[], List.replicate M [], List.replicate M [], [], []⟩
theorem Inw.new {M : Nat} (hM : M ≤ 5) : Inw M (Ms.new M) where
  m5 := hM
  lgot := List.length_replicate
  ltold := List.length_replicate
  kr := fun _ h => nomatch h
  kn := Num.nil
  cn := fun _ h => nomatch h
  gn := fun l h => by
    rw [List.eq_of_mem_replicate h]
    exact ⟨Num.nil, fun _ h => nomatch h⟩
  own := fun i h => by
    have e : rowOf (Ms.new M).got (i : Nat) = [] := by
      unfold rowOf Ms.new
      rw [List.getD_eq_getElem?_getD, List.getElem?_replicate]
      split <;> rfl
    rw [e]
    rfl
  tn := fun l h => by
    rw [List.eq_of_mem_replicate h]
    exact ⟨Num.nil, fun _ h => nomatch h⟩
  tp := fun l h => by
    rw [List.eq_of_mem_replicate h]
    exact List.nil_prefix
  ln := List.nodup_nil
  le := .inl rfl
  lc := rfl
theorem row_mem {ls : List (List Idn)} {M : Nat} {i : Int} (hl : ls.length = M) (h : 0 ≤ i ∧ i ≤ (M : Int) - 1) : ∃ l, ls[i.toNat]? = some l ∧ rowOf ls i = l ∧ l ∈ ls := by
  have hi : i.toNat < ls.length := by omega
  refine ⟨ls[i.toNat], List.getElem?_eq_getElem hi, ?_, List.getElem_mem hi⟩
  unfold rowOf
  rw [List.getD_eq_getElem?_getD, List.getElem?_eq_getElem hi]
  rfl
theorem causes_mem {cs : List (Idn × List Idn)} {z : Idn} (h : z ∈ cs.map (·.1)) : (z, causesOf cs z) ∈ cs := by
  unfold causesOf
  cases e : cs.find? fun p => decide (p.1 = z) with
  | none =>
    obtain ⟨p, hp, rfl⟩ := List.mem_map.mp h
    have := List.find?_eq_none.mp e p hp
    simp at this
  | some p =>
    have h1 := List.mem_of_find?_eq_some e
    have h2 : p.1 = z := by
      have := List.find?_some e
      simpa using this
    subst h2
    exact h1
theorem mem_set {ls : List (List Idn)} {i : Nat} {l x : List Idn} (h : x ∈ ls.set i l) : x ∈ ls ∨ x = l := List.mem_or_eq_of_mem_set h
section
variable {M : Nat} {S : Ms}
theorem Inw.causes (h : Inw M S) {z : Idn} (hz : z ∈ S.keys) : Num (causesOf S.cs z) ∧ (∀ y ∈ causesOf S.cs z, y ∈ S.keys) ∧ (cnt (causesOf S.cs z) z.1 : Int) = z.2 - 1 := h.cn _ (causes_mem hz)
theorem Inw.gotR (h : Inw M S) {m : Int} (hm : 0 ≤ m ∧ m ≤ (M : Int) - 1) : Num (rowOf S.got m) ∧ ∀ z ∈ rowOf S.got m, z ∈ S.keys := by
  obtain ⟨l, _, e, hl⟩ := row_mem h.lgot hm
  rw [e]
  exact h.gn l hl
theorem Inw.toldR (h : Inw M S) {m : Int} (hm : 0 ≤ m ∧ m ≤ (M : Int) - 1) : Num (rowOf S.told m) ∧ (∀ z ∈ rowOf S.told m, z ∈ S.keys) ∧ rowOf S.told m <+: S.lg := by
  obtain ⟨l, _, e, hl⟩ := row_mem h.ltold hm
  rw [e]
  exact ⟨(h.tn l hl).1, (h.tn l hl).2, h.tp l hl⟩
/-- the next of a sender, if its causes are there -/
theorem Inw.next (h : Inw M S) {z : Idn} {R : List Idn} (hz : z ∈ S.keys) (hR : Num R) (n : z ∉ R) (c : hasB (causesOf S.cs z) R = true) : z.2 = (cnt R z.1 : Int) + 1 := by
  obtain ⟨c1, _, c3⟩ := h.causes hz
  have h1 := (has_num c1 hR).mp c z.1
  have h2 := ((h.kn z.1 z.2).mp hz).1
  have h3 : ¬ (1 ≤ z.2 ∧ z.2 ≤ (cnt R z.1 : Int)) := fun q => n ((hR z.1 z.2).mpr q)
  omega
theorem Inw.goGot (h : Inw M S) {m : Int} {z : Idn} (hm : 0 ≤ m ∧ m ≤ (M : Int) - 1) (w : whyGot S m z = none) : Inw M (S.goGot m z) := by
  unfold whyGot at w
  split at w
  · cases w
  split at w
  · cases w
  split at w
  · cases w
  split at w
  · rename_i c1 c2 c3 c4
    have hz : z ∈ S.keys := Classical.not_not.mp c2
    obtain ⟨g1, g2⟩ := h.gotR hm
    have e := h.next hz g1 c3 c4
    exact { h with
      lgot := by show (S.got.set _ _).length = M; rw [List.length_set]; exact h.lgot
      gn := fun l hl => by
        rcases mem_set hl with hl | rfl
        · exact h.gn l hl
        · refine ⟨?_, fun y hy => ?_⟩
          · obtain ⟨a, b⟩ := z
            exact g1.snoc e
          · rcases List.mem_append.mp hy with hy | hy
            · exact g2 y hy
            · rw [List.mem_singleton.mp hy]
              exact hz
      own := fun i hi => by
        show cnt (rowOf (S.got.set m.toNat (rowOf S.got m ++ [z])) (i : Nat)) (i : Nat) = cnt S.keys (i : Nat)
        rw [← h.own i hi]
        unfold rowOf
        rw [Int.toNat_natCast, List.getD_eq_getElem?_getD, List.getD_eq_getElem?_getD, List.getElem?_set]
        by_cases c : m.toNat = i
        · subst c
          rw [if_pos rfl, if_pos (by rw [h.lgot]; exact hi)]
          show cnt (S.got.getD m.toNat [] ++ [z]) _ = _
          rw [cnt_snoc, if_neg (by omega), List.getD_eq_getElem?_getD]
          rfl
        · rw [if_neg c, List.getD_eq_getElem?_getD] }
  · cases w
theorem Inw.sent (h : Inw M S) {m : Int} {y : Str} (hm : 0 ≤ m ∧ m ≤ (M : Int) - 1) : Inw M (S.sent m y) := by
  obtain ⟨g1, g2⟩ := h.gotR hm
  obtain ⟨i, rfl⟩ := Int.eq_ofNat_of_zero_le hm.1
  have hi : i < M := by omega
  have ho := h.own i hi
  have ek : (S.sent (i : Nat) y).keys = S.keys ++ [nxt S.keys (i : Nat)] := by
    unfold Ms.keys Ms.sent
    rw [List.map_append]
    rfl
  have sub : ∀ z, z ∈ S.keys → z ∈ (S.sent (i : Nat) y).keys := fun z hz => by rw [ek]; exact List.mem_append_left _ hz
  have nin : nxt S.keys (i : Nat) ∈ (S.sent (i : Nat) y).keys := by rw [ek]; exact List.mem_append_right _ (List.mem_singleton.mpr rfl)
  exact {
    m5 := h.m5
    lgot := by show (S.got.set _ _).length = M; rw [List.length_set]; exact h.lgot
    ltold := h.ltold
    kr := fun z hz => by
      rw [ek] at hz
      rcases List.mem_append.mp hz with hz | hz
      · exact h.kr z hz
      · rw [List.mem_singleton.mp hz]
        exact hm
    kn := by
      rw [ek]
      exact h.kn.snoc (Int.add_comm _ _)
    cn := fun p hp => by
      rcases List.mem_append.mp hp with hp | hp
      · obtain ⟨a, b, c⟩ := h.cn p hp
        exact ⟨a, fun z hz => sub z (b z hz), c⟩
      · rw [List.mem_singleton.mp hp]
        refine ⟨g1, fun z hz => sub z (g2 z hz), ?_⟩
        show ((cnt (rowOf S.got (i : Nat)) (i : Nat) : Nat) : Int) = 1 + ((cnt S.keys (i : Nat) : Nat) : Int) - 1
        rw [ho]
        omega
    gn := fun l hl => by
      rcases mem_set hl with hl | rfl
      · exact ⟨(h.gn l hl).1, fun z hz => sub z ((h.gn l hl).2 z hz)⟩
      · refine ⟨g1.snoc (by rw [ho, Int.add_comm]), fun y hy => ?_⟩
        rcases List.mem_append.mp hy with hy | hy
        · exact sub y (g2 y hy)
        · rw [List.mem_singleton.mp hy]
          exact nin
    own := fun j hj => by
      show cnt (rowOf (S.got.set _ (rowOf S.got (i : Nat) ++ [nxt S.keys (i : Nat)])) (j : Nat)) (j : Nat) = cnt (S.sent (i : Nat) y).keys (j : Nat)
      rw [ek, cnt_snoc, ← h.own j hj]
      unfold rowOf
      rw [Int.toNat_natCast, Int.toNat_natCast, List.getD_eq_getElem?_getD, List.getD_eq_getElem?_getD, List.getD_eq_getElem?_getD, List.getElem?_set]
      by_cases c : i = j
      · subst c
        rw [if_pos rfl, if_pos (by rw [h.lgot]; exact hi)]
        show cnt ((S.got[i]?.getD []) ++ [_]) _ = _
        rw [cnt_snoc]
      · rw [if_neg c, if_neg (show ¬ (nxt S.keys (i : Nat)).1 = (j : Nat) from fun e => c (by have : ((i : Nat) : Int) = (j : Nat) := e; omega))]
        rfl
    tn := fun l hl => ⟨(h.tn l hl).1, fun z hz => sub z ((h.tn l hl).2 z hz)⟩
    tp := h.tp
    ln := h.ln
    le := h.le
    lc := by
      show (S.lt ++ _).map _ = S.cs ++ _
      rw [List.map_append, h.lc]
      rfl }
/-- told: what follows of it -/
theorem told_other {m p : Int} {z : Idn} (h : Inw M S) (hm : 0 ≤ m ∧ m ≤ (M : Int) - 1) (hp : p = ((rowOf S.told m).length : Int) + 1) (hz : z ∉ rowOf S.told m) (o : otherB S.lg p z = false) :
    (∃ r, S.lg = rowOf S.told m ++ z :: r ∧ (S.goTold m z).lg = S.lg) ∨ (rowOf S.told m = S.lg ∧ (S.goTold m z).lg = S.lg ++ [z]) := by
  obtain ⟨_, _, r, e⟩ := h.toldR hm
  have el : S.lg.length = (rowOf S.told m).length + r.length := by rw [← e, List.length_append]
  have pn : (p - 1).toNat = (rowOf S.told m).length := by omega
  unfold otherB at o
  cases r with
  | nil =>
    rw [List.append_nil] at e
    refine .inr ⟨e, ?_⟩
    show (if _ then _ else _) = _
    rw [if_pos (by rw [el]; simp)]
  | cons y r =>
    rw [List.length_cons] at el
    rw [if_pos (by omega), pn, decide_eq_false_iff_not, Classical.not_not, ← e, List.getElem?_append_right (Nat.le_refl _), Nat.sub_self] at o
    cases o
    refine .inl ⟨r, e.symm, ?_⟩
    show (if _ then _ else _) = _
    rw [if_neg (by omega)]
theorem Inw.goTold (h : Inw M S) {m p : Int} {z : Idn} (hm : 0 ≤ m ∧ m ≤ (M : Int) - 1) (w : whyTold S m p z = none) : Inw M (S.goTold m z) := by
  unfold whyTold at w
  split at w
  · cases w
  split at w
  · cases w
  split at w
  · cases w
  split at w
  · cases w
  split at w
  · rename_i c1 c2 c3 c4 c5
    have hp : p = ((rowOf S.told m).length : Int) + 1 := Classical.not_not.mp c1
    have hg : z ∈ rowOf S.got m := Classical.not_not.mp c2
    have hz : z ∈ S.keys := (h.gotR hm).2 z hg
    obtain ⟨g1, g2, g3⟩ := h.toldR hm
    have e := h.next hz g1 c3 c5
    have o := told_other h hm hp c3 (Bool.eq_false_iff.mpr c4)
    have new : rowOf S.told m ++ [z] ∈ (S.goTold m z).told := by
      obtain ⟨l, e1, _, _⟩ := row_mem h.ltold hm
      exact List.mem_of_getElem? (i := m.toNat) (by show (S.told.set _ _)[_]? = _; rw [List.getElem?_set, if_pos rfl, if_pos (List.getElem?_eq_some_iff.mp e1).1])
    have pre : S.lg <+: (S.goTold m z).lg := by
      rcases o with ⟨r, _, e2⟩ | ⟨_, e2⟩
      · rw [e2]
        exact List.prefix_refl _
      · rw [e2]
        exact List.prefix_append _ _
    exact { h with
      ltold := by show (S.told.set _ _).length = M; rw [List.length_set]; exact h.ltold
      tn := fun l hl => by
        rcases mem_set hl with hl | rfl
        · exact h.tn l hl
        · refine ⟨?_, fun y hy => ?_⟩
          · obtain ⟨a, b⟩ := z
            exact g1.snoc e
          · rcases List.mem_append.mp hy with hy | hy
            · exact g2 y hy
            · rw [List.mem_singleton.mp hy]
              exact hz
      tp := fun l hl => by
        rcases mem_set hl with hl | rfl
        · exact (h.tp l hl).trans pre
        · rcases o with ⟨r, e1, e2⟩ | ⟨e1, e2⟩
          · rw [e2, e1]
            exact ⟨r, by simp⟩
          · rw [e2, e1]
            exact List.prefix_refl _
      ln := by
        rcases o with ⟨r, e1, e2⟩ | ⟨e1, e2⟩
        · rw [e2]
          exact h.ln
        · rw [e2, List.nodup_append]
          refine ⟨h.ln, List.pairwise_singleton _ _, fun a ha b hb c => ?_⟩
          rw [List.mem_singleton.mp hb] at c
          subst c
          exact c3 (e1 ▸ ha)
      le := by
        rcases o with ⟨r, e1, e2⟩ | ⟨e1, e2⟩
        · right
          rw [e2]
          rcases h.le with q | q
          · rw [q] at e1
            exact absurd e1 (by simp)
          · obtain ⟨j, hj⟩ := List.mem_iff_getElem?.mp q
            by_cases c : m.toNat = j
            · subst c
              obtain ⟨l, e3, e4, _⟩ := row_mem h.ltold hm
              rw [e3] at hj
              cases hj
              rw [e4] at e1
              have := congrArg List.length e1
              simp at this
            · exact List.mem_of_getElem? (i := j) (by show (S.told.set _ _)[_]? = _; rw [List.getElem?_set, if_neg c]; exact hj)
        · right
          rw [e2, ← e1]
          exact new }
  · cases w
end
section
variable {M : Nat} {S : Ms} {m p : Int} {z : Idn}
theorem pre_at {l r : List Idn} {j : Nat} {y : Idn} (h : l <+: r) (e : l[j]? = some y) : r[j]? = some y := by
  obtain ⟨t, rfl⟩ := h
  rw [List.getElem?_append_left (List.getElem?_eq_some_iff.mp e).1]
  exact e
theorem told_all (h : Inw M S) (hm : 0 ≤ m ∧ m ≤ (M : Int) - 1) (hp : p = ((rowOf S.told m).length : Int) + 1) (c : ¬ p ≤ S.lg.length) : rowOf S.told m = S.lg := by
  obtain ⟨_, _, r, e⟩ := h.toldR hm
  have el : S.lg.length = (rowOf S.told m).length + r.length := by rw [← e, List.length_append]
  have : r = [] := List.eq_nil_of_length_eq_zero (by omega)
  rw [this, List.append_nil] at e
  exact e
theorem other_true1 {l : List Idn} (h : Inw M S) (hl : l ∈ S.told) (h1 : 1 ≤ p) (h2 : p ≤ l.length) (h3 : l[(p - 1).toNat]? ≠ some z) : otherB S.lg p z = true := by
  have pr := h.tp l hl
  have le := pr.length_le
  unfold otherB
  rw [if_pos (by omega)]
  refine decide_eq_true fun e => h3 ?_
  have hlt : (p - 1).toNat < l.length := by omega
  rw [pre_at pr (List.getElem?_eq_getElem hlt)] at e
  rw [List.getElem?_eq_getElem hlt]
  exact e
theorem other_true2 {l : List Idn} {j : Nat} (h : Inw M S) (hm : 0 ≤ m ∧ m ≤ (M : Int) - 1) (hp : p = ((rowOf S.told m).length : Int) + 1) (hz : z ∉ rowOf S.told m) (hl : l ∈ S.told) (hj : l[j]? = some z) (n : (j : Int) ≠ p - 1) : otherB S.lg p z = true := by
  have e := pre_at (h.tp l hl) hj
  unfold otherB
  by_cases c : p ≤ S.lg.length
  · rw [if_pos c]
    refine decide_eq_true fun e2 => ?_
    have a1 := (List.getElem?_eq_some_iff.mp e).1
    have a2 := (List.getElem?_eq_some_iff.mp e2).1
    have := (List.getElem?_inj a1 h.ln).mp (e.trans e2.symm)
    omega
  · exact absurd (told_all h hm hp c ▸ List.mem_of_getElem? e) hz
theorem other_false (h : Inw M S) (hm : 0 ≤ m ∧ m ≤ (M : Int) - 1) (hp : p = ((rowOf S.told m).length : Int) + 1) (hz : z ∉ rowOf S.told m)
    (ha : ∀ (k : Nat) l, (k : Int) ≠ m → S.told[k]? = some l → p ≤ l.length → l[(p - 1).toNat]? = some z) : otherB S.lg p z = false := by
  unfold otherB
  by_cases c : p ≤ S.lg.length
  · rw [if_pos c]
    refine decide_eq_false (Classical.not_not.mpr ?_)
    rcases h.le with q | q
    · rw [q] at c
      simp only [List.length_nil] at c
      omega
    · obtain ⟨k, hk⟩ := List.mem_iff_getElem?.mp q
      refine ha k _ (fun e => ?_) hk c
      subst e
      obtain ⟨l, e1, e2, _⟩ := row_mem h.ltold hm
      rw [Int.toNat_natCast] at e1
      rw [hk] at e1
      cases e1
      rw [e2] at hp
      omega
  · rw [if_neg c]
    exact decide_eq_false (told_all h hm hp c ▸ hz)
/-- why a row can't be -/
def Ms.why (S : Ms) : Rw → Option Str
  | .sent _ _ => none
  | .got m s n => whyGot S m (s, n)
  | .told m p s n => whyTold S m p (s, n)
def Ms.go (S : Ms) : Rw → Ms
  | .sent m y => S.sent m y
  | .got m s n => S.goGot m (s, n)
  | .told m _ s n => S.goTold m (s, n)
theorem Inw.got_next {m s n : Int} (h : Inw M S) (hm : 0 ≤ m ∧ m ≤ (M : Int) - 1) (w : whyGot S m (s, n) = none) : n = (cnt (rowOf S.got m) s : Int) + 1 := by
  unfold whyGot at w
  split at w
  · cases w
  split at w
  · cases w
  split at w
  · cases w
  split at w
  · rename_i c1 c2 c3 c4
    exact h.next (Classical.not_not.mp c2) (h.gotR hm).1 c3 c4
  · cases w
theorem Inw.told_next {m p s n : Int} (h : Inw M S) (hm : 0 ≤ m ∧ m ≤ (M : Int) - 1) (w : whyTold S m p (s, n) = none) : n = (cnt (rowOf S.told m) s : Int) + 1 := by
  unfold whyTold at w
  split at w
  · cases w
  split at w
  · cases w
  split at w
  · cases w
  split at w
  · cases w
  split at w
  · rename_i c1 c2 c3 c4 c5
    exact h.next ((h.gotR hm).2 _ (Classical.not_not.mp c2)) (h.toldR hm).1 c3 c5
  · cases w
/-- a row that can be leaves all as it must be -/
theorem Inw.go {r : Rw} (h : Inw M S) (hok : r.okB M = true) (w : S.why r = none) : Inw M (S.go r) := by
  have hm := Rw.ok_mem hok
  cases r with
  | sent m z => exact h.sent hm
  | got m s n => exact h.goGot hm w
  | told m p s n => exact h.goTold hm w
theorem keys_go {r : Rw} : (S.go r).keys.length = S.keys.length + ([r].filter Rw.sentB).length := by
  cases r with
  | sent m z =>
    show (List.map _ (S.cs ++ _)).length = _
    rw [List.map_append, List.length_append]
    rfl
  | got m s n => rfl
  | told m p s n => rfl
/-- the first row that can't be, from the i-th on -/
def firstW (S : Ms) : List Rw → Nat → Option (Nat × Str)
  | [], _ => none
  | r :: rs, i => match S.why r with
    | some w => some (i, w)
    | none => firstW (S.go r) rs (i + 1)
end
end My
/-! histories: the law's model and the program's walk in the heap -/
namespace My
open PySem L2
/-- the list at q holds these ids -/
def IdL (H : Hp) (q : Addr) (l : List Idn) : Prop := ∃ xs, H q = some (.lst xs) ∧ All2 (IdAt H) xs l
theorem IdL.keeps {H H' : Hp} {q : Addr} {l : List Idn} (k : ∀ b xs, H b = some (.tup xs) → H' b = some (.tup xs)) (kq : ∀ u, H q = some u → H' q = some u) (h : IdL H q l) : IdL H' q l := by
  obtain ⟨xs, e, a⟩ := h
  exact ⟨xs, kq _ e, a.mono fun _ _ => IdAt.keeps k⟩
theorem IdL.same {H H' : Hp} {q : Addr} {l : List Idn} (s : Same H H') (h : IdL H q l) : IdL H' q l := h.keeps (fun _ _ => s _ _) (fun _ => s _ _)
theorem All2.setR {α β : Type} {R R' : α → β → Prop} {xs : List α} {ys : List β} {i : Nat} {x : α} {y : β} (h : All2 R xs ys) (hx : xs[i]? = some x) (nd : xs.Nodup) (k : ∀ u w, u ≠ x → R u w → R' u w) (r : R' x y) : All2 R' xs (ys.set i y) := by
  refine ⟨by rw [List.length_set]; exact h.1, fun j u w hu hw => ?_⟩
  by_cases c : i = j
  · subst c
    rw [hx] at hu
    cases hu
    rw [List.getElem?_set] at hw
    simp only [if_true] at hw
    split at hw
    · cases hw
      exact r
    · cases hw
  · rw [List.getElem?_set_ne c] at hw
    refine k u w (fun e => c ?_) (h.2 j u w hu hw)
    subst e
    exact (List.getElem?_inj (List.getElem?_eq_some_iff.mp hx).1 nd).mp (hx.trans hu.symm)
structure MdA where
  F : Addr → Prop
  n : Nat
  c : Addr
  wd : Addr
  g : Addr
  t : Addr
  ck : List (List Key × V)
  wk : List (List Key × V)
  gq : List Addr
  tq : List Addr
/-- the model: exactly -/
structure MdX (H : Hp) (o : Addr) (a : MdA) (S : Ms) : Prop where
  ho : H o = some (.dK [(.inr "causes", .ref a.c), (.inr "words", .ref a.wd), (.inr "got", .ref a.g), (.inr "told", .ref a.t)])
  hc : H a.c = some (.dT a.ck)
  hw : H a.wd = some (.dT a.wk)
  hg : H a.g = some (.lst (a.gq.map V.ref))
  ht : H a.t = some (.lst (a.tq.map V.ref))
  cw : a.c ≠ a.wd
  fo : a.F o
  fc : a.F a.c
  fw : a.F a.wd
  fg : a.F a.g
  ft : a.F a.t
  fd : ∀ b, a.F b → H b ≠ none
  kc : All2 (fun p z => p.1 = idK z.1 ∧ ∃ q, p.2 = .ref q ∧ IdL H q z.2 ∧ q ∉ a.gq ++ a.tq ∧ a.F q) a.ck S.cs
  kg : All2 (IdL H) a.gq S.got
  kt : All2 (IdL H) a.tq S.told
  nd : (a.gq ++ a.tq).Nodup
  fq : ∀ q ∈ a.gq ++ a.tq, a.F q
  gn : a.gq ≠ []
  tn : a.tq ≠ []
  kw : a.wk.length ≤ S.keys.length
  kl : S.keys.length ≤ a.n
  nl : ∀ l ∈ S.got ++ S.told, l.length ≤ a.n
  nn : a.n ≤ 450
  kww : All2 (fun p (y : Idn × List Idn × Str) => p.1 = idK y.1 ∧ p.2 = .str y.2.2) a.wk S.lt
  lc : S.lt.map (fun x => (x.1, x.2.1)) = S.cs
section
variable {H H' : Hp} {o : Addr} {a : MdA} {S : Ms}
theorem MdX.kept (k : Kept a.F H H') (h : MdX H o a S) : MdX H' o a S :=
  have tp : ∀ b xs, H b = some (.tup xs) → H' b = some (.tup xs) := fun b xs => k _ _ (.inr ⟨xs, rfl⟩)
  { h with
    ho := k _ _ (.inl h.fo) h.ho
    hc := k _ _ (.inl h.fc) h.hc
    hw := k _ _ (.inl h.fw) h.hw
    hg := k _ _ (.inl h.fg) h.hg
    ht := k _ _ (.inl h.ft) h.ht
    fd := fun b f e => by
      cases c : H b with
      | none => exact h.fd b f c
      | some u => rw [k b u (.inl f) c] at e; cases e
    kc := h.kc.mono fun _ _ ⟨e, q, e1, e2, e3, e4⟩ => ⟨e, q, e1, e2.keeps tp (fun _ => k _ _ (.inl e4)), e3, e4⟩
    kg := ⟨h.kg.1, fun i q l hq hl => (h.kg.2 i q l hq hl).keeps tp (fun _ => k _ _ (.inl (h.fq q (List.mem_append_left _ (List.mem_of_getElem? hq)))))⟩
    kt := ⟨h.kt.1, fun i q l hq hl => (h.kt.2 i q l hq hl).keeps tp (fun _ => k _ _ (.inl (h.fq q (List.mem_append_right _ (List.mem_of_getElem? hq)))))⟩ }
theorem MdX.same (s : Same H H') (h : MdX H o a S) : MdX H' o a S := h.kept (.same s)
theorem MdX.out {b : Addr} (h : MdX H o a S) (n : H b = none) : ¬ a.F b := fun f => h.fd b f n
/-- the keys of the dict -/
theorem MdX.keys (h : MdX H o a S) : All2 (fun p z => p.1 = idK z ∧ True) a.ck S.keys := by
  refine ⟨by rw [h.kc.1]; exact (List.length_map ..).symm, fun i p z hp hz => ?_⟩
  unfold Ms.keys at hz
  rw [List.getElem?_map, Option.map_eq_some_iff] at hz
  obtain ⟨y, hy, rfl⟩ := hz
  exact ⟨(h.kc.2 i p y hp hy).1, trivial⟩
theorem find_all2 {β : Type} {R : V → β → Prop} : ∀ {ck : List (List Key × V)} {cs : List (Idn × β)} {z : Idn}, All2 (fun p y => p.1 = idK y.1 ∧ R p.2 y.2) ck cs → z ∈ cs.map (·.1) → ∃ v y, valV ck (idK z) = some v ∧ cs.find? (fun p => decide (p.1 = z)) = some (z, y) ∧ R v y
  | p :: ck, y :: cs, z, h, hz => by
    obtain ⟨h1, h2⟩ := h.2 0 p y rfl rfl
    by_cases c : y.1 = z
    · subst c
      exact ⟨p.2, y.2, by unfold valV; rw [List.find?_cons, decide_eq_true h1]; rfl, by rw [List.find?_cons, decide_eq_true rfl], h2⟩
    · obtain ⟨v, w, e1, e2, e3⟩ := find_all2 (R := R) (ck := ck) (cs := cs) (z := z) ⟨Nat.succ.inj h.1, fun i a b ha hb => h.2 (i + 1) a b ha hb⟩ ((List.mem_cons.mp hz).resolve_left fun e => c e.symm)
      refine ⟨v, w, ?_, by rw [List.find?_cons, decide_eq_false c]; exact e2, e3⟩
      unfold valV
      rw [List.find?_cons, decide_eq_false (fun e => c (idK_inj (h1.symm.trans e)))]
      exact e1
  | [], _ :: _, _, h, _ => nomatch h.1
  | _ :: _, [], _, h, _ => nomatch h.1
theorem MdX.causes (h : MdX H o a S) {z : Idn} (hz : z ∈ S.keys) : ∃ q, valV a.ck (idK z) = some (.ref q) ∧ IdL H q (causesOf S.cs z) := by
  obtain ⟨v, y, e1, e2, q, rfl, e3, _⟩ := find_all2 (R := fun v (l : List Idn) => ∃ q, v = .ref q ∧ IdL H q l ∧ q ∉ a.gq ++ a.tq ∧ a.F q) h.kc hz
  refine ⟨q, e1, ?_⟩
  unfold causesOf
  rw [e2]
  exact e3
theorem atI_of {xs : List V} {j : Nat} {x : V} (h : xs[j]? = some x) : atI xs (j : Int) = some x := by
  have hl := (List.getElem?_eq_some_iff.mp h).1
  obtain ⟨v, _, e, f⟩ := atI_in (xs := xs) (Int.natCast_nonneg j) (by omega)
  rw [Int.toNat_natCast, h] at e
  cases e
  exact f
theorem at_ref {qs : List Addr} {q : Addr} {i : Int} (h0 : 0 ≤ i) (h : qs[i.toNat]? = some q) : atI (qs.map V.ref) i = some (.ref q) := by
  have e : (qs.map V.ref)[i.toNat]? = some (.ref q) := by rw [List.getElem?_map, h]; rfl
  have := atI_of e
  rw [Int.toNat_of_nonneg h0] at this
  exact this
theorem row_at {R : Addr → List Idn → Prop} {qs : List Addr} {ls : List (List Idn)} {M : Nat} {i : Int} (h : All2 R qs ls) (hl : ls.length = M) (hi : 0 ≤ i ∧ i ≤ (M : Int) - 1) : ∃ q, qs[i.toNat]? = some q ∧ atI (qs.map V.ref) i = some (.ref q) ∧ R q (rowOf ls i) ∧ q ∈ qs := by
  obtain ⟨l, e1, e2, _⟩ := row_mem hl hi
  have hq : i.toNat < qs.length := by rw [h.1, hl]; omega
  refine ⟨qs[i.toNat], List.getElem?_eq_getElem hq, at_ref hi.1 (List.getElem?_eq_getElem hq), ?_, List.getElem_mem hq⟩
  rw [e2]
  exact h.2 _ _ _ (List.getElem?_eq_getElem hq) e1
/-- a list of rows is no row -/
theorem MdX.noR (h : MdX H o a S) {q : Addr} {xs : List V} {l : List Idn} {g : Addr} {gq : List Addr} (hg : H g = some (.lst (gq.map V.ref))) (n : gq ≠ []) (hk : ∀ p ∈ gq, ∃ l, IdL H p l) (hq : H q = some (.lst xs)) (ha : All2 (IdAt H) xs l) : g ≠ q := by
  rintro rfl
  rw [hg] at hq
  cases hq
  obtain ⟨p, r, rfl⟩ := List.exists_cons_of_ne_nil n
  obtain ⟨z, _, b, e1, e2⟩ := ha.get (i := 0) rfl
  cases e1
  obtain ⟨_, _, e3, _⟩ := hk p (List.mem_cons_self ..)
  rw [e3] at e2
  cases e2
theorem all2_ex {R : Addr → List Idn → Prop} {qs : List Addr} {ls : List (List Idn)} (h : All2 R qs ls) : ∀ p ∈ qs, ∃ l, R p l := fun p hp => by
  obtain ⟨i, hi⟩ := List.mem_iff_getElem?.mp hp
  obtain ⟨l, _, r⟩ := h.get hi
  exact ⟨l, r⟩
theorem len_set {ls ms : List (List Idn)} {n i : Nat} {l : List Idn} (h : ∀ l ∈ ls ++ ms, l.length ≤ n) (hl : l.length ≤ n + 1) : ∀ x ∈ ls.set i l ++ ms, x.length ≤ n + 1 := fun x hx => by
  rcases List.mem_append.mp hx with hx | hx
  · rcases mem_set hx with hx | rfl
    · exact Nat.le_succ_of_le (h x (List.mem_append_left _ hx))
    · exact hl
  · exact Nat.le_succ_of_le (h x (List.mem_append_right _ hx))
theorem len_set2 {ls ms : List (List Idn)} {n i : Nat} {l : List Idn} (h : ∀ l ∈ ls ++ ms, l.length ≤ n) (hl : l.length ≤ n + 1) : ∀ x ∈ ls ++ ms.set i l, x.length ≤ n + 1 := fun x hx => by
  rcases List.mem_append.mp hx with hx | hx
  · exact Nat.le_succ_of_le (h x (List.mem_append_left _ hx))
  · rcases mem_set hx with hx | rfl
    · exact Nat.le_succ_of_le (h x (List.mem_append_right _ hx))
    · exact hl
theorem MdX.tp {q : Addr} {xs : List V} (hq : H q = some (.lst xs)) (s : SameBut q H H') : ∀ b xs, H b = some (.tup xs) → H' b = some (.tup xs) := fun b xs e => s b _ (fun c => by subst c; rw [hq] at e; cases e) e
theorem MdX.goGot {i : Nat} {q : Addr} {xs : List V} {y : V} {z : Idn} (h : MdX H o a S) (hi : a.gq[i]? = some q) (hq : H q = some (.lst xs)) (ha : All2 (IdAt H) xs (rowOf S.got (i : Nat))) (hy : IdAt H y z) (hn : a.n < 450) (s : SameBut q H H') (hq' : H' q = some (.lst (xs ++ [y]))) : MdX H' o { a with n := a.n + 1 } (S.goGot (i : Nat) z) := by
  have tp := MdX.tp hq s
  have qm : q ∈ a.gq ++ a.tq := List.mem_append_left _ (List.mem_of_getElem? hi)
  have ng := h.noR h.hg h.gn (all2_ex h.kg) hq ha
  have nt := h.noR h.ht h.tn (all2_ex h.kt) hq ha
  obtain ⟨n1, n2, n3⟩ := List.nodup_append.mp h.nd
  exact {
    ho := s _ _ (ne_of h.ho hq (by simp)) h.ho
    hc := s _ _ (ne_of h.hc hq (by simp)) h.hc
    hw := s _ _ (ne_of h.hw hq (by simp)) h.hw
    hg := s _ _ ng h.hg
    ht := s _ _ nt h.ht
    cw := h.cw
    fo := h.fo
    fc := h.fc
    fw := h.fw
    fg := h.fg
    ft := h.ft
    fd := fun b f e => by
      by_cases c : b = q
      · subst c
        rw [hq'] at e
        cases e
      · cases d : H b with
        | none => exact h.fd b f d
        | some u => rw [s b u c d] at e; cases e
    kc := h.kc.mono fun _ _ ⟨e, p, e1, e2, e3, e4⟩ => ⟨e, p, e1, e2.keeps tp (fun _ => s _ _ (fun c => e3 (c ▸ qm))), e3, e4⟩
    kg := by
      show All2 (IdL H') a.gq (S.got.set (Int.toNat (i : Nat)) _)
      rw [Int.toNat_natCast]
      exact h.kg.setR hi n1 (fun u w n r => r.keeps tp (fun _ => s _ _ n)) ⟨_, hq', All2.append (ha.mono fun _ _ => IdAt.keeps tp) (All2.cons (hy.keeps tp) All2.nil)⟩
    kt := ⟨h.kt.1, fun j p l hp hl => (h.kt.2 j p l hp hl).keeps tp (fun _ => s _ _ (fun c => n3 q (List.mem_of_getElem? hi) p (List.mem_of_getElem? hp) c.symm))⟩
    nd := h.nd
    fq := h.fq
    gn := h.gn
    tn := h.tn
    kw := h.kw
    kl := Nat.le_succ_of_le h.kl
    nl := len_set h.nl (by
      rw [List.length_append]
      refine Nat.succ_le_succ (h.nl _ (List.mem_append_left _ ?_))
      have hlt := (List.getElem?_eq_some_iff.mp hi).1
      rw [h.kg.1] at hlt
      unfold rowOf
      rw [Int.toNat_natCast, List.getD_eq_getElem?_getD, List.getElem?_eq_getElem hlt]
      exact List.getElem_mem hlt)
    nn := hn
    kww := h.kww
    lc := h.lc }
theorem MdX.goTold {i : Nat} {q : Addr} {xs : List V} {y : V} {z : Idn} (h : MdX H o a S) (hi : a.tq[i]? = some q) (hq : H q = some (.lst xs)) (ha : All2 (IdAt H) xs (rowOf S.told (i : Nat))) (hy : IdAt H y z) (hn : a.n < 450) (s : SameBut q H H') (hq' : H' q = some (.lst (xs ++ [y]))) : MdX H' o { a with n := a.n + 1 } (S.goTold (i : Nat) z) := by
  have tp := MdX.tp hq s
  have qm : q ∈ a.gq ++ a.tq := List.mem_append_right _ (List.mem_of_getElem? hi)
  have ng := h.noR h.hg h.gn (all2_ex h.kg) hq ha
  have nt := h.noR h.ht h.tn (all2_ex h.kt) hq ha
  obtain ⟨n1, n2, n3⟩ := List.nodup_append.mp h.nd
  exact {
    ho := s _ _ (ne_of h.ho hq (by simp)) h.ho
    hc := s _ _ (ne_of h.hc hq (by simp)) h.hc
    hw := s _ _ (ne_of h.hw hq (by simp)) h.hw
    hg := s _ _ ng h.hg
    ht := s _ _ nt h.ht
    cw := h.cw
    fo := h.fo
    fc := h.fc
    fw := h.fw
    fg := h.fg
    ft := h.ft
    fd := fun b f e => by
      by_cases c : b = q
      · subst c
        rw [hq'] at e
        cases e
      · cases d : H b with
        | none => exact h.fd b f d
        | some u => rw [s b u c d] at e; cases e
    kc := h.kc.mono fun _ _ ⟨e, p, e1, e2, e3, e4⟩ => ⟨e, p, e1, e2.keeps tp (fun _ => s _ _ (fun c => e3 (c ▸ qm))), e3, e4⟩
    kt := by
      show All2 (IdL H') a.tq (S.told.set (Int.toNat (i : Nat)) _)
      rw [Int.toNat_natCast]
      exact h.kt.setR hi n2 (fun u w n r => r.keeps tp (fun _ => s _ _ n)) ⟨_, hq', All2.append (ha.mono fun _ _ => IdAt.keeps tp) (All2.cons (hy.keeps tp) All2.nil)⟩
    kg := ⟨h.kg.1, fun j p l hp hl => (h.kg.2 j p l hp hl).keeps tp (fun _ => s _ _ (fun c => n3 p (List.mem_of_getElem? hp) q (List.mem_of_getElem? hi) c))⟩
    nd := h.nd
    fq := h.fq
    gn := h.gn
    tn := h.tn
    kw := h.kw
    kl := Nat.le_succ_of_le h.kl
    nl := len_set2 h.nl (by
      rw [List.length_append]
      refine Nat.succ_le_succ (h.nl _ (List.mem_append_right _ ?_))
      have hlt := (List.getElem?_eq_some_iff.mp hi).1
      rw [h.kt.1] at hlt
      unfold rowOf
      rw [Int.toNat_natCast, List.getD_eq_getElem?_getD, List.getElem?_eq_getElem hlt]
      exact List.getElem_mem hlt)
    nn := hn
    kww := h.kww
    lc := h.lc }
theorem lt_keys {S : Ms} (h : S.lt.map (fun x => (x.1, x.2.1)) = S.cs) : S.lt.map (·.1) = S.keys := by
  unfold Ms.keys
  rw [← h, List.map_map]
  rfl
theorem MdX.wkeys (h : MdX H o a S) : All2 (fun p z => p.1 = idK z ∧ True) a.wk S.keys := by
  rw [← lt_keys h.lc]
  refine ⟨by rw [h.kww.1]; exact (List.length_map ..).symm, fun i p z hp hz => ?_⟩
  rw [List.getElem?_map, Option.map_eq_some_iff] at hz
  obtain ⟨y, hy, rfl⟩ := hz
  exact ⟨(h.kww.2 i p y hp hy).1, trivial⟩
/-- a key more, its causes the new list at L -/
theorem MdX.put {H1 H2 : Hp} {L : Addr} {l : List Idn} {z : Idn} {y : Str} (h : MdX H o a S) (hL : IdL H L l) (nL : ¬ a.F L) (fresh : z ∉ S.keys)
    (s1 : SameBut a.c H H1) (e1 : H1 a.c = some (.dT (putK a.ck (idK z) (.ref L)))) (s2 : SameBut a.wd H1 H2) (e2 : H2 a.wd = some (.dT (putK a.wk (idK z) (.str y)))) (hn : a.n < 450) :
    MdX H2 o { a with F := fun b => a.F b ∨ b = L, ck := a.ck ++ [(idK z, .ref L)], wk := a.wk ++ [(idK z, .str y)], n := a.n + 1 } { S with cs := S.cs ++ [(z, l)], lt := S.lt ++ [(z, l, y)] } := by
  have st : ∀ b u, b ≠ a.c → b ≠ a.wd → H b = some u → H2 b = some u := fun b u n1 n2 e => s2 b u n2 (s1 b u n1 e)
  have ls : ∀ b xs, H b = some (.lst xs) → H2 b = some (.lst xs) := fun b xs e => st b _ (ne_of e h.hc (by simp)) (ne_of e h.hw (by simp)) e
  have tp : ∀ b xs, H b = some (.tup xs) → H2 b = some (.tup xs) := fun b xs e => st b _ (ne_of e h.hc (by simp)) (ne_of e h.hw (by simp)) e
  have hc2 : H2 a.c = some (.dT (putK a.ck (idK z) (.ref L))) := s2 _ _ h.cw e1
  have il : ∀ {q l}, IdL H q l → IdL H2 q l := fun ⟨xs, e, b⟩ => ⟨xs, ls _ _ e, b.mono fun _ _ => IdAt.keeps tp⟩
  have ek : ({ S with cs := S.cs ++ [(z, l)], lt := S.lt ++ [(z, l, y)] } : Ms).keys = S.keys ++ [z] := by
    unfold Ms.keys
    rw [List.map_append]
    rfl
  exact {
    ho := st _ _ (ne_of h.ho h.hc (by simp)) (ne_of h.ho h.hw (by simp)) h.ho
    hc := by rw [← put_new (R := fun _ => True) h.keys fresh]; exact hc2
    hw := by rw [← put_new (R := fun _ => True) h.wkeys fresh]; exact e2
    hg := ls _ _ h.hg
    ht := ls _ _ h.ht
    cw := h.cw
    fo := .inl h.fo
    fc := .inl h.fc
    fw := .inl h.fw
    fg := .inl h.fg
    ft := .inl h.ft
    fd := fun b f e => by
      by_cases c1 : b = a.wd
      · subst c1
        rw [e2] at e
        cases e
      by_cases c2 : b = a.c
      · subst c2
        rw [hc2] at e
        cases e
      rcases f with f | rfl
      · cases d : H b with
        | none => exact h.fd b f d
        | some u => rw [st b u c2 c1 d] at e; cases e
      · obtain ⟨_, e3, _⟩ := hL
        rw [ls _ _ e3] at e
        cases e
    kc := All2.append (h.kc.mono fun _ _ ⟨e, q, q1, q2, q3, q4⟩ => ⟨e, q, q1, il q2, q3, .inl q4⟩) (All2.cons ⟨rfl, L, rfl, il hL, fun c => nL (h.fq L c), .inr rfl⟩ All2.nil)
    kg := h.kg.mono fun _ _ => il
    kt := h.kt.mono fun _ _ => il
    nd := h.nd
    fq := fun q hq => .inl (h.fq q hq)
    gn := h.gn
    tn := h.tn
    kw := by
      rw [ek]
      show (a.wk ++ _).length ≤ _
      rw [List.length_append, List.length_append]
      exact Nat.succ_le_succ h.kw
    kl := by
      rw [ek, List.length_append]
      exact Nat.succ_le_succ h.kl
    nl := fun x hx => Nat.le_succ_of_le (h.nl x hx)
    nn := hn
    kww := All2.append h.kww (All2.cons ⟨rfl, rfl⟩ All2.nil)
    lc := by
      show (S.lt ++ _).map _ = S.cs ++ _
      rw [List.map_append, h.lc]
      rfl }
theorem nxt_fresh {M : Nat} {i : Int} (h : Inw M S) : nxt S.keys i ∉ S.keys := fun hz => by
  have := ((h.kn _ _).mp (show (i, 1 + ((cnt S.keys i : Nat) : Int)) ∈ S.keys from hz)).2
  omega
end
/-- [[] for k in range(n)]: new lists -/
theorem lc_newL {g : TG} {tt : TT} {te : TE} {vs : List Nat} {σ : L2.St} {H1 : Hp} {D : Addr} {Qd : Hp → Prop} {n : Nat} {xs : List V} (hl : n ≤ 1000) (hD : H1 D = none)
    (hs : ∀ i, i < n → ∀ H (Q : VK) (Rr : Hp → Prop), Same H1 H → (∀ q HN, H q = none → Same H HN → HN q = some (.lst xs) → Q (.ref q) HN) →
      g (.int (0 + i)) (wipe σ vs) H fun σ2 H2 => wipe σ2 vs = wipe σ vs ∧ tt σ2 H2 fun b H3 => if b = true then te σ2 H3 Q else Rr H3)
    (hd : ∀ H (qs : List Addr), Same H1 H → H D = some (.lst (qs.map V.ref)) → qs.length = n → (∀ q ∈ qs, H1 q = none ∧ q ≠ D ∧ H q = some (.lst xs)) → qs.Nodup → Qd H) :
    ∃ W : Nat → Nat → Hp → Prop, (∃ m, W 0 m (upd H1 D (.lst []))) ∧ ∀ i m H, W i m H →
      ((Itr 0 n).stop i H ∧ Qd H) ∨ ((Itr 0 n).go i H ∧ ∃ Nx : Hp → Prop, (∀ H', Nx H' → ∃ m', m' < m ∧ W (i + 1) m' H') ∧ ∀ x H', (Itr 0 n).yld i H x H' → g x (wipe σ vs) H' fun σ2 H2 => wipe σ2 vs = wipe σ vs ∧ tt σ2 H2 fun b H3 =>
        if b = true then te σ2 H3 fun y H4 => ∃ acc, H4 D = some (.lst acc) ∧ acc.length < sizeLine ∧ Nx (upd H4 D (.lst (acc ++ [y]))) else Nx H3) := by
  have sb : ∀ {H o}, Same H1 H → Same H1 (upd H D o) := fun {H o} s b u e => by
    rw [upd_ne (ne_of_none e hD)]
    exact s b u e
  refine lc_it walk_range (fun i H => Same H1 H ∧ ∃ qs : List Addr, H D = some (.lst (qs.map V.ref)) ∧ qs.length = i ∧ (∀ q ∈ qs, H1 q = none ∧ q ≠ D ∧ H q = some (.lst xs)) ∧ qs.Nodup) ⟨sb (Same.refl H1), [], upd_same, rfl, (fun _ h => nomatch h), List.nodup_nil⟩ (fun _ _ _ _ => trivial) ?_ ?_
  · rintro i v H H' hi ⟨s1, qs, e2, e3, e4, e5⟩ ⟨rfl, rfl⟩
    refine hs i hi H' _ _ s1 (fun q HN hq sa hg => ?_)
    have nq : q ≠ D := fun c => by rw [c, e2] at hq; cases hq
    refine ⟨_, sa _ _ e2, small1000 (by rw [List.length_map]; omega), sb (s1.trans sa), qs ++ [q], by rw [upd_same, List.map_append]; rfl, by rw [List.length_append, e3]; rfl, fun p hp => ?_, ?_⟩
    · rcases List.mem_append.mp hp with hp | hp
      · obtain ⟨n1, n2, e⟩ := e4 p hp
        exact ⟨n1, n2, by rw [upd_ne n2]; exact sa _ _ e⟩
      · rw [List.mem_singleton.mp hp]
        exact ⟨none_same s1 hq, nq, by rw [upd_ne nq]; exact hg⟩
    · rw [List.nodup_append]
      refine ⟨e5, List.pairwise_singleton _ _, fun p hp r hr c => ?_⟩
      rw [List.mem_singleton.mp hr] at c
      subst c
      have := (e4 p hp).2.2
      rw [hq] at this
      cases this
  · rintro H ⟨s1, qs, e2, e3, e4, e5⟩
    exact hd H qs s1 e2 e3 e4 e5
theorem all2_rep {R : Addr → List Idn → Prop} {qs : List Addr} {n : Nat} {l : List Idn} (h : qs.length = n) (r : ∀ p ∈ qs, R p l) : All2 R qs (List.replicate n l) := by
  refine ⟨by rw [h, List.length_replicate], fun i q k hq hk => ?_⟩
  rw [List.getElem?_replicate] at hk
  split at hk
  · cases hk
    exact r q (List.mem_of_getElem? hq)
  · cases hk
theorem cast_q {Q : VK} {H : Hp} {x y : V} (h : Q x H) (e : x = y) : Q y H := e ▸ h
theorem i_idxX {K : PySem.W.Frag} {H : Hp} {Q : VK} {p : Addr} {x : V} {xs : List V} {l : List Idn} {z : Idn} (h1 : SqL K H p xs) (h2 : All2 (IdAt H) xs l) (h3 : IdAt H x z) (h4 : z ∈ l) (h : ∀ j : Nat, l[j]? = some z → Q (.int j) H) : rIndexD K (.ref p) [x] H Q := by
  obtain ⟨j, e1, e2⟩ := first_at h4
  refine ⟨p, x, idD z, l.map idD, j, idD z, rfl, rfl, .lst h1 (ids_dp h2), h3.dp, ids_shaped l, idD_shaped z, by rw [List.getElem?_map, e1]; rfl, by rw [idD_eqv]; exact decide_eq_true rfl, fun m z' hm hz => ?_, h j e1⟩
  rw [List.getElem?_map, Option.map_eq_some_iff] at hz
  obtain ⟨y, hy, rfl⟩ := hz
  rw [idD_eqv]
  exact decide_eq_false (e2 m y hm hy)
def optV : Option Str → V
  | none => .non
  | some w => .str w
end My
/-! the program's walk through a history, in the heap -/
namespace My
open PySem L2
structure WkA where
  n : Nat
  dx : Addr
  kr : Addr
  kl : Addr
  gc : Addr
  gi : Addr
  ti : Addr
  tc : Addr
  lr : Addr
  kk : List (List Key × V)
  ls : List V
  gcq : List Addr
  giq : List Addr
  tiq : List Addr
  tcq : List Addr
def WkA.all (w : WkA) : List Addr := w.gcq ++ (w.giq ++ (w.tiq ++ (w.tcq ++ [w.lr, w.kl, w.gc, w.gi, w.ti, w.tc])))
/-- the list at q holds the counts of these ids -/
def CtL (M : Nat) (H : Hp) (q : Addr) (l : List Idn) : Prop := H q = some (.lst ((cnts M l).map V.int))
def WkF (w : WkA) : List (Str × V) := [("kept_rows", .ref w.kr), ("kept_letters", .ref w.kl), ("got_counts", .ref w.gc), ("got_ids", .ref w.gi), ("told_ids", .ref w.ti), ("told_counts", .ref w.tc), ("longest_row", .ref w.lr)]

/-- the letter v: its id, its causes, its word -/
def LtAt (K : PySem.W.Frag) (CL CC : Addr) (M : Nat) (H : Hp) (v : V) (z : Idn × List Idn × Str) : Prop := ∃ q dq c dc t, v = .ref q ∧ H q = some (.ins CL dq [("own_sender", .int z.1.1), ("own_number", .int z.1.2), ("own_word", .str z.2.2), ("own_causes", .ref c)]) ∧ H c = some (.ins CC dc [("kept_numbers", .ref t)]) ∧ SqT K H t ((cnts M z.2.1).map V.int)
theorem LtAt.keeps {K : PySem.W.Frag} {CL CC : Addr} {M : Nat} {H H' : Hp} {v : V} {z : Idn × List Idn × Str} (k : ∀ b u, (∀ ys, u ≠ .lst ys) → (∀ es, u ≠ .dT es) → H b = some u → H' b = some u) (h : LtAt K CL CC M H v z) : LtAt K CL CC M H' v z := by
  obtain ⟨q, dq, c, dc, t, rfl, h1, h2, h3⟩ := h
  exact ⟨q, dq, c, dc, t, rfl, k _ _ (by simp) (by simp) h1, k _ _ (by simp) (by simp) h2, h3.imp (fun r => r.imp (k _ _ (by simp) (by simp)) fun ⟨o, e⟩ => ⟨o, k _ _ (by simp) (by simp) e⟩) id⟩
theorem LtAt.same {K : PySem.W.Frag} {CL CC : Addr} {M : Nat} {H H' : Hp} {v : V} {z : Idn × List Idn × Str} (s : Same H H') (h : LtAt K CL CC M H v z) : LtAt K CL CC M H' v z := h.keeps (fun _ _ _ _ => s _ _)
structure Wk (K : PySem.W.Frag) (C CL CC : Addr) (M : Nat) (H0 H : Hp) (x : Addr) (w : WkA) (S : Ms) : Prop where
  hx : H x = some (.ins C w.dx (WkF w))
  hr : H w.kr = some (.dT w.kk)
  rk : All2 (fun p (z : Idn × List Idn) => p.1 = idK z.1 ∧ ∃ q, p.2 = .ref q ∧ H q = some (.tup ((cnts M z.2).map V.int))) w.kk S.cs
  hl : H w.kl = some (.lst w.ls)
  ll : w.ls.length ≤ S.keys.length
  hgc : H w.gc = some (.lst (w.gcq.map V.ref))
  hgi : H w.gi = some (.lst (w.giq.map V.ref))
  hti : H w.ti = some (.lst (w.tiq.map V.ref))
  htc : H w.tc = some (.lst (w.tcq.map V.ref))
  kgc : All2 (CtL M H) w.gcq S.got
  kgi : All2 (IdL H) w.giq S.got
  kti : All2 (IdL H) w.tiq S.told
  ktc : All2 (CtL M H) w.tcq S.told
  hlr : IdL H w.lr S.lg
  nd : w.all.Nodup
  s0 : Same H0 H
  fr : ∀ q ∈ w.all, H0 q = none
  fk : H0 w.kr = none
  kl : S.keys.length ≤ w.n
  nl : ∀ l ∈ S.got ++ S.told, l.length ≤ w.n
  ng : S.lg.length ≤ w.n
  nn : w.n ≤ 450
  lt : All2 (LtAt K CL CC M H) w.ls S.lt
theorem cnts_len {M : Nat} {l : List Idn} : (cnts M l).length = M := by unfold cnts; rw [List.length_map, List.length_range]
theorem cnts_at {M : Nat} {l : List Idn} {s : Int} (h : 0 ≤ s ∧ s ≤ (M : Int) - 1) : atI ((cnts M l).map V.int) s = some (.int (cnt l s)) := by
  obtain ⟨k, rfl⟩ := Int.eq_ofNat_of_zero_le h.1
  refine atI_of ?_
  unfold cnts
  rw [List.map_map, List.getElem?_map, List.getElem?_range (by omega)]
  rfl
theorem cnts_set {M : Nat} {l : List Idn} {z : Idn} (h : 0 ≤ z.1 ∧ z.1 ≤ (M : Int) - 1) (e : z.2 = (cnt l z.1 : Int) + 1) : ((cnts M l).map V.int).set z.1.toNat (.int z.2) = (cnts M (l ++ [z])).map V.int := by
  obtain ⟨s, n⟩ := z
  simp only at h e ⊢
  obtain ⟨k, rfl⟩ := Int.eq_ofNat_of_zero_le h.1
  subst e
  rw [Int.toNat_natCast]
  refine List.ext_getElem? fun i => ?_
  unfold cnts
  rw [List.getElem?_set, List.map_map, List.map_map, List.getElem?_map, List.getElem?_map, List.length_map, List.length_range]
  by_cases c : k = i
  · subst c
    have hk : k < M := by omega
    rw [if_pos rfl, if_pos hk, List.getElem?_range hk, Option.map_some]
    show some (V.int _) = some (V.int ((cnt (l ++ [(((k : Nat) : Int), _)]) ((k : Nat) : Int) : Nat) : Int))
    rw [cnt_snoc, if_pos rfl]
    rfl
  · rw [if_neg c]
    by_cases hi : i < M
    · rw [List.getElem?_range hi, Option.map_some, Option.map_some]
      show some (V.int ((cnt l ((i : Nat) : Int) : Nat) : Int)) = some (V.int ((cnt (l ++ [(((k : Nat) : Int), _)]) ((i : Nat) : Int) : Nat) : Int))
      rw [cnt_snoc, if_neg (by intro z; simp only at z; omega)]
      rfl
    · rw [List.getElem?_eq_none (by rw [List.length_range]; omega)]
      rfl
section
variable {K : PySem.W.Frag} {C CL CC : Addr} {M : Nat} {H0 H H' : Hp} {x : Addr} {w : WkA} {S : Ms}
theorem Wk.same (s : Same H H') (h : Wk K C CL CC M H0 H x w S) : Wk K C CL CC M H0 H' x w S :=
  { h with
    hx := s _ _ h.hx
    hr := s _ _ h.hr
    rk := h.rk.mono fun _ _ ⟨e, q, e1, e2⟩ => ⟨e, q, e1, s _ _ e2⟩
    hl := s _ _ h.hl
    hgc := s _ _ h.hgc
    hgi := s _ _ h.hgi
    hti := s _ _ h.hti
    htc := s _ _ h.htc
    kgc := h.kgc.mono fun _ _ => s _ _
    kgi := h.kgi.mono fun _ _ => IdL.same s
    kti := h.kti.mono fun _ _ => IdL.same s
    ktc := h.ktc.mono fun _ _ => s _ _
    hlr := h.hlr.same s
    s0 := h.s0.trans s
    lt := h.lt.mono fun _ _ => LtAt.same s }
theorem Wk.keys (h : Wk K C CL CC M H0 H x w S) : All2 (fun p z => p.1 = idK z ∧ True) w.kk S.keys := by
  refine ⟨by rw [h.rk.1]; exact (List.length_map ..).symm, fun i p z hp hz => ?_⟩
  unfold Ms.keys at hz
  rw [List.getElem?_map, Option.map_eq_some_iff] at hz
  obtain ⟨y, hy, rfl⟩ := hz
  exact ⟨(h.rk.2 i p y hp hy).1, trivial⟩
theorem Wk.causes (h : Wk K C CL CC M H0 H x w S) {z : Idn} (hz : z ∈ S.keys) : ∃ q, valV w.kk (idK z) = some (.ref q) ∧ H q = some (.tup ((cnts M (causesOf S.cs z)).map V.int)) := by
  obtain ⟨v, y, e1, e2, q, rfl, e3⟩ := find_all2 (R := fun v (l : List Idn) => ∃ q, v = .ref q ∧ H q = some (.tup ((cnts M l).map V.int))) h.rk hz
  refine ⟨q, e1, ?_⟩
  unfold causesOf
  rw [e2]
  exact e3
/-- one of its lists is written -/
theorem Wk.st {q : Addr} {ys zs : List V} (h : Wk K C CL CC M H0 H x w S) (hq : q ∈ w.all) (hq1 : H q = some (.lst ys)) (s : SameBut q H H') :
    H' x = some (.ins C w.dx (WkF w)) ∧ H' w.kr = some (.dT w.kk) ∧ All2 (fun p (z : Idn × List Idn) => p.1 = idK z.1 ∧ ∃ q, p.2 = .ref q ∧ H' q = some (.tup ((cnts M z.2).map V.int))) w.kk S.cs ∧ Same H0 H' ∧ (∀ b xs, H b = some (.tup xs) → H' b = some (.tup xs)) := by
  have tp := MdX.tp hq1 s
  exact ⟨s _ _ (ne_of h.hx hq1 (by simp)) h.hx, s _ _ (ne_of h.hr hq1 (by simp)) h.hr, h.rk.mono fun _ _ ⟨e, q, e1, e2⟩ => ⟨e, q, e1, tp _ _ e2⟩, fun b u e => s _ _ (fun c => by subst c; rw [h.fr _ hq] at e; cases e) (h.s0 _ _ e), tp⟩
structure WkN (w : WkA) : Prop where
  a1 : w.gcq.Nodup
  a2 : w.giq.Nodup
  a3 : w.tiq.Nodup
  a4 : w.tcq.Nodup
  b12 : ∀ a ∈ w.gcq, ∀ b ∈ w.giq, a ≠ b
  b13 : ∀ a ∈ w.gcq, ∀ b ∈ w.tiq, a ≠ b
  b14 : ∀ a ∈ w.gcq, ∀ b ∈ w.tcq, a ≠ b
  b23 : ∀ a ∈ w.giq, ∀ b ∈ w.tiq, a ≠ b
  b24 : ∀ a ∈ w.giq, ∀ b ∈ w.tcq, a ≠ b
  b34 : ∀ a ∈ w.tiq, ∀ b ∈ w.tcq, a ≠ b
  c1 : ∀ a ∈ w.gcq, a ≠ w.lr ∧ a ≠ w.kl ∧ a ≠ w.gc ∧ a ≠ w.gi ∧ a ≠ w.ti ∧ a ≠ w.tc
  c2 : ∀ a ∈ w.giq, a ≠ w.lr ∧ a ≠ w.kl ∧ a ≠ w.gc ∧ a ≠ w.gi ∧ a ≠ w.ti ∧ a ≠ w.tc
  c3 : ∀ a ∈ w.tiq, a ≠ w.lr ∧ a ≠ w.kl ∧ a ≠ w.gc ∧ a ≠ w.gi ∧ a ≠ w.ti ∧ a ≠ w.tc
  c4 : ∀ a ∈ w.tcq, a ≠ w.lr ∧ a ≠ w.kl ∧ a ≠ w.gc ∧ a ≠ w.gi ∧ a ≠ w.ti ∧ a ≠ w.tc
  d1 : w.lr ≠ w.kl ∧ w.lr ≠ w.gc ∧ w.lr ≠ w.gi ∧ w.lr ≠ w.ti ∧ w.lr ≠ w.tc
  d2 : w.kl ≠ w.gc ∧ w.kl ≠ w.gi ∧ w.kl ≠ w.ti ∧ w.kl ≠ w.tc
theorem Wk.apart (h : Wk K C CL CC M H0 H x w S) : WkN w := by
  have n := h.nd
  unfold WkA.all at n
  obtain ⟨a1, n, x1⟩ := List.nodup_append.mp n
  obtain ⟨a2, n, x2⟩ := List.nodup_append.mp n
  obtain ⟨a3, n, x3⟩ := List.nodup_append.mp n
  obtain ⟨a4, n, x4⟩ := List.nodup_append.mp n
  simp only [List.mem_append, List.mem_cons, List.not_mem_nil, or_false] at x1 x2 x3 x4
  simp only [List.nodup_cons, List.mem_cons, List.not_mem_nil, or_false, not_or, List.nodup_nil, and_true, not_false_eq_true] at n
  obtain ⟨⟨p1, p2, p3, p4, p5⟩, ⟨q1, q2, q3, q4⟩, _⟩ := n
  exact {
    a1 := a1
    a2 := a2
    a3 := a3
    a4 := a4
    b12 := fun a ha b hb => x1 a ha b (.inl hb)
    b13 := fun a ha b hb => x1 a ha b (.inr (.inl hb))
    b14 := fun a ha b hb => x1 a ha b (.inr (.inr (.inl hb)))
    b23 := fun a ha b hb => x2 a ha b (.inl hb)
    b24 := fun a ha b hb => x2 a ha b (.inr (.inl hb))
    b34 := fun a ha b hb => x3 a ha b (.inl hb)
    c1 := fun a ha => ⟨x1 a ha _ (by simp), x1 a ha _ (by simp), x1 a ha _ (by simp), x1 a ha _ (by simp), x1 a ha _ (by simp), x1 a ha _ (by simp)⟩
    c2 := fun a ha => ⟨x2 a ha _ (by simp), x2 a ha _ (by simp), x2 a ha _ (by simp), x2 a ha _ (by simp), x2 a ha _ (by simp), x2 a ha _ (by simp)⟩
    c3 := fun a ha => ⟨x3 a ha _ (by simp), x3 a ha _ (by simp), x3 a ha _ (by simp), x3 a ha _ (by simp), x3 a ha _ (by simp), x3 a ha _ (by simp)⟩
    c4 := fun a ha => ⟨x4 a ha _ (by simp), x4 a ha _ (by simp), x4 a ha _ (by simp), x4 a ha _ (by simp), x4 a ha _ (by simp), x4 a ha _ (by simp)⟩
    d1 := ⟨p1, p2, p3, p4, p5⟩
    d2 := ⟨q1, q2, q3, q4⟩ }
theorem WkN.nd {w : WkA} (N : WkN w) (e : w.gc ≠ w.gi ∧ w.gc ≠ w.ti ∧ w.gc ≠ w.tc ∧ w.gi ≠ w.ti ∧ w.gi ≠ w.tc ∧ w.ti ≠ w.tc) : w.all.Nodup := by
  obtain ⟨e1, e2, e3, e4, e5, e6⟩ := e
  obtain ⟨p1, p2, p3, p4, p5⟩ := N.d1
  obtain ⟨q1, q2, q3, q4⟩ := N.d2
  unfold WkA.all
  refine List.nodup_append.mpr ⟨N.a1, List.nodup_append.mpr ⟨N.a2, List.nodup_append.mpr ⟨N.a3, List.nodup_append.mpr ⟨N.a4, ?_, ?_⟩, ?_⟩, ?_⟩, ?_⟩
  · simp [*]
  · intro a ha b hb
    have c := N.c4 a ha
    simp only [List.mem_cons, List.not_mem_nil, or_false] at hb
    rcases hb with rfl | rfl | rfl | rfl | rfl | rfl <;> simp [c]
  · intro a ha b hb
    have c := N.c3 a ha
    simp only [List.mem_append, List.mem_cons, List.not_mem_nil, or_false] at hb
    rcases hb with hb | rfl | rfl | rfl | rfl | rfl | rfl
    · exact N.b34 a ha b hb
    all_goals simp [c]
  · intro a ha b hb
    have c := N.c2 a ha
    simp only [List.mem_append, List.mem_cons, List.not_mem_nil, or_false] at hb
    rcases hb with hb | hb | rfl | rfl | rfl | rfl | rfl | rfl
    · exact N.b23 a ha b hb
    · exact N.b24 a ha b hb
    all_goals simp [c]
  · intro a ha b hb
    have c := N.c1 a ha
    simp only [List.mem_append, List.mem_cons, List.not_mem_nil, or_false] at hb
    rcases hb with hb | hb | hb | rfl | rfl | rfl | rfl | rfl | rfl
    · exact N.b12 a ha b hb
    · exact N.b13 a ha b hb
    · exact N.b14 a ha b hb
    all_goals simp [c]
theorem cnts_nil {M : Nat} : cnts M [] = List.replicate M 0 := by
  unfold cnts
  refine List.ext_getElem? fun i => ?_
  rw [List.getElem?_map, List.getElem?_replicate]
  by_cases h : i < M
  · rw [List.getElem?_range h, if_pos h]
    rfl
  · rw [List.getElem?_eq_none (by rw [List.length_range]; omega), if_neg h]
    rfl
theorem Wk.inAll (q : Addr) : (q ∈ w.gcq ∨ q ∈ w.giq ∨ q ∈ w.tiq ∨ q ∈ w.tcq ∨ q = w.lr ∨ q = w.kl) → q ∈ w.all := by
  unfold WkA.all
  simp only [List.mem_append, List.mem_cons]
  rintro (h | h | h | h | h | h) <;> simp [h]
theorem all2_st {R R' : Addr → List Idn → Prop} {qs : List Addr} {ls : List (List Idn)} (h : All2 R qs ls) (k : ∀ q ∈ qs, ∀ l, R q l → R' q l) : All2 R' qs ls := ⟨h.1, fun i q l hq hl => k q (List.mem_of_getElem? hq) l (h.2 i q l hq hl)⟩
theorem rowLen {ls ms : List (List Idn)} {n i : Nat} (h : ∀ l ∈ ls ++ ms, l.length ≤ n) (hi : i < ls.length) : (rowOf ls (i : Nat)).length ≤ n := by
  refine h _ (List.mem_append_left _ ?_)
  unfold rowOf
  rw [Int.toNat_natCast, List.getD_eq_getElem?_getD, List.getElem?_eq_getElem hi]
  exact List.getElem_mem hi
theorem rowLen2 {ls ms : List (List Idn)} {n i : Nat} (h : ∀ l ∈ ls ++ ms, l.length ≤ n) (hi : i < ms.length) : (rowOf ms (i : Nat)).length ≤ n := by
  refine h _ (List.mem_append_right _ ?_)
  unfold rowOf
  rw [Int.toNat_natCast, List.getD_eq_getElem?_getD, List.getElem?_eq_getElem hi]
  exact List.getElem_mem hi
theorem Wk.goGot {i : Nat} {q1 q2 : Addr} {z : Idn} (h : Wk K C CL CC M H0 H x w S) (h1 : w.gcq[i]? = some q1) (h2 : w.giq[i]? = some q2) (st : ∀ b u, b ≠ q1 → b ≠ q2 → H b = some u → H' b = some u)
    (e1 : H' q1 = some (.lst ((cnts M (rowOf S.got (i : Nat) ++ [z])).map V.int))) (e2 : IdL H' q2 (rowOf S.got (i : Nat) ++ [z])) (hn : w.n < 450) : Wk K C CL CC M H0 H' x { w with n := w.n + 1 } (S.goGot (i : Nat) z) := by
  have N := h.apart
  have m1 := List.mem_of_getElem? h1
  have m2 := List.mem_of_getElem? h2
  have hi : i < S.got.length := by rw [← h.kgc.1]; exact (List.getElem?_eq_some_iff.mp h1).1
  obtain ⟨l1, _, c1⟩ := h.kgc.get h1
  obtain ⟨l2, _, xs2, c2, _⟩ := h.kgi.get h2
  have s2 : ∀ {b u}, (∀ ys, u ≠ .lst ys) → H b = some u → H' b = some u := fun n e => st _ _ (ne_of e c1 (n _)) (ne_of e c2 (n _)) e
  have tp : ∀ b xs, H b = some (.tup xs) → H' b = some (.tup xs) := fun b xs => s2 (fun _ => by simp)
  exact {
    hx := s2 (fun _ => by simp) h.hx
    hr := s2 (fun _ => by simp) h.hr
    rk := h.rk.mono fun _ _ ⟨e, q, e1, e2⟩ => ⟨e, q, e1, tp _ _ e2⟩
    hl := st _ _ (N.c1 _ m1).2.1.symm (N.c2 _ m2).2.1.symm h.hl
    ll := h.ll
    hgc := st _ _ (N.c1 _ m1).2.2.1.symm (N.c2 _ m2).2.2.1.symm h.hgc
    hgi := st _ _ (N.c1 _ m1).2.2.2.1.symm (N.c2 _ m2).2.2.2.1.symm h.hgi
    hti := st _ _ (N.c1 _ m1).2.2.2.2.1.symm (N.c2 _ m2).2.2.2.2.1.symm h.hti
    htc := st _ _ (N.c1 _ m1).2.2.2.2.2.symm (N.c2 _ m2).2.2.2.2.2.symm h.htc
    kgc := by
      show All2 (CtL M H') w.gcq (S.got.set (Int.toNat (i : Nat)) _)
      rw [Int.toNat_natCast]
      refine (all2_st (R' := fun q l => q ≠ q1 → CtL M H' q l) h.kgc fun q hq l r n => st _ _ n (N.b12 q hq q2 m2) r).setR h1 N.a1 (fun u w n r => r n) e1
    kgi := by
      show All2 (IdL H') w.giq (S.got.set (Int.toNat (i : Nat)) _)
      rw [Int.toNat_natCast]
      refine (all2_st (R' := fun q l => q ≠ q2 → IdL H' q l) h.kgi fun q hq l r n => r.keeps tp (fun u => st _ _ (N.b12 q1 m1 q hq).symm n)).setR h2 N.a2 (fun u w n r => r n) e2
    kti := all2_st h.kti fun q hq l r => r.keeps tp (fun u => st _ _ (N.b13 q1 m1 q hq).symm (N.b23 q2 m2 q hq).symm)
    ktc := all2_st h.ktc fun q hq l r => st _ _ (N.b14 q1 m1 q hq).symm (N.b24 q2 m2 q hq).symm r
    hlr := h.hlr.keeps tp (fun u => st _ _ (N.c1 _ m1).1.symm (N.c2 _ m2).1.symm)
    nd := h.nd
    s0 := fun b u e => st _ _ (fun c => by subst c; rw [h.fr _ (Wk.inAll _ (.inl m1))] at e; cases e) (fun c => by subst c; rw [h.fr _ (Wk.inAll _ (.inr (.inl m2)))] at e; cases e) (h.s0 _ _ e)
    fr := h.fr
    fk := h.fk
    kl := Nat.le_succ_of_le h.kl
    nl := len_set h.nl (by rw [List.length_append]; exact Nat.succ_le_succ (rowLen h.nl hi))
    ng := Nat.le_succ_of_le h.ng
    nn := hn
    lt := h.lt.mono fun _ _ => LtAt.keeps (fun _ _ n _ => s2 n) }
theorem Wk.goTold {i : Nat} {q1 q2 : Addr} {z : Idn} (h : Wk K C CL CC M H0 H x w S) (h1 : w.tcq[i]? = some q1) (h2 : w.tiq[i]? = some q2) (st : ∀ b u, b ≠ q1 → b ≠ q2 → b ≠ w.lr → H b = some u → H' b = some u)
    (e1 : H' q1 = some (.lst ((cnts M (rowOf S.told (i : Nat) ++ [z])).map V.int))) (e2 : IdL H' q2 (rowOf S.told (i : Nat) ++ [z])) (e3 : IdL H' w.lr (S.goTold (i : Nat) z).lg) (hn : w.n < 450) : Wk K C CL CC M H0 H' x { w with n := w.n + 1 } (S.goTold (i : Nat) z) := by
  have N := h.apart
  have m1 := List.mem_of_getElem? h1
  have m2 := List.mem_of_getElem? h2
  have hi : i < S.told.length := by rw [← h.ktc.1]; exact (List.getElem?_eq_some_iff.mp h1).1
  obtain ⟨l1, _, c1⟩ := h.ktc.get h1
  obtain ⟨l2, _, xs2, c2, _⟩ := h.kti.get h2
  obtain ⟨xs3, c3, _⟩ := id h.hlr
  have s2 : ∀ {b u}, (∀ ys, u ≠ .lst ys) → H b = some u → H' b = some u := fun n e => st _ _ (ne_of e c1 (n _)) (ne_of e c2 (n _)) (ne_of e c3 (n _)) e
  have tp : ∀ b xs, H b = some (.tup xs) → H' b = some (.tup xs) := fun b xs => s2 (fun _ => by simp)
  exact {
    hx := s2 (fun _ => by simp) h.hx
    hr := s2 (fun _ => by simp) h.hr
    rk := h.rk.mono fun _ _ ⟨e, q, e1, e2⟩ => ⟨e, q, e1, tp _ _ e2⟩
    hl := st _ _ (N.c4 _ m1).2.1.symm (N.c3 _ m2).2.1.symm N.d1.1.symm h.hl
    ll := h.ll
    hgc := st _ _ (N.c4 _ m1).2.2.1.symm (N.c3 _ m2).2.2.1.symm N.d1.2.1.symm h.hgc
    hgi := st _ _ (N.c4 _ m1).2.2.2.1.symm (N.c3 _ m2).2.2.2.1.symm N.d1.2.2.1.symm h.hgi
    hti := st _ _ (N.c4 _ m1).2.2.2.2.1.symm (N.c3 _ m2).2.2.2.2.1.symm N.d1.2.2.2.1.symm h.hti
    htc := st _ _ (N.c4 _ m1).2.2.2.2.2.symm (N.c3 _ m2).2.2.2.2.2.symm N.d1.2.2.2.2.symm h.htc
    ktc := by
      show All2 (CtL M H') w.tcq (S.told.set (Int.toNat (i : Nat)) _)
      rw [Int.toNat_natCast]
      refine (all2_st (R' := fun q l => q ≠ q1 → CtL M H' q l) h.ktc fun q hq l r n => st _ _ n (N.b34 q2 m2 q hq).symm (N.c4 q hq).1 r).setR h1 N.a4 (fun u w n r => r n) e1
    kti := by
      show All2 (IdL H') w.tiq (S.told.set (Int.toNat (i : Nat)) _)
      rw [Int.toNat_natCast]
      refine (all2_st (R' := fun q l => q ≠ q2 → IdL H' q l) h.kti fun q hq l r n => r.keeps tp (fun u => st _ _ (N.b34 q hq q1 m1) n (N.c3 q hq).1)).setR h2 N.a3 (fun u w n r => r n) e2
    kgi := all2_st h.kgi fun q hq l r => r.keeps tp (fun u => st _ _ (N.b24 q hq q1 m1) (N.b23 q hq q2 m2) (N.c2 q hq).1)
    kgc := all2_st h.kgc fun q hq l r => st _ _ (N.b14 q hq q1 m1) (N.b13 q hq q2 m2) (N.c1 q hq).1 r
    hlr := e3
    nd := h.nd
    s0 := fun b u e => st _ _ (fun c => by subst c; rw [h.fr _ (Wk.inAll _ (.inr (.inr (.inr (.inl m1)))))] at e; cases e) (fun c => by subst c; rw [h.fr _ (Wk.inAll _ (.inr (.inr (.inl m2))))] at e; cases e) (fun c => by subst c; rw [h.fr _ (Wk.inAll _ (by simp))] at e; cases e) (h.s0 _ _ e)
    fr := h.fr
    fk := h.fk
    kl := Nat.le_succ_of_le h.kl
    nl := len_set2 h.nl (by rw [List.length_append]; exact Nat.succ_le_succ (rowLen2 h.nl hi))
    ng := by
      show (if _ then _ else _ : List Idn).length ≤ _
      split
      · rw [List.length_append]
        exact Nat.succ_le_succ h.ng
      · exact Nat.le_succ_of_le h.ng
    nn := hn
    lt := h.lt.mono fun _ _ => LtAt.keeps (fun _ _ n _ => s2 n) }
/-- a letter more: its counts, the letter itself -/
theorem Wk.put {qt : Addr} {z : Idn} {l : List Idn} {y : Str} {v : V} (h : Wk K C CL CC M H0 H x w S) (fresh : z ∉ S.keys) (hv : LtAt K CL CC M H' v (z, l, y)) (ht : H' qt = some (.tup ((cnts M l).map V.int))) (st : ∀ b u, b ≠ w.kr → b ≠ w.kl → H b = some u → H' b = some u)
    (e1 : H' w.kr = some (.dT (putK w.kk (idK z) (.ref qt)))) (e2 : H' w.kl = some (.lst (w.ls ++ [v]))) (hn : w.n < 450) : Wk K C CL CC M H0 H' x { w with kk := w.kk ++ [(idK z, .ref qt)], ls := w.ls ++ [v], n := w.n + 1 } { S with cs := S.cs ++ [(z, l)], lt := S.lt ++ [(z, l, y)] } := by
  have N := h.apart
  have ek : ({ S with cs := S.cs ++ [(z, l)], lt := S.lt ++ [(z, l, y)] } : Ms).keys = S.keys ++ [z] := by
    unfold Ms.keys
    rw [List.map_append]
    rfl
  have tp : ∀ b xs, H b = some (.tup xs) → H' b = some (.tup xs) := fun b xs e => st _ _ (ne_of e h.hr (by simp)) (ne_of e h.hl (by simp)) e
  have ls : ∀ b xs, b ≠ w.kl → H b = some (.lst xs) → H' b = some (.lst xs) := fun b xs n e => st _ _ (ne_of e h.hr (by simp)) n e
  exact {
    hx := st _ _ (ne_of h.hx h.hr (by simp)) (ne_of h.hx h.hl (by simp)) h.hx
    hr := by rw [← put_new (R := fun _ => True) h.keys fresh]; exact e1
    rk := All2.append (h.rk.mono fun _ _ ⟨e, q, e1, e2⟩ => ⟨e, q, e1, tp _ _ e2⟩) (All2.cons ⟨rfl, qt, rfl, ht⟩ All2.nil)
    hl := e2
    ll := by
      rw [ek, List.length_append, List.length_append]
      exact Nat.succ_le_succ h.ll
    hgc := ls _ _ N.d2.1.symm h.hgc
    hgi := ls _ _ N.d2.2.1.symm h.hgi
    hti := ls _ _ N.d2.2.2.1.symm h.hti
    htc := ls _ _ N.d2.2.2.2.symm h.htc
    kgc := all2_st h.kgc fun q hq l r => ls _ _ (N.c1 q hq).2.1 r
    kgi := all2_st h.kgi fun q hq l ⟨xs, e, b⟩ => ⟨xs, ls _ _ (N.c2 q hq).2.1 e, b.mono fun _ _ => IdAt.keeps tp⟩
    kti := all2_st h.kti fun q hq l ⟨xs, e, b⟩ => ⟨xs, ls _ _ (N.c3 q hq).2.1 e, b.mono fun _ _ => IdAt.keeps tp⟩
    ktc := all2_st h.ktc fun q hq l r => ls _ _ (N.c4 q hq).2.1 r
    hlr := by
      obtain ⟨xs, e, b⟩ := h.hlr
      exact ⟨xs, ls _ _ N.d1.1 e, b.mono fun _ _ => IdAt.keeps tp⟩
    nd := h.nd
    s0 := fun b u e => st _ _ (fun c => by subst c; rw [h.fk] at e; cases e) (fun c => by subst c; rw [h.fr _ (Wk.inAll _ (by simp))] at e; cases e) (h.s0 _ _ e)
    fr := h.fr
    fk := h.fk
    kl := by
      rw [ek, List.length_append]
      exact Nat.succ_le_succ h.kl
    nl := fun x hx => Nat.le_succ_of_le (h.nl x hx)
    ng := Nat.le_succ_of_le h.ng
    nn := hn
    lt := All2.append (h.lt.mono fun _ _ => LtAt.keeps (fun b u n1 n2 e => st _ _ (ne_of e h.hr (n2 _)) (ne_of e h.hl (n1 _)) e)) (All2.cons hv All2.nil) }
end
end My
/-! zip of a tuple and a list -/
namespace My
open PySem L2
/-- the tuple at a and the list at b as they stand at each turn, the items in new pairs -/
def ItzM (K : PySem.W.Frag) (a b : Addr) : It :=
  ⟨fun i H => ∃ (xs ys : List V) (x y : V), SqT K H a xs ∧ SqL K H b ys ∧ xs[i]? = some x ∧ ys[i]? = some y,
    fun i H v H' => ∃ T x y, v = .ref T ∧ H T = none ∧ H' = upd H T (.tup [x, y]) ∧ (∀ xs, SqT K H a xs → xs[i]? = some x) ∧ ∀ ys, SqL K H b ys → ys[i]? = some y,
    fun i H => ∃ xs ys : List V, SqT K H a xs ∧ SqL K H b ys ∧ xs.length = i ∧ ys.length = i⟩
section
open PySem.Spec
open PyProof.Rows hiding St
structure ZmSep (z TI TO i1 i2 a b : Addr) : Prop where
  S : ZipSep2 z TI TO i1 i2 [i1, a] [i2, b]
  n1 : a ≠ i1
  n2 : b ≠ i2
theorem turn_zipM {P : Program} {w : World} {K : PySem.W.Frag} {elts : List Expr} {kk : Nat} {tpos : Pos} {a b z TI TO i1 i2 : Addr} (D : ZmSep z TI TO i1 i2 a b) :
    Turn P w K (.Tuple elts kk tpos) (ItzM K a b) [z, TI, TO, i1, i2] z (fun i h => IsZip h z TI TO .none ∧ IsTupOf2 h TI (.ref i1) (.ref i2) ∧ (∃ x y, IsTupOf2 h TO x y) ∧ h.IsTupleIter i1 a i ∧ h.IsListIter i2 b i) where
  mem := by simp
  obj := fun i h st c hc => by
    obtain ⟨hz, hTI, ⟨x, y, hTO⟩, ⟨o1, e1, _, d1⟩, ⟨o2, e2, _, d2⟩⟩ := st
    have e' : c = z ∨ c = TI ∨ c = TO ∨ c = i1 ∨ c = i2 := by simpa using hc
    rcases e' with q | q | q | q | q
    · rw [q]; exact ⟨_, hz, fun v q => nomatch q⟩
    · rw [q]; exact ⟨_, hTI, fun v q => nomatch q⟩
    · rw [q]; exact ⟨_, hTO, fun v q => nomatch q⟩
    · rw [q]; exact ⟨o1, e1, fun v q => by rw [d1] at q; cases q⟩
    · rw [q]; exact ⟨o2, e2, fun v q => by rw [d2] at q; cases q⟩
  keep := fun i h h' st k => by
    obtain ⟨hz, hTI, ⟨x, y, hTO⟩, h1, h2⟩ := st
    exact ⟨k z (by simp) _ hz, k TI (by simp) _ hTI, ⟨x, y, k TO (by simp) _ hTO⟩, h1.at fun o q => k i1 (by simp) o q, h2.at fun o q => k i2 (by simp) o q⟩
  item := by
    intro X hP hw hK hc i pins s σ H E I hf st hg
    subst hP hw hK
    obtain ⟨hz, hTI, ⟨x0, y0, hTO⟩, h1, h2⟩ := st
    obtain ⟨xs, ys, x, y, hqx, hqy, hx, hy⟩ := hg
    obtain ⟨its, rv, p, _⟩ := I.tuple hqx
    obtain ⟨its2, rv2, p2, _⟩ := I.list hqy
    obtain ⟨u, hu, ru⟩ := rv.get hx
    obtain ⟨u2, hu2, ru2⟩ := rv2.get hy
    have hzl : z < s.heap.objs.size := Heap.lt_size hz
    have lt1 : i < its.toArray.size := by
      have := (List.getElem?_eq_some_iff.mp hu).1
      simpa using this
    have lt2 : i < its2.toArray.size := by
      have := (List.getElem?_eq_some_iff.mp hu2).1
      simpa using this
    have pT : s.heap.IsTuple a its.toArray := p
    refine wpAny_pyNext_zipD2_item D.S (Draws.tuple (A := X.A.in1) (I.ok.hd hc) i1 a D.n1 its.toArray) (Draws.list (A := X.A.in1) (I.ok.hd hc) i2 b D.n2 its2.toArray) hz hTI hTO ⟨h1, pT⟩ ⟨h2, p2.isList⟩ lt1 lt2 fun x1 x2 h' tk hx1 hx2 z' TO' h1' h2' hT hsz hk => ?_
    obtain rfl : x1 = u := by
      have : its[i]? = some x1 := by simpa using hx1
      rw [hu] at this
      exact (Option.some.inj this).symm
    obtain rfl : x2 = u2 := by
      have : its2[i]? = some x2 := by simpa using hx2
      rw [hu2] at this
      exact (Option.some.inj this).symm
    refine ⟨_, rfl, wpAny_letOwnedTupleGo_zip (s := { s with heap := h', toks := tk }) z' fun h'' z'' sb => ?_⟩
    have hT2 : h''.get? s.heap.objs.size = some { cls := .type "tuple", data := .seq #[x1, x2] } := (sb.2 _ (Nat.ne_of_gt hzl)).trans hT
    have new : ObjOk X.prog X.w (upd H s.heap.objs.size (.tup [x, y])) h'' s.heap.objs.size (.tup [x, y]) :=
      ⟨by show 2 ≤ sizeLine; decide, [x1, x2], .cons ru (.cons ru2 .nil), ⟨_, hT2, rfl, _, rfl⟩⟩
    have I1 : Inv X pins σ (upd H s.heap.objs.size (.tup [x, y])) { s with heap := h'', toks := tk } :=
      I.turnedNew (t' := tk) (ch := [z, TI, TO, i1, i2]) (fun c o hb q => (sb.2 c (fun q' => hb (by simp [q']))).trans (hk c o (fun q' => hb (by simp [q'])) (fun q' => hb (by simp [q'])) (fun q' => hb (by simp [q'])) (fun q' => hb (by simp [q'])) q)) hf (Nat.le_refl _) new
    refine ⟨.ref s.heap.objs.size, _, I1, rfl, ⟨_, x, y, rfl, I.hok.fresh (Nat.le_refl _), rfl, fun l hl => by rw [I.tuple_inj hl hqx]; exact hx, fun l hl => by rw [I.list_inj hl hqy]; exact hy⟩, ⟨z'', ?_, ⟨x1, x2, ?_⟩, ?_, ?_⟩, fun c hcm => ?_⟩
    · exact (sb.2 _ D.S.TIz).trans (hk _ _ D.S.TIz D.S.TITO D.S.TIi1 D.S.TIi2 hTI)
    · exact (sb.2 _ D.S.TOz).trans TO'
    · exact h1'.1.at fun o q => (sb.2 _ (Ne.symm D.S.zi1)).trans q
    · exact h2'.1.at fun o q => (sb.2 _ (Ne.symm D.S.zi2)).trans q
    · have hlt : c < s.heap.objs.size := by
        have e' : c = z ∨ c = TI ∨ c = TO ∨ c = i1 ∨ c = i2 := by simpa using hcm
        rcases e' with q | q | q | q | q
        · rw [q]; exact hzl
        · rw [q]; exact Heap.lt_size hTI
        · rw [q]; exact Heap.lt_size hTO
        · rw [q]; obtain ⟨_, e1, _⟩ := h1; exact Heap.lt_size e1
        · rw [q]; obtain ⟨_, e2, _⟩ := h2; exact Heap.lt_size e2
      rw [upd_ne (Nat.ne_of_lt hlt)]
      exact (hf c hcm).1
  done := by
    intro X hP hw hK hc i pins s σ H E I hf st hg
    subst hP hw hK
    obtain ⟨hz, hTI, ⟨x0, y0, hTO⟩, h1, h2⟩ := st
    obtain ⟨xs, ys, hqx, hqy, l1, l2⟩ := hg
    obtain ⟨its, rv, p, _⟩ := I.tuple hqx
    obtain ⟨its2, rv2, p2, _⟩ := I.list hqy
    have m1 := rv.length
    have m2 := rv2.length
    have e1 : i = its.toArray.size := by rw [List.size_toArray]; omega
    have e2 : i = its2.toArray.size := by rw [List.size_toArray]; omega
    have pT : s.heap.IsTuple a its.toArray := p
    exact wpAny_pyNext_zipD2_end D.S (Draws.tuple (A := X.A.in1) (I.ok.hd hc) i1 a D.n1 its.toArray) (Draws.list (A := X.A.in1) (I.ok.hd hc) i2 b D.n2 its2.toArray) hz hTI hTO ⟨h1, pT⟩ ⟨h2, p2.isList⟩ (Nat.le_of_eq e1) (Nat.le_of_eq e2) (.inl e1) fun h' tk hk => ⟨rfl, I.turnedL (t' := tk) (ch := [z, TI, TO, i1, i2]) (fun c o hb q =>
      hk c o (fun q' => hb (by simp [q'])) (fun q' => hb (by simp [q'])) (fun q' => hb (by simp [q'])) (fun q' => hb (by simp [q'])) q) hf⟩
  self := fun A i s Q E st h => wpAny_pyIter_zip st.1 h
def iZipM (K : PySem.W.Frag) (ta : TA) : TI := fun σ H R => ta σ H fun vs H1 => ∃ a b xs ys, vs = [.ref a, .ref b] ∧ SqT K H1 a xs ∧ SqL K H1 b ys ∧ R (ItzM K a b) H1
theorem pi_zipM {X : Cx} {e e2 : Expr} {ta : TA} {p pos tpos : Pos} {elts : List Expr} {kk : Nat} {K : PySem.W.Frag} (hg : Gl X "zip") (hm : X.mg "zip" = none) (ha : PA X [e, e2] ta)
    (hs : starEach [e, e2] X.env = (false, eval e X.env) :: starEach [e2] X.env := by rfl) (hpl : (backTo pos (starEach [e2] X.env)).any (·.1) = false := by rfl) (hK : X.K = K := by rfl) :
    PI X (.Tuple elts kk tpos) (.Call (.Name "zip" p) [e, e2] [] pos) (iZipM K ta) := by
  subst hK
  refine ⟨fun pins s σ H R I h => ?_⟩
  refine Call_ (ld_blt I hg hm PyProof.Rows.boot_zip (PyProof.Rows.callWith_type1 (thn (ha.run pos pins s σ H _ I h) fun us s1 ⟨vs, H1, I1, r1, q1⟩ => ?_) hs hpl))
  obtain ⟨a, b, xs, ys, ex, hqx, hqy, q⟩ := q1
  subst ex
  cases r1 with
  | cons r rr =>
    cases rr with
    | cons r' rr =>
      cases rr
      cases r
      cases r'
      have fresh5 : ∀ c, c ∈ [s1.heap.objs.size + 4, s1.heap.objs.size + 2, s1.heap.objs.size + 3, s1.heap.objs.size, s1.heap.objs.size + 1] → FpOk X pins H1 c := fun c hcm => by
        have e' : c = s1.heap.objs.size + 4 ∨ c = s1.heap.objs.size + 2 ∨ c = s1.heap.objs.size + 3 ∨ c = s1.heap.objs.size ∨ c = s1.heap.objs.size + 1 := by simpa using hcm
        have hle : s1.heap.objs.size ≤ c := by
          rcases e' with z | z | z | z | z
          · rw [z]; exact Nat.le_add_right _ _
          · rw [z]; exact Nat.le_add_right _ _
          · rw [z]; exact Nat.le_add_right _ _
          · rw [z]; exact Nat.le_refl _
          · rw [z]; exact Nat.le_add_right _ _
        exact I1.fpOk hle (I1.hok.fresh hle)
      obtain ⟨its, rv, p1, _⟩ := I1.tuple hqx
      obtain ⟨its2, rv2, p2, _⟩ := I1.list hqy
      have pT : s1.heap.IsTuple a its.toArray := p1
      have la : a < s1.heap.objs.size := by obtain ⟨o1, ho1, _⟩ := id p1; exact Heap.lt_size ho1
      have lb : b < s1.heap.objs.size := p2.lt
      refine zip_begins2 (begins_tuple a its.toArray) (begins_list b its2.toArray) pT p2.isList fun h' hz hTI hTO h1 h2 hsz hk => wpAny_pyIter_zip hz ?_
      have I2 : Inv X pins σ H1 { s1 with heap := h' } := I1.kept (t' := s1.toks) hk
      have D : ZmSep (s1.heap.objs.size + 4) (s1.heap.objs.size + 2) (s1.heap.objs.size + 3) s1.heap.objs.size (s1.heap.objs.size + 1) a b :=
        ⟨zip_sep2 (fun c hc => by rw [List.mem_singleton.mp hc]; exact la) (fun c hc => by rw [List.mem_singleton.mp hc]; exact lb), Nat.ne_of_lt la, Nat.ne_of_lt (Nat.lt_succ_of_lt lb)⟩
      exact ⟨s1.heap.objs.size + 4, [s1.heap.objs.size + 4, s1.heap.objs.size + 2, s1.heap.objs.size + 3, s1.heap.objs.size, s1.heap.objs.size + 1], _, _, H1, rfl, I2, turn_zipM D, ⟨hz, hTI, ⟨_, _, hTO⟩, ⟨_, h1, rfl, rfl⟩, ⟨_, h2, rfl, rfl⟩⟩, fresh5, q⟩
end
theorem walk_zipM {K : PySem.W.Frag} {a b : Addr} {xs ys : List V} {n : Nat} (h1 : xs.length = n) (h2 : ys.length = n) : Walk (ItzM K a b) n (fun H => SqT K H a xs ∧ SqL K H b ys) (YPair (fun i => xs[i]?) (fun i => ys[i]?)) := by
  refine ⟨fun i _ hi q => ?_, fun _ q => ⟨xs, ys, q.1, q.2, h1, h2⟩, fun i H v H' _ q ⟨T, x, z, y1, y2, y3, y4, y5⟩ => ⟨T, x, z, y1, y2, y3, y4 xs q.1, y5 ys q.2⟩⟩
  exact ⟨xs, ys, xs[i], ys[i], q.1, q.2, List.getElem?_eq_getElem (by omega), List.getElem?_eq_getElem (by omega)⟩
theorem lc_zipM {K : PySem.W.Frag} {a b : Addr} {xs ys : List V} {g : TG} {tt : TT} {te : TE} {vs : List Nat} {σ : L2.St} {H1 : Hp} {D : Addr} {Qd : Hp → Prop} (f : V → V → V) (h1 : SqT K H1 a xs) (h2 : SqL K H1 b ys) (hD : H1 D = none) (he : xs.length = ys.length) (hl : xs.length ≤ 1000)
    (hs : ∀ (i : Nat) x y, xs[i]? = some x → ys[i]? = some y → ∀ H T (Q : VK) (R : Hp → Prop), Same H1 H → H T = some (.tup [x, y]) → (∀ H', Same H H' → Q (f x y) H') → g (.ref T) (wipe σ vs) H fun σ2 H2 => wipe σ2 vs = wipe σ vs ∧ tt σ2 H2 fun b H3 => if b = true then te σ2 H3 Q else R H3)
    (hd : ∀ H, Same H1 H → H D = some (.lst (List.zipWith f xs ys)) → Qd H) :
    ∃ W : Nat → Nat → Hp → Prop, (∃ m, W 0 m (upd H1 D (.lst []))) ∧ ∀ i m H, W i m H →
      ((ItzM K a b).stop i H ∧ Qd H) ∨ ((ItzM K a b).go i H ∧ ∃ Nx : Hp → Prop, (∀ H', Nx H' → ∃ m', m' < m ∧ W (i + 1) m' H') ∧ ∀ x H', (ItzM K a b).yld i H x H' → g x (wipe σ vs) H' fun σ2 H2 => wipe σ2 vs = wipe σ vs ∧ tt σ2 H2 fun b H3 =>
        if b = true then te σ2 H3 fun y H4 => ∃ acc, H4 D = some (.lst acc) ∧ acc.length < sizeLine ∧ Nx (upd H4 D (.lst (acc ++ [y]))) else Nx H3) :=
  lc_zip xs ys f (walk_zipM rfl he.symm) (by rw [he, Nat.min_self]) hl (fun _ s => ⟨SqT.same s h1, Same.seq s h2⟩) hD hs hd
theorem i_zipM {K : PySem.W.Frag} {σ : St} {H : Hp} {A : TA} {R : It → Hp → Prop} (h : A σ H fun vs H1 => ∃ a b xs ys, vs = [.ref a, .ref b] ∧ SqT K H1 a xs ∧ SqL K H1 b ys ∧ R (ItzM K a b) H1) : iZipM K A σ H R := h
theorem i_zipM2 {K : PySem.W.Frag} {H : Hp} {a b : Addr} {xs ys : List V} {R2 : Addr → Addr → Prop} (h1 : SqT K H a xs) (h2 : SqL K H b ys) (h : R2 a b) : ∃ a' b' xs ys, [V.ref a, V.ref b] = [.ref a', .ref b'] ∧ SqT K H a' xs ∧ SqL K H b' ys ∧ R2 a' b' := ⟨a, b, xs, ys, rfl, h1, h2, h⟩
/-- any([count > mine for ..]) of counts: something lacks -/
theorem any_cnts {M : Nat} {C R : List Idn} (hC : Num C) (hR : Num R) (hr : ∀ z ∈ C, 0 ≤ z.1 ∧ z.1 ≤ (M : Int) - 1) : (List.zipWith (fun x y : Int => decide (y < x)) (cnts M C) (cnts M R)).any id = !hasB C R := by
  rw [has_cnts hC hR hr]
  unfold cnts
  rw [List.zipWith_map, List.zipWith_self, List.any_map, List.not_all_eq_any_not]
  congr 1
  funext s
  simp only [Function.comp_apply, id_eq]
  rw [Bool.eq_iff_iff, decide_eq_true_iff, Bool.not_eq_true', decide_eq_false_iff_not]
  omega
section
open PySem.Spec
open PyProof.Rows hiding St
/-- enumerate of a list or a tuple -/
def iEnumS (K : PySem.W.Frag) (ta : TA) : TI := fun σ H R => ta σ H fun vs H1 => ∃ a xs, vs = [.ref a] ∧ ((SqL K H1 a xs ∧ R (Ite K a) H1) ∨ (SqT K H1 a xs ∧ R (Itet K a) H1))
theorem pi_enumS {X : Cx} {e : Expr} {ta : TA} {p pos tpos : Pos} {elts : List Expr} {kk : Nat} {K : PySem.W.Frag} (hg : Gl X "enumerate") (hm : X.mg "enumerate" = none) (ha : PA X [e] ta) (hs : starEach [e] X.env = [(false, eval e X.env)] := by rfl) (hK : X.K = K := by rfl) :
    PI X (.Tuple elts kk tpos) (.Call (.Name "enumerate" p) [e] [] pos) (iEnumS K ta) := by
  subst hK
  refine ⟨fun pins s σ H R I h => ?_⟩
  refine Call_ (ld_blt I hg hm boot_enumerate (PyProof.Rows.callWith_type1 (thn (ha.run pos pins s σ H _ I h) fun us s1 ⟨vs, H1, I1, r1, q1⟩ => ?_) hs rfl))
  obtain ⟨a, xs, ex, q1⟩ := q1
  subst ex
  cases r1 with
  | cons r rr =>
    cases rr
    cases r
    have fp : ∀ b, b ∈ [s1.heap.objs.size + 1, s1.heap.objs.size] → FpOk X pins H1 b := fun b hb => by
      have e' : b = s1.heap.objs.size + 1 ∨ b = s1.heap.objs.size := by simpa using hb
      have hle : s1.heap.objs.size ≤ b := by
        rcases e' with z | z
        · rw [z]; exact Nat.le_add_right _ _
        · rw [z]; exact Nat.le_refl _
      exact I1.fpOk hle (I1.hok.fresh hle)
    rcases q1 with ⟨hq, q⟩ | ⟨hq, q⟩
    · obtain ⟨its, rv, p', hz⟩ := I1.list hq
      refine call_enumerate_list p'.isList fun h' he hit hsz hk => wpAny_pyIter_enum he ?_
      have I2 : Inv X pins σ H1 { s1 with heap := h' } := I1.kept (t' := s1.toks) hk
      exact ⟨s1.heap.objs.size + 1, [s1.heap.objs.size + 1, s1.heap.objs.size], _, _, H1, rfl, I2, turn_enum a (s1.heap.objs.size + 1) s1.heap.objs.size, ⟨⟨.none, he⟩, hit, Nat.succ_ne_self _⟩, fp, q⟩
    · obtain ⟨its, rv, p', hz⟩ := I1.tuple hq
      refine call_enum1 (begins_tuple a its.toArray) p' fun h' he hit hsz hk => wpAny_pyIter_enum he ?_
      have I2 : Inv X pins σ H1 { s1 with heap := h' } := I1.kept (t' := s1.toks) hk
      exact ⟨s1.heap.objs.size + 1, [s1.heap.objs.size + 1, s1.heap.objs.size], _, _, H1, rfl, I2, turn_enumT a (s1.heap.objs.size + 1) s1.heap.objs.size, ⟨⟨.none, he⟩, ⟨_, hit, rfl, rfl⟩, Nat.succ_ne_self _⟩, fp, q⟩
end
theorem i_enumS {K : PySem.W.Frag} {σ : St} {H : Hp} {A : TA} {R : It → Hp → Prop} (h : A σ H fun vs H1 => ∃ a xs, vs = [.ref a] ∧ ((SqL K H1 a xs ∧ R (Ite K a) H1) ∨ (SqT K H1 a xs ∧ R (Itet K a) H1))) : iEnumS K A σ H R := h
/-- a tuple (place, word), or nothing -/
def FwAt (H HH : Hp) (v : V) : Option (Nat × Str) → Prop
  | none => v = .non
  | some (i, w) => ∃ t, v = .ref t ∧ H t = none ∧ HH t = some (.tup [.int (i : Nat), .str w])
theorem i_anyB {K : PySem.W.Frag} {H : Hp} {Q : VK} {p : Addr} {bs : List Bool} (h0 : SqL K H p (bs.map V.bl)) (h : Q (.bl (bs.any id)) H) : rAny K [.ref p] H Q := ⟨p, bs, rfl, h0, h⟩
end My
/-! books: ids up to counts, causes of causes -/
namespace My
open PySem L2
/-! ### xs.extend(ys) -/
def tExt (K : PySem.W.Frag) (to : TE) (A : TA) : TE := tBM K "list" rExtend to A
theorem pe_extK {X : Cx} {K : PySem.W.Frag} {e : Expr} {to : TE} {t : TA} (h : PE X e (tBM X.K "list" rExtend to t)) (hK : X.K = K := by rfl) : PE X e (tExt K to t) := by
  subst hK
  exact h
section
variable {K : PySem.W.Frag} {σ : St} {H : Hp} {Q : VK} {to : TE} {A : TA} {l b : Addr} {xs zs : List V}
theorem i_ext (h : to σ H fun x H1 => tyV K "list" x H1 ∧ A σ H1 fun vs H2 => rExtend x vs H2 Q) : tExt K to A σ H Q := h
theorem i_rext (h0 : H l = some (.lst xs)) (h1 : H b = some (.lst zs)) (h2 : xs.length + zs.length ≤ sizeLine) (h : Q .non (upd H l (.lst (xs ++ zs)))) : rExtend (.ref l) [.ref b] H Q := ⟨l, b, xs, zs, rfl, rfl, h0, h1, h2, h⟩
end
theorem i_rng2 {ta : TA} {σ : St} {H : Hp} {R : It → Hp → Prop} (h : ta σ H fun vs H1 => ∃ i j : Int, vs = [.int i, .int j] ∧ (-(2 ^ 62) ≤ i ∧ i < 2 ^ 62 ∧ -(2 ^ 62) ≤ j ∧ j < 2 ^ 62) ∧ R (Itr i (j - i).toNat) H1) : iRng2 ta σ H R := h
theorem i_rng2A {i j : Int} {R : It → Prop} (h1 : -1000 ≤ i ∧ i ≤ 1000) (h2 : -1000 ≤ j ∧ j ≤ 1000) (h : R (Itr i (j - i).toNat)) : ∃ a b : Int, [V.int i, V.int j] = [.int a, .int b] ∧ (-(2 ^ 62) ≤ a ∧ a < 2 ^ 62 ∧ -(2 ^ 62) ≤ b ∧ b < 2 ^ 62) ∧ R (Itr a (b - a).toNat) := ⟨i, j, rfl, by omega, h⟩
/-! ### xs[::1], xs[::-1] -/
theorem pick_one (xs : List Value) : slicePick xs.toArray none none (some 1) = xs.toArray := by
  have h := slicePick_cut xs none none
  have e : slicePick xs.toArray none none (some 1) = slicePick xs.toArray none none none := rfl
  rw [e, h]
  show ((xs.drop 0).take (xs.length - 0)).toArray = _
  rw [List.drop_zero, Nat.sub_zero, List.take_length]
section
open PySem.Spec
open PyProof.Rows hiding St
def tRevB (K : PySem.W.Frag) (te : TE) (th : TO) : TE := fun σ H Q => te σ H fun x H1 => th σ H1 fun o H2 => ∃ (z : Bool) (a : Addr) (xs : List V), o = some (if z = true then 1 else -1) ∧ x = .ref a ∧ SqL K H2 a xs ∧ ∀ p, H2 p = none → Q (.ref p) (upd H2 p (.lst (if z = true then xs else xs.reverse)))
theorem pe_revB {X : Cx} {e : Expr} {st : Option Expr} {te : TE} {th : TO} {pos p2 : Pos} {K : PySem.W.Frag} (he : PE X e te) (hu : PO X st th) (hs : ∀ a sl : Addr, subscripted (.Slice none none st p2) false (.ref a) (.ref sl) = operate [.ref a, .ref sl] (getItem (.ref a) (.ref sl)) := by intro _ _; rfl) (hK : X.K = K := by rfl) : PE X (.Subscript e (.Slice none none st p2) pos) (tRevB K te th) := by
  subst hK
  refine ⟨fun pins s σ H Q I h => ?_⟩
  refine Subscript_ (thn (he.run pins s σ H _ I h) fun v s1 ⟨x, H1, I1, r1, q1⟩ => ?_)
  refine wpAny_Slice ?_
  rw [evalPart_none]
  refine wpAny_pure ?_
  refine wpAny_pure ?_
  refine thn (hu.run pins s1 σ H1 _ I1 q1) fun vu s3 ⟨u, H3, I3, pu, z, a, xs, eu, ex, hx, q⟩ => ?_
  subst eu
  subst ex
  cases r1
  have I4 : Inv X pins σ H3 { s3 with heap := s3.heap.push { cls := .type "slice", data := .fields #[.none, .none, vu] } } := I3.kept (t' := s3.toks) fun b ob q => Heap.get?_push_of_some _ q
  obtain ⟨its, r, ht, hz⟩ := I4.list hx
  have hlen := r.length
  refine tail_any (ops := [.ref a, .ref s3.heap.objs.size]) ht.isList.typeIs slot_list_getitem.lookup ?_ (hs _ _)
  cases z with
  | false =>
    refine wpAny_getItem_list_slice ht.isList (Heap.IsSliceOf.new ..) .none .none pu (by decide) ?_ (by rw [List.size_toArray] <;> omega)
    have e1 : slicePick its.toArray none none (some (if false = true then 1 else -1)) = its.reverse.toArray := by
      show slicePick its.toArray none none (some (-1)) = _
      rw [PySem.W.krv_pick]
    rw [e1]
    refine ⟨.ref _, _, I4.laid (t' := s3.toks) (o := .lst xs.reverse) (fun b ob q => Heap.get?_push_of_some _ q) (Nat.le_refl _) ?_, rfl, q _ (I4.hok.fresh (Nat.le_refl _))⟩
    exact ⟨by rw [List.length_reverse]; exact hz, _, 0, r.reverse, Heap.get?_push_size _ rfl⟩
  | true =>
    refine wpAny_getItem_list_slice ht.isList (Heap.IsSliceOf.new ..) .none .none pu (by decide) ?_ (by rw [List.size_toArray] <;> omega)
    have e1 : slicePick its.toArray none none (some (if true = true then 1 else -1)) = its.toArray := pick_one its
    rw [e1]
    refine ⟨.ref _, _, I4.laid (t' := s3.toks) (o := .lst xs) (fun b ob q => Heap.get?_push_of_some _ q) (Nat.le_refl _) ?_, rfl, q _ (I4.hok.fresh (Nat.le_refl _))⟩
    exact ⟨hz, _, 0, r, Heap.get?_push_size _ rfl⟩
end
theorem i_revB {K : PySem.W.Frag} {te : TE} {th : TO} {σ : St} {H : Hp} {Q : VK} (h : te σ H fun x H1 => th σ H1 fun o H2 => ∃ (z : Bool) (a : Addr) (xs : List V), o = some (if z = true then 1 else -1) ∧ x = .ref a ∧ SqL K H2 a xs ∧ ∀ p, H2 p = none → Q (.ref p) (upd H2 p (.lst (if z = true then xs else xs.reverse)))) : tRevB K te th σ H Q := h
/-- the ids of a member behind the first lo ones, up to hi -/
def rngI (i lo hi : Int) : List Idn := (List.range (hi - lo).toNat).map fun k : Nat => (i, lo + 1 + k)
/-- of each member -/
def allI (ns ms : List Int) : List Idn := (List.range ns.length).flatMap fun i : Nat => rngI i (ms.getD i 0) (ns.getD i 0)
theorem rngI_nil {i lo hi : Int} (h : hi ≤ lo) : rngI i lo hi = [] := by
  unfold rngI
  rw [Int.toNat_eq_zero.mpr (by omega)]
  rfl
theorem allI_nil {ns ms : List Int} (h : ∀ i : Nat, i < ns.length → ns.getD i 0 ≤ ms.getD i 0) : allI ns ms = [] := by
  unfold allI
  rw [List.flatMap_eq_nil_iff]
  exact fun i hi => rngI_nil (h i (List.mem_range.mp hi))
/-- the ids of the last ones of those who have some -/
def lastI (ns : List Int) : List Idn := (List.range ns.length).filterMap fun i : Nat => if 0 < ns.getD i 0 then some ((i : Int), ns.getD i 0) else none
/-- who has an id has its causes -/
structure Inc (S : Ms) : Prop where
  g : ∀ l ∈ S.got, ∀ z ∈ l, ∀ y ∈ causesOf S.cs z, y ∈ l
  c : ∀ p ∈ S.cs, ∀ z ∈ p.2, ∀ y ∈ causesOf S.cs z, y ∈ p.2
  t : ∀ l ∈ S.told, ∀ z ∈ l, ∀ y ∈ causesOf S.cs z, y ∈ l
theorem Inc.new {M : Nat} : Inc (Ms.new M) where
  g := fun l h z hz => by
    rw [List.eq_of_mem_replicate h] at hz
    cases hz
  c := fun _ h => nomatch h
  t := fun l h z hz => by
    rw [List.eq_of_mem_replicate h] at hz
    cases hz
theorem hasB_mem {C R : List Idn} (h : hasB C R = true) : ∀ y ∈ C, y ∈ R := fun y hy => of_decide_eq_true (List.all_eq_true.mp h y hy)
section
variable {M : Nat} {S : Ms}
theorem Inc.goGot (h : Inc S) {m : Int} {z : Idn} (c : hasB (causesOf S.cs z) (rowOf S.got m) = true) (hm : rowOf S.got m ∈ S.got) : Inc (S.goGot m z) where
  g := fun l hl x hx y hy => by
    rcases mem_set hl with hl | rfl
    · exact h.g l hl x hx y hy
    · refine List.mem_append_left _ ?_
      rcases List.mem_append.mp hx with hx | hx
      · exact h.g _ hm x hx y hy
      · rw [List.mem_singleton.mp hx] at hy
        exact hasB_mem c y hy
  c := h.c
  t := h.t
theorem Inc.goTold (h : Inc S) {m : Int} {z : Idn} (c : hasB (causesOf S.cs z) (rowOf S.told m) = true) (hm : rowOf S.told m ∈ S.told) : Inc (S.goTold m z) where
  g := h.g
  c := h.c
  t := fun l hl x hx y hy => by
    rcases mem_set hl with hl | rfl
    · exact h.t l hl x hx y hy
    · refine List.mem_append_left _ ?_
      rcases List.mem_append.mp hx with hx | hx
      · exact h.t _ hm x hx y hy
      · rw [List.mem_singleton.mp hx] at hy
        exact hasB_mem c y hy
theorem causes_snoc {cs : List (Idn × List Idn)} {w z : Idn} {l : List Idn} (hz : z ∈ cs.map (·.1)) : causesOf (cs ++ [(w, l)]) z = causesOf cs z := by
  unfold causesOf
  rw [List.find?_append]
  cases e : cs.find? fun p => decide (p.1 = z) with
  | some p => rfl
  | none =>
    obtain ⟨p, hp, rfl⟩ := List.mem_map.mp hz
    have := List.find?_eq_none.mp e p hp
    simp at this
theorem causes_new {cs : List (Idn × List Idn)} {w : Idn} {l : List Idn} (hw : w ∉ cs.map (·.1)) : causesOf (cs ++ [(w, l)]) w = l := by
  unfold causesOf
  rw [List.find?_append]
  have : cs.find? (fun p => decide (p.1 = w)) = none := List.find?_eq_none.mpr fun p hp => by
    simp only [decide_eq_true_eq]
    rintro rfl
    exact hw (List.mem_map.mpr ⟨p, hp, rfl⟩)
  rw [this]
  simp
theorem Inc.sent (h : Inc S) (hI : Inw M S) {m : Int} {y : Str} (hm : 0 ≤ m ∧ m ≤ (M : Int) - 1) : Inc (S.sent m y) := by
  obtain ⟨r, _, er, hr⟩ := row_mem hI.lgot hm
  have hk : ∀ z ∈ S.keys, causesOf (S.sent m y).cs z = causesOf S.cs z := fun z hz => causes_snoc hz
  have hgr : ∀ z ∈ rowOf S.got m, z ∈ S.keys := (hI.gotR hm).2
  have hrow : rowOf S.got m ∈ S.got := by rw [er]; exact hr
  have hnew : causesOf (S.sent m y).cs (nxt S.keys m) = rowOf S.got m := causes_new (nxt_fresh hI)
  refine ⟨fun l hl x hx w hw => ?_, fun p hp x hx w hw => ?_, fun l hl x hx w hw => ?_⟩
  · rcases mem_set hl with hl | rfl
    · rw [hk x ((hI.gn l hl).2 x hx)] at hw
      exact h.g l hl x hx w hw
    · refine List.mem_append_left _ ?_
      rcases List.mem_append.mp hx with hx | hx
      · rw [hk x (hgr x hx)] at hw
        exact h.g _ hrow x hx w hw
      · rw [List.mem_singleton.mp hx, hnew] at hw
        exact hw
  · rcases List.mem_append.mp hp with hp | hp
    · rw [hk x ((hI.cn p hp).2.1 x hx)] at hw
      exact h.c p hp x hx w hw
    · rw [List.mem_singleton.mp hp] at hx ⊢
      rw [hk x (hgr x hx)] at hw
      exact h.g _ hrow x hx w hw
  · rw [hk x ((hI.tn l hl).2 x hx)] at hw
    exact h.t l hl x hx w hw
theorem Inc.go {r : Rw} (h : Inc S) (hI : Inw M S) (hok : r.okB M = true) (w : S.why r = none) : Inc (S.go r) := by
  have hm := Rw.ok_mem hok
  cases r with
  | sent m z => exact h.sent hI hm
  | got m s n =>
    have w : whyGot S m (s, n) = none := w
    obtain ⟨r, _, er, hr⟩ := row_mem hI.lgot hm
    unfold whyGot at w
    split at w
    · cases w
    split at w
    · cases w
    split at w
    · cases w
    split at w
    · rename_i c
      exact h.goGot c (by rw [show rowOf S.got m = r from er]; exact hr)
    · cases w
  | told m p s n =>
    have w : whyTold S m p (s, n) = none := w
    obtain ⟨r, _, er, hr⟩ := row_mem hI.ltold hm
    unfold whyTold at w
    split at w
    · cases w
    split at w
    · cases w
    split at w
    · cases w
    split at w
    · cases w
    split at w
    · rename_i c
      exact h.goTold c (by rw [show rowOf S.told m = r from er]; exact hr)
    · cases w
end
/-- a whole history walked -/
def runM (S : Ms) (rs : List Rw) : Ms := rs.foldl Ms.go S
theorem firstW_none {S : Ms} {r : Rw} {rs : List Rw} {i : Nat} (h : firstW S (r :: rs) i = none) : S.why r = none ∧ firstW (S.go r) rs (i + 1) = none := by
  have e : firstW S (r :: rs) i = match S.why r with | some w => some (i, w) | none => firstW (S.go r) rs (i + 1) := rfl
  rw [e] at h
  cases hw : S.why r with
  | some v => rw [hw] at h; cases h
  | none => rw [hw] at h; exact ⟨rfl, h⟩
/-- the letter of an id -/
theorem lt_find {S : Ms} (lc : S.lt.map (fun x => (x.1, x.2.1)) = S.cs) {z : Idn} (hz : z ∈ S.keys) : ∃ y : List Idn × Str, S.lt.find? (fun p => decide (p.1 = z)) = some (z, y) ∧ y.1 = causesOf S.cs z := by
  cases e : S.lt.find? (fun p => decide (p.1 = z)) with
  | none =>
    rw [← lt_keys lc] at hz
    obtain ⟨p, hp, rfl⟩ := List.mem_map.mp hz
    have := List.find?_eq_none.mp e p hp
    simp at this
  | some p =>
    have h2 : p.1 = z := by
      have := List.find?_some e
      simpa using this
    subst h2
    refine ⟨p.2, rfl, ?_⟩
    unfold causesOf
    rw [← lc, List.find?_map]
    rw [show ((fun q : Idn × List Idn => decide (q.1 = p.1)) ∘ fun x : Idn × List Idn × Str => (x.1, x.2.1)) = fun q => decide (q.1 = p.1) from rfl, e]
    rfl
/-- a letter that a book takes behind others -/
structure KeepOk (M : Nat) (lt : List (Idn × List Idn × Str)) (z : Idn × List Idn × Str) : Prop where
  fresh : z.1 ∉ lt.map (·.1)
  le : ∀ i : Nat, i < M → cnt z.2.1 (i : Nat) ≤ cnt (lt.map (·.1)) (i : Nat)
  cov : ∀ i : Nat, i < M → 0 < cnt z.2.1 (i : Nat) → ∃ y : List Idn × Str, lt.find? (fun p => decide (p.1 = ((i : Int), (cnt z.2.1 (i : Nat) : Int)))) = some (((i : Int), (cnt z.2.1 (i : Nat) : Int)), y) ∧ ∀ j : Nat, j < M → cnt y.1 (j : Nat) ≤ cnt z.2.1 (j : Nat)
  l30 : lt.length < 30
  r : 0 ≤ z.1.1 ∧ z.1.1 ≤ (M : Int) - 1
  rs : ∀ y ∈ lt, 0 ≤ y.1.1 ∧ y.1.1 ≤ (M : Int) - 1
def LtOk (M : Nat) (lt : List (Idn × List Idn × Str)) : Prop := ∀ i z, lt[i]? = some z → KeepOk M (lt.take i) z
theorem LtOk.snoc {M : Nat} {lt : List (Idn × List Idn × Str)} {z : Idn × List Idn × Str} (h : LtOk M lt) (k : KeepOk M lt z) : LtOk M (lt ++ [z]) := fun i x hx => by
  by_cases c : i < lt.length
  · rw [List.getElem?_append_left c] at hx
    rw [List.take_append_of_le_length (Nat.le_of_lt c)]
    exact h i x hx
  · have hi := (List.getElem?_eq_some_iff.mp hx).1
    rw [List.length_append] at hi
    have e : i = lt.length := by simp only [List.length_cons, List.length_nil] at hi; omega
    subst e
    rw [List.getElem?_append_right (Nat.le_refl _), Nat.sub_self] at hx
    cases hx
    rw [List.take_left]
    exact k
theorem keep_sent {M : Nat} {S : Ms} {m : Int} {y : Str} (hI : Inw M S) (h : Inc S) (hm : 0 ≤ m ∧ m ≤ (M : Int) - 1) (h30 : S.keys.length < 30) : KeepOk M S.lt (nxt S.keys m, rowOf S.got m, y) := by
  obtain ⟨g1, g2⟩ := hI.gotR hm
  obtain ⟨r, _, er, hr⟩ := row_mem hI.lgot hm
  have hrow : rowOf S.got m ∈ S.got := by rw [er]; exact hr
  have ek := lt_keys hI.lc
  refine ⟨by rw [ek]; exact nxt_fresh hI, fun i hi => ?_, fun i hi hp => ?_, ?_, hm, fun x hx => ?_⟩
  · show cnt (rowOf S.got m) (i : Nat) ≤ _
    rw [ek]
    by_cases c : cnt (rowOf S.got m) (i : Nat) = 0
    · omega
    · have h1 := (g1 (i : Nat) (cnt (rowOf S.got m) (i : Nat))).mpr ⟨by omega, Int.le_refl _⟩
      have h2 := ((hI.kn _ _).mp (g2 _ h1)).2
      omega
  · have hp : 0 < cnt (rowOf S.got m) (i : Nat) := hp
    have h1 := (g1 (i : Nat) (cnt (rowOf S.got m) (i : Nat))).mpr ⟨by omega, Int.le_refl _⟩
    have h2 := g2 _ h1
    obtain ⟨y, e1, e2⟩ := lt_find hI.lc h2
    refine ⟨y, e1, fun j hj => ?_⟩
    show cnt y.1 (j : Nat) ≤ cnt (rowOf S.got m) (j : Nat)
    rw [e2]
    exact (has_num (hI.causes h2).1 g1).mp (List.all_eq_true.mpr fun w hw => decide_eq_true (h.g _ hrow _ h1 w hw)) _
  · have := congrArg List.length ek
    rw [List.length_map] at this
    omega
  · refine hI.kr x.1 ?_
    rw [← ek]
    exact List.mem_map.mpr ⟨x, hx, rfl⟩
structure RunOk (M : Nat) (S : Ms) : Prop where
  i : Inw M S
  c : Inc S
  l : LtOk M S.lt
theorem RunOk.new {M : Nat} (h : M ≤ 5) : RunOk M (Ms.new M) := ⟨Inw.new h, Inc.new, fun i z h => by cases h⟩
theorem RunOk.go {M : Nat} {S : Ms} {r : Rw} (h : RunOk M S) (hok : r.okB M = true) (w : S.why r = none) (h30 : r.sentB = true → S.keys.length < 30) : RunOk M (S.go r) := by
  refine ⟨h.i.go hok w, h.c.go h.i hok w, ?_⟩
  have hm := Rw.ok_mem hok
  cases r with
  | sent m z => exact h.l.snoc (keep_sent h.i h.c hm (h30 rfl))
  | got m s n => exact h.l
  | told m p s n => exact h.l
theorem run_ok {M : Nat} : ∀ {rs : List Rw} {S : Ms} {i : Nat}, RunOk M S → (∀ r ∈ rs, r.okB M = true) → S.keys.length + (rs.filter Rw.sentB).length ≤ 30 → firstW S rs i = none → RunOk M (runM S rs) ∧ (runM S rs).keys.length = S.keys.length + (rs.filter Rw.sentB).length
  | [], S, i, h, _, _, _ => ⟨h, rfl⟩
  | r :: rs, S, i, h, hok, h30, hf => by
    obtain ⟨w, hf⟩ := firstW_none hf
    have e : ((r :: rs).filter Rw.sentB).length = ([r].filter Rw.sentB).length + (rs.filter Rw.sentB).length := by
      rw [show r :: rs = [r] ++ rs from rfl, List.filter_append, List.length_append]
    have ek := keys_go (S := S) (r := r)
    obtain ⟨a, b⟩ := run_ok (rs := rs) (h.go (hok r (List.mem_cons_self ..)) w (fun q => by
      simp only [List.filter_cons, q, if_true, List.length_cons] at h30
      omega)) (fun x hx => hok x (List.mem_cons_of_mem _ hx)) (by omega) hf
    exact ⟨a, by rw [e]; show (runM (S.go r) rs).keys.length = _; omega⟩
theorem run_of {M : Nat} {rs : List Rw} (hM : M ≤ 5) (hb : histB M rs = true) (hf : firstW (Ms.new M) rs 0 = none) : RunOk M (runM (Ms.new M) rs) ∧ (runM (Ms.new M) rs).keys.length ≤ 30 := by
  unfold histB at hb
  rw [Bool.and_eq_true, List.all_eq_true, decide_eq_true_eq] at hb
  have e0 : (Ms.new M).keys.length = 0 := rfl
  obtain ⟨h1, h2⟩ := run_ok (rs := rs) (i := 0) (RunOk.new hM) hb.1 (by rw [e0]; omega) hf
  exact ⟨h1, by rw [h2, e0]; omega⟩
/-! ### a book in the heap -/
theorem find_al {β : Type} {R : V → Idn × β → Prop} : ∀ {ck : List (List Key × V)} {cs : List (Idn × β)} {z : Idn} {y : Idn × β}, All2 (fun p y => p.1 = idK y.1 ∧ R p.2 y) ck cs → cs.find? (fun p => decide (p.1 = z)) = some y → ∃ v, valV ck (idK z) = some v ∧ R v y
  | p :: ck, x :: cs, z, y, h, hz => by
    obtain ⟨h1, h2⟩ := h.2 0 p x rfl rfl
    rw [List.find?_cons] at hz
    by_cases c : x.1 = z
    · rw [decide_eq_true c] at hz
      cases hz
      subst c
      exact ⟨p.2, by unfold valV; rw [List.find?_cons, decide_eq_true h1]; rfl, h2⟩
    · rw [decide_eq_false c] at hz
      obtain ⟨v, e1, e2⟩ := find_al (R := R) (ck := ck) (cs := cs) ⟨Nat.succ.inj h.1, fun i a b ha hb => h.2 (i + 1) a b ha hb⟩ hz
      refine ⟨v, ?_, e2⟩
      unfold valV
      rw [List.find?_cons, decide_eq_false (fun e => c (idK_inj (h1.symm.trans e)))]
      exact e1
  | [], _ :: _, _, _, h, _ => nomatch h.1
  | _ :: _, [], _, _, h, _ => nomatch h.1
  | [], [], _, _, _, h => nomatch h
structure BkAt (K : PySem.W.Frag) (CB CL CC : Addr) (M : Nat) (H : Hp) (b dx d : Addr) (kk : List (List Key × V)) (lt : List (Idn × List Idn × Str)) : Prop where
  hb : H b = some (.ins CB dx [("own_members", .int M), ("own_letters", .ref d)])
  hd : H d = some (.dT kk)
  al : All2 (fun p z => p.1 = idK z.1 ∧ LtAt K CL CC M H p.2 z) kk lt
section
variable {K : PySem.W.Frag} {CB CL CC : Addr} {M : Nat} {H H' : Hp} {b dx d : Addr} {kk : List (List Key × V)} {lt : List (Idn × List Idn × Str)}
theorem BkAt.same (s : Same H H') (h : BkAt K CB CL CC M H b dx d kk lt) : BkAt K CB CL CC M H' b dx d kk lt := ⟨s _ _ h.hb, s _ _ h.hd, h.al.mono fun _ _ ⟨e, r⟩ => ⟨e, r.same s⟩⟩
theorem BkAt.keys (h : BkAt K CB CL CC M H b dx d kk lt) : All2 (fun p z => p.1 = idK z ∧ True) kk (lt.map (·.1)) := by
  refine ⟨by rw [h.al.1]; exact (List.length_map ..).symm, fun i p z hp hz => ?_⟩
  rw [List.getElem?_map, Option.map_eq_some_iff] at hz
  obtain ⟨y, hy, rfl⟩ := hz
  exact ⟨(h.al.2 i p y hp hy).1, trivial⟩
theorem BkAt.get (h : BkAt K CB CL CC M H b dx d kk lt) {z : Idn} {y : Idn × List Idn × Str} (hz : lt.find? (fun p => decide (p.1 = z)) = some y) : ∃ v, valV kk (idK z) = some v ∧ LtAt K CL CC M H v y := find_al h.al hz
theorem BkAt.put {v : V} {z : Idn × List Idn × Str} (h : BkAt K CB CL CC M H b dx d kk lt) (fresh : z.1 ∉ lt.map (·.1)) (hv : LtAt K CL CC M H v z) (s : SameBut d H H') (e : H' d = some (.dT (putK kk (idK z.1) v))) : BkAt K CB CL CC M H' b dx d (kk ++ [(idK z.1, v)]) (lt ++ [z]) := by
  have k : ∀ {v y}, LtAt K CL CC M H v y → LtAt K CL CC M H' v y := fun r => r.keeps fun c u n1 n2 e1 => s _ _ (fun q => by
    subst q
    rw [h.hd] at e1
    cases e1
    exact n2 _ rfl) e1
  refine ⟨s _ _ (ne_of h.hb h.hd (by simp)) h.hb, ?_, All2.append (h.al.mono fun _ _ ⟨e, r⟩ => ⟨e, k r⟩) (All2.cons ⟨rfl, k hv⟩ All2.nil)⟩
  rw [e, put_new (R := fun _ => True) h.keys fresh]
end
theorem cnts_D {M i : Nat} {l : List Idn} (h : i < M) : (cnts M l).getD i 0 = (cnt l (i : Nat) : Int) := by
  unfold cnts
  rw [List.getD_eq_getElem?_getD, List.getElem?_map, List.getElem?_range h]
  rfl
theorem mem_last {M : Nat} {l : List Idn} {z : Idn} (h : z ∈ lastI (cnts M l)) : ∃ i : Nat, i < M ∧ z = ((i : Int), (cnt l (i : Nat) : Int)) ∧ 0 < cnt l (i : Nat) := by
  unfold lastI at h
  obtain ⟨i, hi, e⟩ := List.mem_filterMap.mp h
  rw [List.mem_range, cnts_len] at hi
  rw [cnts_D hi] at e
  split at e
  · rename_i c
    cases e
    exact ⟨i, hi, rfl, by omega⟩
  · cases e
theorem all_nil {M : Nat} {l m : List Idn} (h : ∀ i : Nat, i < M → cnt l (i : Nat) ≤ cnt m (i : Nat)) : allI (cnts M l) (cnts M m) = [] := allI_nil fun i hi => by
  rw [cnts_len] at hi
  rw [cnts_D hi, cnts_D hi]
  have := h i hi
  omega
theorem isKeys_at : ∀ {kvs : List (List Key × V)} {bs : List Addr} {H : Hp}, IsKeys H kvs bs → kvs.length = bs.length ∧ ∀ (i : Nat) (p : List Key × V) (b : Addr), kvs[i]? = some p → bs[i]? = some b → H b = some (.tup (p.1.map kV))
  | _, _, _, .nil => ⟨rfl, fun i p b h => by simp at h⟩
  | _, _, _, .cons h r => by
    obtain ⟨h1, h2⟩ := isKeys_at r
    refine ⟨congrArg (· + 1) h1, fun i p b hp hb => ?_⟩
    cases i with
    | zero =>
      cases hp
      cases hb
      exact h
    | succ i => exact h2 i p b hp hb
theorem keys_ids {H : Hp} {kvs : List (List Key × V)} {ks : List Idn} {bs : List Addr} {q : Addr} {u : HO} (hk : All2 (fun p z => p.1 = idK z ∧ True) kvs ks) (hb : IsKeys H kvs bs) (hq : H q = none) : All2 (IdAt (upd H q u)) (bs.map V.ref) ks := by
  obtain ⟨h1, h2⟩ := isKeys_at hb
  refine ⟨by rw [List.length_map, ← h1]; exact hk.1, fun i x z hx hz => ?_⟩
  rw [List.getElem?_map, Option.map_eq_some_iff] at hx
  obtain ⟨b, hb, rfl⟩ := hx
  have hi : i < kvs.length := by rw [h1]; exact (List.getElem?_eq_some_iff.mp hb).1
  have hp := List.getElem?_eq_getElem hi
  have e := h2 i _ b hp hb
  rw [(hk.2 i _ z hp hz).1] at e
  exact ⟨b, rfl, by rw [upd_ne (ne_of_none e hq)]; exact e⟩
theorem cnts_add {M : Nat} {l : List Idn} {z : Idn} (h : 0 ≤ z.1 ∧ z.1 ≤ (M : Int) - 1) : ((cnts M l).map V.int).set z.1.toNat (.int ((cnt l z.1 : Int) + 1)) = (cnts M (l ++ [z])).map V.int := by
  have e := cnts_set (M := M) (l := l) (z := (z.1, (cnt l z.1 : Int) + 1)) h rfl
  rw [e]
  congr 1
  unfold cnts
  refine List.map_congr_left fun s _ => ?_
  rw [cnt_snoc, cnt_snoc]
theorem i_dgTF {H : Hp} {p b : Addr} {o : Obj} {kvs : List (List Key × V)} {k : List Key} {v : V} {R : V → Prop} (h1 : H p = some (.frz o (.dT kvs))) (h2 : H b = some (.tup (k.map kV))) (h3 : valV kvs k = some v) (h : R v) : ∃ a v, V.ref p = .ref a ∧ DGet H a (.ref b) (some v) ∧ R v := ⟨p, v, rfl, .inr ⟨kvs, k, b, .inr ⟨o, h1⟩, rfl, h2, h3.symm⟩, h⟩
/-! ### ids compared -/
theorem IdAt.eqv {K : PySem.W.Frag} {H : Hp} {x y : V} {r q : Idn} {n : Nat} (hx : IdAt H x r) (hy : IdAt H y q) : EqV K H (n + 1) x y (decide (r = q)) := by
  obtain ⟨p, rfl, hp⟩ := hx
  obtain ⟨p', rfl, hp'⟩ := hy
  obtain ⟨r1, r2⟩ := r
  obtain ⟨q1, q2⟩ := q
  by_cases d : p = p'
  · subst d
    rw [hp] at hp'
    have e := HO.tup.inj (Option.some.inj hp')
    simp only [List.cons.injEq, V.int.injEq, and_true] at e
    rw [decide_eq_true (by rw [e.1, e.2])]
    exact .one
  · have t := EqVs.iS (K := K) (H := H) (n := n) (xs := [.int r1, .int r2]) (ys := [.int q1, .int q2]) rfl rfl
    have e : decide ([V.int r1, V.int r2] = [V.int q1, V.int q2]) = decide ((r1, r2) = (q1, q2)) := by
      rw [decide_eq_decide]
      simp
    rw [e] at t
    exact .tups d (.of hp) (.of hp') t
theorem IdAt.eqvs {K : PySem.W.Frag} {H : Hp} {n : Nat} : ∀ {xs ys : List V} {rs qs : List Idn}, All2 (IdAt H) xs rs → All2 (IdAt H) ys qs → EqVs K H (n + 1) xs ys (decide (rs = qs))
  | [], [], [], [], _, _ => .nil
  | [], y :: ys, [], q :: qs, _, _ => .nilc
  | x :: xs, [], r :: rs, [], _, _ => .cnil
  | x :: xs, y :: ys, r :: rs, q :: qs, h1, h2 => by
    have t := EqVs.cons (IdAt.eqv (n := n) (h1.2 0 x r rfl rfl) (h2.2 0 y q rfl rfl)) (IdAt.eqvs (K := K) (n := n) (xs := xs) (ys := ys) (rs := rs) (qs := qs) ⟨Nat.succ.inj h1.1, fun i a b ha hb => h1.2 (i + 1) a b ha hb⟩ ⟨Nat.succ.inj h2.1, fun i a b ha hb => h2.2 (i + 1) a b ha hb⟩)
    have e : (decide (r = q) && decide (rs = qs)) = decide (r :: rs = q :: qs) := by
      rw [Bool.eq_iff_iff]
      simp
    rw [e] at t
    exact t
  | [], _, _ :: _, _, h, _ => nomatch h.1
  | _ :: _, _, [], _, h, _ => nomatch h.1
  | _, [], _, _ :: _, _, h => nomatch h.1
  | _, _ :: _, _, [], _, h => nomatch h.1
theorem i_neIds {K : PySem.W.Frag} {H : Hp} {Q : VK} {p q : Addr} {xs ys : List V} {l m : List Idn} (h1 : H p = some (.lst xs)) (h2 : H q = some (.lst ys)) (ha : All2 (IdAt H) xs l) (hb : All2 (IdAt H) ys m) (h : Q (.bl (!decide (l = m))) H) : rNeU K (.ref p) (.ref q) H Q := i_neG (n := 1) (.inl ⟨.of h1, .of h2⟩) (by decide) (IdAt.eqvs ha hb) h
theorem i_neId {K : PySem.W.Frag} {H : Hp} {Q : VK} {p q : Addr} {y z : Idn} (h1 : H p = some (.tup [.int y.1, .int y.2])) (h2 : H q = some (.tup [.int z.1, .int z.2])) (h : Q (.bl (!decide (y = z))) H) : rNeU K (.ref p) (.ref q) H Q := by
  have t := EqVs.iS (K := K) (H := H) (n := 1) (xs := [.int y.1, .int y.2]) (ys := [.int z.1, .int z.2]) rfl rfl
  have e : decide ([V.int y.1, V.int y.2] = [V.int z.1, V.int z.2]) = decide (y = z) := by
    rw [decide_eq_decide]
    obtain ⟨a, b⟩ := y
    obtain ⟨c, d⟩ := z
    simp
  rw [e] at t
  exact i_neG (n := 1) (.inr ⟨.of h1, .of h2⟩) (by decide) t h
theorem idStays : Stays IdAt where
  but := fun {H H' D x c acc} e s h => h.keeps fun b xs h => s _ _ (ne_of h e (by simp)) h
  same := fun s h => h.same s
theorem cnt_cons {l : List Idn} {x : Idn} {s : Int} : cnt (x :: l) s = cnt l s + if x.1 = s then 1 else 0 := by
  unfold cnt
  rw [List.filter_cons]
  by_cases c : x.1 = s
  · simp [c]
  · simp [c]
theorem cnt_app {l m : List Idn} {s : Int} : cnt (l ++ m) s = cnt l s + cnt m s := by
  unfold cnt
  rw [List.filter_append, List.length_append]
theorem cnt_len : ∀ {l k : List Idn}, (∀ s, cnt l s ≤ cnt k s) → l.length ≤ k.length
  | [], _, _ => Nat.zero_le _
  | x :: l, k, h => by
    have h1 := h x.1
    rw [cnt_cons, if_pos rfl] at h1
    obtain ⟨n, hn⟩ := cnt_pos (l := k) (s := x.1) (by omega)
    obtain ⟨k1, k2, rfl⟩ := List.append_of_mem hn
    have h2 := cnt_len (l := l) (k := k1 ++ k2) (fun s => by
      have := h s
      rw [cnt_cons, cnt_app, cnt_cons] at this
      rw [cnt_app]
      dsimp only at this
      split at this <;> omega)
    rw [List.length_append] at h2
    rw [List.length_cons, List.length_append, List.length_cons]
    omega
theorem Inw.causesLen {M : Nat} {S : Ms} (h : Inw M S) {z : Idn} (hz : z ∈ S.keys) : (causesOf S.cs z).length ≤ S.keys.length := by
  obtain ⟨c1, c2, _⟩ := h.causes hz
  refine cnt_len ((has_num c1 h.kn).mp (List.all_eq_true.mpr fun y hy => decide_eq_true (c2 y hy)))
/-- the longest row of all told -/
theorem longest_lg {M : Nat} {S : Ms} {l : List Idn} (h : Inw M S) (hl : l = [] ∨ l ∈ S.told) (ha : ∀ m : Nat, m < M → (rowOf S.told (m : Nat)).length ≤ l.length) : l = S.lg := by
  have pre : l <+: S.lg := by
    rcases hl with rfl | hl
    · exact List.nil_prefix
    · exact h.tp l hl
  have len : S.lg.length ≤ l.length := by
    rcases h.le with e | e
    · rw [e]
      exact Nat.zero_le _
    · obtain ⟨k, hk⟩ := List.mem_iff_getElem?.mp e
      have hkM : k < M := by
        rw [← h.ltold]
        exact (List.getElem?_eq_some_iff.mp hk).1
      have := ha k hkM
      unfold rowOf at this
      rw [Int.toNat_natCast, List.getD_eq_getElem?_getD, hk] at this
      exact this
  exact pre.eq_of_length_le len
/-! ### thirty letters, delivered and told by all -/
def sentR (M : Nat) : List Rw := (List.range 30).map fun k : Nat => .sent ((k : Int) % M) "tea"
def idR (M : Nat) : List Idn := (List.range 30).map fun k : Nat => ((k : Int) % M, 1 + (k : Int) / M)
def gotR (M : Nat) (m : Int) : List Rw := (idR M).filterMap fun z => if z.1 = m then none else some (.got m z.1 z.2)
theorem range_bind {α β : Type} (g : α → Option β) : ∀ as : List α, (List.range as.length).filterMap (fun i => (as[i]?).bind g) = as.filterMap g
  | [] => rfl
  | b :: bs => by
    rw [List.length_cons, List.range_succ_eq_map, List.filterMap_cons, List.filterMap_map]
    have e : (fun i => ((b :: bs)[i]?).bind g) ∘ Nat.succ = fun i => (bs[i]?).bind g := by
      funext i
      simp
    rw [e, range_bind g bs]
    cases h : g b <;> simp [h]
theorem idR_len {M : Nat} : (idR M).length = 30 := by
  unfold idR
  rw [List.length_map, List.length_range]
def toldR (M : Nat) (k : Nat) : List Rw := (List.range M).map fun m : Nat => .told m ((k : Int) + 1) ((k : Int) % M) (1 + (k : Int) / M)
def fullR (M : Nat) : List Rw := sentR M ++ (List.range M).flatMap (fun m : Nat => gotR M m) ++ (List.range 30).flatMap (toldR M)
theorem full_ok {M : Nat} (h : 2 ≤ M ∧ M ≤ 5) : histB M (fullR M) = true ∧ (fullR M).length ≤ 300 ∧ firstW (Ms.new M) (fullR M) 0 = none := by
  have e : M = 2 ∨ M = 3 ∨ M = 4 ∨ M = 5 := by omega
  rcases e with rfl | rfl | rfl | rfl
  · decide +kernel
  · decide +kernel
  · decide +kernel
  · decide +kernel
theorem full_sml {M : Nat} : ∀ r ∈ fullR M, r.sml := fun r hr => by
  unfold fullR at hr
  rcases List.mem_append.mp hr with hr | hr
  · rcases List.mem_append.mp hr with hr | hr
    · obtain ⟨_, _, rfl⟩ := List.mem_map.mp hr
      exact Nat.le_of_ble_eq_true rfl
    · obtain ⟨m, _, hr⟩ := List.mem_flatMap.mp hr
      obtain ⟨z, _, e⟩ := List.mem_filterMap.mp hr
      split at e
      · cases e
      · cases e
        exact trivial
  · obtain ⟨m, _, hr⟩ := List.mem_flatMap.mp hr
    obtain ⟨_, _, rfl⟩ := List.mem_map.mp hr
    exact trivial
/-! ### a row that can't be, put in -/
theorem firstW_app : ∀ {as bs : List Rw} {S : Ms} {j : Nat}, firstW S as j = none → firstW S (as ++ bs) j = firstW (runM S as) bs (j + as.length)
  | [], bs, S, j, _ => rfl
  | r :: as, bs, S, j, h => by
    obtain ⟨w, h⟩ := firstW_none h
    show (match S.why r with | some w => some (j, w) | none => firstW (S.go r) (as ++ bs) (j + 1)) = _
    rw [w]
    show firstW (S.go r) (as ++ bs) (j + 1) = firstW (runM (S.go r) as) bs (j + (as.length + 1))
    rw [firstW_app h, show j + 1 + as.length = j + (as.length + 1) by omega]
theorem firstW_pre : ∀ {as bs : List Rw} {S : Ms} {j : Nat}, firstW S (as ++ bs) j = none → firstW S as j = none
  | [], _, _, _, _ => rfl
  | r :: as, bs, S, j, h => by
    obtain ⟨w, h⟩ := firstW_none (show firstW S (r :: (as ++ bs)) j = none from h)
    show (match S.why r with | some w => some (j, w) | none => firstW (S.go r) as (j + 1)) = _
    rw [w]
    exact firstW_pre h
def badR (i : Int) : Rw := if i = 0 then .got 0 0 1 else if i = 1 then .told 1 77 0 1 else .got 1 0 31
def badW (i : Int) : Str := if i = 0 then "own" else if i = 1 then "place" else "unsent"
theorem bad_why {M : Nat} {S : Ms} (h : Inw M S) (hM : 2 ≤ M) (h30 : S.keys.length ≤ 30) (i : Int) : S.why (badR i) = some (badW i) := by
  unfold badR badW
  by_cases c : i = 0
  · rw [if_pos c, if_pos c]
    rfl
  rw [if_neg c, if_neg c]
  by_cases d : i = 1
  · rw [if_pos d, if_pos d]
    show whyTold S 1 77 (0, 1) = _
    obtain ⟨g1, g2, _⟩ := h.toldR (m := 1) (by omega)
    have l := cnt_len ((has_num g1 h.kn).mp (List.all_eq_true.mpr fun y hy => decide_eq_true (g2 y hy)))
    unfold whyTold
    rw [if_pos (by omega)]
  · rw [if_neg d, if_neg d]
    show whyGot S 1 (0, 31) = _
    unfold whyGot
    rw [if_neg (by decide), if_pos (fun hz => by
      have h1 := ((h.kn 0 31).mp hz).2
      have h2 := cnt_le (l := S.keys) (s := 0)
      omega)]
theorem hist_take {M : Int} {rs : List Rw} (h : histB M rs = true) (n : Nat) : histB M (rs.take n) = true := by
  unfold histB at h ⊢
  rw [Bool.and_eq_true, List.all_eq_true, decide_eq_true_eq] at h ⊢
  exact ⟨fun r hr => h.1 r (List.mem_of_mem_take hr), Nat.le_trans (List.Sublist.length_le ((List.take_sublist _ _).filter _)) h.2⟩
theorem bad_first {M : Nat} {rs : List Rw} {n : Nat} {i : Int} (hM : 2 ≤ M ∧ M ≤ 5) (hb : histB M rs = true) (hf : firstW (Ms.new M) rs 0 = none) (hn : n ≤ rs.length) : firstW (Ms.new M) (rs.take n ++ [badR i] ++ rs.drop n) 0 = some (n, badW i) := by
  have h1 : firstW (Ms.new M) (rs.take n) 0 = none := firstW_pre (bs := rs.drop n) (by rw [List.take_append_drop]; exact hf)
  obtain ⟨hR, h30⟩ := run_of hM.2 (hist_take hb n) h1
  rw [List.append_assoc, firstW_app h1, List.length_take, Nat.min_eq_left hn, Nat.zero_add]
  show (match (runM (Ms.new M) (rs.take n)).why (badR i) with | some w => some (n, w) | none => _) = _
  rw [bad_why hR.i hM.1 h30]
theorem bad_hist {M : Nat} {rs : List Rw} {n : Nat} {i : Int} (hM : 2 ≤ M ∧ M ≤ 5) (hb : histB M rs = true) : histB M (rs.take n ++ [badR i] ++ rs.drop n) = true := by
  have e : (rs.take n).filter Rw.sentB ++ (rs.drop n).filter Rw.sentB = rs.filter Rw.sentB := by rw [← List.filter_append, List.take_append_drop]
  have eb : [badR i].filter Rw.sentB = [] := by
    unfold badR
    split
    · rfl
    · split <;> rfl
  have ob : (badR i).okB M = true := by
    unfold badR
    split
    · simp only [Rw.okB, inR, Bool.and_eq_true, decide_eq_true_eq]
      omega
    · split
      · simp only [Rw.okB, inR, Bool.and_eq_true, decide_eq_true_eq]
        omega
      · simp only [Rw.okB, inR, Bool.and_eq_true, decide_eq_true_eq]
        omega
  unfold histB at hb ⊢
  rw [Bool.and_eq_true, List.all_eq_true, decide_eq_true_eq] at hb ⊢
  refine ⟨fun r hr => ?_, ?_⟩
  · rcases List.mem_append.mp hr with hr | hr
    · rcases List.mem_append.mp hr with hr | hr
      · exact hb.1 r (List.mem_of_mem_take hr)
      · rw [List.mem_singleton.mp hr]
        exact ob
    · exact hb.1 r (List.mem_of_mem_drop hr)
  · rw [List.filter_append, List.filter_append, eb, List.append_nil, e]
    exact hb.2
theorem bad_sml {rs : List Rw} {n : Nat} {i : Int} (hz : ∀ r ∈ rs, r.sml) : ∀ r ∈ rs.take n ++ [badR i] ++ rs.drop n, r.sml := fun r hr => by
  rcases List.mem_append.mp hr with hr | hr
  · rcases List.mem_append.mp hr with hr | hr
    · exact hz r (List.mem_of_mem_take hr)
    · rw [List.mem_singleton.mp hr]
      unfold badR
      split
      · exact trivial
      · split <;> exact trivial
  · exact hz r (List.mem_of_mem_drop hr)
end My
/-! orders that keep causes; rows of numbers in lists -/
namespace My
open PySem L2
/-- each behind its causes, none twice, each sender's ones from 1 on -/
structure Ord (cs : List (Idn × List Idn)) (l : List Idn) : Prop where
  nd : l.Nodup
  a : ∀ (k : Nat) z, l[k]? = some z → ∀ y ∈ causesOf cs z, y ∈ l.take k
  n : ∀ (k : Nat) z, l[k]? = some z → z.2 = (cnt (l.take k) z.1 : Int) + 1
theorem Ord.nil {cs : List (Idn × List Idn)} : Ord cs [] := ⟨List.nodup_nil, fun k z h => by simp at h, fun k z h => by simp at h⟩
theorem snoc_at {α : Type} {l : List α} {x z : α} {k : Nat} (h : (l ++ [x])[k]? = some z) : (k < l.length ∧ l[k]? = some z ∧ (l ++ [x]).take k = l.take k) ∨ (k = l.length ∧ z = x ∧ (l ++ [x]).take k = l) := by
  by_cases c : k < l.length
  · rw [List.getElem?_append_left c] at h
    exact .inl ⟨c, h, List.take_append_of_le_length (Nat.le_of_lt c)⟩
  · have hi := (List.getElem?_eq_some_iff.mp h).1
    rw [List.length_append] at hi
    have e : k = l.length := by simp only [List.length_cons, List.length_nil] at hi; omega
    subst e
    rw [List.getElem?_append_right (Nat.le_refl _), Nat.sub_self] at h
    cases h
    exact .inr ⟨rfl, rfl, List.take_left⟩
theorem Ord.snoc {cs : List (Idn × List Idn)} {l : List Idn} {z : Idn} (h : Ord cs l) (nz : z ∉ l) (c : ∀ y ∈ causesOf cs z, y ∈ l) (e : z.2 = (cnt l z.1 : Int) + 1) : Ord cs (l ++ [z]) where
  nd := by
    rw [List.nodup_append]
    refine ⟨h.nd, List.pairwise_singleton _ _, fun a ha b hb q => ?_⟩
    rw [List.mem_singleton.mp hb] at q
    exact nz (q ▸ ha)
  a := fun k x hx y hy => by
    rcases snoc_at hx with ⟨_, h2, h3⟩ | ⟨_, rfl, h3⟩
    · rw [h3]
      exact h.a k x h2 y hy
    · rw [h3]
      exact c y hy
  n := fun k x hx => by
    rcases snoc_at hx with ⟨_, h2, h3⟩ | ⟨_, rfl, h3⟩
    · rw [h3]
      exact h.n k x h2
    · rw [h3]
      exact e
theorem Ord.more {cs : List (Idn × List Idn)} {l : List Idn} {w : Idn} {u : List Idn} (h : Ord cs l) (hk : ∀ z ∈ l, z ∈ cs.map (·.1)) : Ord (cs ++ [(w, u)]) l where
  nd := h.nd
  a := fun k z hz y hy => by
    rw [causes_snoc (hk z (List.mem_of_getElem? hz))] at hy
    exact h.a k z hz y hy
  n := h.n
/-- its beginnings are numbered, too -/
theorem Ord.num {cs : List (Idn × List Idn)} {l : List Idn} (h : Ord cs l) : ∀ k : Nat, Num (l.take k)
  | 0 => by rw [List.take_zero]; exact Num.nil
  | k + 1 => by
    rw [List.take_add_one]
    cases e : l[k]? with
    | none => rw [Option.toList_none, List.append_nil]; exact h.num k
    | some z =>
      obtain ⟨s, n⟩ := z
      exact (h.num k).snoc (h.n k _ e)
structure OrdS (S : Ms) : Prop where
  g : ∀ l ∈ S.got, Ord S.cs l
  t : ∀ l ∈ S.told, Ord S.cs l
  s : ∀ i : Nat, ∀ z ∈ rowOf S.told (i : Nat), z ∈ rowOf S.got (i : Nat)
theorem row_set {ls : List (List Idn)} {j i : Nat} {x : List Idn} : rowOf (ls.set j x) (i : Nat) = if j = i ∧ i < ls.length then x else rowOf ls (i : Nat) := by
  unfold rowOf
  rw [Int.toNat_natCast, List.getD_eq_getElem?_getD, List.getD_eq_getElem?_getD, List.getElem?_set]
  by_cases c : j = i
  · subst c
    rw [if_pos rfl]
    by_cases d : j < ls.length
    · rw [if_pos d, if_pos ⟨rfl, d⟩]
      rfl
    · rw [if_neg d, if_neg (fun q => d q.2), List.getElem?_eq_none (by omega)]
  · rw [if_neg c, if_neg (fun q => c q.1)]
theorem row_nil {ls : List (List Idn)} {i : Nat} (h : ∀ l ∈ ls, l = []) : rowOf ls (i : Nat) = [] := by
  unfold rowOf
  rw [Int.toNat_natCast, List.getD_eq_getElem?_getD]
  cases e : ls[i]? with
  | none => rfl
  | some l => exact h l (List.mem_of_getElem? e)
theorem row_grow {ls : List (List Idn)} {m : Int} {z : Idn} {i : Nat} (h0 : 0 ≤ m) {y : Idn} (hy : y ∈ rowOf ls (i : Nat)) : y ∈ rowOf (ls.set m.toNat (rowOf ls m ++ [z])) (i : Nat) := by
  rw [row_set]
  split
  · rename_i c
    refine List.mem_append_left _ ?_
    have : (i : Int) = m := by omega
    rw [← this]
    exact hy
  · exact hy
theorem OrdS.new {M : Nat} : OrdS (Ms.new M) where
  g := fun l h => by
    rw [List.eq_of_mem_replicate h]
    exact Ord.nil
  t := fun l h => by
    rw [List.eq_of_mem_replicate h]
    exact Ord.nil
  s := fun i z hz => by
    have e : rowOf (Ms.new M).told (i : Nat) = [] := row_nil fun l h => List.eq_of_mem_replicate h
    rw [e] at hz
    cases hz
theorem OrdS.go {M : Nat} {S : Ms} {r : Rw} (h : OrdS S) (hI : Inw M S) (hok : r.okB M = true) (w : S.why r = none) : OrdS (S.go r) := by
  have hm := Rw.ok_mem hok
  cases r with
  | sent m y =>
    have hm : 0 ≤ m ∧ m ≤ (M : Int) - 1 := hm
    obtain ⟨row, _, er, hr⟩ := row_mem hI.lgot hm
    have hrow : rowOf S.got m ∈ S.got := by rw [er]; exact hr
    have hgr : ∀ z ∈ rowOf S.got m, z ∈ S.keys := (hI.gotR hm).2
    have hk : ∀ l, Ord S.cs l → (∀ z ∈ l, z ∈ S.keys) → Ord (S.cs ++ [(nxt S.keys m, rowOf S.got m)]) l := fun l o k => o.more k
    obtain ⟨j, rfl⟩ := Int.eq_ofNat_of_zero_le hm.1
    refine ⟨fun l hl => ?_, fun l hl => hk l (h.t l hl) (hI.tn l hl).2, fun i z hz => row_grow (by omega) (h.s i z hz)⟩
    rcases mem_set hl with hl | rfl
    · exact hk l (h.g l hl) (hI.gn l hl).2
    · refine (hk _ (h.g _ hrow) hgr).snoc (fun q => nxt_fresh hI (hgr _ q)) (fun y hy => ?_) ?_
      · rw [causes_new (nxt_fresh hI)] at hy
        exact hy
      · show 1 + ((cnt S.keys (j : Nat) : Nat) : Int) = (cnt (rowOf S.got (j : Nat)) (j : Nat) : Int) + 1
        rw [hI.own j (by omega)]
        omega
  | got m s n =>
    have hm : 0 ≤ m ∧ m ≤ (M : Int) - 1 := hm
    have hn := hI.got_next hm w
    have w : whyGot S m (s, n) = none := w
    obtain ⟨row, _, er, hr⟩ := row_mem hI.lgot hm
    have hrow : rowOf S.got m ∈ S.got := by rw [er]; exact hr
    unfold whyGot at w
    split at w
    · cases w
    split at w
    · cases w
    split at w
    · cases w
    split at w
    · rename_i c3 c4
      refine ⟨fun l hl => ?_, h.t, fun i z hz => row_grow (by omega) (h.s i z hz)⟩
      rcases mem_set hl with hl | rfl
      · exact h.g l hl
      · exact (h.g _ hrow).snoc c3 (hasB_mem c4) hn
    · cases w
  | told m p s n =>
    have hm : 0 ≤ m ∧ m ≤ (M : Int) - 1 := hm
    have hn := hI.told_next hm w
    have w : whyTold S m p (s, n) = none := w
    obtain ⟨row, _, er, hr⟩ := row_mem hI.ltold hm
    have hrow : rowOf S.told m ∈ S.told := by rw [er]; exact hr
    unfold whyTold at w
    split at w
    · cases w
    split at w
    · cases w
    split at w
    · cases w
    split at w
    · cases w
    split at w
    · rename_i c2 c3 c4 c5
      refine ⟨h.g, fun l hl => ?_, fun i z hz => ?_⟩
      · rcases mem_set hl with hl | rfl
        · exact h.t l hl
        · exact (h.t _ hrow).snoc c3 (hasB_mem c5) hn
      · have hz : z ∈ rowOf (S.told.set m.toNat (rowOf S.told m ++ [(s, n)])) (i : Nat) := hz
        rw [row_set] at hz
        split at hz
        · rename_i q
          have e : m = (i : Nat) := by omega
          rcases List.mem_append.mp hz with hz | hz
          · rw [e] at hz
            exact h.s i z hz
          · rw [List.mem_singleton.mp hz]
            rw [e] at c2
            exact Classical.not_not.mp c2
        · exact h.s i z hz
    · cases w
theorem run_ord {M : Nat} : ∀ {rs : List Rw} {S : Ms} {i : Nat}, OrdS S → Inw M S → (∀ r ∈ rs, r.okB M = true) → firstW S rs i = none → OrdS (runM S rs)
  | [], _, _, h, _, _, _ => h
  | r :: rs, S, i, h, hI, hok, hf => by
    obtain ⟨w, hf⟩ := firstW_none hf
    have ho := hok r (List.mem_cons_self ..)
    exact run_ord (rs := rs) (h.go hI ho w) (hI.go ho w) (fun x hx => hok x (List.mem_cons_of_mem _ hx)) hf
theorem ord_of {M : Nat} {rs : List Rw} (hM : M ≤ 5) (hb : histB M rs = true) (hf : firstW (Ms.new M) rs 0 = none) : OrdS (runM (Ms.new M) rs) := by
  unfold histB at hb
  rw [Bool.and_eq_true, List.all_eq_true] at hb
  exact run_ord OrdS.new (Inw.new hM) hb.1 hf
theorem OrdS.lg {M : Nat} {S : Ms} (h : OrdS S) (hI : Inw M S) : Ord S.cs S.lg := by
  rcases hI.le with e | e
  · rw [e]
    exact Ord.nil
  · exact h.t _ e
/-! ### all ids up to counts -/
theorem mem_ahead {M : Nat} {c : List Idn} {y : Idn} (hc : Num c) (h : y ∈ allI (cnts M c) (List.replicate M 0)) : y ∈ c := by
  unfold allI at h
  obtain ⟨i, hi, h⟩ := List.mem_flatMap.mp h
  rw [List.mem_range, cnts_len] at hi
  rw [cnts_D hi] at h
  unfold rngI at h
  obtain ⟨k, hk, rfl⟩ := List.mem_map.mp h
  have e0 : (List.replicate M (0 : Int)).getD i 0 = 0 := by
    rw [List.getD_eq_getElem?_getD, List.getElem?_replicate]
    split <;> rfl
  rw [e0] at hk ⊢
  have := List.mem_range.mp hk
  exact (hc _ _).mpr ⟨by omega, by omega⟩
theorem sum_map {α : Type} (f : α → Int) (g : α → Nat) (h : ∀ x, f x = g x) : ∀ l : List α, (l.map f).sum = ((l.map g).sum : Nat)
  | [] => rfl
  | x :: l => by
    rw [List.map_cons, List.map_cons, List.sum_cons, List.sum_cons, sum_map f g h l, h x]
    omega
theorem len_ahead {M : Nat} {c : List Idn} : ((allI (cnts M c) (List.replicate M 0)).length : Int) = (cnts M c).sum := by
  unfold allI
  rw [List.length_flatMap, cnts_len]
  unfold cnts
  rw [sum_map _ (fun s : Nat => cnt c (s : Nat)) (fun _ => rfl)]
  congr 2
  refine List.map_congr_left fun i hi => ?_
  have hi := List.mem_range.mp hi
  have e0 : (List.replicate M (0 : Int)).getD i 0 = 0 := by
    rw [List.getD_eq_getElem?_getD, List.getElem?_replicate]
    split <;> rfl
  have e1 := cnts_D (l := c) hi
  unfold cnts at e1
  rw [e0, e1]
  unfold rngI
  rw [List.length_map, List.length_range]
  omega
/-! ### rows of numbers -/
def tpD (ns : List Int) : PyData := .tuple (ns.map .int)
def NsAt (K : PySem.W.Frag) (H : Hp) (x : V) (ns : List Int) : Prop := ∃ q, x = .ref q ∧ SqT K H q (ns.map V.int)
theorem ints_dp {K : PySem.W.Frag} {H : Hp} : ∀ ns : List Int, DpAll K H (ns.map V.int) (ns.map .int)
  | [] => .nil
  | n :: ns => .cons (.int _) (ints_dp ns)
theorem NsAt.dp {K : PySem.W.Frag} {H : Hp} {x : V} {ns : List Int} (h : NsAt K H x ns) : Dp K H x (tpD ns) := by
  obtain ⟨q, rfl, h⟩ := h
  exact .tup h (ints_dp ns)
theorem tps_dp {K : PySem.W.Frag} {H : Hp} : ∀ {xs : List V} {l : List (List Int)}, All2 (NsAt K H) xs l → DpAll K H xs (l.map tpD)
  | [], [], _ => .nil
  | x :: xs, z :: l, h => .cons (h.2 0 x z rfl rfl).dp (tps_dp ⟨Nat.succ.inj h.1, fun i a b ha hb => h.2 (i + 1) a b ha hb⟩)
  | [], _ :: _, h => nomatch h.1
  | _ :: _, [], h => nomatch h.1
theorem ints_eqv : ∀ a b : List Int, PyData.eqvAll (a.map .int) (b.map .int) = decide (a = b)
  | [], [] => by simp [PyData.eqvAll]
  | [], _ :: _ => by simp [PyData.eqvAll]
  | _ :: _, [] => by simp [PyData.eqvAll]
  | x :: a, y :: b => by
    have e : PyData.eqvAll ((x :: a).map .int) ((y :: b).map .int) = ((x == y) && PyData.eqvAll (a.map .int) (b.map .int)) := by simp only [List.map_cons, PyData.eqvAll, PyData.eqv]
    rw [e, ints_eqv a b, Bool.eq_iff_iff]
    simp
theorem tpD_eqv (a b : List Int) : PyData.eqv (tpD a) (tpD b) = decide (a = b) := by
  have e : PyData.eqv (tpD a) (tpD b) = PyData.eqvAll (a.map .int) (b.map .int) := by simp only [tpD, PyData.eqv]
  rw [e, ints_eqv]
theorem ints_lay : ∀ a : List Int, PyData.canLayAll0 (a.map .int) = true
  | [] => by simp [PyData.canLayAll0]
  | x :: a => by simp [PyData.canLayAll0, PyData.canLay0, ints_lay a]
theorem ints_depth : ∀ a : List Int, PyData.depthAll (a.map .int) = 0
  | [] => by simp [PyData.depthAll]
  | x :: a => by simp [PyData.depthAll, PyData.depth, ints_depth a]
theorem tpD_lay (a : List Int) : PyData.canLay0 (tpD a) = true := by
  simp only [tpD, PyData.canLay0]
  exact ints_lay a
theorem tpD_depth (a : List Int) : (tpD a).depth = 1 := by
  simp only [tpD, PyData.depth, ints_depth]
theorem tpD_shaped (a : List Int) : SeqAt.shaped (tpD a) = true := by
  show ((tpD a).canLay0 && decide ((tpD a).depth ≤ 64)) = true
  rw [Bool.and_eq_true]
  exact ⟨tpD_lay a, decide_eq_true (by rw [tpD_depth]; omega)⟩
theorem tps_lay : ∀ l : List (List Int), PyData.canLayAll0 (l.map tpD) = true
  | [] => by simp [PyData.canLayAll0]
  | a :: l => by simp [PyData.canLayAll0, tpD_lay a, tps_lay l]
theorem tps_depth : ∀ l : List (List Int), PyData.depthAll (l.map tpD) ≤ 1
  | [] => by simp [PyData.depthAll]
  | a :: l => by
    have h1 := tps_depth l
    have h2 := tpD_depth a
    simp only [List.map_cons, PyData.depthAll]
    omega
theorem tps_shaped (l : List (List Int)) : SeqAt.shaped (.list (l.map tpD)) = true := by
  have h1 := tps_depth l
  show (PyData.canLay0 (.list (l.map tpD)) && decide (PyData.depth (.list (l.map tpD)) ≤ 64)) = true
  rw [Bool.and_eq_true]
  exact ⟨by simp only [PyData.canLay0]; exact tps_lay l, decide_eq_true (by simp only [PyData.depth]; omega)⟩
theorem tps_any (l : List (List Int)) (z : List Int) : ((l.map tpD).any fun y => PyData.eqv y (tpD z)) = decide (z ∈ l) := by
  rw [List.any_map, Bool.eq_iff_iff, List.any_eq_true, decide_eq_true_iff]
  constructor
  · rintro ⟨y, hy, e⟩
    rw [Function.comp_apply, tpD_eqv, decide_eq_true_iff] at e
    exact e ▸ hy
  · exact fun h => ⟨z, h, by rw [Function.comp_apply, tpD_eqv]; exact decide_eq_true rfl⟩
theorem i_ninTps {K : PySem.W.Frag} {H : Hp} {Q : VK} {p : Addr} {x : V} {xs : List V} {l : List (List Int)} {z : List Int} (h1 : SqL K H p xs) (h2 : All2 (NsAt K H) xs l) (h3 : NsAt K H x z) (h : Q (.bl (!decide (z ∈ l))) H) : rNotInD K x (.ref p) H Q :=
  ⟨tpD z, l.map tpD, h3.dp, .lst h1 (tps_dp h2), tpD_shaped z, tps_shaped l, by rw [tps_any]; exact h⟩
/-! ### tuples cut and joined, whole and empty ones too -/
theorem op_catAK {X : Cx} {K : PySem.W.Frag} (hK : X.K = K := by rfl) : OpR X (binaryOp .Add) (rCatA K) := by
  subst hK
  exact op_catA
theorem sl_tupAK {X : Cx} {K : PySem.W.Frag} (hK : X.K = K := by rfl) : SlR X (rSlA K) := by
  subst hK
  exact sl_tupA
theorem op_repTK {X : Cx} {K : PySem.W.Frag} (hK : X.K = K := by rfl) : OpR X (binaryOp .Mult) (rRepT K) := by
  subst hK
  exact op_repT
section
variable {K : PySem.W.Frag} {H : Hp} {Q : VK} {p q : Addr} {xs ys : List V} {lo hi : Option Int}
theorem i_slA (h0 : SqT K H p xs) (h : ∀ b HN, Same H HN → SqT K HN b (cutV xs lo hi) → Q (.ref b) HN) : rSlA K (.ref p) lo hi H Q :=
  ⟨p, xs, rfl, h0, fun hw => h p H (Same.refl _) (by
    have e : cutV xs lo hi = xs := by
      unfold cutV
      rw [hw.1, hw.2, List.drop_zero, Nat.sub_zero, List.take_length]
    rw [e]
    exact h0), fun _ b hb => h b _ (same_upd (Same.refl _) hb) (.of upd_same)⟩
theorem i_catA (h1 : SqT K H p xs) (h2 : SqT K H q ys) (hl : xs.length + ys.length ≤ sizeLine) (h : ∀ b HN, Same H HN → SqT K HN b (xs ++ ys) → Q (.ref b) HN) : rCatA K (.ref p) (.ref q) H Q :=
  ⟨p, q, xs, ys, rfl, rfl, h1, h2, hl, fun e => h q H (Same.refl _) (by rw [e]; exact h2), fun _ e => h p H (Same.refl _) (by rw [e, List.append_nil]; exact h1), fun _ _ b hb => h b _ (same_upd (Same.refl _) hb) (.of upd_same)⟩
theorem i_repT {k : Int} (h1 : SqT K H p xs) (hx : xs ≠ []) (h2 : 2 ≤ k ∧ k ≤ 1000) (hl : xs.length ≤ 1000) (h : ∀ b HN, Same H HN → SqT K HN b (List.replicate k.toNat xs).flatten → Q (.ref b) HN) : rRepT K (.ref p) (.int k) H Q :=
  ⟨p, k, xs, rfl, rfl, h1, hx, h2.1, h2.2, hl, fun b hb => h b _ (same_upd (Same.refl _) hb) (.of upd_same)⟩
end
theorem cnts_setI {M : Nat} {l : List Idn} {z : Idn} (h : 0 ≤ z.1 ∧ z.1 ≤ (M : Int) - 1) (e : z.2 = (cnt l z.1 : Int) + 1) : (cnts M l).set z.1.toNat z.2 = cnts M (l ++ [z]) := by
  have := cnts_set h e
  rw [← List.map_set] at this
  exact (List.map_inj_right fun _ _ h => by cases h; rfl).mp this
theorem flat_rep {n : Nat} : (List.replicate n [V.int 0]).flatten = (List.replicate n (0 : Int)).map V.int := by
  induction n with
  | zero => rfl
  | succ n ih =>
    rw [List.replicate_succ, List.replicate_succ, List.flatten_cons, List.map_cons, ih]
    rfl
theorem sum_le30 : ∀ {l : List Int}, (∀ n ∈ l, n ≤ 30) → l.sum ≤ 30 * (l.length : Int)
  | [], _ => by simp
  | n :: l, h => by
    have h1 := sum_le30 (l := l) fun x hx => h x (List.mem_cons_of_mem _ hx)
    have h2 := h n (List.mem_cons_self ..)
    rw [List.sum_cons, List.length_cons]
    omega
end My
/-! Own error classes over LookupError and KeyError (KeyError has no __new__ of its own: LookupError's). -/
namespace My
open PySem L2
open PySem.W (excTail excTail_cases excTail_contains excTail_pass)
/-- what is told of a built-in's __init__ -/
structure InF (B initId : String) : Prop where
  plain : plainId initId = true
  entry : entryFor table initId = some Builtin.«BaseException.__init__»
  split : splitId initId = some (B, "__init__")
  kind : builtinKind initId = some .slot
  row : Manifest.signature? initId = some ⟨.positional, "*", B, .self, [⟨"args", .varPos, false⟩]⟩
  noStar : (B != "*") = true
/-- a family of errors that LookupError makes -/
structure Fam (tl : List Value) (B initId : String) : Prop where
  init : InF B initId
  hasB : tl.contains (.type B) = true
  hasL : tl.contains (.type "LookupError") = true
  noA : tl.contains (.type "AttributeError") = false
  noN : tl.contains (.type "NameError") = false
  obj : tl.contains (.type "object") = true
  ne : tl.isEmpty = false
  pass : ∀ self, refuseLoop self "__setattr__" tl = pure ()
  hand : PySem.W.handedIn (.builtin initId) = true
theorem famL : Fam tlL "LookupError" "LookupError.__init__" where
  init := ⟨F.excCall_LookupError.init.plain, F.excCall_LookupError.initEntry, F.excCall_LookupError.initSplit, F.excCall_LookupError.initKind, F.excCall_LookupError.initRow, F.excCall_LookupError.noStar⟩
  hasB := by decide +kernel
  hasL := by decide +kernel
  noA := by decide +kernel
  noN := by decide +kernel
  obj := by decide +kernel
  ne := rfl
  pass := F.store_LookupError.passes
  hand := by decide +kernel
theorem famK : Fam tlK "KeyError" "KeyError.__init__" where
  init := ⟨by decide +kernel, entryFor_alias (id' := "BaseException.__init__") (by rw [fastTable_eq_tree]; kernel_rfl) (by first | rfl | decide +kernel) (by decide +kernel) (by rw [fastTable_eq_tree]; kernel_rfl), by kernel_rfl, by kernel_rfl, by kernel_rfl, by decide +kernel⟩
  hasB := by decide +kernel
  hasL := by decide +kernel
  noA := by decide +kernel
  noN := by decide +kernel
  obj := by decide +kernel
  ne := rfl
  pass := fun self => by kernel_rfl
  hand := by decide +kernel
theorem tail_ne {bmB l : List Value} (hn : bmB.isEmpty = false) (e : excTail bmB l = true) : l.isEmpty = false := by
  rcases excTail_cases l e with ⟨c, r, rfl, _⟩ | rfl
  · rfl
  · exact hn
section
variable {M : Model} {A : Around} {E : Value → Shared → Prop} {h : Heap} {g : Array GenState} {d : Drawn} {t : Nat} {os : OsState}
variable {nm q : Str} {C N : Addr} {bs bm tl : List Value} {hdct : Bool} {sn : List Str} {sub : List Value} {ab : Bool} {col : Option Bool} {dd : Option Addr} {k0 k1 k2 k3 k5 : Option Value} {B newId initId : String}
theorem chk_new {newId : String} (F : ExcBaseFacts B newId initId bmB) (hB : bm.contains (.type B) = true) {rest : List Value} {Q : Unit → Shared → Prop}
    (hC : h.get? C = some (excClassObj nm q C N bs bm hdct sn sub ab col dd k0 k1 k2 k3 k5 newId)) (hq : Q () ⟨h, g, d, t, os⟩) : wpAny M A (checkBuiltinCall newId ⟨.ref C :: rest, []⟩) Q E ⟨h, g, d, t, os⟩ := by
  have hcont : (Value.ref C :: bm).contains (.type B) = true := by rw [List.contains_cons, hB, Bool.or_true]
  have hstar := F.noStar
  simp only [checkBuiltinCall, F.newKind, F.newSplit, F.newRow]
  repeat (first | refine wpAny_loadPart_at hC ?_ | (refine wpAny_isSubtype_exc hC ?_; rw [hcont]) | refine wpAny_staticBase_exc hC ?_ | refine wpAny_madeBy_exc hC ?_ | simp only [bne_self_eq_false, Bool.false_eq_true, if_false] | wp_step)
  exact hq
theorem chk_init (F : InF B initId) (hB : bm.contains (.type B) = true) {e : Addr} {oe : Obj} {rest : List Value} {Q : Unit → Shared → Prop}
    (hC : h.get? C = some (excClassObj nm q C N bs bm hdct sn sub ab col dd k0 k1 k2 k3 k5 newId)) (he : h.get? e = some oe) (hcls : oe.cls = .ref C) (hq : Q () ⟨h, g, d, t, os⟩) :
    wpAny M A (checkBuiltinCall initId ⟨.ref e :: rest, []⟩) Q E ⟨h, g, d, t, os⟩ := by
  have hcB : (Value.ref C :: bm).contains (.type B) = true := by rw [List.contains_cons, hB, Bool.or_true]
  have hshort := F.noStar
  simp only [checkBuiltinCall, F.kind, F.split, F.row]
  repeat (first | (with_reducible refine wpAny_loadPart_at he ?_; rw [hcls]) | with_reducible refine wpAny_loadPart_at hC ?_ | (with_reducible refine wpAny_isSubtype_exc hC ?_; rw [hcB]) | wp_step)
  refine wpAny_onRaise ?_
  rw [show ∀ (a b : String) (n : Nat), Bind.check ⟨.positional, "*", B, .self, [⟨"args", .varPos, false⟩]⟩ a b n (List.map (fun x => x.fst) ({ pos := Value.ref e :: rest } : Args).kw) = pure () from
    fun a b n => check_star_args _ _ _ _ _ _]
  exact wpAny_pure hq
end
section
variable {prog : Program} {w : World} {A : Around} {E : Value → Shared → Prop} {R : Result → Shared → Prop} {h : Heap} {g : Array GenState} {d : Drawn} {t : Nat} {os : OsState}
variable {nm q : Str} {C N : Addr} {bs bm bmB : List Value} {hdct : Bool} {sn : List Str} {sub : List Value} {ab : Bool} {col : Option Bool} {dd : Option Addr} {k0 k1 k2 k3 k5 : Option Value} {B newId initId : String}
theorem new_ownT (F : ExcBaseFacts B newId initId bmB) (hB : bm.contains (.type B) = true) (hA : bm.contains (.type "AttributeError") = false) (hN : bm.contains (.type "NameError") = false) {rest : List Value}
    (hC : h.get? C = some (excClassObj nm q C N bs bm hdct sn sub ab col dd k0 k1 k2 k3 k5 newId))
    (hq : R (.ok (.ret (.ref (h.objs.size + 1)))) ⟨(h.push { cls := .type "tuple", data := .seq rest.toArray }).push
      { cls := .ref C, data := .fields #[.ref h.objs.size, .none, .none, .none, .bool false, .none] }, g, d, t, os⟩) (hrest : rest.length ≤ sizeLine) :
    codeAny (model prog w) A (.builtin newId ⟨.ref C :: rest, []⟩) R ⟨h, g, d, t, os⟩ := by
  have hends := F.ends
  have hcB : (Value.ref C :: bm).contains (.type B) = true := by rw [List.contains_cons, hB, Bool.or_true]
  have hcA : (Value.ref C :: bm).contains (.type "AttributeError") = false := by rw [List.contains_cons, hA]; rfl
  have hcN : (Value.ref C :: bm).contains (.type "NameError") = false := by rw [List.contains_cons, hN]; rfl
  refine codeAny_builtinAt F.entry ?_
  unfold Builtin.«BaseException.__new__»
  refine wpAt_bind ?_
  show wpAt _ _ _ (stack >>= _) _ _ _
  refine wpAt_bind (wpAt_stack fun p below => wpAt_of_wpAny ?_)
  wp_walk
  refine wpAt_of_wpAny ?_
  rw [F.owner]
  repeat (first | with_reducible refine wpAny_madeHere_exc F.canon hC ?_ | with_reducible refine wpAny_loadPart_at hC ?_ | (with_reducible refine wpAny_isSubtype_exc hC ?_; first | rw [hcB] | rw [hcA] | rw [hcN]) | wp_step)
  show R _ _
  rw [Heap.size_push]
  exact hq
theorem type_callT (F : ExcBaseFacts B newId initId bmB) (hB : bm.contains (.type B) = true) (hA : bm.contains (.type "AttributeError") = false) (hN : bm.contains (.type "NameError") = false) {rest : List Value} {fI : Addr} {Q : Fin → Shared → Prop}
    (hC : h.get? C = some (excClassObj nm q C N bs bm hdct sn sub ab col dd k0 k1 k2 k3 k5 newId))
    (hi : W.Looks (model prog w) h (typeLookup (.ref C) "__init__") (some (.ref fI))) (hb : ∀ self, W.Looks (model prog w) h (bindSpecial (.ref fI) self) (.ref fI, [self])) (hrest : rest.length ≤ sizeLine)
    (hq : codeAny (model prog w) A (.call (.ref fI) ⟨.ref (h.objs.size + 1) :: rest, []⟩)
      (fun r s' => match r with | .ok (.ret v) => v = .none ∧ Q (.done (.ret (.ref (h.objs.size + 1)))) s' | .ok _ => False | .error e => E e s')
      ⟨(h.push (W.kdv_tup rest)).push (PySem.HandSPX.excO C h.objs.size), g, d, t, os⟩) :
    wpAny (model prog w) A (Builtin.«type.__call__» ⟨.ref C :: rest, []⟩) Q E ⟨h, g, d, t, os⟩ := by
  repeat (first | with_reducible refine wpAny_loadPart_at hC ?_ | with_reducible refine wpAny_madeBy_exc hC ?_ | wp_step)
  refine codeAny_call_builtin_code (Code.quiet_builtin _ F.quiet) (chk_new F hB hC ?_)
  refine new_ownT F hB hA hN hC ?_ hrest
  show wpAny _ _ _ _ _ _
  have k : ∀ b o, h.get? b = some o → ((h.push (W.kdv_tup rest)).push (PySem.HandSPX.excO C h.objs.size)).get? b = some o := fun b o e => Heap.get?_push_of_some _ (Heap.get?_push_of_some _ e)
  have hC₁ := k _ _ hC
  have hget : ((h.push (W.kdv_tup rest)).push (PySem.HandSPX.excO C h.objs.size)).get? (h.objs.size + 1) = some (PySem.HandSPX.excO C h.objs.size) := by heap_get
  have hcC : (Value.ref C :: bm).contains (.ref C) = true := by simp
  have i1 := hi.keeps k
  have b1 := (hb (.ref (h.objs.size + 1))).keeps k
  unfold isInstance
  repeat (first | with_reducible refine wpAny_loadPart_at hget ?_ | (with_reducible refine wpAny_isSubtype_exc hC₁ ?_; rw [hcC]) | wp_step)
  show wpAny _ _ (typeLookup (.ref C) _) _ _ _
  refine i1.at ?_
  refine wpAny_holding (wpAny_bind (b1.at ?_))
  refine wpAny_bind (wpAny_call (codeAny_mono hq fun r s' z => ?_))
  rcases r with e | (v | _ | _ | _) <;> first | exact z | exact z.elim | skip
  obtain ⟨rfl, z⟩ := z
  first
    | exact wpAny_pure (wpAny_pure z)
    | (wp_walk; exact z)
theorem call_ownT (F : ExcBaseFacts B newId initId bmB) (hB : bm.contains (.type B) = true) (hA : bm.contains (.type "AttributeError") = false) (hN : bm.contains (.type "NameError") = false) {rest : List Value} {fI : Addr}
    (hC : h.get? C = some (excClassObj nm q C N bs bm hdct sn sub ab col dd k0 k1 k2 k3 k5 newId))
    (hi : W.Looks (model prog w) h (typeLookup (.ref C) "__init__") (some (.ref fI))) (hb : ∀ self, W.Looks (model prog w) h (bindSpecial (.ref fI) self) (.ref fI, [self])) (hrest : rest.length ≤ sizeLine)
    (hq : codeAny (model prog w) (A.under (.builtin "type.__call__" ⟨.ref C :: rest, []⟩)) (.call (.ref fI) ⟨.ref (h.objs.size + 1) :: rest, []⟩) (W.InitBack (h.objs.size + 1) R)
      ⟨(h.push (W.kdv_tup rest)).push (PySem.HandSPX.excO C h.objs.size), g, d, t, os⟩) :
    codeAny (model prog w) A (.call (.ref C) ⟨rest, []⟩) R ⟨h, g, d, t, os⟩ := by
  have f1 := tc_lookup
  have f2 := tc_bind (.ref C)
  have hTy : (⟨h, g, d, t, os⟩ : Shared).TypeIs (.ref C) "type" := ⟨_, hC, rfl⟩
  refine codeAny_of_tree ?_
  show wpAny _ _ (callAny (.ref C) _) _ _ _
  repeat (any_goals (first | assumption | with_reducible refine wpAny_loadPart_at hC ?_ | wp_step))
  refine ⟨rfl, ?_⟩
  refine codeAny_call_builtin_at (Code.quiet_builtin _ (by decide +kernel)) entry_typeCall (wpAny_check_type_call_sub hC (type_callT F hB hA hN hC hi hb hrest ?_))
  refine codeAny_mono hq fun r s' z => ?_
  rcases r with e | (v | _ | _ | _) <;> exact z
/-- B.__init__(e, ..) -/
theorem init_baseT (F : InF B initId) (hB : bm.contains (.type B) = true) {e t0 : Addr} {rest : List Value}
    (hC : h.get? C = some (excClassObj nm q C N bs bm hdct sn sub ab col dd k0 k1 k2 k3 k5 newId)) (he : h.get? e = some (PySem.HandSPX.excO C t0)) (hrest : rest.length ≤ sizeLine)
    (hq : ∀ h' t1, (∀ b o, b ≠ e → h.get? b = some o → h'.get? b = some o) → h'.get? e = some (PySem.HandSPX.excO C t1) → R (.ok (.ret .none)) ⟨h', g, d, t, os⟩) :
    codeAny (model prog w) A (.call (.builtin initId) ⟨.ref e :: rest, []⟩) R ⟨h, g, d, t, os⟩ := by
  refine codeAny_call_builtin F.plain F.entry (chk_init F hB hC he rfl ?_)
  wp_walk
  refine hq _ h.objs.size (fun b o hb ho => ?_) ?_
  · rw [Heap.get?_update_other _ _ (Ne.symm hb)]
    exact Heap.get?_push_of_some _ ho
  · rw [Heap.get?_update_self _ (Heap.get?_push_of_some _ he) rfl]
    rfl
open Builtin.ObjectAttr in
theorem exc_osaT {K : W.Frag} {name : Str} {tk : Tok} {v : Value} {x C : Addr} {fv : Array Value} {cd : ClassData} {tl : List Value} {B initId : String} (fam : Fam tl B initId)
    (X : K.In h) (hx : h.get? x = some { cls := .ref C, data := .fields fv }) (hcd : W.clsIn K C = some cd) (hm : excTail tl cd.mro = true) (hh : cd.hasDict = true) (ha : W.findIn K (.ref C) name = some none)
    (hq : ∀ h' tk' dx, (∀ b o, b ≠ x → h.get? b = some o → h'.get? b = some o) → h.objs.size ≤ dx → dx ≠ x → h'.get? x = some { cls := .ref C, dict := some dx, data := .fields fv } →
      h'.Ns1 dx (fun y => if y = name then some v else none) → R (.ok (.ret .none)) ⟨h', g, d, tk', os⟩) :
    codeAny (model prog w) A (.call (.builtin "object.__setattr__") ⟨[.ref x, .str name tk, v], []⟩) R ⟨h, g, d, t, os⟩ := by
  have I : W.InstAt h x { cls := .ref C, data := .fields fv } C none := ⟨hx, rfl, rfl, trivial⟩
  have SF := F.store_object
  have ne := tail_ne fam.ne hm
  have hob : cd.mro.contains (.type "object") = true := (excTail_contains "object" _ hm).trans fam.obj
  have hxs : x ≠ h.objs.size := Nat.ne_of_lt (Heap.lt_size hx)
  have sub : W.Looks (model prog w) h (isInstance (.ref x) (.type "object")) true := I.type.andThen (W.looks_mroIn X (by unfold W.mroIn; rw [hcd, Option.bind_some, if_neg (by rw [ne]; decide), hob]))
  refine codeAny_call_builtin SF.slot.plain SF.entry (@W.check_slot (model prog w) _ _ ⟨h, g, d, t, os⟩ "object.__setattr__" "object" "__setattr__" (.ref x) [.str name tk, v] [] _ SF.kind SF.split sub (SF.args (.ref x) (.str name tk) v) ?_)
  have hmr : W.Looks (model prog w) h (mroOf (.ref C)) cd.mro := (W.looks_clsIn X hcd).andThen .now
  have L3 : W.Looks (model prog w) h (storeTaker? none) none := .now
  have hcls : W.Looks (model prog w) h (classData C) cd := W.looks_clsIn X hcd
  rw [W.osa_eq, refuse_eq]
  refine wpAny_bind (wpAny_bind (I.type.at (wpAny_bind (hmr.at ?_))))
  rw [excTail_pass _ (fam.pass _) _ hm]
  refine wpAny_pure (wpAny_bind (I.type.at (wpAny_bind ((W.looks_findIn X ha).at (wpAny_bind (L3.at ?_))))))
  show wpAny _ _ (storeInOwnDict (.ref x) (.ref C) (.str name tk) name v false) _ _ _
  obtain ⟨nm, bs, mro, ns, qn, hd, sn, sb, ab, col, del⟩ := cd
  dsimp only at hh
  subst hh
  unfold storeInOwnDict ownDictForStores
  repeat (first | with_reducible refine PySem.HandSPX.store_in_new ?_ ?_ | with_reducible refine wpAny_loadPart_at hx ?_ | with_reducible refine hcls.at ?_ | wp_step)
  · exact ⟨_, #[], _, (Heap.get?_update_ne _ _ _ _ hxs.symm).trans (Heap.get?_push_at rfl rfl), rfl, fun e he => absurd he (by simp), fun _ => rfl⟩
  · intro h' tk' hn' hs
    have hx₁ : (h.push { cls := .type "dict", data := .dict #[] }).get? x = some { cls := .ref C, data := .fields fv } := Heap.get?_push_of_some _ hx
    refine hq h' tk' h.objs.size (fun b o hb ho => ?_) (Nat.le_refl _) hxs.symm ?_ hn'
    · exact (hs.2 b (Nat.ne_of_lt (Heap.lt_size ho))).trans ((Heap.get?_update_ne _ _ _ _ hb).trans (Heap.get?_push_of_some _ ho))
    · exact (hs.2 x hxs).trans (Heap.get?_update_self _ hx₁ rfl)
end
/-- what the written part says of the class -/
structure OexT (K : PySem.W.Frag) (tl : List Value) (C : Addr) : Prop where
  cls : ∃ nm q N bs bm sn sub ab col dd k0 k1 k2 k3 k5, K.lookup C = some (excClassObj nm q C N bs bm true sn sub ab col dd k0 k1 k2 k3 k5 "LookupError.__new__") ∧ excTail tl bm = true
  sa : PySem.W.findIn K (.ref C) "__setattr__" = some (some (.builtin "object.__setattr__"))
  exC : PySem.W.subIn K (.ref C) (.type "BaseException") = some true
  tyC : PySem.W.typeIn K (.ref C) = some (.type "type")
  kC : PySem.W.keepIn K (.ref C) = true
section
variable {X : Cx} {pins : List (Addr × Obj)} {σ : St} {H : Hp} {s : Shared} {a C dx : Addr} {f : Str} {y : V} {u : Value} {fs : List (Str × V)} {Q : Unit → Shared → Prop} {E : Value → Shared → Prop} {A : Around} {tl : List Value} {B initId : String}
/-- self.f = y, the first one -/
theorem ost_newT (fam : Fam tl B initId) (T : OexT X.K tl C) (I : Inv X pins σ H s) (e : H a = some (exo a C none)) (hno : PySem.W.findIn X.K (.ref C) f = some none) (ry : RelV y u)
    (h : ∀ dx s', H dx = none → dx ≠ a → Inv X pins σ (upd (upd H dx (exd dx [(f, y)])) a (exo a C (some dx))) s' → Q () s') : wpAny (model X.prog X.w) A (setAttr (.ref a) f u) Q E s := by
  obtain ⟨nm, q, N, bs, bm, sn, sub, ab, col, dd, k0, k1, k2, k3, k5, hC, hbm⟩ := T.cls
  have hcl : PySem.W.clsIn X.K C = some { name := nm, bases := bs, mro := .ref C :: bm, ns := N, qualname := q, hasDict := true, slotNames := sn, subclasses := sub, abstract := ab, collection := col, hasDel := false } := by unfold PySem.W.clsIn; rw [hC] <;> rfl
  obtain ⟨t1, ho⟩ := exo_at I.hok e
  obtain ⟨hp, g, d, t, os⟩ := s
  refine PySem.W.set_plain I.kIn (ox := { cls := .ref C, dict := none, data := .fields #[.ref t1, .none, .none, .none, .bool false, .none] }) (od := none) ⟨ho, rfl, rfl, trivial⟩ T.sa ?_
  refine exc_osaT fam I.kIn ho hcl (show excTail tl (.ref C :: bm) = true from hbm) rfl hno (fun h' tk' dx k dn dne hx hn => ?_)
  have hnd : H dx = none := I.hok.fresh dn
  have nd : ∀ {b : Addr} {o : Obj}, hp.get? b = some o → b ≠ dx := fun {b o} q => Nat.ne_of_lt (Nat.lt_of_lt_of_le (Heap.lt_size q) dn)
  have na : ∀ {b : Addr}, H b = none → b ≠ a := fun {b} n z => by
    rw [z, e] at n
    cases n
  have Un1 : Un X.fs [] H (upd (upd H dx (exd dx [(f, y)])) a (exo a C (some dx))) hp h' := {
    keep := fun b o q n _ _ => k b o (na n) q
    slot := fun b o q n _ _ => ⟨o.slots, k b o (na n) q⟩
    free := fun b o q n _ => by rw [upd_ne (na n), upd_ne (nd q)]; exact n
    there := fun b o q _ => by
      by_cases hb : b = a
      · exact ⟨_, by rw [hb]; exact hx⟩
      · exact ⟨o, k b o hb q⟩
    tups := fun b xs q => by rw [upd_ne (at_ne e q exo_tup), upd_ne (ne_of_none q hnd)]; exact q
    frzs := fun b o v q => by rw [upd_ne (at_ne e q exo_frz), upd_ne (ne_of_none q hnd)]; exact q
    tbls := fun b ps q => ⟨#[], by rw [upd_ne (at_ne e q exo_tbl), upd_ne (ne_of_none q hnd), q]; simp⟩ }
  refine h dx _ hnd dne (I.un (t' := tk') Un1 fun b o q => ?_)
  by_cases hb : b = a
  · subst hb
    rw [upd_same] at q
    cases q
    exact exo_ok hx
  · rw [upd_ne hb] at q
    by_cases hd : b = dx
    · subst hd
      rw [upd_same] at q
      cases q
      exact exd_ok hn (relO_put (fs := []) ry fun g => True.intro)
    · rw [upd_ne hd] at q
      exact (I.hok b o q).stay (fun c v hc z => k c v (by
          rcases hc with hc | hc
          · rw [hc]
            exact hb
          · exact at_ne e hc exo_own) z)
        (fun c hc => by rw [upd_ne (at_ne e hc exo_own), upd_ne (ne_of_none hc hnd)]; exact hc) (fun c xs hc => by rw [upd_ne (at_ne e hc exo_tup), upd_ne (ne_of_none hc hnd)]; exact hc)
/-- B.__init__(self, ..): nothing of it is told -/
theorem oinit_okT {us : List Value} {Q : Value → Shared → Prop} (fam : Fam tl B initId) (T : OexT X.K tl C) (I : Inv X pins σ H s) (e : H a = some (exo a C none)) (hl : us.length ≤ sizeLine) (h : ∀ s', Inv X pins σ H s' → Q .none s') :
    wpAny (model X.prog X.w) A (call (.builtin initId) (.ref a :: us)) Q E s := by
  obtain ⟨nm, q, N, bs, bm, sn, sub, ab, col, dd, k0, k1, k2, k3, k5, hC, hbm⟩ := T.cls
  obtain ⟨t1, ho⟩ := exo_at I.hok e
  obtain ⟨hp, g, d, t, os⟩ := s
  refine wpAny_call (init_baseT fam.init ((excTail_contains B bm hbm).trans fam.hasB) (I.kIn _ _ hC) ho hl fun h' t2 k hx => ?_)
  have J := I.write (t' := t) (x := a) (e := a) (o := exo a C none) (by rw [e]; exact True.intro) (.inl rfl) k ⟨_, hx⟩ (exo_ok hx)
  have eu : upd H a (exo a C none) = H := by
    funext b
    by_cases hb : b = a
    · rw [hb, upd_same, e]
    · rw [upd_ne hb]
  rw [eu] at J
  exact h _ J
end
/-- B.__init__(self, ..) -/
def tVeIT (K : PySem.W.Frag) (tl : List Value) (ta : TA) : TE := fun σ H Q => ta σ H fun vs H1 => ∃ (a C : Addr) (ws : List V), vs = .ref a :: ws ∧ ws.length ≤ 1000 ∧ OexT K tl C ∧ H1 a = some (exo a C none) ∧ Q .non H1
/-- self.f = e, the first one -/
def tOstT (K : PySem.W.Frag) (tl : List Value) (f : Str) (to te : TE) : TS := fun D σ H => te σ H fun y H1 => to σ H1 fun x H2 => ∃ a C : Addr, x = .ref a ∧ OexT K tl C ∧ PySem.W.findIn K (.ref C) f = some none ∧
  (H2 a = some (exo a C none) ∧ ∀ dx, H2 dx = none → dx ≠ a → D.nx σ (upd (upd H2 dx (exd dx [(f, y)])) a (exo a C (some dx))))
section
variable {X : Cx} {CX : CXT} {k : Nat} {fd : FuncData} {ps : List Str} {sp : Sp} {x : Str} {p pos : Pos} {o e : Expr} {es : List Expr} {to te : TE} {t ta : TA} {f : Str} {p' p1 p2 : Pos} {tl : List Value} {B initId : String}
theorem ps_ostT (fam : Fam tl B initId) (ho : PE X o to) (he : PE X e te) (hs : swapsWith e (some (.Attribute o f p')) pos.line X.env = pure false := by rfl) : PS X (.Assign [.Attribute o f p'] e pos) (tOstT X.K tl f to te) := by
  refine ⟨fun pins s σ H D I h => ?_⟩
  refine plainObj_wpAny_Assign_Attribute (thn (he.run pins s σ H _ I h) fun v s1 ⟨y, H1, I1, r1, q1⟩ => thn (ho.run pins s1 σ H1 _ I1 q1) fun u s2 ⟨x, H2, I2, r2, a, C, ex, T, hno, q⟩ => ?_) hs
  subst ex
  obtain rfl : u = Value.ref a := r2
  obtain ⟨ea, q⟩ := q
  exact ost_newT fam T I2 ea hno r1 fun dx s' n ne J => ⟨σ, _, J, q dx n ne⟩
theorem pe_hinitT (fam : Fam tl B initId) {H0 : Addr} {pl : Sem Bool} (hg : Gl X x) (hm : X.mg x = some (.ref H0)) (hs : PySem.W.specialIn X.K (.ref H0) "__getattribute__" = some (some (.builtin "type.__getattribute__"))) (hrd : PySem.W.readsIn X.K H0 (.type "type") = true)
    (hf : PySem.W.findCls X.K (.ref H0) (.type "type") "__init__" = some (.val (.builtin initId))) (ha : PA X (e :: es) t) (hdb : (x == ("__debug__" : Str)) = false := by decide)
    (hc : eval (.Call (.Attribute (.Name x p1) "__init__" p2) (e :: es) [] pos) X.env = (do let ov ← eval (.Name x p1) X.env; standAt p2.atName; let (f, first) ← holding [ov] (getMethod ov "__init__" pl); callWith pos f first (backTo pos (starEach (e :: es) X.env)) (backToKw pos (keywordEach [] X.env))) := by rfl)
    (he : starEach (e :: es) X.env = (false, eval e X.env) :: starEach es X.env := by rfl) (hpl : (backTo pos (starEach es X.env)).any (·.1) = false := by rfl) : PE X (.Call (.Attribute (.Name x p1) "__init__" p2) (e :: es) [] pos) (tVeIT X.K tl t) := by
  refine ⟨fun pins s σ H Q I h => PySem.W.methodCall_KW (ld_glob I hg hm ?_ hdb) hc⟩
  refine PySem.W.method_cls I.kIn hs (PySem.W.cls_value I.kIn hrd hf fam.hand ?_)
  show wpAny _ _ (callWith pos (Value.builtin initId) [] (backTo pos (starEach (e :: es) X.env)) []) _ _ _
  refine PyProof.Rows.callWith_method1 (thn (ha.run pos pins _ σ H _ (I.tok _) h) fun us s1 ⟨vs, H1, I1, r1, a, C, ws, ev, hl, T, ea, q⟩ => ?_) he hpl
  subst ev
  cases r1 with
  | @cons _ u0 _ ur ra rw' =>
    cases (show u0 = Value.ref a from ra)
    refine oinit_okT fam T I1 ea ?_ fun s' J => ⟨.non, H1, J, rfl, q⟩
    rw [← Paired.length rw']
    exact line_le hl
theorem pmk_oexT {C fI : Addr} {ds : List Value} {dvs : List V} (fam : Fam tl B initId) (T : OexT X.K tl C) (iC : PySem.W.findIn X.K (.ref C) "__init__" = some (some (.ref fI))) (tI : PySem.W.typeIn X.K (.ref fI) = some (.type "function"))
    (F1 : FnOk X.prog X.w X.K X.mg X.base CX k fI fd ps sp) (hr : Room (k + 1) X.A) (hb : Binds X.K fd ps ds) (hd : Vals dvs ds) (hx : Passes CX X (fun _ _ _ => False)) (hg : Gl X x) (hm : X.mg x = some (.ref C)) (ha : PA X (e :: es) ta)
    (hdb : (x == ("__debug__" : Str)) = false := by decide) (he : starEach (e :: es) X.env = (false, eval e X.env) :: starEach es X.env := by rfl) (hpl : (backTo pos (starEach es X.env)).any (·.1) = false := by rfl) :
    PMk X (.Call (.Name x p) (e :: es) [] pos) (tMkO C sp dvs ta) := by
  intro pins s σ H Q I h
  obtain ⟨nm, q, N, bs, bm, sn, sub, ab, col, dd, k0, k1, k2, k3, k5, hC, hbm⟩ := T.cls
  refine wpAny_Call_Name_kw (ld_glob I hg hm ?_ hdb)
  refine PySem.W.callWith_K (h₀ := X.base) I.ok.mod.kin T.kC (thn (ha.run pos pins s σ H _ I h) fun us s1 ⟨vs, H1, I1, r1, hz, q1⟩ => ⟨I1.kIn, ?_⟩) he hpl
  show wpAny _ _ (call (.ref C) us) _ _ _
  obtain ⟨hp, g, dr, tk, os⟩ := s1
  have hsz : hp.objs.size ≤ hp.objs.size + 1 := Nat.le_succ _
  have hn : H1 (hp.objs.size + 1) = none := I1.hok.fresh hsz
  have hq := q1 (hp.objs.size + 1) hn
  have kk : ∀ b o, hp.get? b = some o → ((hp.push (PySem.W.kdv_tup us)).push (PySem.HandSPX.excO C hp.objs.size)).get? b = some o := fun b o e => Heap.get?_push_of_some _ (Heap.get?_push_of_some _ e)
  have hget : ((hp.push (PySem.W.kdv_tup us)).push (PySem.HandSPX.excO C hp.objs.size)).get? (hp.objs.size + 1) = some (PySem.HandSPX.excO C hp.objs.size) := by heap_get
  have I2 : Inv X pins σ (upd H1 (hp.objs.size + 1) (exo (hp.objs.size + 1) C none)) ⟨(hp.push (PySem.W.kdv_tup us)).push (PySem.HandSPX.excO C hp.objs.size), g, dr, tk, os⟩ :=
    I1.laid (t' := tk) (a := hp.objs.size + 1) (o := exo (hp.objs.size + 1) C none) (h' := (hp.push (PySem.W.kdv_tup us)).push (PySem.HandSPX.excO C hp.objs.size)) kk hsz (exo_ok hget)
  have r2 : Vals (V.ref (hp.objs.size + 1) :: (vs ++ dvs)) (Value.ref (hp.objs.size + 1) :: (us ++ ds)) := .cons rfl (r1.append hd)
  have hl : (Value.ref (hp.objs.size + 1) :: us ++ ds).length = ps.length := by
    have e := r2.length
    rw [F1.len _ _ _ _ hq] at e
    exact e.symm
  have hus : us.length ≤ sizeLine := by
    rw [← Paired.length r1, sizeLine_eq]
    omega
  refine wpAny_call (call_ownT F.excBase_LookupError ((excTail_contains "LookupError" bm hbm).trans fam.hasL) ((excTail_contains "AttributeError" bm hbm).trans fam.noA) ((excTail_contains "NameError" bm hbm).trans fam.noN) (I1.kIn _ _ hC) (PySem.W.looks_findIn I1.kIn iC) (fun self => PySem.W.bind_fn I1.kIn self tI) hus
    (codeAny_mono (F1.run _ X.stack _ _ ⟨Value.ref (hp.objs.size + 1) :: us, []⟩ (Value.ref (hp.objs.size + 1) :: (us ++ ds)) _ _ (fun _ _ _ => False) (hr.make C us []) (I2.env0.make C us []) (hb _ (Value.ref (hp.objs.size + 1) :: us) I2.kIn hl) r2 hq) fun r s' hq' => ?_))
  cases r with
  | error er => exact hx pins σ _ _ er s' I2 hq'
  | ok fl =>
    cases fl with
    | ret u =>
      obtain ⟨v, H2, os2, bare2, un2, hok2, rv, ev, d, fs, ea, ed, hd1, q2⟩ := hq'
      subst ev
      obtain ⟨h2, g2, d2, t2, os'⟩ := s'
      exact ⟨rv, mk_end (raises_own T.exC T.tyC) I1 hsz kk un2 hok2 os2 bare2 ea ed hd1 q2⟩
    | next => exact False.elim hq'
    | brk => exact False.elim hq'
    | cont => exact False.elim hq'
theorem pmk_excT {C fI : Addr} {fl : Str} (fam : Fam tl B initId) (T : OexT X.K tl C) (iC : PySem.W.findIn X.K (.ref C) "__init__" = some (some (.ref fI))) (tI : PySem.W.typeIn X.K (.ref fI) = some (.type "function"))
    (F1 : FnOk X.prog X.w X.K X.mg X.base CX0 k fI fd ps (spExI C fl)) (hr : Room (k + 1) X.A) (hb : Binds X.K fd ps []) (hg : Gl X x) (hm : X.mg x = some (.ref C)) (ha : PA X (e :: es) t)
    (hdb : (x == ("__debug__" : Str)) = false := by decide) (he : starEach (e :: es) X.env = (false, eval e X.env) :: starEach es X.env := by rfl) (hpl : (backTo pos (starEach es X.env)).any (·.1) = false := by rfl) : PMk X (.Call (.Name x p) (e :: es) [] pos) (tExc C fl t) := by
  intro pins s σ H Q I h
  refine pmk_oexT fam T iC tI F1 hr hb .nil (fun _ _ _ _ _ _ _ z => z.elim) hg hm (pa_M ha) hdb he hpl pins s σ H Q I ⟨_, h, fun vs H1 hv => ?_⟩
  obtain ⟨v, rfl, hq⟩ := hv
  refine ⟨(by show 1 ≤ 1000; decide), fun a na => ⟨a, v, rfl, upd_same, fun d hd nd => ⟨rfl, d, [(fl, v)], upd_same, ?_, ?_, ?_⟩⟩⟩
  · rw [upd_ne nd, upd_same]
  · rw [upd_ne nd] at hd
    exact hd
  · have hd' : H1 d = none := by
      rw [upd_ne nd] at hd
      exact hd
    have e1 : upd (del (upd (upd (upd H1 a (exo a C none)) d (exd d [(fl, v)])) a (exo a C (some d))) a) d (.xd [(fl, v)]) = upd H1 d (.xd [(fl, v)]) := by
      funext b
      by_cases h1 : b = d
      · rw [h1, upd_same, upd_same]
      · rw [upd_ne h1, upd_ne h1]
        by_cases h2 : b = a
        · rw [h2, del_same, na]
        · rw [del_ne h2, upd_ne h2, upd_ne h1, upd_ne h2]
    rw [e1]
    exact hq d hd'
end
/-- an own error class's __init__, read -/
theorem exc_readT {K : PySem.W.Frag} {tl : List Value} {C : Addr} {f : Str} {vs : List V} {H : Hp} {Q : VK} {E : XK} {N : List Str} {z : Str} (hN : N.length = 2) (T : OexT K tl C) (no : PySem.W.findIn K (.ref C) f = some none) (h : spExI C f vs H Q E) :
    tSeq (tDrop (tVeIT K tl (tCons (tVar 0) (tCons (tC (.str z)) tNil)))) (tOstT K tl f (tVar 0) (tVar 1)) { nx := fun _ H' => Q .non H', rt := Q } (start N vs) H := by
  obtain ⟨a, v, rfl, ha, k⟩ := h
  refine i_seq (i_drop ?_)
  show tVeIT K tl _ _ _ _
  refine ⟨_, rfl, ?_⟩
  refine i_c (i_nil ⟨a, C, [.str z], rfl, Nat.le_of_ble_eq_true rfl, T, ha, ?_⟩)
  exact ⟨v, rfl, .ref a, rfl, a, C, rfl, T, no, ha, fun d hd nd => k d hd nd⟩
theorem oexBT_ok {tl : List Value} {K : PySem.W.Frag} {C : Addr} (q : oexBT tl K C = true) : ∃ nm q N bs bm sn sub ab col dd k0 k1 k2 k3 k5, K.lookup C = some (excClassObj nm q C N bs bm true sn sub ab col dd k0 k1 k2 k3 k5 "LookupError.__new__") ∧ PySem.W.excTail tl bm = true := by
  unfold oexBT at q
  split at q
  · rename_i t dd cd sl ho
    split at q
    · rename_i C' bm k0 k1 k2 k3 n k5 hm hs
      simp only [Bool.and_eq_true, beq_iff_eq, Bool.not_eq_true'] at q
      obtain ⟨⟨⟨⟨⟨rfl, rfl⟩, rfl⟩, hdel⟩, hd⟩, hv⟩ := q
      obtain ⟨nm, bs, mro, ns, qn, hd', sn, sub, ab, col, del⟩ := cd
      dsimp only at hm hdel hd
      subst hm hdel hd
      have hsl : sl = #[k0, k1, k2, k3, some (.builtin "LookupError.__new__"), k5] := by
        obtain ⟨l⟩ := sl
        simp only at hs
        rw [hs]
      subst hsl
      exact ⟨_, _, _, _, _, _, _, _, _, _, _, _, _, _, _, ho, hv⟩
    · cases q
  · cases q
end My
/-! lists made by a comprehension from lists of known things; tuples that tell flat things -/
namespace My
open PySem L2
/-- how a thing is told by a tuple of flat ones -/
structure Tc {α : Type} (vs : α → List V) : Prop where
  fl : ∀ a, (vs a).all iS = true
  inj : ∀ {a b}, vs a = vs b → a = b
def TpA {α : Type} (vs : α → List V) (H : Hp) (x : V) (a : α) : Prop := ∃ q, x = .ref q ∧ H q = some (.tup (vs a))
section
variable {α β : Type} {vs : α → List V} {H H' : Hp} {x y : V} {a b : α} {K : PySem.W.Frag} {n : Nat}
theorem TpA.same (s : Same H H') (h : TpA vs H x a) : TpA vs H' x a := by
  obtain ⟨q, e, h⟩ := h
  exact ⟨q, e, s _ _ h⟩
theorem TpA.keeps (k : ∀ b xs, H b = some (.tup xs) → H' b = some (.tup xs)) (h : TpA vs H x a) : TpA vs H' x a := by
  obtain ⟨q, e, h⟩ := h
  exact ⟨q, e, k _ _ h⟩
theorem TpA.stays : Stays (TpA vs) := ⟨fun hD s h => h.keeps (MdX.tp hD s), fun s h => h.same s⟩
theorem TpA.eqv (t : Tc vs) (hx : TpA vs H x a) (hy : TpA vs H y b) [Decidable (a = b)] : EqV K H (n + 1) x y (decide (a = b)) := by
  obtain ⟨p, rfl, hp⟩ := hx
  obtain ⟨q, rfl, hq⟩ := hy
  by_cases c : p = q
  · subst c
    rw [hp] at hq
    have e := t.inj (HO.tup.inj (Option.some.inj hq))
    rw [decide_eq_true e]
    exact .one
  · have s := EqVs.iS (K := K) (H := H) (n := n) (t.fl a) (t.fl b)
    have e : decide (vs a = vs b) = decide (a = b) := by
      rw [decide_eq_decide]
      exact ⟨t.inj, fun e => by rw [e]⟩
    rw [e] at s
    exact .tups c (.of hp) (.of hq) s
/-- two rows of things, one by one -/
theorem EqVs.rows {R S : V → α → Prop} [DecidableEq α] (h : ∀ x y a b, R x a → S y b → EqV K H n x y (decide (a = b))) : ∀ {xs ys : List V} {as bs : List α}, All2 R xs as → All2 S ys bs → EqVs K H n xs ys (decide (as = bs))
  | [], [], [], [], _, _ => .nil
  | [], y :: ys, [], q :: qs, _, _ => .nilc
  | x :: xs, [], r :: rs, [], _, _ => .cnil
  | x :: xs, y :: ys, r :: rs, q :: qs, h1, h2 => by
    have t := EqVs.cons (h x y r q (h1.2 0 x r rfl rfl) (h2.2 0 y q rfl rfl)) (EqVs.rows h (xs := xs) (ys := ys) (as := rs) (bs := qs) ⟨Nat.succ.inj h1.1, fun i a b ha hb => h1.2 (i + 1) a b ha hb⟩ ⟨Nat.succ.inj h2.1, fun i a b ha hb => h2.2 (i + 1) a b ha hb⟩)
    have e : (decide (r = q) && decide (rs = qs)) = decide (r :: rs = q :: qs) := by
      rw [Bool.eq_iff_iff]
      simp
    rw [e] at t
    exact t
  | [], _, _ :: _, _, h, _ => nomatch h.1
  | _ :: _, _, [], _, h, _ => nomatch h.1
  | _, [], _, _ :: _, _, h => nomatch h.1
  | _, _ :: _, _, [], _, h => nomatch h.1
theorem TpA.eqvs [DecidableEq α] (t : Tc vs) {xs ys : List V} {as bs : List α} (h1 : All2 (TpA vs H) xs as) (h2 : All2 (TpA vs H) ys bs) : EqVs K H (n + 1) xs ys (decide (as = bs)) := EqVs.rows (fun _ _ _ _ u v => TpA.eqv t u v) h1 h2
end
theorem range_map {α β : Type} (f : α → β) : ∀ as : List α, (List.range as.length).filterMap (fun i => (as[i]?).map f) = as.map f := by
  intro as
  induction as with
  | nil => rfl
  | cons b bs ih =>
    rw [List.length_cons, List.range_succ_eq_map, List.filterMap_cons, List.filterMap_map]
    have e : (fun i => ((b :: bs)[i]?).map f) ∘ Nat.succ = fun i => (bs[i]?).map f := by
      funext i
      simp
    rw [e, ih]
    rfl
section
variable {α β : Type} {K : PySem.W.Frag} {a : Addr} {xs : List V} {as : List α} {g : TG} {tt : TT} {te : TE} {vs : List Nat} {σ : L2.St} {H1 : Hp} {D : Addr} {Qd : Hp → Prop}
/-- [f(x) for x in xs] -/
theorem lc_mpL (R : Hp → V → α → Prop) (R2 : Hp → V → β → Prop) (f : α → β) (st : ∀ {H H' : Hp} {x : V} {c : α}, Same H H' → R H x c → R H' x c) (st2 : Stays R2) (h0 : SqL K H1 a xs) (hx : All2 (R H1) xs as) (hD : H1 D = none) (hl : xs.length < sizeLine)
    (hs : ∀ x c, c ∈ as → ∀ H (Q : VK) (Rr : Hp → Prop), Same H1 H → R H x c → (∃ acc, H D = some (.lst acc)) → (∀ y H', Same H H' → R2 H' y (f c) → Q y H') →
      g x (wipe σ vs) H fun σ2 H2 => wipe σ2 vs = wipe σ vs ∧ tt σ2 H2 fun b H3 => if b = true then te σ2 H3 Q else Rr H3)
    (hd : ∀ H (ys : List V), Same H1 H → H D = some (.lst ys) → All2 (R2 H) ys (as.map f) → Qd H) :
    ∃ W : Nat → Nat → Hp → Prop, (∃ m, W 0 m (upd H1 D (.lst []))) ∧ ∀ i m H, W i m H →
      ((Itl K a).stop i H ∧ Qd H) ∨ ((Itl K a).go i H ∧ ∃ Nx : Hp → Prop, (∀ H', Nx H' → ∃ m', m' < m ∧ W (i + 1) m' H') ∧ ∀ x H', (Itl K a).yld i H x H' → g x (wipe σ vs) H' fun σ2 H2 => wipe σ2 vs = wipe σ vs ∧ tt σ2 H2 fun b H3 =>
        if b = true then te σ2 H3 fun y H4 => ∃ acc, H4 D = some (.lst acc) ∧ acc.length < sizeLine ∧ Nx (upd H4 D (.lst (acc ++ [y]))) else Nx H3) := by
  refine lc_fil (fun i x => xs[i]? = some x) (fun i => (as[i]?).map f) R2 (fun H H' y c acc e s h => st2.but e s h) walk_list hl (fun _ s => Same.seq s h0) hD (fun i x _ hi H Q Rr s1 hacc k1 k2 => ?_) (fun H ys s1 e1 e2 => hd H ys s1 e1 (by rw [hx.1, range_map] at e2; exact e2))
  obtain ⟨c, hc, r⟩ := hx.get hi
  exact hs x c (List.mem_of_getElem? hc) H Q Rr s1 (st s1 r) hacc fun y H' s' r2 => k1 (f c) (by show (as[i]?).map f = _; rw [hc]; rfl) y H' s' r2
theorem lc_mpT (R : Hp → V → α → Prop) (R2 : Hp → V → β → Prop) (f : α → β) (st : ∀ {H H' : Hp} {x : V} {c : α}, Same H H' → R H x c → R H' x c) (st2 : Stays R2) (h0 : SqT K H1 a xs) (hx : All2 (R H1) xs as) (hD : H1 D = none) (hl : xs.length < sizeLine)
    (hs : ∀ x c, c ∈ as → ∀ H (Q : VK) (Rr : Hp → Prop), Same H1 H → R H x c → (∃ acc, H D = some (.lst acc)) → (∀ y H', Same H H' → R2 H' y (f c) → Q y H') →
      g x (wipe σ vs) H fun σ2 H2 => wipe σ2 vs = wipe σ vs ∧ tt σ2 H2 fun b H3 => if b = true then te σ2 H3 Q else Rr H3)
    (hd : ∀ H (ys : List V), Same H1 H → H D = some (.lst ys) → All2 (R2 H) ys (as.map f) → Qd H) :
    ∃ W : Nat → Nat → Hp → Prop, (∃ m, W 0 m (upd H1 D (.lst []))) ∧ ∀ i m H, W i m H →
      ((Itt K a).stop i H ∧ Qd H) ∨ ((Itt K a).go i H ∧ ∃ Nx : Hp → Prop, (∀ H', Nx H' → ∃ m', m' < m ∧ W (i + 1) m' H') ∧ ∀ x H', (Itt K a).yld i H x H' → g x (wipe σ vs) H' fun σ2 H2 => wipe σ2 vs = wipe σ vs ∧ tt σ2 H2 fun b H3 =>
        if b = true then te σ2 H3 fun y H4 => ∃ acc, H4 D = some (.lst acc) ∧ acc.length < sizeLine ∧ Nx (upd H4 D (.lst (acc ++ [y]))) else Nx H3) := by
  refine lc_fil (fun i x => xs[i]? = some x) (fun i => (as[i]?).map f) R2 (fun H H' y c acc e s h => st2.but e s h) walk_tup hl (fun _ s => SqT.same s h0) hD (fun i x _ hi H Q Rr s1 hacc k1 k2 => ?_) (fun H ys s1 e1 e2 => hd H ys s1 e1 (by rw [hx.1, range_map] at e2; exact e2))
  obtain ⟨c, hc, r⟩ := hx.get hi
  exact hs x c (List.mem_of_getElem? hc) H Q Rr s1 (st s1 r) hacc fun y H' s' r2 => k1 (f c) (by show (as[i]?).map f = _; rw [hc]; rfl) y H' s' r2
/-- [f(k) for k in range(n)] -/
theorem lc_mpR {n : Nat} {lo : Int} (R2 : Hp → V → β → Prop) (f : Nat → β) (st2 : Stays R2) (hD : H1 D = none) (hl : n ≤ 1000)
    (hs : ∀ i, i < n → ∀ H (Q : VK) (Rr : Hp → Prop), Same H1 H → (∃ acc, H D = some (.lst acc)) → (∀ y H', Same H H' → R2 H' y (f i) → Q y H') →
      g (.int (lo + i)) (wipe σ vs) H fun σ2 H2 => wipe σ2 vs = wipe σ vs ∧ tt σ2 H2 fun b H3 => if b = true then te σ2 H3 Q else Rr H3)
    (hd : ∀ H (ys : List V), Same H1 H → H D = some (.lst ys) → All2 (R2 H) ys ((List.range n).map f) → Qd H) :
    ∃ W : Nat → Nat → Hp → Prop, (∃ m, W 0 m (upd H1 D (.lst []))) ∧ ∀ i m H, W i m H →
      ((Itr lo n).stop i H ∧ Qd H) ∨ ((Itr lo n).go i H ∧ ∃ Nx : Hp → Prop, (∀ H', Nx H' → ∃ m', m' < m ∧ W (i + 1) m' H') ∧ ∀ x H', (Itr lo n).yld i H x H' → g x (wipe σ vs) H' fun σ2 H2 => wipe σ2 vs = wipe σ vs ∧ tt σ2 H2 fun b H3 =>
        if b = true then te σ2 H3 fun y H4 => ∃ acc, H4 D = some (.lst acc) ∧ acc.length < sizeLine ∧ Nx (upd H4 D (.lst (acc ++ [y]))) else Nx H3) := by
  refine lc_fil (fun i x => x = V.int (lo + i)) (fun i => some (f i)) R2 (fun H H' y c acc e s h => st2.but e s h) walk_range (small1000 hl) (fun _ _ => trivial) hD (fun i x hi hx H Q Rr s1 hacc k1 k2 => ?_) (fun H ys s1 e1 e2 => hd H ys s1 e1 (by rw [List.filterMap_eq_map'] at e2; exact e2))
  subst hx
  exact hs i hi H Q Rr s1 hacc fun y H' s' r2 => k1 (f i) rfl y H' s' r2
end
/-- [x] * n -/
theorem i_repX {H : Hp} {Q : VK} {p : Addr} {x : V} {m : Int} (h1 : H p = some (.lst [x])) (h2 : -1000 ≤ m ∧ m ≤ 1000) (h : ∀ q, H q = none → Q (.ref q) (upd H q (.lst (List.replicate m.toNat x)))) : rMulU (.ref p) (.int m) H Q := by
  refine ⟨p, m, _, rfl, rfl, h1, by omega, by omega, line_le (by simp only [List.length_cons, List.length_nil]; omega), fun q hq => ?_⟩
  have e : (List.replicate m.toNat [x]).flatten = List.replicate m.toNat x := by
    generalize m.toNat = k
    induction k with
    | zero => rfl
    | succ k ih => rw [List.replicate_succ, List.flatten_cons, ih]; rfl
  rw [e]
  exact h q hq
theorem All2.replicate {α β : Type} {R : α → β → Prop} {x : α} {y : β} (h : R x y) : ∀ n, All2 R (List.replicate n x) (List.replicate n y)
  | 0 => All2.nil
  | n + 1 => All2.cons h (All2.replicate h n)
end My
namespace My
open PySem L2
set_option maxRecDepth 5000
local macro_rules | `(tactic| wtm_at "cls") => `(tactic| fail)
set_option hygiene false in
local macro_rules | `(tactic| wtm_at "cls") => `(tactic| first | assumption | exact T.c_PlainHall | exact T.i_PlainHall | exact T.n_PlainHall_kept_row | exact T.n_PlainHall_kept_told | fail)
local macro_rules | `(tactic| wtm_at "xk") => `(tactic| fail)
set_option hygiene false in
local macro_rules | `(tactic| wtm_at "xk") => `(tactic| first | exact kit_self | fail)
/-- where the defs and the classes of the text stand -/
structure Ad where
  HallError : Addr
  Barred : Addr
  NoNumber : Addr
  NoMember : Addr
  NoDeed : Addr
  Lacks : Addr
  Known : Addr
  AllTold : Addr
  PlainHall : Addr
  NoNumber_init : Addr
  d_NoNumber_init : FuncData
  NoMember_init : Addr
  d_NoMember_init : FuncData
  NoDeed_init : Addr
  d_NoDeed_init : FuncData
  Lacks_init : Addr
  d_Lacks_init : FuncData
  Known_init : Addr
  d_Known_init : FuncData
  AllTold_init : Addr
  d_AllTold_init : FuncData
  is_whole : Addr
  d_is_whole : FuncData
  are_members : Addr
  d_are_members : FuncData
  is_add : Addr
  d_is_add : FuncData
  is_tell : Addr
  d_is_tell : FuncData
  PlainHall_init : Addr
  d_PlainHall_init : FuncData
  PlainHall_eq : Addr
  d_PlainHall_eq : FuncData
  PlainHall_len : Addr
  d_PlainHall_len : FuncData
  PlainHall_row : Addr
  d_PlainHall_row : FuncData
  PlainHall_told_by : Addr
  d_PlainHall_told_by : FuncData
  PlainHall_state : Addr
  d_PlainHall_state : FuncData
  PlainHall_add_id : Addr
  d_PlainHall_add_id : FuncData
  PlainHall_tell_next : Addr
  d_PlainHall_tell_next : FuncData
  PlainHall_do : Addr
  d_PlainHall_do : FuncData
  PlainHall_twin : Addr
  d_PlainHall_twin : FuncData
  _law_cell_at : Addr
  d__law_cell_at : FuncData
  _law_pool : Addr
  d__law_pool : FuncData
  _law_take : Addr
  d__law_take : FuncData
  _law_did : Addr
  d__law_did : FuncData
  _law_due : Addr
  d__law_due : FuncData
  _law_no_member : Addr
  d__law_no_member : FuncData
  _law_stands : Addr
  d__law_stands : FuncData
  _law_bad : Addr
  d__law_bad : FuncData
  _law_made : Addr
  d__law_made : FuncData
  _law_done : Addr
  d__law_done : FuncData
  law : Addr
  d_law : FuncData
/-- what the top has left of them -/
structure Txt (K : PySem.W.Frag) (mg : Str → Option Value) (a : Ad) : Prop where
  m_HallError : mg "HallError" = some (.ref a.HallError)
  e_HallError : XcC K a.HallError
  hs_HallError : PySem.W.specialIn K (.ref a.HallError) "__getattribute__" = some (some (.builtin "type.__getattribute__"))
  hq_HallError : PySem.W.readsIn K a.HallError (.type "type") = true
  hf_HallError : PySem.W.findCls K (.ref a.HallError) (.type "type") "__init__" = some (.val (.builtin "ValueError.__init__"))
  m_Barred : mg "Barred" = some (.ref a.Barred)
  e_Barred : XcC K a.Barred
  hs_Barred : PySem.W.specialIn K (.ref a.Barred) "__getattribute__" = some (some (.builtin "type.__getattribute__"))
  hq_Barred : PySem.W.readsIn K a.Barred (.type "type") = true
  hf_Barred : PySem.W.findCls K (.ref a.Barred) (.type "type") "__init__" = some (.val (.builtin "LookupError.__init__"))
  m_NoNumber : mg "NoNumber" = some (.ref a.NoNumber)
  n_NoNumber_found : NoAttr K a.NoNumber "found"
  e_NoNumber : XcC K a.NoNumber
  o_NoNumber : OexC K a.NoNumber
  oi_NoNumber : PySem.W.findIn K (.ref a.NoNumber) "__init__" = some (some (.ref a.NoNumber_init))
  ot_NoNumber : PySem.W.typeIn K (.ref a.NoNumber_init) = some (.type "function")
  u_NoNumber_HallError : PySem.W.subIn K (.ref a.NoNumber) (.ref a.HallError) = some true
  u_NoNumber_Barred : PySem.W.subIn K (.ref a.NoNumber) (.ref a.Barred) = some false
  u_NoNumber_NoNumber : PySem.W.subIn K (.ref a.NoNumber) (.ref a.NoNumber) = some true
  u_NoNumber_NoMember : PySem.W.subIn K (.ref a.NoNumber) (.ref a.NoMember) = some false
  u_NoNumber_NoDeed : PySem.W.subIn K (.ref a.NoNumber) (.ref a.NoDeed) = some false
  u_NoNumber_Lacks : PySem.W.subIn K (.ref a.NoNumber) (.ref a.Lacks) = some false
  u_NoNumber_Known : PySem.W.subIn K (.ref a.NoNumber) (.ref a.Known) = some false
  u_NoNumber_AllTold : PySem.W.subIn K (.ref a.NoNumber) (.ref a.AllTold) = some false
  x_NoNumber_HallError : PySem.W.kitOne K (.ref a.NoNumber) (.ref a.HallError) = some true
  x_NoNumber_Barred : PySem.W.kitOne K (.ref a.NoNumber) (.ref a.Barred) = some false
  x_NoNumber_NoMember : PySem.W.kitOne K (.ref a.NoNumber) (.ref a.NoMember) = some false
  x_NoNumber_NoDeed : PySem.W.kitOne K (.ref a.NoNumber) (.ref a.NoDeed) = some false
  x_NoNumber_Lacks : PySem.W.kitOne K (.ref a.NoNumber) (.ref a.Lacks) = some false
  x_NoNumber_Known : PySem.W.kitOne K (.ref a.NoNumber) (.ref a.Known) = some false
  x_NoNumber_AllTold : PySem.W.kitOne K (.ref a.NoNumber) (.ref a.AllTold) = some false
  m_NoMember : mg "NoMember" = some (.ref a.NoMember)
  n_NoMember_found : NoAttr K a.NoMember "found"
  e_NoMember : XcC K a.NoMember
  o_NoMember : OexC K a.NoMember
  oi_NoMember : PySem.W.findIn K (.ref a.NoMember) "__init__" = some (some (.ref a.NoMember_init))
  ot_NoMember : PySem.W.typeIn K (.ref a.NoMember_init) = some (.type "function")
  u_NoMember_HallError : PySem.W.subIn K (.ref a.NoMember) (.ref a.HallError) = some true
  u_NoMember_Barred : PySem.W.subIn K (.ref a.NoMember) (.ref a.Barred) = some false
  u_NoMember_NoNumber : PySem.W.subIn K (.ref a.NoMember) (.ref a.NoNumber) = some false
  u_NoMember_NoMember : PySem.W.subIn K (.ref a.NoMember) (.ref a.NoMember) = some true
  u_NoMember_NoDeed : PySem.W.subIn K (.ref a.NoMember) (.ref a.NoDeed) = some false
  u_NoMember_Lacks : PySem.W.subIn K (.ref a.NoMember) (.ref a.Lacks) = some false
  u_NoMember_Known : PySem.W.subIn K (.ref a.NoMember) (.ref a.Known) = some false
  u_NoMember_AllTold : PySem.W.subIn K (.ref a.NoMember) (.ref a.AllTold) = some false
  x_NoMember_HallError : PySem.W.kitOne K (.ref a.NoMember) (.ref a.HallError) = some true
  x_NoMember_Barred : PySem.W.kitOne K (.ref a.NoMember) (.ref a.Barred) = some false
  x_NoMember_NoNumber : PySem.W.kitOne K (.ref a.NoMember) (.ref a.NoNumber) = some false
  x_NoMember_NoDeed : PySem.W.kitOne K (.ref a.NoMember) (.ref a.NoDeed) = some false
  x_NoMember_Lacks : PySem.W.kitOne K (.ref a.NoMember) (.ref a.Lacks) = some false
  x_NoMember_Known : PySem.W.kitOne K (.ref a.NoMember) (.ref a.Known) = some false
  x_NoMember_AllTold : PySem.W.kitOne K (.ref a.NoMember) (.ref a.AllTold) = some false
  m_NoDeed : mg "NoDeed" = some (.ref a.NoDeed)
  n_NoDeed_found : NoAttr K a.NoDeed "found"
  e_NoDeed : XcC K a.NoDeed
  o_NoDeed : OexC K a.NoDeed
  oi_NoDeed : PySem.W.findIn K (.ref a.NoDeed) "__init__" = some (some (.ref a.NoDeed_init))
  ot_NoDeed : PySem.W.typeIn K (.ref a.NoDeed_init) = some (.type "function")
  u_NoDeed_HallError : PySem.W.subIn K (.ref a.NoDeed) (.ref a.HallError) = some true
  u_NoDeed_Barred : PySem.W.subIn K (.ref a.NoDeed) (.ref a.Barred) = some false
  u_NoDeed_NoNumber : PySem.W.subIn K (.ref a.NoDeed) (.ref a.NoNumber) = some false
  u_NoDeed_NoMember : PySem.W.subIn K (.ref a.NoDeed) (.ref a.NoMember) = some false
  u_NoDeed_NoDeed : PySem.W.subIn K (.ref a.NoDeed) (.ref a.NoDeed) = some true
  u_NoDeed_Lacks : PySem.W.subIn K (.ref a.NoDeed) (.ref a.Lacks) = some false
  u_NoDeed_Known : PySem.W.subIn K (.ref a.NoDeed) (.ref a.Known) = some false
  u_NoDeed_AllTold : PySem.W.subIn K (.ref a.NoDeed) (.ref a.AllTold) = some false
  x_NoDeed_HallError : PySem.W.kitOne K (.ref a.NoDeed) (.ref a.HallError) = some true
  x_NoDeed_Barred : PySem.W.kitOne K (.ref a.NoDeed) (.ref a.Barred) = some false
  x_NoDeed_NoNumber : PySem.W.kitOne K (.ref a.NoDeed) (.ref a.NoNumber) = some false
  x_NoDeed_NoMember : PySem.W.kitOne K (.ref a.NoDeed) (.ref a.NoMember) = some false
  x_NoDeed_Lacks : PySem.W.kitOne K (.ref a.NoDeed) (.ref a.Lacks) = some false
  x_NoDeed_Known : PySem.W.kitOne K (.ref a.NoDeed) (.ref a.Known) = some false
  x_NoDeed_AllTold : PySem.W.kitOne K (.ref a.NoDeed) (.ref a.AllTold) = some false
  m_Lacks : mg "Lacks" = some (.ref a.Lacks)
  n_Lacks_found : NoAttr K a.Lacks "found"
  e_Lacks : XcC K a.Lacks
  o_Lacks : OexT K tlL a.Lacks
  oi_Lacks : PySem.W.findIn K (.ref a.Lacks) "__init__" = some (some (.ref a.Lacks_init))
  ot_Lacks : PySem.W.typeIn K (.ref a.Lacks_init) = some (.type "function")
  u_Lacks_HallError : PySem.W.subIn K (.ref a.Lacks) (.ref a.HallError) = some false
  u_Lacks_Barred : PySem.W.subIn K (.ref a.Lacks) (.ref a.Barred) = some true
  u_Lacks_NoNumber : PySem.W.subIn K (.ref a.Lacks) (.ref a.NoNumber) = some false
  u_Lacks_NoMember : PySem.W.subIn K (.ref a.Lacks) (.ref a.NoMember) = some false
  u_Lacks_NoDeed : PySem.W.subIn K (.ref a.Lacks) (.ref a.NoDeed) = some false
  u_Lacks_Lacks : PySem.W.subIn K (.ref a.Lacks) (.ref a.Lacks) = some true
  u_Lacks_Known : PySem.W.subIn K (.ref a.Lacks) (.ref a.Known) = some false
  u_Lacks_AllTold : PySem.W.subIn K (.ref a.Lacks) (.ref a.AllTold) = some false
  x_Lacks_HallError : PySem.W.kitOne K (.ref a.Lacks) (.ref a.HallError) = some false
  x_Lacks_Barred : PySem.W.kitOne K (.ref a.Lacks) (.ref a.Barred) = some true
  x_Lacks_NoNumber : PySem.W.kitOne K (.ref a.Lacks) (.ref a.NoNumber) = some false
  x_Lacks_NoMember : PySem.W.kitOne K (.ref a.Lacks) (.ref a.NoMember) = some false
  x_Lacks_NoDeed : PySem.W.kitOne K (.ref a.Lacks) (.ref a.NoDeed) = some false
  x_Lacks_Known : PySem.W.kitOne K (.ref a.Lacks) (.ref a.Known) = some false
  x_Lacks_AllTold : PySem.W.kitOne K (.ref a.Lacks) (.ref a.AllTold) = some false
  m_Known : mg "Known" = some (.ref a.Known)
  n_Known_found : NoAttr K a.Known "found"
  e_Known : XcC K a.Known
  o_Known : OexT K tlL a.Known
  oi_Known : PySem.W.findIn K (.ref a.Known) "__init__" = some (some (.ref a.Known_init))
  ot_Known : PySem.W.typeIn K (.ref a.Known_init) = some (.type "function")
  u_Known_HallError : PySem.W.subIn K (.ref a.Known) (.ref a.HallError) = some false
  u_Known_Barred : PySem.W.subIn K (.ref a.Known) (.ref a.Barred) = some true
  u_Known_NoNumber : PySem.W.subIn K (.ref a.Known) (.ref a.NoNumber) = some false
  u_Known_NoMember : PySem.W.subIn K (.ref a.Known) (.ref a.NoMember) = some false
  u_Known_NoDeed : PySem.W.subIn K (.ref a.Known) (.ref a.NoDeed) = some false
  u_Known_Lacks : PySem.W.subIn K (.ref a.Known) (.ref a.Lacks) = some false
  u_Known_Known : PySem.W.subIn K (.ref a.Known) (.ref a.Known) = some true
  u_Known_AllTold : PySem.W.subIn K (.ref a.Known) (.ref a.AllTold) = some false
  x_Known_HallError : PySem.W.kitOne K (.ref a.Known) (.ref a.HallError) = some false
  x_Known_Barred : PySem.W.kitOne K (.ref a.Known) (.ref a.Barred) = some true
  x_Known_NoNumber : PySem.W.kitOne K (.ref a.Known) (.ref a.NoNumber) = some false
  x_Known_NoMember : PySem.W.kitOne K (.ref a.Known) (.ref a.NoMember) = some false
  x_Known_NoDeed : PySem.W.kitOne K (.ref a.Known) (.ref a.NoDeed) = some false
  x_Known_Lacks : PySem.W.kitOne K (.ref a.Known) (.ref a.Lacks) = some false
  x_Known_AllTold : PySem.W.kitOne K (.ref a.Known) (.ref a.AllTold) = some false
  m_AllTold : mg "AllTold" = some (.ref a.AllTold)
  n_AllTold_found : NoAttr K a.AllTold "found"
  e_AllTold : XcC K a.AllTold
  o_AllTold : OexT K tlL a.AllTold
  oi_AllTold : PySem.W.findIn K (.ref a.AllTold) "__init__" = some (some (.ref a.AllTold_init))
  ot_AllTold : PySem.W.typeIn K (.ref a.AllTold_init) = some (.type "function")
  u_AllTold_HallError : PySem.W.subIn K (.ref a.AllTold) (.ref a.HallError) = some false
  u_AllTold_Barred : PySem.W.subIn K (.ref a.AllTold) (.ref a.Barred) = some true
  u_AllTold_NoNumber : PySem.W.subIn K (.ref a.AllTold) (.ref a.NoNumber) = some false
  u_AllTold_NoMember : PySem.W.subIn K (.ref a.AllTold) (.ref a.NoMember) = some false
  u_AllTold_NoDeed : PySem.W.subIn K (.ref a.AllTold) (.ref a.NoDeed) = some false
  u_AllTold_Lacks : PySem.W.subIn K (.ref a.AllTold) (.ref a.Lacks) = some false
  u_AllTold_Known : PySem.W.subIn K (.ref a.AllTold) (.ref a.Known) = some false
  u_AllTold_AllTold : PySem.W.subIn K (.ref a.AllTold) (.ref a.AllTold) = some true
  x_AllTold_HallError : PySem.W.kitOne K (.ref a.AllTold) (.ref a.HallError) = some false
  x_AllTold_Barred : PySem.W.kitOne K (.ref a.AllTold) (.ref a.Barred) = some true
  x_AllTold_NoNumber : PySem.W.kitOne K (.ref a.AllTold) (.ref a.NoNumber) = some false
  x_AllTold_NoMember : PySem.W.kitOne K (.ref a.AllTold) (.ref a.NoMember) = some false
  x_AllTold_NoDeed : PySem.W.kitOne K (.ref a.AllTold) (.ref a.NoDeed) = some false
  x_AllTold_Lacks : PySem.W.kitOne K (.ref a.AllTold) (.ref a.Lacks) = some false
  x_AllTold_Known : PySem.W.kitOne K (.ref a.AllTold) (.ref a.Known) = some false
  m_PlainHall : mg "PlainHall" = some (.ref a.PlainHall)
  c_PlainHall : Cls K a.PlainHall
  i_PlainHall : IsC K a.PlainHall
  q_PlainHall : EqC K a.PlainHall
  mk_PlainHall : Mk K a.PlainHall a.PlainHall_init
  n_PlainHall_kept_row : NoAttr K a.PlainHall "kept_row"
  n_PlainHall_kept_told : NoAttr K a.PlainHall "kept_told"
  F_NoNumber_init : FunD K "__init__" "NoNumber.__init__" (defArgs s_NoNumber_init) (defBody s_NoNumber_init) (defScope s_NoNumber_init) [] [] a.NoNumber_init a.d_NoNumber_init
  B_NoNumber_init : Binds K a.d_NoNumber_init ["self", "found"] []
  F_NoMember_init : FunD K "__init__" "NoMember.__init__" (defArgs s_NoMember_init) (defBody s_NoMember_init) (defScope s_NoMember_init) [] [] a.NoMember_init a.d_NoMember_init
  B_NoMember_init : Binds K a.d_NoMember_init ["self", "found"] []
  F_NoDeed_init : FunD K "__init__" "NoDeed.__init__" (defArgs s_NoDeed_init) (defBody s_NoDeed_init) (defScope s_NoDeed_init) [] [] a.NoDeed_init a.d_NoDeed_init
  B_NoDeed_init : Binds K a.d_NoDeed_init ["self", "found"] []
  F_Lacks_init : FunD K "__init__" "Lacks.__init__" (defArgs s_Lacks_init) (defBody s_Lacks_init) (defScope s_Lacks_init) [] [] a.Lacks_init a.d_Lacks_init
  B_Lacks_init : Binds K a.d_Lacks_init ["self", "found"] []
  F_Known_init : FunD K "__init__" "Known.__init__" (defArgs s_Known_init) (defBody s_Known_init) (defScope s_Known_init) [] [] a.Known_init a.d_Known_init
  B_Known_init : Binds K a.d_Known_init ["self", "found"] []
  F_AllTold_init : FunD K "__init__" "AllTold.__init__" (defArgs s_AllTold_init) (defBody s_AllTold_init) (defScope s_AllTold_init) [] [] a.AllTold_init a.d_AllTold_init
  B_AllTold_init : Binds K a.d_AllTold_init ["self", "found"] []
  F_is_whole : FunD K "is_whole" "is_whole" (defArgs s_is_whole) (defBody s_is_whole) (defScope s_is_whole) [V.non] [] a.is_whole a.d_is_whole
  B_is_whole : Binds K a.d_is_whole ["thing", "low", "high"] []
  m_is_whole : mg "is_whole" = some (.ref a.is_whole)
  B1_is_whole : ∃ ds, Vals [V.non] ds ∧ Binds K a.d_is_whole ["thing", "low", "high"] ds
  F_are_members : FunD K "are_members" "are_members" (defArgs s_are_members) (defBody s_are_members) (defScope s_are_members) [] [] a.are_members a.d_are_members
  B_are_members : Binds K a.d_are_members ["thing"] []
  m_are_members : mg "are_members" = some (.ref a.are_members)
  F_is_add : FunD K "is_add" "is_add" (defArgs s_is_add) (defBody s_is_add) (defScope s_is_add) [] [] a.is_add a.d_is_add
  B_is_add : Binds K a.d_is_add ["deed", "members"] []
  m_is_add : mg "is_add" = some (.ref a.is_add)
  F_is_tell : FunD K "is_tell" "is_tell" (defArgs s_is_tell) (defBody s_is_tell) (defScope s_is_tell) [] [] a.is_tell a.d_is_tell
  B_is_tell : Binds K a.d_is_tell ["deed", "members"] []
  m_is_tell : mg "is_tell" = some (.ref a.is_tell)
  F_PlainHall_init : FunD K "__init__" "PlainHall.__init__" (defArgs s_PlainHall_init) (defBody s_PlainHall_init) (defScope s_PlainHall_init) [] [] a.PlainHall_init a.d_PlainHall_init
  B_PlainHall_init : Binds K a.d_PlainHall_init ["self", "members"] []
  F_PlainHall_eq : FunD K "__eq__" "PlainHall.__eq__" (defArgs s_PlainHall_eq) (defBody s_PlainHall_eq) (defScope s_PlainHall_eq) [] [] a.PlainHall_eq a.d_PlainHall_eq
  B_PlainHall_eq : Binds K a.d_PlainHall_eq ["self", "other"] []
  M_PlainHall_eq : Meth K a.PlainHall "__eq__" a.PlainHall_eq
  F_PlainHall_len : FunD K "__len__" "PlainHall.__len__" (defArgs s_PlainHall_len) (defBody s_PlainHall_len) (defScope s_PlainHall_len) [] [] a.PlainHall_len a.d_PlainHall_len
  B_PlainHall_len : Binds K a.d_PlainHall_len ["self"] []
  M_PlainHall_len : Meth K a.PlainHall "__len__" a.PlainHall_len
  F_PlainHall_row : FunD K "row" "PlainHall.row" (defArgs s_PlainHall_row) (defBody s_PlainHall_row) (defScope s_PlainHall_row) [] [] a.PlainHall_row a.d_PlainHall_row
  B_PlainHall_row : Binds K a.d_PlainHall_row ["self"] []
  M_PlainHall_row : Meth K a.PlainHall "row" a.PlainHall_row
  F_PlainHall_told_by : FunD K "told_by" "PlainHall.told_by" (defArgs s_PlainHall_told_by) (defBody s_PlainHall_told_by) (defScope s_PlainHall_told_by) [] [] a.PlainHall_told_by a.d_PlainHall_told_by
  B_PlainHall_told_by : Binds K a.d_PlainHall_told_by ["self", "member"] []
  M_PlainHall_told_by : Meth K a.PlainHall "told_by" a.PlainHall_told_by
  F_PlainHall_state : FunD K "state" "PlainHall.state" (defArgs s_PlainHall_state) (defBody s_PlainHall_state) (defScope s_PlainHall_state) [] [] a.PlainHall_state a.d_PlainHall_state
  B_PlainHall_state : Binds K a.d_PlainHall_state ["self"] []
  M_PlainHall_state : Meth K a.PlainHall "state" a.PlainHall_state
  F_PlainHall_add_id : FunD K "add_id" "PlainHall.add_id" (defArgs s_PlainHall_add_id) (defBody s_PlainHall_add_id) (defScope s_PlainHall_add_id) [] [] a.PlainHall_add_id a.d_PlainHall_add_id
  B_PlainHall_add_id : Binds K a.d_PlainHall_add_id ["self", "ident"] []
  M_PlainHall_add_id : Meth K a.PlainHall "add_id" a.PlainHall_add_id
  F_PlainHall_tell_next : FunD K "tell_next" "PlainHall.tell_next" (defArgs s_PlainHall_tell_next) (defBody s_PlainHall_tell_next) (defScope s_PlainHall_tell_next) [] [] a.PlainHall_tell_next a.d_PlainHall_tell_next
  B_PlainHall_tell_next : Binds K a.d_PlainHall_tell_next ["self", "member"] []
  M_PlainHall_tell_next : Meth K a.PlainHall "tell_next" a.PlainHall_tell_next
  F_PlainHall_do : FunD K "do" "PlainHall.do" (defArgs s_PlainHall_do) (defBody s_PlainHall_do) (defScope s_PlainHall_do) [] [] a.PlainHall_do a.d_PlainHall_do
  B_PlainHall_do : Binds K a.d_PlainHall_do ["self", "deed"] []
  M_PlainHall_do : Meth K a.PlainHall "do" a.PlainHall_do
  F_PlainHall_twin : FunD K "twin" "PlainHall.twin" (defArgs s_PlainHall_twin) (defBody s_PlainHall_twin) (defScope s_PlainHall_twin) [] [] a.PlainHall_twin a.d_PlainHall_twin
  B_PlainHall_twin : Binds K a.d_PlainHall_twin ["self"] []
  M_PlainHall_twin : Meth K a.PlainHall "twin" a.PlainHall_twin
  F__law_cell_at : FunD K "_law_cell_at" "_law_cell_at" (defArgs s__law_cell_at) (defBody s__law_cell_at) (defScope s__law_cell_at) [] [] a._law_cell_at a.d__law_cell_at
  B__law_cell_at : Binds K a.d__law_cell_at ["script", "k"] []
  m__law_cell_at : mg "_law_cell_at" = some (.ref a._law_cell_at)
  F__law_pool : FunD K "_law_pool" "_law_pool" (defArgs s__law_pool) (defBody s__law_pool) (defScope s__law_pool) [] [] a._law_pool a.d__law_pool
  B__law_pool : Binds K a.d__law_pool ["cell"] []
  m__law_pool : mg "_law_pool" = some (.ref a._law_pool)
  F__law_take : FunD K "_law_take" "_law_take" (defArgs s__law_take) (defBody s__law_take) (defScope s__law_take) [] [] a._law_take a.d__law_take
  B__law_take : Binds K a.d__law_take ["pool", "size"] []
  m__law_take : mg "_law_take" = some (.ref a._law_take)
  F__law_did : FunD K "_law_did" "_law_did" (defArgs s__law_did) (defBody s__law_did) (defScope s__law_did) [] [] a._law_did a.d__law_did
  B__law_did : Binds K a.d__law_did ["plain", "deed"] []
  m__law_did : mg "_law_did" = some (.ref a._law_did)
  F__law_due : FunD K "_law_due" "_law_due" (defArgs s__law_due) (defBody s__law_due) (defScope s__law_due) [] [] a._law_due a.d__law_due
  B__law_due : Binds K a.d__law_due ["state", "deed"] []
  m__law_due : mg "_law_due" = some (.ref a._law_due)
  F__law_no_member : FunD K "_law_no_member" "_law_no_member" (defArgs s__law_no_member) (defBody s__law_no_member) (defScope s__law_no_member) [] [] a._law_no_member a.d__law_no_member
  B__law_no_member : Binds K a.d__law_no_member ["plain", "thing"] []
  m__law_no_member : mg "_law_no_member" = some (.ref a._law_no_member)
  F__law_stands : FunD K "_law_stands" "_law_stands" (defArgs s__law_stands) (defBody s__law_stands) (defScope s__law_stands) [] [] a._law_stands a.d__law_stands
  B__law_stands : Binds K a.d__law_stands ["plain", "state"] []
  m__law_stands : mg "_law_stands" = some (.ref a._law_stands)
  F__law_bad : FunD K "_law_bad" "_law_bad" (defArgs s__law_bad) (defBody s__law_bad) (defScope s__law_bad) [] [] a._law_bad a.d__law_bad
  B__law_bad : Binds K a.d__law_bad ["plain", "state"] []
  m__law_bad : mg "_law_bad" = some (.ref a._law_bad)
  F__law_made : FunD K "_law_made" "_law_made" (defArgs s__law_made) (defBody s__law_made) (defScope s__law_made) [] [] a._law_made a.d__law_made
  B__law_made : Binds K a.d__law_made ["thing"] []
  m__law_made : mg "_law_made" = some (.ref a._law_made)
  F__law_done : FunD K "_law_done" "_law_done" (defArgs s__law_done) (defBody s__law_done) (defScope s__law_done) [] [] a._law_done a.d__law_done
  B__law_done : Binds K a.d__law_done ["plain", "state", "deed"] []
  m__law_done : mg "_law_done" = some (.ref a._law_done)
  F_law : FunD K "law" "law" (defArgs s_law) (defBody s_law) (defScope s_law) [] [] a.law a.d_law
  g_LEAST_MEMBERS : ∃ u, mg "LEAST_MEMBERS" = some u ∧ RelV (V.int 2) u
  g_MOST_MEMBERS : ∃ u, mg "MOST_MEMBERS" = some u ∧ RelV (V.int 5) u
  b_all : mg "all" = none
  b_bool : mg "bool" = none
  b_int : mg "int" = none
  b_isinstance : mg "isinstance" = none
  b_len : mg "len" = none
  b_list : mg "list" = none
  b_max : mg "max" = none
  b_range : mg "range" = none
  b_str : mg "str" = none
  b_tuple : mg "tuple" = none
theorem sc_NoNumber_init : FnScope ["self", "found"] ["self", "found"] (defScope s_NoNumber_init) := ⟨rfl, rfl, rfl, by decide +kernel, rfl, by decide +kernel, by decide +kernel⟩
theorem sc_NoMember_init : FnScope ["self", "found"] ["self", "found"] (defScope s_NoMember_init) := ⟨rfl, rfl, rfl, by decide +kernel, rfl, by decide +kernel, by decide +kernel⟩
theorem sc_NoDeed_init : FnScope ["self", "found"] ["self", "found"] (defScope s_NoDeed_init) := ⟨rfl, rfl, rfl, by decide +kernel, rfl, by decide +kernel, by decide +kernel⟩
theorem sc_Lacks_init : FnScope ["self", "found"] ["self", "found"] (defScope s_Lacks_init) := ⟨rfl, rfl, rfl, by decide +kernel, rfl, by decide +kernel, by decide +kernel⟩
theorem sc_Known_init : FnScope ["self", "found"] ["self", "found"] (defScope s_Known_init) := ⟨rfl, rfl, rfl, by decide +kernel, rfl, by decide +kernel, by decide +kernel⟩
theorem sc_AllTold_init : FnScope ["self", "found"] ["self", "found"] (defScope s_AllTold_init) := ⟨rfl, rfl, rfl, by decide +kernel, rfl, by decide +kernel, by decide +kernel⟩
theorem sc_is_whole : FnScope ["thing", "low", "high"] ["thing", "low", "high"] (defScope s_is_whole) := ⟨rfl, rfl, rfl, by decide +kernel, rfl, by decide +kernel, by decide +kernel⟩
theorem sc_are_members : FnScope ["thing"] ["thing"] (defScope s_are_members) := ⟨rfl, rfl, rfl, by decide +kernel, rfl, by decide +kernel, by decide +kernel⟩
theorem sc_is_add : FnScope ["deed", "members"] ["deed", "members"] (defScope s_is_add) := ⟨rfl, rfl, rfl, by decide +kernel, rfl, by decide +kernel, by decide +kernel⟩
theorem sc_is_tell : FnScope ["deed", "members"] ["deed", "members"] (defScope s_is_tell) := ⟨rfl, rfl, rfl, by decide +kernel, rfl, by decide +kernel, by decide +kernel⟩
theorem sc_PlainHall_init : FnScope ["self", "members"] ["self", "members"] (defScope s_PlainHall_init) := ⟨rfl, rfl, rfl, by decide +kernel, rfl, by decide +kernel, by decide +kernel⟩
theorem sc_PlainHall_eq : FnScope ["self", "other"] ["self", "other"] (defScope s_PlainHall_eq) := ⟨rfl, rfl, rfl, by decide +kernel, rfl, by decide +kernel, by decide +kernel⟩
theorem sc_PlainHall_len : FnScope ["self"] ["self"] (defScope s_PlainHall_len) := ⟨rfl, rfl, rfl, by decide +kernel, rfl, by decide +kernel, by decide +kernel⟩
theorem sc_PlainHall_row : FnScope ["self"] ["self"] (defScope s_PlainHall_row) := ⟨rfl, rfl, rfl, by decide +kernel, rfl, by decide +kernel, by decide +kernel⟩
theorem sc_PlainHall_told_by : FnScope ["self", "member"] ["self", "member"] (defScope s_PlainHall_told_by) := ⟨rfl, rfl, rfl, by decide +kernel, rfl, by decide +kernel, by decide +kernel⟩
theorem sc_PlainHall_state : FnScope ["self"] ["self"] (defScope s_PlainHall_state) := ⟨rfl, rfl, rfl, by decide +kernel, rfl, by decide +kernel, by decide +kernel⟩
theorem sc_PlainHall_add_id : FnScope ["self", "ident", "ahead"] ["self", "ident"] (defScope s_PlainHall_add_id) := ⟨rfl, rfl, rfl, by decide +kernel, rfl, by decide +kernel, by decide +kernel⟩
theorem sc_PlainHall_tell_next : FnScope ["self", "member", "place"] ["self", "member"] (defScope s_PlainHall_tell_next) := ⟨rfl, rfl, rfl, by decide +kernel, rfl, by decide +kernel, by decide +kernel⟩
theorem sc_PlainHall_do : FnScope ["self", "deed", "members"] ["self", "deed"] (defScope s_PlainHall_do) := ⟨rfl, rfl, rfl, by decide +kernel, rfl, by decide +kernel, by decide +kernel⟩
theorem sc_PlainHall_twin : FnScope ["self", "other"] ["self"] (defScope s_PlainHall_twin) := ⟨rfl, rfl, rfl, by decide +kernel, rfl, by decide +kernel, by decide +kernel⟩
theorem sc__law_cell_at : FnScope ["script", "k"] ["script", "k"] (defScope s__law_cell_at) := ⟨rfl, rfl, rfl, by decide +kernel, rfl, by decide +kernel, by decide +kernel⟩
theorem sc__law_pool : FnScope ["cell", "number", "k", "mix"] ["cell"] (defScope s__law_pool) := ⟨rfl, rfl, rfl, by decide +kernel, rfl, by decide +kernel, by decide +kernel⟩
theorem sc__law_take : FnScope ["pool", "size", "found"] ["pool", "size"] (defScope s__law_take) := ⟨rfl, rfl, rfl, by decide +kernel, rfl, by decide +kernel, by decide +kernel⟩
theorem sc__law_did : FnScope ["plain", "deed", "told", "e", "words", "lacks"] ["plain", "deed"] (defScope s__law_did) := ⟨rfl, rfl, rfl, by decide +kernel, rfl, by decide +kernel, by decide +kernel⟩
theorem sc__law_due : FnScope ["state", "deed", "place", "ident"] ["state", "deed"] (defScope s__law_due) := ⟨rfl, rfl, rfl, by decide +kernel, rfl, by decide +kernel, by decide +kernel⟩
theorem sc__law_no_member : FnScope ["plain", "thing", "e"] ["plain", "thing"] (defScope s__law_no_member) := ⟨rfl, rfl, rfl, by decide +kernel, rfl, by decide +kernel, by decide +kernel⟩
theorem sc__law_stands : FnScope ["plain", "state", "row", "due", "member"] ["plain", "state"] (defScope s__law_stands) := ⟨rfl, rfl, rfl, by decide +kernel, rfl, by decide +kernel, by decide +kernel⟩
theorem sc__law_bad : FnScope ["plain", "state", "members", "some", "thing"] ["plain", "state"] (defScope s__law_bad) := ⟨rfl, rfl, rfl, by decide +kernel, rfl, by decide +kernel, by decide +kernel⟩
theorem sc__law_made : FnScope ["thing", "e"] ["thing"] (defScope s__law_made) := ⟨rfl, rfl, rfl, by decide +kernel, rfl, by decide +kernel, by decide +kernel⟩
theorem sc__law_done : FnScope ["plain", "state", "deed", "due"] ["plain", "state", "deed"] (defScope s__law_done) := ⟨rfl, rfl, rfl, by decide +kernel, rfl, by decide +kernel, by decide +kernel⟩
theorem sc_law : FnScope ["script", "sizes", "some", "states", "size", "cell", "pool", "side", "way", "twin", "far", "kept", "state", "member", "number", "ident", "deed", "thing"] ["script"] (defScope s_law) := ⟨rfl, rfl, rfl, by decide +kernel, rfl, by decide +kernel, by decide +kernel⟩
/-- is x a whole number from lo on, up to hi -/
def isWh (lo : Int) (hi : V) : V → Bool
  | .int n => decide (lo ≤ n) && (match hi with | .int h => decide (n ≤ h) | _ => true)
  | _ => false
def spWhole (K : PySem.W.Frag) : Sp := fun vs H Q _ => ∃ x lo hi, vs = [x, .int lo, hi] ∧ Kn K H x ∧ (hi = .non ∨ ∃ h, hi = .int h) ∧ Q (.bl (isWh lo hi x)) H
def spTake : Sp := fun vs H Q _ => ∃ p m n, vs = [.ref p, .int n] ∧ H p = some (.lst [.int m]) ∧ 0 < n ∧ n.natAbs.log2 < 9000 ∧ ∀ r m' : Int, 0 ≤ r → r < n → Q (.int r) (upd H p (.lst [.int m']))
def spPool : Sp := fun vs H Q _ => ∃ n, vs = [.int n] ∧ ∀ p m, H p = none → Q (.ref p) (upd H p (.lst [.int m]))
section
variable {K : PySem.W.Frag} {H : Hp} {Q : VK} {E : XK} {x : V} {z : Str}
theorem take_use {vs : List V} {p : Addr} {m n : Int} (h1 : H p = some (.lst [.int m])) (h2 : 0 < n) (h3 : n.natAbs.log2 < 9000) (h : ∀ r m' : Int, 0 ≤ r → r < n → Q (.int r) (upd H p (.lst [.int m']))) (he : vs = [.ref p, .int n] := by rfl) : spTake vs H Q E := ⟨p, m, n, he, h1, h2, h3, h⟩
theorem whole_use {vs : List V} {lo : Int} {hi : V} (h1 : Kn K H x) (h2 : hi = .non ∨ ∃ h, hi = .int h) (h : Q (.bl (isWh lo hi x)) H) (he : vs = [x, .int lo, hi] := by rfl) : spWhole K vs H Q E := ⟨x, lo, hi, he, h1, h2, h⟩
theorem wholeN_use {vs : List V} {lo n : Int} (h : Q (.bl (decide (lo ≤ n))) H) (he : vs = [.int n, .int lo, .non] := by rfl) : spWhole K vs H Q E := ⟨_, lo, _, he, trivial, .inl rfl, cast_bl h (by simp [isWh])⟩
theorem wholeH_use {vs : List V} {lo n hi : Int} (h : Q (.bl (decide (lo ≤ n) && decide (n ≤ hi))) H) (he : vs = [.int n, .int lo, .int hi] := by rfl) : spWhole K vs H Q E := ⟨_, lo, _, he, trivial, .inr ⟨hi, rfl⟩, h⟩
theorem pool_use {vs : List V} {n : Int} (h : ∀ p m, H p = none → Q (.ref p) (upd H p (.lst [.int m]))) (he : vs = [.int n] := by rfl) : spPool vs H Q E := ⟨n, he, h⟩
end
/-! steps by the reading's head alone -/
local macro_rules | `(tactic| wtm_at "h") => `(tactic| fail)
set_option hygiene false in
local macro_rules | `(tactic| wtm_at "h") => `(tactic| with_reducible first | refine i_ifAnd ?_ | fail)
set_option hygiene false in
local macro_rules | `(tactic| wtm_at "h") => `(tactic| with_reducible first | refine i_cB ?_ | refine i_call ?_ | refine i_callN ?_ | refine i_isoN ?_ | refine i_isoB ?_ | refine i_isoI ?_ | refine i_isoS ?_ | refine i_ifN ?_ | fail)
set_option hygiene false in
local macro_rules | `(tactic| wtm_at "h") => `(tactic| with_reducible first | refine i_maxU ?_ | refine i_minU ?_ | refine i_sl ?_ | refine i_po0 ?_ | refine i_po1 ?_ | refine i_poI ?_ | refine i_lst ?_ | refine i_tup ?_ | fail)
set_option hygiene false in
local macro_rules | `(tactic| wtm_at "h") => `(tactic| with_reducible first | refine i_tp1 ?_ | refine i_dnew (fun q hq => ?_) | refine i_dnewT (fun q hq => ?_) | refine i_iSeq ?_ | refine i_fld ?_ | refine i_sfld ?_ | refine i_make ?_ | refine i_meth ?_ | fail)
set_option hygiene false in
local macro_rules | `(tactic| wtm_at "h") => `(tactic| with_reducible first | refine i_itS ?_ | refine i_iList ?_ | refine i_iTup ?_ | refine i_iR1 ?_ | refine i_yes ?_ | refine i_mk (fun x dx ndx nx1 nx nex => ?_) | refine i_disp (fun q hq => ?_) | refine i_tp0 ?_ | fail)
set_option hygiene false in
local macro_rules | `(tactic| wtm_at "h") => `(tactic| with_reducible first | refine i_isB ?_ | refine i_isN ?_ | refine i_isnB ?_ | refine i_isnN ?_ | refine i_inS ?_ | refine i_for ?_ | refine i_lc ?_ | refine i_iStr ?_ | fail)
set_option hygiene false in
local macro_rules | `(tactic| wtm_at "h") => `(tactic| with_reducible first | refine i_sub ?_ | refine i_gnil ?_ | refine i_gcons ?_ | refine i_un ?_ | refine i_rU ?_ | refine i_rI0 ?_ | refine i_chain ?_ | refine i_addI ?_ | fail)
set_option hygiene false in
local macro_rules | `(tactic| wtm_at "h") => `(tactic| with_reducible first | refine i_orV ?_ | refine i_notV ?_ | refine i_if ?_ | refine i_next ?_ | refine i_drop ?_ | refine i_retN ?_ | refine i_brk ?_ | refine i_cont ?_ | fail)
set_option hygiene false in
local macro_rules | `(tactic| wtm_at "h") => `(tactic| with_reducible first | refine i_nil ?_ | refine i_test ?_ | refine i_tB ?_ | refine i_bl ?_ | refine i_not ?_ | refine i_and ?_ | refine i_or ?_ | refine i_andV ?_ | fail)
set_option hygiene false in
local macro_rules | `(tactic| wtm_at "h") => `(tactic| with_reducible first | refine i_seq ?_ | refine i_asg ?_ | refine i_op ?_ | refine i_name ?_ | refine i_c ?_ | refine i_ifS ?_ | refine i_ret ?_ | refine i_cons ?_ | fail)
/-! what stands at an address -/
local macro_rules | `(tactic| wtm_at "as") => `(tactic| with_reducible assumption)
local macro_rules | `(tactic| wtm_at "getg") => `(tactic| fail)
local macro_rules | `(tactic| wtm_at "getg") => `(tactic| first | wtm_at "as" | ((with_reducible refine' upd_same' ?g0); (case g0 => exact rfl)) | ((with_reducible refine' get_upd ?g1 ?g2); (case g1 => wtm_at "as"); (case g2 => wtm_at "getg")) | ((fail_if_success ((with_reducible refine' get_upd ?g1 ?g2); (case g1 => wtm_at "as"))); (with_reducible refine' get_ne ?g1 ?g2); (case g2 => wtm_at "getg"); (case g1 => wtm_at "ne")) | ((with_reducible refine' get_same ?g1 ?g2); (case g1 => wtm_at "as"); (case g2 => wtm_at "getg")) | ((with_reducible refine' get_but ?g1 ?g3 ?g2); (case g1 => wtm_at "as"); (case g2 => wtm_at "getg"); (case g3 => wtm_at "ne")) | fail)
local macro_rules | `(tactic| wtm_at "get") => `(tactic| ((with_reducible refine' get_o ?gg ?ge); (case gg => wtm_at "getg"); (case ge => exact rfl)))
local macro_rules | `(tactic| wtm_at "ne") => `(tactic| fail)
local macro_rules | `(tactic| wtm_at "ne") => `(tactic| first | wtm_at "as" | ((with_reducible refine' Ne.symm ?n0); (case n0 => wtm_at "as")) | ((with_reducible refine' ne_of_none ?n1 ?n2); (case n2 => wtm_at "as"); (case n1 => wtm_at "getg")) | ((with_reducible refine' Ne.symm (ne_of_none ?n1 ?n2)); (case n2 => wtm_at "as"); (case n1 => wtm_at "getg")) | ((with_reducible refine' ne_of ?n1 ?n2 ?n3); (case n1 => wtm_at "as"); (case n2 => wtm_at "as"); (case n3 => (intro z; cases z))) | ((with_reducible refine' ne_of ?n1 ?n2 ?n3); (case n1 => wtm_at "as"); (case n2 => wtm_at "getg"); (case n3 => (intro z; cases z))) | ((with_reducible refine' Ne.symm (ne_of ?n1 ?n2 ?n3)); (case n1 => wtm_at "as"); (case n2 => wtm_at "getg"); (case n3 => (intro z; cases z))) | fail)
local macro_rules | `(tactic| wtm_at "sqf") => `(tactic| fail)
local macro_rules | `(tactic| wtm_at "sqf") => `(tactic| first | ((fail_if_success ((with_reducible refine' SqT.up ?s1 ?s2); (case s1 => wtm_at "as"))); (with_reducible refine' SqT.uk ?s1 ?s3 ?s4 ?s2); (case s2 => wtm_at "sqf"); (case s1 => wtm_at "getg"); (case s3 => (intro ys z; cases z)); (case s4 => (intro b u z; cases z))) | ((with_reducible refine' SqL.but ?s1 ?s3 ?s2); (case s1 => wtm_at "as"); (case s2 => wtm_at "sqf"); (case s3 => wtm_at "ne")) | ((with_reducible refine' SqT.but ?s1 ?s3 ?s2); (case s1 => wtm_at "as"); (case s2 => wtm_at "sqf"); (case s3 => wtm_at "ne")) | fail)
local macro_rules | `(tactic| wtm_at "sqf") => `(tactic| first | wtm_at "as" | ((with_reducible refine' SqL.up ?s1 ?s2); (case s1 => wtm_at "as"); (case s2 => wtm_at "sqf")) | ((with_reducible refine' SqT.up ?s1 ?s2); (case s1 => wtm_at "as"); (case s2 => wtm_at "sqf")) | ((with_reducible refine' SqL.sm ?s1 ?s2); (case s1 => wtm_at "as"); (case s2 => wtm_at "sqf")) | ((with_reducible refine' SqT.same ?s1 ?s2); (case s1 => wtm_at "as"); (case s2 => wtm_at "sqf")) | ((fail_if_success ((with_reducible refine' SqL.up ?s1 ?s2); (case s1 => wtm_at "as"))); (with_reducible refine' SqL.un ?s1 ?s2); (case s2 => wtm_at "sqf"); (case s1 => wtm_at "ne")) | ((fail_if_success ((with_reducible refine' SqT.up ?s1 ?s2); (case s1 => wtm_at "as"))); (with_reducible refine' SqT.un ?s1 ?s2); (case s2 => wtm_at "sqf"); (case s1 => wtm_at "ne")) | ((fail_if_success ((with_reducible refine' SqL.up ?s1 ?s2); (case s1 => wtm_at "as"))); (with_reducible refine' SqL.uk ?s1 ?s3 ?s4 ?s2); (case s2 => wtm_at "sqf"); (case s1 => wtm_at "getg"); (case s3 => (intro ys z; cases z)); (case s4 => (intro b u z; cases z))) | fail)
local macro_rules | `(tactic| wtm_at "sq") => `(tactic| fail)
local macro_rules | `(tactic| wtm_at "sq") => `(tactic| first | wtm_at "as" | ((with_reducible refine' SqL.of' ?s0 ?s1); (case s0 => wtm_at "getg"); (case s1 => exact rfl)) | ((with_reducible refine' SqT.of' ?s0 ?s1); (case s0 => wtm_at "getg"); (case s1 => exact rfl)) | wtm_at "sqf" | fail)
local macro_rules | `(tactic| wtm_at "same") => `(tactic| (intro b o e; wtm_at "get"))
local macro_rules | `(tactic| wtm_at "but") => `(tactic| (intro b o n e; wtm_at "get"))
/-! data -/
local macro_rules | `(tactic| wtm_at "dp") => `(tactic| fail)
local macro_rules | `(tactic| wtm_at "dp") => `(tactic| first | exact Dp.bl _ | exact Dp.int _ | exact Dp.str _ | exact Dp.non | (refine Dp.lst (by wtm_at "sq") ?_; wtm_at "dps") | (refine Dp.tup (by wtm_at "sq") ?_; wtm_at "dps") | fail)
local macro_rules | `(tactic| wtm_at "dps") => `(tactic| fail)
local macro_rules | `(tactic| wtm_at "dps") => `(tactic| first | exact DpAll.nil | (refine DpAll.cons ?hd ?tl; (case hd => wtm_at "dp"); (case tl => wtm_at "dps")) | fail)
/-! steps that ask something besides -/
local macro_rules | `(tactic| wtm_at "a") => `(tactic| fail)
set_option hygiene false in
local macro_rules | `(tactic| wtm_at "a") => `(tactic| first | (with_reducible refine' i_isoT ?h1 ?_); (case h1 => wtm_at "sqf") | wtm_at "if" | fail)
set_option hygiene false in
local macro_rules | `(tactic| wtm_at "a") => `(tactic| first | (with_reducible refine' i_slS ?h1 ?_); (case h1 => first | assumption | exact line_le (by omega)) | (with_reducible refine' i_eqLF ?h1 ?h2 ?f1 ?f2 ?_); (case h1 => wtm_at "sq"); (case h2 => wtm_at "sq"); (case f1 => rfl); (case f2 => rfl) | (with_reducible refine' i_isiBs ?h1 ?_); (case h1 => wtm_at "get") | (with_reducible refine' i_rI ?h1 ?_); (case h1 => exact wide_div (b := 400) (by omega) (by first | decide +kernel | omega) (by decide) (by decide)) | (with_reducible refine' i_isiB ?h1 ?_); (case h1 => rfl) | (with_reducible refine' i_isoG ?h1 ?h0 ?_); (case h1 => wtm_at "getg"); (case h0 => rfl) | (with_reducible refine' i_isoC ?h1 ?h2 ?h3 ?_); (case h1 => wtm_at "get"); (case h2 => wtm_at "cls"); (case h3 => wtm_at "cls") | (with_reducible refine' i_isoL ?h1 ?_); (case h1 => wtm_at "sqf") | fail)
set_option hygiene false in
local macro_rules | `(tactic| wtm_at "a") => `(tactic| first | (with_reducible refine' i_wipe ?h1 ?_); (case h1 => rfl) | (with_reducible refine' i_all ?h1 ?_); (case h1 => wtm_at "sq") | (with_reducible refine' i_addS ?h1 ?_); (case h1 => first | assumption | exact line_le (by omega)) | (with_reducible refine' i_addL ?h1 ?h2 ?h3 (fun q hq => ?_)); (case h1 => wtm_at "get"); (case h2 => wtm_at "get"); (case h3 => first | assumption | exact line_le (by omega) | exact Nat.le_of_lt (line_lt (by simp only [List.length_append, List.length_cons, List.length_nil]; omega)) | decide) | (with_reducible refine' i_lenG ?h1 ?h0 ?_); (case h1 => wtm_at "getg"); (case h0 => rfl) | (with_reducible refine' i_lenL ?h1 ?_); (case h1 => wtm_at "sqf") | (with_reducible refine' i_lenT ?h1 ?_); (case h1 => wtm_at "sqf") | (with_reducible refine' i_lenS ?h1 ?_); (case h1 => first | assumption | exact line_le (by omega)) | fail)
set_option hygiene false in
local macro_rules | `(tactic| wtm_at "a") => `(tactic| first | (with_reducible refine' i_lstOfL ?h1 (fun q hq => ?_)); (case h1 => wtm_at "sq") | (with_reducible refine' i_lstOfT ?h1 (fun q hq => ?_)); (case h1 => wtm_at "sq") | (with_reducible refine' i_slL ?h1 (fun q hq => ?_)); (case h1 => wtm_at "sq") | (with_reducible refine' i_lens ?h1 ?h2 ?_); (case h1 => rfl); (case h2 => rfl) | (with_reducible refine' i_itL ?h1 ?_); (case h1 => wtm_at "sq") | (with_reducible refine' i_itT ?h1 ?_); (case h1 => wtm_at "sq") | (with_reducible refine' i_r1 ?h1 ?_); (case h1 => omega) | (with_reducible refine' i_mulI ?h1 ?_); (case h1 => first | assumption | exact mulW64 (by omega) (by omega)) | fail)
set_option hygiene false in
local macro_rules | `(tactic| wtm_at "a") => `(tactic| first | (with_reducible refine' i_new ?h1 (fun q hq => ?_)); (case h1 => first | decide | exact Nat.le_of_ble_eq_true rfl | omega) | (with_reducible refine' i_sqL ?h1 ?_); (case h1 => wtm_at "sq") | (with_reducible refine' i_sqT ?h1 ?_); (case h1 => wtm_at "sq") | (with_reducible refine' i_fldR ?h1 ?h2 ?h3 ?h4 ?_); (case h1 => wtm_at "get"); (case h2 => wtm_at "cls"); (case h3 => wtm_at "cls"); (case h4 => first | assumption | rfl) | (with_reducible refine' i_sfldR ?h1 ?h2 ?h3 ?h4 ?_); (case h1 => wtm_at "get"); (case h2 => wtm_at "cls"); (case h3 => wtm_at "cls"); (case h4 => first | exact Nat.le_of_ble_eq_true rfl | assumption) | (with_reducible refine' i_methR ?h1 ?h2 ?_); (case h1 => wtm_at "get"); (case h2 => first | assumption | rfl) | (with_reducible refine' i_tupOfL ?h1 (fun q hq => ?_)); (case h1 => wtm_at "sq") | (with_reducible refine' i_tupOfT ?h1 ?_); (case h1 => wtm_at "sq") | fail)
set_option hygiene false in
local macro_rules | `(tactic| wtm_at "a") => `(tactic| first | (with_reducible refine' i_var ?h1 ?_); (case h1 => rfl) | (with_reducible refine' i_ixG ?h1 ?h0 ?h2 ?_); (case h1 => wtm_at "getg"); (case h0 => rfl); (case h2 => rfl) | (with_reducible refine' i_ixL ?h1 ?h2 ?_); (case h1 => wtm_at "sqf"); (case h2 => rfl) | (with_reducible refine' i_ixT ?h1 ?h2 ?_); (case h1 => wtm_at "sqf"); (case h2 => rfl) | (with_reducible refine' i_rI ?h1 ?_); (case h1 => first | assumption | decide | omega | exact ⟨by omega, by assumption⟩ | exact ⟨by decide, by decide⟩ | exact cpow (by omega) (by omega) (by omega)) | (with_reducible refine' i_setL ?h1 ?h2 ?_); (case h1 => wtm_at "get"); (case h2 => rfl) | (with_reducible refine' i_eqS ?h1 ?_); (case h1 => rfl) | (with_reducible refine' i_neS ?h1 ?_); (case h1 => rfl) | fail)
local macro_rules | `(tactic| wtm_at "if") => `(tactic| ((with_reducible refine i_isIf ?_); first
  | (with_reducible refine iteT ?_) | (with_reducible refine iteF ?_) | refine i_tT (by wtm_at "as") ?_ | refine i_tF (by wtm_at "as") ?_ | refine iteT ?_ | refine iteF ?_
  | refine i_decT (by first | assumption | with_reducible rfl | omega) ?_ | refine i_decF (by first | assumption | omega) ?_ | fail))
local macro_rules | `(tactic| wtm_at "go1") => `(tactic| fail)
local macro_rules | `(tactic| wtm_at "go1") => `(tactic| first | wtm_at "u" | fail)
local macro_rules | `(tactic| wtm_at "go1") => `(tactic| first | wtm_at "a" | fail)
local macro_rules | `(tactic| wtm_at "go1") => `(tactic| first | wtm_at "h" | fail)
local macro_rules | `(tactic| wtm_at "go") => `(tactic| repeat' (wtm_at "go1"))
local macro_rules | `(tactic| wtm_at "gs2") => `(tactic| fail)
local macro_rules | `(tactic| wtm_at "gs2") => `(tactic| first | with_reducible refine i_dec (fun _ => ?_) (fun _ => ?_) | fail)
local macro_rules | `(tactic| wtm_at "gs2") => `(tactic| first | wtm_at "u" | fail)
local macro_rules | `(tactic| wtm_at "gs2") => `(tactic| first | wtm_at "a" | fail)
local macro_rules | `(tactic| wtm_at "gs2") => `(tactic| first | wtm_at "h" | fail)
local macro_rules | `(tactic| wtm_at "gs") => `(tactic| repeat' (wtm_at "gs2"))
local macro_rules | `(tactic| wtm_at "kn") => `(tactic| fail)
local macro_rules | `(tactic| wtm_at "kn") => `(tactic| first | wtm_at "as" | exact trivial | ((with_reducible refine' Kn.same ?k1 ?k2); (case k1 => wtm_at "as"); (case k2 => wtm_at "kn")) | ((with_reducible refine' Kn.up ?k1 ?k2); (case k1 => wtm_at "as"); (case k2 => wtm_at "kn")) | fail)
local macro_rules | `(tactic| wtm_at "u") => `(tactic| fail)
set_option hygiene false in
local macro_rules | `(tactic| wtm_at "u") => `(tactic| first | ((with_reducible refine' pool_use (fun q m hq => ?_) ?he); (case he => rfl)) | ((with_reducible refine' wholeN_use ?_ ?he); (case he => rfl)) | ((with_reducible refine' wholeH_use ?_ ?he); (case he => rfl)) | ((with_reducible refine' whole_use ?h1 ?h2 ?_ ?he); (case he => rfl); (case h1 => wtm_at "kn"); (case h2 => first | exact .inl rfl | exact .inr ⟨_, rfl⟩ | assumption)) | fail)
set_option hygiene false in
local macro_rules | `(tactic| wtm_at "u") => `(tactic| ((with_reducible refine' take_use ?h1 ?h2 ?h3 (fun r m' hr0 hr1 => ?_) ?he); (case he => rfl); (case h1 => wtm_at "get"); (case h2 => first | decide | assumption); (case h3 => first | decide +kernel | assumption | fail)))
section
variable {P : Program} {w : World} {K : PySem.W.Frag} {mg : Str → Option Value} {base : Heap} {a : Ad}
theorem ok__law_take (T : Txt K mg a) : FnOk P w K mg base CX0 1 a._law_take a.d__law_take ["pool", "size"] (spTake) := by
  refine fund_ok0 T.F__law_take sc__law_take (fun vs H Q E h => ?_) (fun cdv A outer s H vs Q E hr h => ?_)
  · obtain ⟨p, m, n, rfl, hp, h0, h9, k⟩ := h
    rfl
  · obtain ⟨p, m, n, rfl, hp, h0, h9, k⟩ := h
    refine ⟨_, (pss_cons (ps_set (i := 2) sc__law_take.nd rfl (by first | exact Or.inl rfl | exact Or.inr rfl) (pe_op op_modU (pe_ix (ix_U (K := K)) (pv 0) pe_int (fun _ _ => rfl)) (pv 1)))
    (pss_cons (ps_asg (pe_op op_fdivU (pe_ix (ix_U (K := K)) (pv 0) pe_int (fun _ _ => rfl)) (pv 1)) (pg_sub (pv 0) pe_int set_list))
    (pss_one (ps_ret (pv 2))))), ?_⟩
    dsimp only [L2.start, List.map_cons, List.map_nil, List.map, List.length_cons, List.length_nil, Nat.reduceAdd, Nat.reduceSub, List.replicate, List.cons_append, List.nil_append]
    wtm_at "go"
    exact k _ _ (Int.emod_nonneg _ (by omega)) (Int.emod_lt_of_pos _ h0)
theorem ok_is_whole (T : Txt K mg a) : FnOk P w K mg base CX0 1 a.is_whole a.d_is_whole ["thing", "low", "high"] (spWhole K) := by
  refine fund_ok0 T.F_is_whole sc_is_whole (fun vs H Q E h => ?_) (fun cdv A outer s H vs Q E hr h => ?_)
  · obtain ⟨x, lo, hi, rfl, kn, kh, k⟩ := h
    rfl
  · obtain ⟨x, lo, hi, rfl, kn, kh, k⟩ := h
    refine ⟨_, (pss_cons (ps_if (PW.pt (pw_or (pt_not (pt_val (pe_callB (call_isiB .int (K := K)) (by rfl) T.b_isinstance (by decide +kernel) (pa_cons (pv 0) (pa_cons (pe_bltn (v := .ty "int") (u := .type "int") (by rfl) T.b_int (by decide +kernel) rfl) pa_nil))))) (pw_or (pt_val (pe_callB (call_isiB .bl (K := K)) (by rfl) T.b_isinstance (by decide +kernel) (pa_cons (pv 0) (pa_cons (pe_bltn (v := .ty "bool") (u := .type "bool") (by rfl) T.b_bool (by decide +kernel) rfl) pa_nil)))) (pw_or1 (pt_cmpR op_ltU (pv 0) (pv 1) (nomark _)))))) (pss_one (ps_ret pe_bl)) pss_nil)
    (pss_one (ps_ret (pe_or (pe_cmpR op_isU (pv 2) pe_non (nomark _)) (pe_one (pe_cmpR op_leU (pv 0) (pv 2) (nomark _))))))), ?_⟩
    dsimp only [L2.start, List.map_cons, List.map_nil, List.map, List.length_cons, List.length_nil, Nat.reduceAdd, Nat.reduceSub, List.replicate, List.cons_append, List.nil_append]
    cases x <;> first | exact kn.elim | skip
    case ref =>
      wtm_at "go"
      refine i_isoR kn fun f c e1 e2 e3 => ?_
      wtm_at "go"
      exact k
    case int =>
      rcases kh with rfl | ⟨h, rfl⟩
      all_goals wtm_at "gs"
      all_goals refine cast_bl k ?_
      all_goals simp only [isWh]
      all_goals simp_all
      all_goals omega
    all_goals wtm_at "gs"
    all_goals exact k
theorem ok__law_pool (T : Txt K mg a) : FnOk P w K mg base CX0 1 a._law_pool a.d__law_pool ["cell"] (spPool) := by
  refine fund_ok0 T.F__law_pool sc__law_pool (fun vs H Q E h => ?_) (fun cdv A outer s H vs Q E hr h => ?_)
  · obtain ⟨n, rfl, k⟩ := h
    rfl
  · obtain ⟨n, rfl, k⟩ := h
    refine ⟨_, (pss_cons (ps_if (pt_cmpR op_geU (pv 0) (pe_op op_powU pe_int pe_int) (nomark _)) (pss_one (ps_ret (pe_lst (pa_cons (pv 0) pa_nil)))) pss_nil)
    (pss_cons (ps_set (i := 1) sc__law_pool.nd rfl (by first | exact Or.inl rfl | exact Or.inr rfl) pe_int)
    (pss_cons (ps_for PassesOwn.never rfl (pi_range1 (by rfl) T.b_range (pa_cons pe_int pa_nil)) (pg_name (i := 2) sc__law_pool.nd rfl (by first | exact Or.inl rfl | exact Or.inr rfl))
    (pss_cons (ps_set (i := 3) sc__law_pool.nd rfl (by first | exact Or.inl rfl | exact Or.inr rfl) (pe_op op_modU (pe_op op_powU (pe_op (op_addU (K := K)) (pe_op (op_addU (K := K)) (pe_op op_mulU (pe_op op_modU (pv 0) pe_int) pe_int) (pe_op op_mulU pe_int (pv 2))) pe_int) pe_int) pe_int))
    (pss_one (ps_set (i := 1) sc__law_pool.nd rfl (by first | exact Or.inl rfl | exact Or.inr rfl) (pe_op (op_addU (K := K)) (pe_op op_mulU (pv 1) pe_int) (pe_op op_modU (pe_op op_powU (pe_op (op_addU (K := K)) (pe_op op_mulU (pv 3) pe_int) (pv 2)) pe_int) pe_int))))))
    (pss_one (ps_ret (pe_lst (pa_cons (pv 1) pa_nil))))))), ?_⟩
    dsimp only [L2.start, List.map_cons, List.map_nil, List.map, List.length_cons, List.length_nil, Nat.reduceAdd, Nat.reduceSub, List.replicate, List.cons_append, List.nil_append]
    wtm_at "gs"
    · exact k _ _ (by assumption)
    refine for_range (lo := 0) (n := 9) (fun i σ H' => H' = H ∧ ∃ (z : Int) (v1 v2 : Option V), σ = [some (.int n), some (.int z), v1, v2] ∧ 0 ≤ z ∧ z.natAbs < 2 ^ (31 * i)) ⟨rfl, 0, none, none, rfl, by decide, by decide⟩ ?_ ?_
    · rintro i σ _ hi ⟨rfl, z, v1, v2, rfl, h0, h1⟩
      have hq : 2 ^ (31 * (i + 1)) = 2 ^ (31 * i) * 2147483648 := by rw [Nat.mul_add, Nat.pow_add]
      have hp : 2 ^ (31 * i) ≤ 2 ^ 400 := Nat.pow_le_pow_right (by decide) (by omega)
      generalize 2 ^ (31 * i) = q at *
      wtm_at "gs"
      refine i_mulI (mulW (Nat.lt_of_lt_of_le h1 hp) (by decide)) ?_
      wtm_at "gs"
      rw [hq]
      exact ⟨rfl, _, _, _, rfl, pool_next _ _ _ h0 h1⟩
    · rintro σ _ ⟨rfl, z, v1, v2, rfl, h0, h1⟩
      wtm_at "gs"
      exact k _ _ (by assumption)
end

/-! errors: steps -/
theorem exm_eq {K : PySem.W.Frag} {c : Value} {l : List Value} {b d : Bool} (h : PySem.W.exmAny K c l = some b) (e : b = d) : PySem.W.exmAny K c l = some d := e ▸ h
theorem xdAt_of {H : Hp} {dd : Addr} {fs : List (Str × V)} (h : H dd = some (.xd fs)) : XdAt H (some dd) := .inr ⟨dd, fs, rfl, h⟩
theorem kit_eq {K : PySem.W.Frag} {c : Value} {l : List Value} {b d : Bool} (h : PySem.W.kitAny K c l = some b) (e : b = d) : PySem.W.kitAny K c l = some d := e ▸ h
local macro_rules | `(tactic| wtm_at "exm") => `(tactic| fail)
local macro_rules | `(tactic| wtm_at "exm") => `(tactic| first | exact any_nil | ((with_reducible refine' any_cons ?x1 ?x2); (case x1 => wtm_at "exm1"); (case x2 => wtm_at "exm")) | fail)
local macro_rules | `(tactic| wtm_at "kit") => `(tactic| fail)
local macro_rules | `(tactic| wtm_at "kit") => `(tactic| first | exact kany_nil | ((with_reducible refine' kany_cons ?x1 ?x2); (case x1 => wtm_at "xk"); (case x2 => wtm_at "kit")) | fail)
local macro_rules | `(tactic| wtm_at "xd") => `(tactic| ((with_reducible refine' xdAt_of ?xd); (case xd => wtm_at "getg")))
local macro_rules | `(tactic| wtm_at "clv") => `(tactic| fail)
local macro_rules | `(tactic| wtm_at "clv") => `(tactic| first | exact .nil | exact .ty _ | exact .own _ | (refine' .cons ?v1 ?v2; (case v1 => wtm_at "clv"); (case v2 => wtm_at "clv")) | fail)
set_option hygiene false in
local macro_rules | `(tactic| wtm_at "u") => `(tactic| with_reducible first | refine i_app ?_ | refine i_intB ?_ | refine i_intI ?_ | fail)
set_option hygiene false in
local macro_rules | `(tactic| wtm_at "u") => `(tactic| with_reducible first | refine i_goN ?_ | refine i_go0 ?_ | refine i_xfA ?_ | refine i_zipT ?_ | refine i_excV (fun ed hed => ?_) | refine i_maxU ?_ | refine i_minU ?_ | refine i_isiC ?_ | fail)
set_option hygiene false in
local macro_rules | `(tactic| wtm_at "u") => `(tactic| with_reducible first | refine i_nn ?_ | refine i_rev ?_ | refine i_raise ?_ | refine i_exc ?_ | refine i_try ?_ | refine i_methS ?_ | refine i_callS ?_ | refine i_makeS ?_ | fail)
set_option hygiene false in
local macro_rules | `(tactic| wtm_at "u") => `(tactic| first | ((with_reducible refine' i_revL ?e ?h1 ?_); (case e => rfl); (case h1 => wtm_at "sq"); intro q hq) | ((with_reducible refine' i_rep1 ?h1 ?h2 (fun q hq => ?_)); (case h1 => wtm_at "get"); (case h2 => first | wtm_at "as" | omega | (simp only [List.length_map]; omega))) | ((with_reducible refine' i_tyL ?h1 ?_); (case h1 => wtm_at "sq")) | ((with_reducible refine' i_rapp ?h1 ?h2 ?_); (case h1 => wtm_at "get"); (case h2 => first | assumption | exact line_lt (by first | omega | (simp only [List.length_append, List.length_map, List.length_cons, List.length_nil]; omega)))) | ((with_reducible refine' i_kit ?e ?_); (case e => wtm_at "xk")) | ((with_reducible refine' i_zipTT ?h1 ?h2 ?_); (case h1 => wtm_at "sq"); (case h2 => wtm_at "sq")) | ((with_reducible refine' i_zipLL ?h1 ?h2 ?_); (case h1 => wtm_at "sq"); (case h2 => wtm_at "sq")) | fail)
set_option hygiene false in
local macro_rules | `(tactic| wtm_at "u") => `(tactic| first | ((with_reducible refine' i_clT (exm_eq ?hb ?hc) (fun ea hea => ?_)); (case hb => wtm_at "exm"); (case hc => exact rfl)) | ((with_reducible refine' i_clF (exm_eq ?hb ?hc) ?_); (case hb => wtm_at "exm"); (case hc => exact rfl)) | ((with_reducible refine' i_xf ?T ?no ?h1 ?h2 ?_); (case T => wtm_at "xc"); (case no => wtm_at "xn"); (case h1 => wtm_at "getg"); (case h2 => exact rfl)) | ((with_reducible refine' i_isX rfl ?T ?xd ?k ?e ?_); (case T => wtm_at "xc"); (case xd => wtm_at "xd"); (case k => wtm_at "clv"); (case e => wtm_at "xk")) | ((with_reducible refine' i_isXs ?ht rfl ?T ?xd ?k (kit_eq ?e ?eb) ?_); (case ht => wtm_at "getg"); (case T => wtm_at "xc"); (case xd => wtm_at "xd"); (case k => wtm_at "clv"); (case e => wtm_at "kit"); (case eb => exact rfl)) | ((with_reducible refine' i_tupT ?h1 ?h2 ?_); (case h1 => wtm_at "sq"); (case h2 => exact rfl)) | ((with_reducible refine' i_ixL ?h1 ?h2 ?_); (case h1 => wtm_at "sq"); (case h2 => wtm_at "as")) | ((with_reducible refine' i_ixT ?h1 ?h2 ?_); (case h1 => wtm_at "sq"); (case h2 => wtm_at "as")) | fail)
local macro_rules | `(tactic| wtm_at "rz") => `(tactic| fail)
local macro_rules | `(tactic| wtm_at "rz") => `(tactic| first | assumption | wtm_at "same" | wtm_at "get" | fail)
local macro_rules | `(tactic| wtm_at "nn") => `(tactic| fail)
local macro_rules | `(tactic| wtm_at "nn") => `(tactic| first | wtm_at "as" | exact nn_rep (by first | decide | omega) | fail)
local macro_rules | `(tactic| wtm_at "lenle") => `(tactic| fail)
local macro_rules | `(tactic| wtm_at "lenle") => `(tactic| first | wtm_at "as" | omega | (simp only [List.length_replicate, List.length_map, List.length_cons, List.length_nil]; omega) | fail)
local macro_rules | `(tactic| wtm_at "noc") => `(tactic| fail)
local macro_rules | `(tactic| wtm_at "noc") => `(tactic| first | wtm_at "as" | ((with_reducible refine' NoC.same ?s ?h); (case h => wtm_at "as"); (case s => wtm_at "same")) | exact NoC.flat rfl | exact NoC.ofG (by wtm_at "getg") rfl | exact NoC.sqL (by wtm_at "sq") | exact NoC.sqT (by wtm_at "sq") | fail)
local macro_rules | `(tactic| wtm_at "nos") => `(tactic| fail)
local macro_rules | `(tactic| wtm_at "nos") => `(tactic| first | wtm_at "as" | ((with_reducible refine' NoSeq.same ?s ?h); (case h => wtm_at "as"); (case s => wtm_at "same")) | exact NoSeq.flat rfl | exact NoSeq.dict (by wtm_at "get") | fail)
set_option hygiene false in
local macro_rules | `(tactic| wtm_at "a") => `(tactic| first | ((with_reducible refine' i_isiBsN ?h0 ?hn ?_); (case hn => wtm_at "nos"); (case h0 => wtm_at "get")) | ((with_reducible refine' i_isiLN ?hn ?_); (case hn => wtm_at "nos")) | ((with_reducible refine' i_isiTN ?hn ?_); (case hn => wtm_at "nos")) | ((with_reducible refine' i_isiTN2 ?hn ?_); (case hn => wtm_at "as")) | ((with_reducible refine' i_isiCN ?hn ?_); (case hn => wtm_at "noc")) | fail)
local macro_rules | `(tactic| wtm_at "eqv") => `(tactic| fail)
local macro_rules | `(tactic| wtm_at "eqv") => `(tactic| first | exact EqV.one | exact EqV.selfB rfl | ((with_reducible refine' EqV.noc ?n); (case n => wtm_at "noc")) | ((with_reducible refine' EqV.selfA ?n); (case n => wtm_at "kn")) | ((with_reducible refine' EqV.nos ?n); (case n => wtm_at "nos")) | exact EqV.flat rfl | fail)
local macro_rules | `(tactic| wtm_at "eqvs") => `(tactic| fail)
local macro_rules | `(tactic| wtm_at "eqvs") => `(tactic| first | exact EqVs.nil | ((with_reducible refine' EqVs.cons ?e1 ?e2); (case e1 => wtm_at "eqv"); (case e2 => wtm_at "eqvs")) | exact EqVs.nilc | exact EqVs.cnil | fail)
set_option hygiene false in
local macro_rules | `(tactic| wtm_at "u") => `(tactic| first | ((with_reducible refine' i_neG (n := 3) ?h1 ?hn ?t ?_); (case h1 => first | exact .inl ⟨by wtm_at "sq", by wtm_at "sq"⟩ | exact .inr ⟨by wtm_at "sq", by wtm_at "sq"⟩); (case t => wtm_at "eqvs"); (case hn => decide)) | ((with_reducible refine' i_eqG (n := 3) ?h1 ?hn ?t ?_); (case h1 => first | exact .inl ⟨by wtm_at "sq", by wtm_at "sq"⟩ | exact .inr ⟨by wtm_at "sq", by wtm_at "sq"⟩); (case t => wtm_at "eqvs"); (case hn => decide)) | fail)
local macro_rules | `(tactic| wtm_at "exm1") => `(tactic| fail)
set_option hygiene false in
local macro_rules | `(tactic| wtm_at "exm1") => `(tactic| first | exact exm_own T.e_HallError T.u_NoNumber_HallError | exact exm_own T.e_Barred T.u_NoNumber_Barred | exact exm_own T.e_NoNumber T.u_NoNumber_NoNumber | exact exm_own T.e_NoMember T.u_NoNumber_NoMember | exact exm_own T.e_NoDeed T.u_NoNumber_NoDeed | exact exm_own T.e_Lacks T.u_NoNumber_Lacks | exact exm_own T.e_Known T.u_NoNumber_Known | exact exm_own T.e_AllTold T.u_NoNumber_AllTold | fail)
set_option hygiene false in
local macro_rules | `(tactic| wtm_at "exm1") => `(tactic| first | exact exm_own T.e_HallError T.u_NoMember_HallError | exact exm_own T.e_Barred T.u_NoMember_Barred | exact exm_own T.e_NoNumber T.u_NoMember_NoNumber | exact exm_own T.e_NoMember T.u_NoMember_NoMember | exact exm_own T.e_NoDeed T.u_NoMember_NoDeed | exact exm_own T.e_Lacks T.u_NoMember_Lacks | exact exm_own T.e_Known T.u_NoMember_Known | exact exm_own T.e_AllTold T.u_NoMember_AllTold | fail)
set_option hygiene false in
local macro_rules | `(tactic| wtm_at "exm1") => `(tactic| first | exact exm_own T.e_HallError T.u_NoDeed_HallError | exact exm_own T.e_Barred T.u_NoDeed_Barred | exact exm_own T.e_NoNumber T.u_NoDeed_NoNumber | exact exm_own T.e_NoMember T.u_NoDeed_NoMember | exact exm_own T.e_NoDeed T.u_NoDeed_NoDeed | exact exm_own T.e_Lacks T.u_NoDeed_Lacks | exact exm_own T.e_Known T.u_NoDeed_Known | exact exm_own T.e_AllTold T.u_NoDeed_AllTold | fail)
set_option hygiene false in
local macro_rules | `(tactic| wtm_at "exm1") => `(tactic| first | exact exm_own T.e_HallError T.u_AllTold_HallError | exact exm_own T.e_Barred T.u_AllTold_Barred | exact exm_own T.e_NoNumber T.u_AllTold_NoNumber | exact exm_own T.e_NoMember T.u_AllTold_NoMember | exact exm_own T.e_NoDeed T.u_AllTold_NoDeed | exact exm_own T.e_Lacks T.u_AllTold_Lacks | exact exm_own T.e_Known T.u_AllTold_Known | exact exm_own T.e_AllTold T.u_AllTold_AllTold | fail)
set_option hygiene false in
local macro_rules | `(tactic| wtm_at "exm1") => `(tactic| first | exact exm_own T.e_HallError T.u_Lacks_HallError | exact exm_own T.e_Barred T.u_Lacks_Barred | exact exm_own T.e_NoNumber T.u_Lacks_NoNumber | exact exm_own T.e_NoMember T.u_Lacks_NoMember | exact exm_own T.e_NoDeed T.u_Lacks_NoDeed | exact exm_own T.e_Lacks T.u_Lacks_Lacks | exact exm_own T.e_Known T.u_Lacks_Known | exact exm_own T.e_AllTold T.u_Lacks_AllTold | fail)
set_option hygiene false in
local macro_rules | `(tactic| wtm_at "exm1") => `(tactic| first | exact exm_own T.e_HallError T.u_Known_HallError | exact exm_own T.e_Barred T.u_Known_Barred | exact exm_own T.e_NoNumber T.u_Known_NoNumber | exact exm_own T.e_NoMember T.u_Known_NoMember | exact exm_own T.e_NoDeed T.u_Known_NoDeed | exact exm_own T.e_Lacks T.u_Known_Lacks | exact exm_own T.e_Known T.u_Known_Known | exact exm_own T.e_AllTold T.u_Known_AllTold | fail)
set_option hygiene false in
local macro_rules | `(tactic| wtm_at "xk") => `(tactic| first | exact T.x_NoNumber_Lacks | exact T.x_NoNumber_Known | exact T.x_NoNumber_AllTold | fail)
set_option hygiene false in
local macro_rules | `(tactic| wtm_at "xk") => `(tactic| first | exact T.x_NoMember_NoDeed | exact T.x_NoMember_Lacks | exact T.x_NoMember_Known | exact T.x_NoMember_AllTold | exact T.x_NoNumber_HallError | exact T.x_NoNumber_Barred | exact T.x_NoNumber_NoMember | exact T.x_NoNumber_NoDeed | fail)
set_option hygiene false in
local macro_rules | `(tactic| wtm_at "xk") => `(tactic| first | exact T.x_NoDeed_NoNumber | exact T.x_NoDeed_NoMember | exact T.x_NoDeed_Lacks | exact T.x_NoDeed_Known | exact T.x_NoDeed_AllTold | exact T.x_NoMember_HallError | exact T.x_NoMember_Barred | exact T.x_NoMember_NoNumber | fail)
set_option hygiene false in
local macro_rules | `(tactic| wtm_at "xk") => `(tactic| first | exact T.x_AllTold_Barred | exact T.x_AllTold_NoNumber | exact T.x_AllTold_NoMember | exact T.x_AllTold_NoDeed | exact T.x_AllTold_Lacks | exact T.x_AllTold_Known | exact T.x_NoDeed_HallError | exact T.x_NoDeed_Barred | fail)
set_option hygiene false in
local macro_rules | `(tactic| wtm_at "xk") => `(tactic| first | exact T.x_Lacks_HallError | exact T.x_Lacks_Barred | exact T.x_Lacks_NoNumber | exact T.x_Lacks_NoMember | exact T.x_Lacks_NoDeed | exact T.x_Lacks_Known | exact T.x_Lacks_AllTold | exact T.x_AllTold_HallError | fail)
set_option hygiene false in
local macro_rules | `(tactic| wtm_at "xk") => `(tactic| first | exact kit_self | exact T.x_Known_HallError | exact T.x_Known_Barred | exact T.x_Known_NoNumber | exact T.x_Known_NoMember | exact T.x_Known_NoDeed | exact T.x_Known_Lacks | exact T.x_Known_AllTold | fail)
local macro_rules | `(tactic| wtm_at "xc") => `(tactic| fail)
set_option hygiene false in
local macro_rules | `(tactic| wtm_at "xc") => `(tactic| first | exact T.e_Known | exact T.e_Lacks | exact T.e_AllTold | exact T.e_NoDeed | exact T.e_NoMember | exact T.e_NoNumber | fail)
local macro_rules | `(tactic| wtm_at "xn") => `(tactic| fail)
set_option hygiene false in
local macro_rules | `(tactic| wtm_at "xn") => `(tactic| first | exact T.n_Known_found | exact T.n_Lacks_found | exact T.n_AllTold_found | exact T.n_NoDeed_found | exact T.n_NoMember_found | exact T.n_NoNumber_found | fail)
/-! new things: the heap behind is a name of its own -/
theorem abs_new {H HN : Hp} {q : Addr} {o : HO} (hq : H q = none) (hE : upd H q o = HN) : Same H HN ∧ HN q = some o := by subst hE; exact ⟨same_upd (Same.refl _) hq, upd_same⟩
theorem abs_set {H HN : Hp} {q : Addr} {o : HO} (hE : upd H q o = HN) : SameBut q H HN ∧ HN q = some o := by subst hE; exact ⟨SameBut.upd _ _ _, upd_same⟩
set_option hygiene false in
local macro_rules | `(tactic| wtm_at "absn") => `(tactic| ((generalize hE : upd _ q _ = HN); (obtain ⟨sa, hg⟩ := abs_new hq hE); (clear hE)))
set_option hygiene false in
local macro_rules | `(tactic| wtm_at "abss") => `(tactic| ((generalize hE : upd _ _ _ = HN); (obtain ⟨sb, hg⟩ := abs_set hE); (clear hE)))
local macro_rules | `(tactic| wtm_at "n") => `(tactic| fail)
set_option hygiene false in
local macro_rules | `(tactic| wtm_at "n") => `(tactic| first | ((with_reducible refine' i_rep1 ?h1 ?h2 (fun q hq => ?_)); (case h1 => wtm_at "get"); (case h2 => first | wtm_at "as" | omega | (simp only [List.length_map]; omega)); wtm_at "absn") | ((with_reducible refine' i_setL ?h1 ?h2 ?_); (case h1 => wtm_at "get"); (case h2 => rfl); wtm_at "abss") | ((with_reducible refine' i_rapp ?h1 ?h2 ?_); (case h1 => wtm_at "get"); (case h2 => first | assumption | exact line_lt (by first | omega | (simp only [List.length_append, List.length_map, List.length_cons, List.length_nil]; omega))); wtm_at "abss") | fail)
set_option hygiene false in
local macro_rules | `(tactic| wtm_at "n") => `(tactic| first | ((with_reducible refine' i_new ?h1 (fun q hq => ?_)); (case h1 => first | decide | exact Nat.le_of_ble_eq_true rfl | omega); wtm_at "absn") | ((with_reducible refine i_dnew (fun q hq => ?_)); wtm_at "absn") | ((with_reducible refine i_dnewT (fun q hq => ?_)); wtm_at "absn") | ((with_reducible refine' i_tupOfL ?h1 (fun q hq => ?_)); (case h1 => wtm_at "sq"); wtm_at "absn") | ((with_reducible refine' i_lstOfL ?h1 (fun q hq => ?_)); (case h1 => wtm_at "sq"); wtm_at "absn") | ((with_reducible refine' i_lstOfT ?h1 (fun q hq => ?_)); (case h1 => wtm_at "sq"); wtm_at "absn") | ((with_reducible refine' i_slL ?h1 (fun q hq => ?_)); (case h1 => wtm_at "sq"); wtm_at "absn") | ((with_reducible refine' i_addL ?h1 ?h2 ?h3 (fun q hq => ?_)); (case h1 => wtm_at "get"); (case h2 => wtm_at "get"); (case h3 => first | assumption | exact line_le (by omega) | exact Nat.le_of_lt (line_lt (by simp only [List.length_append, List.length_cons, List.length_nil]; omega)) | decide); wtm_at "absn") | fail)
local macro_rules | `(tactic| wtm_at "go3") => `(tactic| fail)
local macro_rules | `(tactic| wtm_at "go3") => `(tactic| first | wtm_at "u" | fail)
local macro_rules | `(tactic| wtm_at "go3") => `(tactic| first | wtm_at "a" | fail)
local macro_rules | `(tactic| wtm_at "go3") => `(tactic| first | wtm_at "h" | fail)
local macro_rules | `(tactic| wtm_at "go3") => `(tactic| first | wtm_at "n" | fail)
local macro_rules | `(tactic| wtm_at "go") => `(tactic| repeat' (wtm_at "go3"))
local macro_rules | `(tactic| wtm_at "gs4") => `(tactic| fail)
local macro_rules | `(tactic| wtm_at "gs4") => `(tactic| first | with_reducible refine i_dec (fun _ => ?_) (fun _ => ?_) | fail)
local macro_rules | `(tactic| wtm_at "gs4") => `(tactic| first | wtm_at "u" | fail)
local macro_rules | `(tactic| wtm_at "gs4") => `(tactic| first | wtm_at "a" | fail)
local macro_rules | `(tactic| wtm_at "gs4") => `(tactic| first | wtm_at "h" | fail)
local macro_rules | `(tactic| wtm_at "gs4") => `(tactic| first | wtm_at "n" | fail)
local macro_rules | `(tactic| wtm_at "gs") => `(tactic| repeat' (wtm_at "gs4"))
/-! a join: what follows is shown once -/
theorem seq_rest {t u : TS} {D : Ends} {σ : St} {H : Hp} (J : St → Hp → Prop) (h1 : ∀ σ' H', J σ' H' → u D σ' H') (h2 : ∀ R : St → Hp → Prop, (∀ σ' H', J σ' H' → R σ' H') → t { D with nx := R } σ H) : tSeq t u D σ H := h2 _ h1
theorem i_seqIf {tc : TT} {t u v : TS} {D : Ends} {σ : St} {H : Hp} (h : tSeq (tIfS tc t u) v D σ H) : tSeq (tIfS tc t u) v D σ H := h
local macro_rules | `(tactic| wtm_at "gi5") => `(tactic| fail)
local macro_rules | `(tactic| wtm_at "gi5") => `(tactic| first | with_reducible refine i_dec (fun _ => ?_) (fun _ => ?_) | fail)
local macro_rules | `(tactic| wtm_at "gi5") => `(tactic| first | wtm_at "u" | fail)
local macro_rules | `(tactic| wtm_at "gi5") => `(tactic| first | wtm_at "a" | fail)
local macro_rules | `(tactic| wtm_at "gi5") => `(tactic| first | wtm_at "h" | fail)
local macro_rules | `(tactic| wtm_at "gi5") => `(tactic| first | wtm_at "n" | fail)
local macro_rules | `(tactic| wtm_at "gi") => `(tactic| repeat' ((fail_if_success (with_reducible refine i_seqIf ?_)); wtm_at "gi5"))
theorem ixN_of {i : Int} {n : Nat} (h0 : 0 ≤ i) (h : i < n) : ixN n i = some i.toNat := by
  unfold ixN
  rw [if_pos (by omega), if_pos (by omega)]
theorem atI_N {ns : List Int} {i : Nat} (h : i < ns.length) : atI (ns.map V.int) (i : Int) = some (.int (ns.getD i 0)) := by
  have := atI_D h
  rwa [Int.zero_add] at this
/-! ### the plain hall -/
structure PhAt (C : Addr) (H : Hp) (p dx r t : Addr) (row : List Idn) (told : List Int) : Prop where
  hp : H p = some (.ins C dx [("kept_row", .ref r), ("kept_told", .ref t)])
  hr : IdL H r row
  ht : H t = some (.lst (told.map V.int))
  nrt : r ≠ t
theorem PhAt.same {C : Addr} {H H' : Hp} {p dx r t : Addr} {row : List Idn} {told : List Int} (s : Same H H') (h : PhAt C H p dx r t row told) : PhAt C H' p dx r t row told := ⟨s _ _ h.hp, h.hr.same s, s _ _ h.ht, h.nrt⟩
theorem PhAt.add {C : Addr} {H H' : Hp} {p dx r t : Addr} {row : List Idn} {told : List Int} {xs : List V} {v : V} {z : Idn} (h : PhAt C H p dx r t row told) (hr : H r = some (.lst xs)) (hx : All2 (IdAt H) xs row) (hv : IdAt H v z) (s : SameBut r H H') (e : H' r = some (.lst (xs ++ [v]))) : PhAt C H' p dx r t (row ++ [z]) told := by
  have tp := MdX.tp hr s
  exact ⟨s _ _ (ne_of h.hp hr (by simp)) h.hp, ⟨_, e, All2.append (hx.mono fun _ _ => IdAt.keeps tp) (All2.cons (hv.keeps tp) All2.nil)⟩, s _ _ h.nrt.symm h.ht, h.nrt⟩
theorem PhAt.tell {C : Addr} {H H' : Hp} {p dx r t : Addr} {row : List Idn} {told told' : List Int} (h : PhAt C H p dx r t row told) (s : SameBut t H H') (e : H' t = some (.lst (told'.map V.int))) : PhAt C H' p dx r t row told' := by
  have tp := MdX.tp h.ht s
  exact ⟨s _ _ (ne_of h.hp h.ht (by simp)) h.hp, h.hr.keeps tp (fun _ => s _ _ h.nrt), e, h.nrt⟩
local macro_rules | `(tactic| wtm_at "ph") => `(tactic| fail)
local macro_rules | `(tactic| wtm_at "ph") => `(tactic| first | wtm_at "as" | ((with_reducible refine' PhAt.same ?d1 ?d2); (case d2 => wtm_at "as"); (case d1 => wtm_at "same")) | fail)
def spMem (K : PySem.W.Frag) : Sp := fun vs H Q _ => ∃ x, vs = [x] ∧ Kn K H x ∧ Q (.bl (isWh 2 (.int 5) x)) H
theorem memI_use {K : PySem.W.Frag} {H : Hp} {Q : VK} {E : XK} {vs : List V} {m : Int} (h0 : 2 ≤ m ∧ m ≤ 5) (h : Q (.bl true) H) (he : vs = [.int m] := by rfl) : spMem K vs H Q E := ⟨_, he, trivial, cast_bl h (by simp [isWh, h0.1, h0.2])⟩
theorem memX_use {K : PySem.W.Frag} {H : Hp} {Q : VK} {E : XK} {vs : List V} {x : V} (hk : Kn K H x) (h0 : isWh 2 (.int 5) x = false) (h : Q (.bl false) H) (he : vs = [x] := by rfl) : spMem K vs H Q E := ⟨_, he, hk, cast_bl h h0.symm⟩
set_option hygiene false in
local macro_rules | `(tactic| wtm_at "u") => `(tactic| ((with_reducible refine' memI_use ?h0 ?_ ?he); (case he => rfl); (case h0 => first | wtm_at "as" | omega)))
set_option hygiene false in
local macro_rules | `(tactic| wtm_at "u") => `(tactic| ((with_reducible refine' memX_use ?h1 ?h0 ?_ ?he); (case he => rfl); (case h1 => wtm_at "kn"); (case h0 => wtm_at "as")))
local macro_rules | `(tactic| wtm_at "l10") => `(tactic| fail)
local macro_rules | `(tactic| wtm_at "l10") => `(tactic| first | wtm_at "as" | exact Nat.le_of_ble_eq_true rfl | fail)
local macro_rules | `(tactic| wtm_at "not") => `(tactic| fail)
local macro_rules | `(tactic| wtm_at "not") => `(tactic| first | wtm_at "as" | ((with_reducible refine' NoTup.same ?s ?h); (case h => wtm_at "as"); (case s => wtm_at "same")) | fail)
local macro_rules | `(tactic| wtm_at "ida") => `(tactic| fail)
local macro_rules | `(tactic| wtm_at "ida") => `(tactic| first | wtm_at "as" | ((with_reducible refine' IdAt.same ?d1 ?d2); (case d1 => wtm_at "as"); (case d2 => wtm_at "ida")) | exact ⟨_, rfl, by wtm_at "get"⟩ | fail)
/-- what is no good deed -/
def adB (M : Int) : List V → Bool
  | [.str z, x, y] => decide (z = "add") && (isWh 0 (.int (M - 1)) x && isWh 1 .non y)
  | _ => false
def teB (M : Int) : List V → Bool
  | [.str z, x] => decide (z = "tell") && isWh 0 (.int (M - 1)) x
  | _ => false
theorem adB_no {M : Int} {xs : List V} (h : ¬ xs.length = 3) : adB M xs = false := by
  unfold adB
  split
  · exact absurd rfl h
  · rfl
theorem teB_no {M : Int} {xs : List V} (h : ¬ xs.length = 2) : teB M xs = false := by
  unfold teB
  split
  · exact absurd rfl h
  · rfl
def NoDd (K : PySem.W.Frag) (H : Hp) (M : Int) (v : V) : Prop := NoTup K H v ∨ ∃ q xs, v = .ref q ∧ SqT K H q xs ∧ (∀ x ∈ xs, Kn K H x) ∧ xs.length ≤ 10 ∧ adB M xs = false ∧ teB M xs = false
def spPI (K : PySem.W.Frag) (a : Ad) : Sp := fun vs H Q E => ∃ (x dx : Addr) (v : V), vs = [.ref x, v] ∧ (H x = some (.ins a.PlainHall dx [])) ∧ ((∃ (M : Nat), (v = .int M) ∧ (2 ≤ M ∧ M ≤ 5) ∧ (∀ HH r t, (SameBut x H HH) → (H r = none) → (H t = none) → (PhAt a.PlainHall HH x dx r t [] (List.replicate M 0)) → Q (.non) HH)) ∨ ((Kn K H v) ∧ (isWh 2 (.int 5) v = false) ∧ (∀ HH ed, Same H HH → HH ed = some (.xd [("found", v)]) → E (.ref a.NoNumber) (some ed) HH)))
theorem spPI_u1 {K : PySem.W.Frag} {a : Ad} {H : Hp} {Q : VK} {E : XK} {vs : List V} {x dx : Addr} {v : V} {M : Nat} (g0 : H x = some (.ins a.PlainHall dx [])) (g1 : v = .int M) (g2 : 2 ≤ M ∧ M ≤ 5) (k : ∀ HH r t, (SameBut x H HH) → (H r = none) → (H t = none) → (PhAt a.PlainHall HH x dx r t [] (List.replicate M 0)) → Q (.non) HH) (he : vs = [.ref x, v] := by rfl) : spPI K a vs H Q E := ⟨x, dx, v, he, g0, .inl ⟨M, g1, g2, k⟩⟩
theorem spPI_u2 {K : PySem.W.Frag} {a : Ad} {H : Hp} {Q : VK} {E : XK} {vs : List V} {x dx : Addr} {v : V} (g0 : H x = some (.ins a.PlainHall dx [])) (g1 : Kn K H v) (g2 : isWh 2 (.int 5) v = false) (k : ∀ HH ed, Same H HH → HH ed = some (.xd [("found", v)]) → E (.ref a.NoNumber) (some ed) HH) (he : vs = [.ref x, v] := by rfl) : spPI K a vs H Q E := ⟨x, dx, v, he, g0, .inr (⟨g1, g2, k⟩)⟩
set_option hygiene false in
local macro_rules | `(tactic| wtm_at "u") => `(tactic| first | ((with_reducible refine' spPI_u1 ?g0 ?g1 ?g2 (fun HH r t sb nr nt hph => ?_) ?he); (case he => rfl); (case g0 => wtm_at "get"); (case g1 => exact rfl); (case g2 => wtm_at "as")) | ((with_reducible refine' spPI_u2 ?g0 ?g1 ?g2 (fun HH ed sm hed => ?_) ?he); (case he => rfl); (case g0 => wtm_at "get"); (case g1 => wtm_at "kn"); (case g2 => wtm_at "as")) | fail)
def spPLen (K : PySem.W.Frag) (a : Ad) : Sp := fun vs H Q E => ∃ (p dx r t : Addr) (row : List Idn) (told : List Int), vs = [.ref p] ∧ (PhAt a.PlainHall H p dx r t row told) ∧ (row.length ≤ 1000) ∧ (Q (.int row.length) H)
theorem spPLen_u1 {K : PySem.W.Frag} {a : Ad} {H : Hp} {Q : VK} {E : XK} {vs : List V} {p dx r t : Addr} {row : List Idn} {told : List Int} (g0 : PhAt a.PlainHall H p dx r t row told) (g1 : row.length ≤ 1000) (k : Q (.int row.length) H) (he : vs = [.ref p] := by rfl) : spPLen K a vs H Q E := ⟨p, dx, r, t, row, told, he, g0, g1, k⟩
set_option hygiene false in
local macro_rules | `(tactic| wtm_at "u") => `(tactic| first | ((with_reducible refine' spPLen_u1 ?g0 ?g1 ?_ ?he); (case he => rfl); (case g0 => wtm_at "ph"); (case g1 => wtm_at "as")) | fail)
def spPRow (K : PySem.W.Frag) (a : Ad) : Sp := fun vs H Q E => ∃ (p dx r t : Addr) (row : List Idn) (told : List Int), vs = [.ref p] ∧ (PhAt a.PlainHall H p dx r t row told) ∧ (row.length ≤ 1000) ∧ (∀ HH q xs, (Same H HH) → (H q = none) → (HH q = some (.lst xs)) → (All2 (IdAt HH) xs row) → Q (.ref q) HH)
theorem spPRow_u1 {K : PySem.W.Frag} {a : Ad} {H : Hp} {Q : VK} {E : XK} {vs : List V} {p dx r t : Addr} {row : List Idn} {told : List Int} (g0 : PhAt a.PlainHall H p dx r t row told) (g1 : row.length ≤ 1000) (k : ∀ HH q xs, (Same H HH) → (H q = none) → (HH q = some (.lst xs)) → (All2 (IdAt HH) xs row) → Q (.ref q) HH) (he : vs = [.ref p] := by rfl) : spPRow K a vs H Q E := ⟨p, dx, r, t, row, told, he, g0, g1, k⟩
set_option hygiene false in
local macro_rules | `(tactic| wtm_at "u") => `(tactic| first | ((with_reducible refine' spPRow_u1 ?g0 ?g1 (fun HH q xs sm hno hq hx => ?_) ?he); (case he => rfl); (case g0 => wtm_at "ph"); (case g1 => wtm_at "as")) | fail)
def spPTold (K : PySem.W.Frag) (a : Ad) : Sp := fun vs H Q E => ∃ (p dx r t : Addr) (row : List Idn) (told : List Int) (v : V), vs = [.ref p, v] ∧ (PhAt a.PlainHall H p dx r t row told) ∧ (told.length ≤ 5) ∧ ((∃ (m : Nat), (v = .int m) ∧ (m < told.length) ∧ (Q (.int (told.getD m 0)) H)) ∨ ((Kn K H v) ∧ (isWh 0 (.int (told.length - 1)) v = false) ∧ (∀ HH ed, Same H HH → HH ed = some (.xd [("found", v)]) → E (.ref a.NoMember) (some ed) HH)))
theorem spPTold_u1 {K : PySem.W.Frag} {a : Ad} {H : Hp} {Q : VK} {E : XK} {vs : List V} {p dx r t : Addr} {row : List Idn} {told : List Int} {v : V} {m : Nat} (g0 : PhAt a.PlainHall H p dx r t row told) (g1 : told.length ≤ 5) (g2 : v = .int m) (g3 : m < told.length) (k : Q (.int (told.getD m 0)) H) (he : vs = [.ref p, v] := by rfl) : spPTold K a vs H Q E := ⟨p, dx, r, t, row, told, v, he, g0, g1, .inl ⟨m, g2, g3, k⟩⟩
theorem spPTold_u2 {K : PySem.W.Frag} {a : Ad} {H : Hp} {Q : VK} {E : XK} {vs : List V} {p dx r t : Addr} {row : List Idn} {told : List Int} {v : V} (g0 : PhAt a.PlainHall H p dx r t row told) (g1 : told.length ≤ 5) (g2 : Kn K H v) (g3 : isWh 0 (.int (told.length - 1)) v = false) (k : ∀ HH ed, Same H HH → HH ed = some (.xd [("found", v)]) → E (.ref a.NoMember) (some ed) HH) (he : vs = [.ref p, v] := by rfl) : spPTold K a vs H Q E := ⟨p, dx, r, t, row, told, v, he, g0, g1, .inr (⟨g2, g3, k⟩)⟩
set_option hygiene false in
local macro_rules | `(tactic| wtm_at "u") => `(tactic| first | ((with_reducible refine' spPTold_u1 ?g0 ?g1 ?g2 ?g3 ?_ ?he); (case he => rfl); (case g0 => wtm_at "ph"); (case g1 => wtm_at "as"); (case g2 => exact rfl); (case g3 => wtm_at "as")) | ((with_reducible refine' spPTold_u2 ?g0 ?g1 ?g2 ?g3 (fun HH ed sm hed => ?_) ?he); (case he => rfl); (case g0 => wtm_at "ph"); (case g1 => wtm_at "as"); (case g2 => wtm_at "kn"); (case g3 => wtm_at "as")) | fail)
def spPState (K : PySem.W.Frag) (a : Ad) : Sp := fun vs H Q E => ∃ (p dx r t : Addr) (row : List Idn) (told : List Int), vs = [.ref p] ∧ (PhAt a.PlainHall H p dx r t row told) ∧ (row.length ≤ 1000) ∧ (told.length ≤ 5) ∧ (∀ HH q qr qt xs, (Same H HH) → (H q = none) → (HH q = some (.tup [.ref qr, .ref qt])) → (HH qr = some (.tup xs)) → (All2 (IdAt HH) xs row) → (HH qt = some (.tup (told.map V.int))) → Q (.ref q) HH)
theorem spPState_u1 {K : PySem.W.Frag} {a : Ad} {H : Hp} {Q : VK} {E : XK} {vs : List V} {p dx r t : Addr} {row : List Idn} {told : List Int} (g0 : PhAt a.PlainHall H p dx r t row told) (g1 : row.length ≤ 1000) (g2 : told.length ≤ 5) (k : ∀ HH q qr qt xs, (Same H HH) → (H q = none) → (HH q = some (.tup [.ref qr, .ref qt])) → (HH qr = some (.tup xs)) → (All2 (IdAt HH) xs row) → (HH qt = some (.tup (told.map V.int))) → Q (.ref q) HH) (he : vs = [.ref p] := by rfl) : spPState K a vs H Q E := ⟨p, dx, r, t, row, told, he, g0, g1, g2, k⟩
set_option hygiene false in
local macro_rules | `(tactic| wtm_at "u") => `(tactic| first | ((with_reducible refine' spPState_u1 ?g0 ?g1 ?g2 (fun HH q qr qt xs sm hno hq hqr hx hqt => ?_) ?he); (case he => rfl); (case g0 => wtm_at "ph"); (case g1 => wtm_at "as"); (case g2 => wtm_at "as")) | fail)
def spPAdd (K : PySem.W.Frag) (a : Ad) : Sp := fun vs H Q E => ∃ (p dx r t : Addr) (row : List Idn) (told : List Int) (v : V) (z : Idn), vs = [.ref p, v] ∧ (PhAt a.PlainHall H p dx r t row told) ∧ (row.length ≤ 400) ∧ (IdAt H v z) ∧ (((z ∉ row) ∧ (1 < z.2 → (z.1, z.2 - 1) ∈ row) ∧ (∀ HH, (SameBut r H HH) → (PhAt a.PlainHall HH p dx r t (row ++ [z]) told) → Q (.non) HH)) ∨ ((z ∈ row) ∧ (∀ HH ed, Same H HH → HH ed = some (.xd [("found", v)]) → E (.ref a.Known) (some ed) HH)) ∨ ((z ∉ row) ∧ (1 < z.2) ∧ ((z.1, z.2 - 1) ∉ row) ∧ (∀ HH ed (l y : Addr), Same H HH → HH ed = some (.xd [("found", .ref l)]) → (HH l = some (.lst [.ref y])) → (HH y = some (.tup [.int z.1, .int (z.2 - 1)])) → (H l = none) → E (.ref a.Lacks) (some ed) HH)))
theorem spPAdd_u1 {K : PySem.W.Frag} {a : Ad} {H : Hp} {Q : VK} {E : XK} {vs : List V} {p dx r t : Addr} {row : List Idn} {told : List Int} {v : V} {z : Idn} (g0 : PhAt a.PlainHall H p dx r t row told) (g1 : row.length ≤ 400) (g2 : IdAt H v z) (g3 : z ∉ row) (g4 : 1 < z.2 → (z.1, z.2 - 1) ∈ row) (k : ∀ HH, (SameBut r H HH) → (PhAt a.PlainHall HH p dx r t (row ++ [z]) told) → Q (.non) HH) (he : vs = [.ref p, v] := by rfl) : spPAdd K a vs H Q E := ⟨p, dx, r, t, row, told, v, z, he, g0, g1, g2, .inl ⟨g3, g4, k⟩⟩
theorem spPAdd_u2 {K : PySem.W.Frag} {a : Ad} {H : Hp} {Q : VK} {E : XK} {vs : List V} {p dx r t : Addr} {row : List Idn} {told : List Int} {v : V} {z : Idn} (g0 : PhAt a.PlainHall H p dx r t row told) (g1 : row.length ≤ 400) (g2 : IdAt H v z) (g3 : z ∈ row) (k : ∀ HH ed, Same H HH → HH ed = some (.xd [("found", v)]) → E (.ref a.Known) (some ed) HH) (he : vs = [.ref p, v] := by rfl) : spPAdd K a vs H Q E := ⟨p, dx, r, t, row, told, v, z, he, g0, g1, g2, .inr (.inl ⟨g3, k⟩)⟩
theorem spPAdd_u3 {K : PySem.W.Frag} {a : Ad} {H : Hp} {Q : VK} {E : XK} {vs : List V} {p dx r t : Addr} {row : List Idn} {told : List Int} {v : V} {z : Idn} (g0 : PhAt a.PlainHall H p dx r t row told) (g1 : row.length ≤ 400) (g2 : IdAt H v z) (g3 : z ∉ row) (g4 : 1 < z.2) (g5 : (z.1, z.2 - 1) ∉ row) (k : ∀ HH ed (l y : Addr), Same H HH → HH ed = some (.xd [("found", .ref l)]) → (HH l = some (.lst [.ref y])) → (HH y = some (.tup [.int z.1, .int (z.2 - 1)])) → (H l = none) → E (.ref a.Lacks) (some ed) HH) (he : vs = [.ref p, v] := by rfl) : spPAdd K a vs H Q E := ⟨p, dx, r, t, row, told, v, z, he, g0, g1, g2, .inr (.inr (⟨g3, g4, g5, k⟩))⟩
set_option hygiene false in
local macro_rules | `(tactic| wtm_at "u") => `(tactic| first | ((with_reducible refine' spPAdd_u1 ?g0 ?g1 ?g2 ?g3 ?g4 (fun HH sb hph' => ?_) ?he); (case he => rfl); (case g0 => wtm_at "ph"); (case g1 => wtm_at "as"); (case g2 => wtm_at "ida"); (case g3 => wtm_at "as"); (case g4 => wtm_at "as")) | ((with_reducible refine' spPAdd_u2 ?g0 ?g1 ?g2 ?g3 (fun HH ed sm hed => ?_) ?he); (case he => rfl); (case g0 => wtm_at "ph"); (case g1 => wtm_at "as"); (case g2 => wtm_at "ida"); (case g3 => wtm_at "as")) | ((with_reducible refine' spPAdd_u3 ?g0 ?g1 ?g2 ?g3 ?g4 ?g5 (fun HH ed l y sm hed hy hz hno => ?_) ?he); (case he => rfl); (case g0 => wtm_at "ph"); (case g1 => wtm_at "as"); (case g2 => wtm_at "ida"); (case g3 => wtm_at "as"); (case g4 => wtm_at "as"); (case g5 => wtm_at "as")) | fail)
def spPTell (K : PySem.W.Frag) (a : Ad) : Sp := fun vs H Q E => ∃ (p dx r t : Addr) (row : List Idn) (told : List Int) (m kn : Nat), vs = [.ref p, .int m] ∧ (PhAt a.PlainHall H p dx r t row told) ∧ (row.length ≤ 1000) ∧ (told.length ≤ 5) ∧ (m < told.length) ∧ (told.getD m 0 = (kn : Nat)) ∧ ((∃ (z : Idn), (row[kn]? = some z) ∧ (∀ HH v, (SameBut t H HH) → (PhAt a.PlainHall HH p dx r t row (told.set m ((kn : Int) + 1))) → (IdAt HH v z) → Q (v) HH)) ∨ ((kn = row.length) ∧ (∀ HH ed, Same H HH → HH ed = some (.xd [("found", .int m)]) → E (.ref a.AllTold) (some ed) HH)))
theorem spPTell_u1 {K : PySem.W.Frag} {a : Ad} {H : Hp} {Q : VK} {E : XK} {vs : List V} {p dx r t : Addr} {row : List Idn} {told : List Int} {m kn : Nat} {z : Idn} (g0 : PhAt a.PlainHall H p dx r t row told) (g1 : row.length ≤ 1000) (g2 : told.length ≤ 5) (g3 : m < told.length) (g4 : told.getD m 0 = (kn : Nat)) (g5 : row[kn]? = some z) (k : ∀ HH v, (SameBut t H HH) → (PhAt a.PlainHall HH p dx r t row (told.set m ((kn : Int) + 1))) → (IdAt HH v z) → Q (v) HH) (he : vs = [.ref p, .int m] := by rfl) : spPTell K a vs H Q E := ⟨p, dx, r, t, row, told, m, kn, he, g0, g1, g2, g3, g4, .inl ⟨z, g5, k⟩⟩
theorem spPTell_u2 {K : PySem.W.Frag} {a : Ad} {H : Hp} {Q : VK} {E : XK} {vs : List V} {p dx r t : Addr} {row : List Idn} {told : List Int} {m kn : Nat} (g0 : PhAt a.PlainHall H p dx r t row told) (g1 : row.length ≤ 1000) (g2 : told.length ≤ 5) (g3 : m < told.length) (g4 : told.getD m 0 = (kn : Nat)) (g5 : kn = row.length) (k : ∀ HH ed, Same H HH → HH ed = some (.xd [("found", .int m)]) → E (.ref a.AllTold) (some ed) HH) (he : vs = [.ref p, .int m] := by rfl) : spPTell K a vs H Q E := ⟨p, dx, r, t, row, told, m, kn, he, g0, g1, g2, g3, g4, .inr (⟨g5, k⟩)⟩
set_option hygiene false in
local macro_rules | `(tactic| wtm_at "u") => `(tactic| first | ((with_reducible refine' spPTell_u1 ?g0 ?g1 ?g2 ?g3 ?g4 ?g5 (fun HH v sb hph' hv => ?_) ?he); (case he => rfl); (case g0 => wtm_at "ph"); (case g1 => wtm_at "as"); (case g2 => wtm_at "as"); (case g3 => wtm_at "as"); (case g4 => wtm_at "as"); (case g5 => wtm_at "as")) | ((with_reducible refine' spPTell_u2 ?g0 ?g1 ?g2 ?g3 ?g4 ?g5 (fun HH ed sm hed => ?_) ?he); (case he => rfl); (case g0 => wtm_at "ph"); (case g1 => wtm_at "as"); (case g2 => wtm_at "as"); (case g3 => wtm_at "as"); (case g4 => wtm_at "as"); (case g5 => wtm_at "as")) | fail)
set_option hygiene false in
local macro_rules | `(tactic| wtm_at "u") => `(tactic| first | with_reducible refine i_augS ?_ | with_reducible refine i_ipI ?_ | ((with_reducible refine' i_getL ?h1 ?h2 ?_); (case h1 => wtm_at "sq"); (case h2 => wtm_at "as")) | fail)
section
variable {P : Program} {w : World} {K : PySem.W.Frag} {mg : Str → Option Value} {base : Heap} {a : Ad}
theorem ok_NoNumber_init (T : Txt K mg a) : FnOk P w K mg base CX0 1 a.NoNumber_init a.d_NoNumber_init ["self", "found"] (spExI a.NoNumber "found") := by
  refine fund_ok0 T.F_NoNumber_init sc_NoNumber_init (fun vs H Q E h => ?_) (fun cdv A outer s H vs Q E hr h => ?_)
  · obtain ⟨b, v, rfl, h⟩ := h
    rfl
  · exact ⟨_, pss_cons (ps_expr (pe_hinit (by rfl) T.m_HallError T.hs_HallError T.hq_HallError T.hf_HallError (pa_cons (pv 0) (pa_cons pe_str pa_nil)))) (pss_one (ps_ost (pv 0) (pv 1))), exc_read rfl T.o_NoNumber T.n_NoNumber_found h⟩
theorem ok_NoMember_init (T : Txt K mg a) : FnOk P w K mg base CX0 1 a.NoMember_init a.d_NoMember_init ["self", "found"] (spExI a.NoMember "found") := by
  refine fund_ok0 T.F_NoMember_init sc_NoMember_init (fun vs H Q E h => ?_) (fun cdv A outer s H vs Q E hr h => ?_)
  · obtain ⟨b, v, rfl, h⟩ := h
    rfl
  · exact ⟨_, pss_cons (ps_expr (pe_hinit (by rfl) T.m_HallError T.hs_HallError T.hq_HallError T.hf_HallError (pa_cons (pv 0) (pa_cons pe_str pa_nil)))) (pss_one (ps_ost (pv 0) (pv 1))), exc_read rfl T.o_NoMember T.n_NoMember_found h⟩
theorem ok_NoDeed_init (T : Txt K mg a) : FnOk P w K mg base CX0 1 a.NoDeed_init a.d_NoDeed_init ["self", "found"] (spExI a.NoDeed "found") := by
  refine fund_ok0 T.F_NoDeed_init sc_NoDeed_init (fun vs H Q E h => ?_) (fun cdv A outer s H vs Q E hr h => ?_)
  · obtain ⟨b, v, rfl, h⟩ := h
    rfl
  · exact ⟨_, pss_cons (ps_expr (pe_hinit (by rfl) T.m_HallError T.hs_HallError T.hq_HallError T.hf_HallError (pa_cons (pv 0) (pa_cons pe_str pa_nil)))) (pss_one (ps_ost (pv 0) (pv 1))), exc_read rfl T.o_NoDeed T.n_NoDeed_found h⟩
theorem ok_Lacks_init (T : Txt K mg a) : FnOk P w K mg base CX0 1 a.Lacks_init a.d_Lacks_init ["self", "found"] (spExI a.Lacks "found") := by
  refine fund_ok0 T.F_Lacks_init sc_Lacks_init (fun vs H Q E h => ?_) (fun cdv A outer s H vs Q E hr h => ?_)
  · obtain ⟨b, v, rfl, h⟩ := h
    rfl
  · exact ⟨_, pss_cons (ps_expr (pe_hinitT famL (by rfl) T.m_Barred T.hs_Barred T.hq_Barred T.hf_Barred (pa_cons (pv 0) (pa_cons pe_str pa_nil)))) (pss_one (ps_ostT famL (pv 0) (pv 1))), exc_readT rfl T.o_Lacks T.n_Lacks_found h⟩
theorem ok_Known_init (T : Txt K mg a) : FnOk P w K mg base CX0 1 a.Known_init a.d_Known_init ["self", "found"] (spExI a.Known "found") := by
  refine fund_ok0 T.F_Known_init sc_Known_init (fun vs H Q E h => ?_) (fun cdv A outer s H vs Q E hr h => ?_)
  · obtain ⟨b, v, rfl, h⟩ := h
    rfl
  · exact ⟨_, pss_cons (ps_expr (pe_hinitT famL (by rfl) T.m_Barred T.hs_Barred T.hq_Barred T.hf_Barred (pa_cons (pv 0) (pa_cons pe_str pa_nil)))) (pss_one (ps_ostT famL (pv 0) (pv 1))), exc_readT rfl T.o_Known T.n_Known_found h⟩
theorem ok_AllTold_init (T : Txt K mg a) : FnOk P w K mg base CX0 1 a.AllTold_init a.d_AllTold_init ["self", "found"] (spExI a.AllTold "found") := by
  refine fund_ok0 T.F_AllTold_init sc_AllTold_init (fun vs H Q E h => ?_) (fun cdv A outer s H vs Q E hr h => ?_)
  · obtain ⟨b, v, rfl, h⟩ := h
    rfl
  · exact ⟨_, pss_cons (ps_expr (pe_hinitT famL (by rfl) T.m_Barred T.hs_Barred T.hq_Barred T.hf_Barred (pa_cons (pv 0) (pa_cons pe_str pa_nil)))) (pss_one (ps_ostT famL (pv 0) (pv 1))), exc_readT rfl T.o_AllTold T.n_AllTold_found h⟩
theorem ok_are_members (T : Txt K mg a) : FnOk P w K mg base CX0 2 a.are_members a.d_are_members ["thing"] (spMem K) := by
  refine fund_ok0 T.F_are_members sc_are_members (fun vs H Q E h => ?_) (fun cdv A outer s H vs Q E hr h => ?_)
  · obtain ⟨x, rfl, kn, k⟩ := h
    rfl
  · obtain ⟨x, rfl, kn, k⟩ := h
    refine ⟨_, (pss_one (ps_ret (pe_call (ok_is_whole (K := K) T) (hr.mono (by decide)) (by rfl) T.m_is_whole T.F_is_whole.kp T.B_is_whole .nil pass0 (pa_cons (pv 0) (pa_cons (pe_globE rfl T.g_LEAST_MEMBERS) (pa_cons (pe_globE rfl T.g_MOST_MEMBERS) pa_nil)))))), ?_⟩
    dsimp only [L2.start, List.map_cons, List.map_nil, List.map, List.length_cons, List.length_nil, Nat.reduceAdd, Nat.reduceSub, List.replicate, List.cons_append, List.nil_append]
    wtm_at "gs"
    exact k
theorem ok_PlainHall_init (T : Txt K mg a) : FnOk P w K mg base (L2.CX P w) 3 a.PlainHall_init a.d_PlainHall_init ["self", "members"] (spPI K a) := by
  refine fund_okX T.F_PlainHall_init sc_PlainHall_init (fun vs H Q E h => ?_) (fun cdv A outer s H vs Q E hr tk hp h => ?_)
  · obtain ⟨x, dx, v, rfl, hx, h⟩ := h
    rfl
  · obtain ⟨x, dx, v, rfl, hx, h⟩ := h
    refine ⟨_, (pss_cons (ps_if (pt_not (pt_val (pe_call (ok_are_members (K := K) T) (hr.mono (by decide)) (by rfl) T.m_are_members T.F_are_members.kp T.B_are_members .nil pass0 (pa_cons (pv 1) pa_nil)))) (pss_one (ps_raiseM rfl tk (pmk_exc T.o_NoNumber T.oi_NoNumber T.ot_NoNumber (ok_NoNumber_init (K := K) T) (hr.mono (by decide)) T.B_NoNumber_init (by rfl) T.m_NoNumber (pa_cons (pv 1) pa_nil)))) pss_nil)
    (pss_cons (ps_fldK (K := K) (pv 0) (pe_lst pa_nil))
    (pss_one (ps_fldK (K := K) (pv 0) (pe_op op_mulU (pe_lst (pa_cons pe_int pa_nil)) (pv 1)))))), ?_⟩
    clear tk hp
    dsimp only [L2.start, List.map_cons, List.map_nil, List.map, List.length_cons, List.length_nil, Nat.reduceAdd, Nat.reduceSub, List.replicate, List.cons_append, List.nil_append]
    rcases h with ⟨M, rfl, hM, k⟩ | ⟨hkn, hv, k⟩
    · have hM' : 2 ≤ (M : Int) ∧ (M : Int) ≤ 5 := by omega
      have eM : ((M : Int)).toNat = M := Int.toNat_natCast M
      wtm_at "gs"
      rename_i r hr0 HA saA hgA q1 hq1 HB saB hgB
      rw [eM] at hg
      have nrx : r ≠ x := fun c => by rw [c, hx] at hr0; cases hr0
      have nq1 : q1 ≠ x := fun c => by rw [c, upd_same] at hq1; cases hq1
      have sX : ∀ b u, b ≠ x → HA b = some u → HN b = some u := fun b u n e => sa _ _ (saB _ _ (by rw [upd_ne n]; exact e))
      have ntx : q ≠ x := fun c => by
        have : HB x = some _ := saB _ _ upd_same
        rw [c, this] at hq
        cases hq
      have hqA : HA q = none := by
        have := none_same saB hq
        rw [upd_ne ntx] at this
        exact this
      have nrt : r ≠ q := ne_of_none hgA hqA
      refine k _ r q (fun b u n e => ?_) hr0 (none_same saA hqA) ⟨by rw [upd_same]; rfl, ⟨[], ?_, All2.nil⟩, ?_, nrt⟩
      · rw [upd_ne n]
        exact sX b u n (saA _ _ e)
      · rw [upd_ne nrx]
        exact sX _ _ nrx hgA
      · rw [upd_ne ntx]
        exact hg
    · wtm_at "gs"
      exact k _ _ (by wtm_at "rz") (by wtm_at "rz")
theorem ok_PlainHall_len (T : Txt K mg a) : FnOk P w K mg base CX0 1 a.PlainHall_len a.d_PlainHall_len ["self"] (spPLen K a) := by
  refine fund_ok0 T.F_PlainHall_len sc_PlainHall_len (fun vs H Q E h => ?_) (fun cdv A outer s H vs Q E hr h => ?_)
  · obtain ⟨p, dx, r, t, row, told, rfl, hph, hl, k⟩ := h
    rfl
  · obtain ⟨p, dx, r, t, row, told, rfl, hph, hl, k⟩ := h
    refine ⟨_, (pss_one (ps_ret (pe_callB (call_lenU (K := K)) (by rfl) T.b_len (by decide +kernel) (pa_cons (pe_fldK (K := K) (pv 0)) pa_nil)))), ?_⟩
    dsimp only [L2.start, List.map_cons, List.map_nil, List.map, List.length_cons, List.length_nil, Nat.reduceAdd, Nat.reduceSub, List.replicate, List.cons_append, List.nil_append]
    obtain ⟨hp, ⟨xs, hr, hx⟩, ht, nrt⟩ := id hph
    have lx : xs.length = row.length := hx.1
    wtm_at "gs"
    exact cast_v k (by rw [lx])
theorem ok_PlainHall_row (T : Txt K mg a) : FnOk P w K mg base CX0 1 a.PlainHall_row a.d_PlainHall_row ["self"] (spPRow K a) := by
  refine fund_ok0 T.F_PlainHall_row sc_PlainHall_row (fun vs H Q E h => ?_) (fun cdv A outer s H vs Q E hr h => ?_)
  · obtain ⟨p, dx, r, t, row, told, rfl, hph, hl, k⟩ := h
    rfl
  · obtain ⟨p, dx, r, t, row, told, rfl, hph, hl, k⟩ := h
    refine ⟨_, (pss_one (ps_ret (pe_callTy (call_lstOf (K := K)) (by rfl) T.b_list (by decide +kernel) (pa_cons (pe_fldK (K := K) (pv 0)) pa_nil)))), ?_⟩
    dsimp only [L2.start, List.map_cons, List.map_nil, List.map, List.length_cons, List.length_nil, Nat.reduceAdd, Nat.reduceSub, List.replicate, List.cons_append, List.nil_append]
    obtain ⟨hp, ⟨xs, hr, hx⟩, ht, nrt⟩ := id hph
    have lx : xs.length = row.length := hx.1
    wtm_at "gs"
    exact k _ _ _ sa hq hg (hx.mono fun _ _ => IdAt.same sa)
theorem ok_PlainHall_told_by (T : Txt K mg a) : FnOk P w K mg base (L2.CX P w) 3 a.PlainHall_told_by a.d_PlainHall_told_by ["self", "member"] (spPTold K a) := by
  refine fund_okX T.F_PlainHall_told_by sc_PlainHall_told_by (fun vs H Q E h => ?_) (fun cdv A outer s H vs Q E hr tk hp h => ?_)
  · obtain ⟨p, dx, r, t, row, told, v, rfl, hph, hl5, h⟩ := h
    rfl
  · obtain ⟨p, dx, r, t, row, told, v, rfl, hph, hl5, h⟩ := h
    refine ⟨_, (pss_cons (ps_if (pt_not (pt_val (pe_call (ok_is_whole (K := K) T) (hr.mono (by decide)) (by rfl) T.m_is_whole T.F_is_whole.kp T.B_is_whole .nil pass0 (pa_cons (pv 1) (pa_cons pe_int (pa_cons (pe_op op_subU (pe_callB (call_lenU (K := K)) (by rfl) T.b_len (by decide +kernel) (pa_cons (pe_fldK (K := K) (pv 0)) pa_nil)) pe_int) pa_nil)))))) (pss_one (ps_raiseM rfl tk (pmk_exc T.o_NoMember T.oi_NoMember T.ot_NoMember (ok_NoMember_init (K := K) T) (hr.mono (by decide)) T.B_NoMember_init (by rfl) T.m_NoMember (pa_cons (pv 1) pa_nil)))) pss_nil)
    (pss_one (ps_ret (pe_ix (ix_U (K := K)) (pe_fldK (K := K) (pv 0)) (pv 1) (fun _ _ => rfl))))), ?_⟩
    clear tk hp
    dsimp only [L2.start, List.map_cons, List.map_nil, List.map, List.length_cons, List.length_nil, Nat.reduceAdd, Nat.reduceSub, List.replicate, List.cons_append, List.nil_append]
    rcases h with ⟨m, rfl, hm, k⟩ | ⟨hkn, hv, k⟩
    · obtain ⟨hp, ⟨xs, hr, hx⟩, ht, nrt⟩ := id hph
      have lt : (told.map V.int).length = told.length := List.length_map ..
      have ai := atI_N hm
      have e : isWh 0 (.int (told.length - 1)) (.int m) = true := by simp [isWh]; omega
      wtm_at "gs"
      exact k
    · obtain ⟨hp, ⟨xs, hr, hx⟩, ht, nrt⟩ := id hph
      have lt : (told.map V.int).length = told.length := List.length_map ..
      rw [← lt] at hv
      wtm_at "gs"
      exact k _ _ (by wtm_at "rz") (by wtm_at "rz")
theorem ok_PlainHall_state (T : Txt K mg a) : FnOk P w K mg base CX0 1 a.PlainHall_state a.d_PlainHall_state ["self"] (spPState K a) := by
  refine fund_ok0 T.F_PlainHall_state sc_PlainHall_state (fun vs H Q E h => ?_) (fun cdv A outer s H vs Q E hr h => ?_)
  · obtain ⟨p, dx, r, t, row, told, rfl, hph, hl, hl5, k⟩ := h
    rfl
  · obtain ⟨p, dx, r, t, row, told, rfl, hph, hl, hl5, k⟩ := h
    refine ⟨_, (pss_one (ps_ret (pe_tup (pa_cons (pe_callTy (call_tupOf (K := K)) (by rfl) T.b_tuple (by decide +kernel) (pa_cons (pe_fldK (K := K) (pv 0)) pa_nil)) (pa_cons (pe_callTy (call_tupOf (K := K)) (by rfl) T.b_tuple (by decide +kernel) (pa_cons (pe_fldK (K := K) (pv 0)) pa_nil)) pa_nil))))), ?_⟩
    dsimp only [L2.start, List.map_cons, List.map_nil, List.map, List.length_cons, List.length_nil, Nat.reduceAdd, Nat.reduceSub, List.replicate, List.cons_append, List.nil_append]
    obtain ⟨hp, ⟨xs, hr, hx⟩, ht, nrt⟩ := id hph
    have lx : xs.length = row.length := hx.1
    have lt : (told.map V.int).length = told.length := List.length_map ..
    wtm_at "gs"
    rename_i qr hqr HA saA hgA qt hqt HB saB hgB
    have sB := saB.trans sa
    exact k _ q qr qt xs (saA.trans sB) (none_same (saA.trans saB) hq) hg (sB _ _ hgA) (hx.mono fun _ _ => IdAt.same (saA.trans sB)) (sa _ _ hgB)
theorem ok_PlainHall_add_id (T : Txt K mg a) : FnOk P w K mg base (L2.CX P w) 3 a.PlainHall_add_id a.d_PlainHall_add_id ["self", "ident"] (spPAdd K a) := by
  refine fund_okX T.F_PlainHall_add_id sc_PlainHall_add_id (fun vs H Q E h => ?_) (fun cdv A outer s H vs Q E hr tk hp h => ?_)
  · obtain ⟨p, dx, r, t, row, told, v, z, rfl, hph, hl, hv, h⟩ := h
    rfl
  · obtain ⟨p, dx, r, t, row, told, v, z, rfl, hph, hl, hv, h⟩ := h
    refine ⟨_, (pss_cons (ps_if (pt_cmpR (op_inDK (K := K) (unit65 hr)) (pv 1) (pe_fldK (K := K) (pv 0)) (by rfl)) (pss_one (ps_raiseM rfl tk (pmk_excT famL T.o_Known T.oi_Known T.ot_Known (ok_Known_init (K := K) T) (hr.mono (by decide)) T.B_Known_init (by rfl) T.m_Known (pa_cons (pv 1) pa_nil)))) pss_nil)
    (pss_cons (ps_set (i := 2) sc_PlainHall_add_id.nd rfl (by first | exact Or.inl rfl | exact Or.inr rfl) (pe_tup (pa_cons (pe_ix (ix_U (K := K)) (pv 1) pe_int (fun _ _ => rfl)) (pa_cons (pe_op op_subU (pe_ix (ix_U (K := K)) (pv 1) pe_int (fun _ _ => rfl)) pe_int) pa_nil))))
    (pss_cons (ps_if (PW.pt (pw_and (pt_cmpR op_gtU (pe_ix (ix_U (K := K)) (pv 1) pe_int (fun _ _ => rfl)) pe_int (nomark _)) (pw_and1 (pt_cmpR (op_notInDK (K := K) (unit65 hr)) (pv 2) (pe_fldK (K := K) (pv 0)) (by rfl))))) (pss_one (ps_raiseM rfl tk (pmk_excT famL T.o_Lacks T.oi_Lacks T.ot_Lacks (ok_Lacks_init (K := K) T) (hr.mono (by decide)) T.B_Lacks_init (by rfl) T.m_Lacks (pa_cons (pe_lst (pa_cons (pv 2) pa_nil)) pa_nil)))) pss_nil)
    (pss_one (ps_expr (pe_appK (K := K) (pe_bm PySem.F.plainAttrs_list PySem.F.slot_list_append PySem.F.type_list_append mt_append (pe_fldK (K := K) (pv 0)) (pa_cons (pv 1) pa_nil)))))))), ?_⟩
    clear tk hp
    dsimp only [L2.start, List.map_cons, List.map_nil, List.map, List.length_cons, List.length_nil, Nat.reduceAdd, Nat.reduceSub, List.replicate, List.cons_append, List.nil_append]
    rcases h with ⟨hn, ha, k⟩ | ⟨hn, k⟩ | ⟨hn, h1, ha, k⟩
    · obtain ⟨hp, ⟨xs, hr, hx⟩, ht, nrt⟩ := id hph
      have lx : xs.length = row.length := hx.1
      obtain ⟨qv, rfl, hqv⟩ := id hv
      wtm_at "gs"
      refine i_inIds (.of hr) hx hv ?_
      rw [decide_eq_false hn]
      wtm_at "gs"
      · refine i_ninIds (z := (z.1, z.2 - 1)) (.of (sa _ _ hr)) (hx.mono fun _ _ => IdAt.same sa) ⟨q, rfl, hg⟩ ?_
        rw [decide_eq_true (ha (by assumption))]
        have hphN := hph.same sa
        have hrN := sa _ _ hr
        have hxN : All2 (IdAt HN) xs row := hx.mono fun _ _ => IdAt.same sa
        have hvN := hv.same sa
        have hpN := hphN.hp
        have w1 : Same H HN ∧ True := ⟨sa, trivial⟩
        clear sa hg hq
        wtm_at "gs"
        exact k _ (fun b u n e => sb b u n (w1.1 _ _ e)) (hphN.add hrN hxN hvN sb hg)
      · wtm_at "gs"
        exact k _ (fun b u n e => sb b u n (sa _ _ e)) ((hph.same sa).add (sa _ _ hr) (hx.mono fun _ _ => IdAt.same sa) (hv.same sa) sb hg)
    · obtain ⟨hp, ⟨xs, hr, hx⟩, ht, nrt⟩ := id hph
      have lx : xs.length = row.length := hx.1
      obtain ⟨qv, rfl, hqv⟩ := id hv
      wtm_at "gs"
      refine i_inIds (.of hr) hx hv ?_
      rw [decide_eq_true hn]
      wtm_at "gs"
      exact k _ _ (by wtm_at "rz") (by wtm_at "rz")
    · obtain ⟨hp, ⟨xs, hr, hx⟩, ht, nrt⟩ := id hph
      have lx : xs.length = row.length := hx.1
      obtain ⟨qv, rfl, hqv⟩ := id hv
      wtm_at "gs"
      refine i_inIds (.of hr) hx hv ?_
      rw [decide_eq_false hn]
      wtm_at "gs"
      refine i_ninIds (z := (z.1, z.2 - 1)) (.of (sa _ _ hr)) (hx.mono fun _ _ => IdAt.same sa) ⟨q, rfl, hg⟩ ?_
      rw [decide_eq_false ha]
      wtm_at "gs"
      exact k _ _ _ _ (by wtm_at "rz") (by wtm_at "rz") (by wtm_at "rz") (by wtm_at "rz") (none_same (by wtm_at "same") hq)
theorem ok_PlainHall_tell_next (T : Txt K mg a) : FnOk P w K mg base (L2.CX P w) 3 a.PlainHall_tell_next a.d_PlainHall_tell_next ["self", "member"] (spPTell K a) := by
  refine fund_okX T.F_PlainHall_tell_next sc_PlainHall_tell_next (fun vs H Q E h => ?_) (fun cdv A outer s H vs Q E hr tk hp h => ?_)
  · obtain ⟨p, dx, r, t, row, told, m, kn, rfl, hph, hl, hl5, hm, hk, h⟩ := h
    rfl
  · obtain ⟨p, dx, r, t, row, told, m, kn, rfl, hph, hl, hl5, hm, hk, h⟩ := h
    refine ⟨_, (pss_cons (ps_set (i := 2) sc_PlainHall_tell_next.nd rfl (by first | exact Or.inl rfl | exact Or.inr rfl) (pe_ix (ix_U (K := K)) (pe_fldK (K := K) (pv 0)) (pv 1) (fun _ _ => rfl)))
    (pss_cons (ps_if (pt_cmpR (op_eqU hr.units (K := K)) (pv 2) (pe_callB (call_lenU (K := K)) (by rfl) T.b_len (by decide +kernel) (pa_cons (pe_fldK (K := K) (pv 0)) pa_nil)) (nomark _)) (pss_one (ps_raiseM rfl tk (pmk_excT famL T.o_AllTold T.oi_AllTold T.ot_AllTold (ok_AllTold_init (K := K) T) (hr.mono (by decide)) T.B_AllTold_init (by rfl) T.m_AllTold (pa_cons (pv 1) pa_nil)))) pss_nil)
    (pss_cons (ps_augS (pe_fldK (K := K) (pv 0)) (pv 1) (get_list (K := K)) pe_int ip_add set_list)
    (pss_one (ps_ret (pe_ix (ix_U (K := K)) (pe_fldK (K := K) (pv 0)) (pv 2) (fun _ _ => rfl))))))), ?_⟩
    clear tk hp
    dsimp only [L2.start, List.map_cons, List.map_nil, List.map, List.length_cons, List.length_nil, Nat.reduceAdd, Nat.reduceSub, List.replicate, List.cons_append, List.nil_append]
    rcases h with ⟨z, hz, k⟩ | ⟨he, k⟩
    · obtain ⟨hp, ⟨xs, hr, hx⟩, ht, nrt⟩ := id hph
      have lx : xs.length = row.length := hx.1
      have lt : (told.map V.int).length = told.length := List.length_map ..
      have ai := atI_N hm
      have hkl := (List.getElem?_eq_some_iff.mp hz).1
      obtain ⟨xv, hxv, hxz⟩ := hx.swap.get hz
      have axv := atI_of hxv
      rw [hk] at ai
      have ltm : m < (told.map V.int).length := by omega
      wtm_at "gs"
      refine i_setL ht (by rw [lt]; exact ixN_of (by omega) (by omega)) ?_
      rw [Int.toNat_natCast, ← List.map_set]
      wtm_at "abss"
      have hrN := sb _ _ nrt hr
      have hpN := sb _ _ (ne_of hp ht (by simp)) hp
      have hphN := hph.tell sb hg
      have hxzN := hxz.keeps (MdX.tp ht sb)
      have w1 : SameBut t H HN ∧ True := ⟨sb, trivial⟩
      clear sb hg
      wtm_at "gs"
      exact k _ _ w1.1 hphN hxzN
    · obtain ⟨hp, ⟨xs, hr, hx⟩, ht, nrt⟩ := id hph
      have lx : xs.length = row.length := hx.1
      have lt : (told.map V.int).length = told.length := List.length_map ..
      have ai := atI_N hm
      rw [hk] at ai
      wtm_at "gs"
      exact k _ _ (by wtm_at "rz") (by wtm_at "rz")
end
theorem NsTup.eqs {K : PySem.W.Frag} {H : Hp} {n : Nat} {ns ms : List Int} : EqVs K H n (ns.map V.int) (ms.map V.int) (decide (ns = ms)) := by
  have t := EqVs.iS (K := K) (H := H) (n := n) (xs := ns.map V.int) (ys := ms.map V.int) (by rw [List.all_map]; exact List.all_eq_true.mpr fun _ _ => rfl) (by rw [List.all_map]; exact List.all_eq_true.mpr fun _ _ => rfl)
  have e : decide (ns.map V.int = ms.map V.int) = decide (ns = ms) := by
    rw [decide_eq_decide]
    exact List.map_inj_right fun _ _ h => by cases h; rfl
  rw [e] at t
  exact t
/-- two states compared -/
theorem state_eqs {K : PySem.W.Frag} {H : Hp} {a b c d : Addr} {xs ys : List V} {row row' : List Idn} {told told' : List Int} (h1 : H a = some (.tup xs)) (h2 : All2 (IdAt H) xs row) (h3 : H b = some (.tup (told.map V.int))) (h4 : H c = some (.tup ys)) (h5 : All2 (IdAt H) ys row') (h6 : H d = some (.tup (told'.map V.int))) :
    EqVs K H 3 [.ref a, .ref b] [.ref c, .ref d] (decide (row = row') && decide (told = told')) := by
  have e1 : EqV K H 3 (.ref a) (.ref c) (decide (row = row')) := by
    have t := IdAt.eqvs (K := K) (n := 1) h2 h5
    by_cases q : a = c
    · subst q
      rw [h1] at h4
      cases h4
      have e : row = row' := by
        refine List.ext_getElem? fun i => ?_
        cases hx : xs[i]? with
        | none =>
          have := List.getElem?_eq_none_iff.mp hx
          rw [List.getElem?_eq_none (by rw [← h2.1]; exact this), List.getElem?_eq_none (by rw [← h5.1]; exact this)]
        | some x =>
          obtain ⟨y, hy, p, rfl, e1⟩ := h2.get hx
          obtain ⟨z, hz, p', e2, e3⟩ := h5.get hx
          cases e2
          rw [e1] at e3
          have e4 := HO.tup.inj (Option.some.inj e3)
          simp at e4
          rw [hy, hz, Prod.ext e4.1 e4.2]
      rw [decide_eq_true e]
      exact .one
    · exact .tups q (.of h1) (.of h4) t
  have e2 : EqV K H 3 (.ref b) (.ref d) (decide (told = told')) := by
    by_cases q : b = d
    · subst q
      rw [h3] at h6
      have e : told = told' := (List.map_inj_right (fun _ _ h => by cases h; rfl)).mp (HO.tup.inj (Option.some.inj h6))
      rw [decide_eq_true e]
      exact .one
    · exact .tups q (.of h3) (.of h6) (NsTup.eqs (n := 2))
  have t := EqVs.cons e1 (EqVs.cons e2 EqVs.nil)
  rw [Bool.and_true] at t
  exact t
def spPTw (K : PySem.W.Frag) (a : Ad) : Sp := fun vs H Q E => ∃ (p dx r t : Addr) (row : List Idn) (told : List Int), vs = [.ref p] ∧ (PhAt a.PlainHall H p dx r t row told) ∧ (row.length ≤ 1000) ∧ (2 ≤ told.length ∧ told.length ≤ 5) ∧ (∀ HH x dx' r' t', (Same H HH) → (H x = none) → (H r' = none) → (H t' = none) → (PhAt a.PlainHall HH x dx' r' t' row told) → Q (.ref x) HH)
theorem spPTw_u1 {K : PySem.W.Frag} {a : Ad} {H : Hp} {Q : VK} {E : XK} {vs : List V} {p dx r t : Addr} {row : List Idn} {told : List Int} (g0 : PhAt a.PlainHall H p dx r t row told) (g1 : row.length ≤ 1000) (g2 : 2 ≤ told.length ∧ told.length ≤ 5) (k : ∀ HH x dx' r' t', (Same H HH) → (H x = none) → (H r' = none) → (H t' = none) → (PhAt a.PlainHall HH x dx' r' t' row told) → Q (.ref x) HH) (he : vs = [.ref p] := by rfl) : spPTw K a vs H Q E := ⟨p, dx, r, t, row, told, he, g0, g1, g2, k⟩
set_option hygiene false in
local macro_rules | `(tactic| wtm_at "u") => `(tactic| first | ((with_reducible refine' spPTw_u1 ?g0 ?g1 ?g2 (fun HH x dx' r' t' sm nx nr nt hph' => ?_) ?he); (case he => rfl); (case g0 => wtm_at "ph"); (case g1 => wtm_at "as"); (case g2 => wtm_at "as")) | fail)
def spPEq (K : PySem.W.Frag) (a : Ad) : Sp := fun vs H Q E => ∃ (p dx r t p' : Addr) (row : List Idn) (told : List Int), vs = [.ref p, .ref p'] ∧ (PhAt a.PlainHall H p dx r t row told) ∧ (row.length ≤ 1000) ∧ (told.length ≤ 5) ∧ ((∃ (dx' r' t' : Addr) (row' : List Idn) (told' : List Int), (PhAt a.PlainHall H p' dx' r' t' row' told') ∧ (row'.length ≤ 1000) ∧ (told'.length ≤ 5) ∧ (∀ HH, (Same H HH) → Q (.bl (decide (row = row') && decide (told = told'))) HH)) ∨ (∃ (xs : List V), (H p' = some (.tup xs)) ∧ (Q (.bl false) H)))
theorem spPEq_u1 {K : PySem.W.Frag} {a : Ad} {H : Hp} {Q : VK} {E : XK} {vs : List V} {p dx r t p' : Addr} {row : List Idn} {told : List Int} {dx' r' t' : Addr} {row' : List Idn} {told' : List Int} (g0 : PhAt a.PlainHall H p dx r t row told) (g1 : row.length ≤ 1000) (g2 : told.length ≤ 5) (g3 : PhAt a.PlainHall H p' dx' r' t' row' told') (g4 : row'.length ≤ 1000) (g5 : told'.length ≤ 5) (k : ∀ HH, (Same H HH) → Q (.bl (decide (row = row') && decide (told = told'))) HH) (he : vs = [.ref p, .ref p'] := by rfl) : spPEq K a vs H Q E := ⟨p, dx, r, t, p', row, told, he, g0, g1, g2, .inl ⟨dx', r', t', row', told', g3, g4, g5, k⟩⟩
theorem spPEq_u2 {K : PySem.W.Frag} {a : Ad} {H : Hp} {Q : VK} {E : XK} {vs : List V} {p dx r t p' : Addr} {row : List Idn} {told : List Int} {xs : List V} (g0 : PhAt a.PlainHall H p dx r t row told) (g1 : row.length ≤ 1000) (g2 : told.length ≤ 5) (g3 : H p' = some (.tup xs)) (k : Q (.bl false) H) (he : vs = [.ref p, .ref p'] := by rfl) : spPEq K a vs H Q E := ⟨p, dx, r, t, p', row, told, he, g0, g1, g2, .inr (⟨xs, g3, k⟩)⟩
set_option hygiene false in
local macro_rules | `(tactic| wtm_at "u") => `(tactic| first | ((with_reducible refine' spPEq_u1 ?g0 ?g1 ?g2 ?g3 ?g4 ?g5 (fun HH sm => ?_) ?he); (case he => rfl); (case g0 => wtm_at "ph"); (case g1 => wtm_at "as"); (case g2 => wtm_at "as"); (case g3 => wtm_at "ph"); (case g4 => wtm_at "as"); (case g5 => wtm_at "as")) | ((with_reducible refine' spPEq_u2 ?g0 ?g1 ?g2 ?g3 ?_ ?he); (case he => rfl); (case g0 => wtm_at "ph"); (case g1 => wtm_at "as"); (case g2 => wtm_at "as"); (case g3 => wtm_at "get")) | fail)
def spIA (K : PySem.W.Frag) : Sp := fun vs H Q E => ∃ (v : V) (M : Int), vs = [v, .int M] ∧ (((NoTup K H v) ∧ (Q (.bl false) H)) ∨ (∃ (q : Addr) (xs : List V), (v = .ref q) ∧ (SqT K H q xs) ∧ (∀ x ∈ xs, Kn K H x) ∧ (xs.length ≤ 10) ∧ (Q (.bl (adB M xs)) H)))
theorem spIA_u1 {K : PySem.W.Frag} {H : Hp} {Q : VK} {E : XK} {vs : List V} {v : V} {M : Int} (g0 : NoTup K H v) (k : Q (.bl false) H) (he : vs = [v, .int M] := by rfl) : spIA K vs H Q E := ⟨v, M, he, .inl ⟨g0, k⟩⟩
theorem spIA_u2 {K : PySem.W.Frag} {H : Hp} {Q : VK} {E : XK} {vs : List V} {v : V} {M : Int} {q : Addr} {xs : List V} (g0 : v = .ref q) (g1 : SqT K H q xs) (g2 : ∀ x ∈ xs, Kn K H x) (g3 : xs.length ≤ 10) (k : Q (.bl (adB M xs)) H) (he : vs = [v, .int M] := by rfl) : spIA K vs H Q E := ⟨v, M, he, .inr (⟨q, xs, g0, g1, g2, g3, k⟩)⟩
set_option hygiene false in
local macro_rules | `(tactic| wtm_at "u") => `(tactic| first | ((with_reducible refine' spIA_u1 ?g0 ?_ ?he); (case he => rfl); (case g0 => wtm_at "not")) | ((with_reducible refine' spIA_u2 ?g0 ?g1 ?g2 ?g3 ?_ ?he); (case he => rfl); (case g0 => exact rfl); (case g1 => wtm_at "sq"); (case g2 => wtm_at "as"); (case g3 => wtm_at "l10")) | fail)
def spIT (K : PySem.W.Frag) : Sp := fun vs H Q E => ∃ (v : V) (M : Int), vs = [v, .int M] ∧ (((NoTup K H v) ∧ (Q (.bl false) H)) ∨ (∃ (q : Addr) (xs : List V), (v = .ref q) ∧ (SqT K H q xs) ∧ (∀ x ∈ xs, Kn K H x) ∧ (xs.length ≤ 10) ∧ (Q (.bl (teB M xs)) H)))
theorem spIT_u1 {K : PySem.W.Frag} {H : Hp} {Q : VK} {E : XK} {vs : List V} {v : V} {M : Int} (g0 : NoTup K H v) (k : Q (.bl false) H) (he : vs = [v, .int M] := by rfl) : spIT K vs H Q E := ⟨v, M, he, .inl ⟨g0, k⟩⟩
theorem spIT_u2 {K : PySem.W.Frag} {H : Hp} {Q : VK} {E : XK} {vs : List V} {v : V} {M : Int} {q : Addr} {xs : List V} (g0 : v = .ref q) (g1 : SqT K H q xs) (g2 : ∀ x ∈ xs, Kn K H x) (g3 : xs.length ≤ 10) (k : Q (.bl (teB M xs)) H) (he : vs = [v, .int M] := by rfl) : spIT K vs H Q E := ⟨v, M, he, .inr (⟨q, xs, g0, g1, g2, g3, k⟩)⟩
set_option hygiene false in
local macro_rules | `(tactic| wtm_at "u") => `(tactic| first | ((with_reducible refine' spIT_u1 ?g0 ?_ ?he); (case he => rfl); (case g0 => wtm_at "not")) | ((with_reducible refine' spIT_u2 ?g0 ?g1 ?g2 ?g3 ?_ ?he); (case he => rfl); (case g0 => exact rfl); (case g1 => wtm_at "sq"); (case g2 => wtm_at "as"); (case g3 => wtm_at "l10")) | fail)
section
variable {P : Program} {w : World} {K : PySem.W.Frag} {mg : Str → Option Value} {base : Heap} {a : Ad}
theorem ok_PlainHall_twin (T : Txt K mg a) : FnOk P w K mg base CX0 5 a.PlainHall_twin a.d_PlainHall_twin ["self"] (spPTw K a) := by
  refine fund_ok0 T.F_PlainHall_twin sc_PlainHall_twin (fun vs H Q E h => ?_) (fun cdv A outer s H vs Q E hr h => ?_)
  · obtain ⟨p, dx, r, t, row, told, rfl, hph, hl, hl5, k⟩ := h
    rfl
  · obtain ⟨p, dx, r, t, row, told, rfl, hph, hl, hl5, k⟩ := h
    refine ⟨_, (pss_cons (ps_set (i := 1) sc_PlainHall_twin.nd rfl (by first | exact Or.inl rfl | exact Or.inr rfl) (pe_makeS T.mk_PlainHall (ok_PlainHall_init (K := K) T) (hr.mono (by decide)) (by rfl) T.m_PlainHall T.B_PlainHall_init .nil (passAt takes0) (pa_cons (pe_callB (call_lenU (K := K)) (by rfl) T.b_len (by decide +kernel) (pa_cons (pe_fldK (K := K) (pv 0)) pa_nil)) pa_nil)))
    (pss_cons (ps_fldK (K := K) (pv 1) (pe_callTy (call_lstOf (K := K)) (by rfl) T.b_list (by decide +kernel) (pa_cons (pe_fldK (K := K) (pv 0)) pa_nil)))
    (pss_cons (ps_fldK (K := K) (pv 1) (pe_callTy (call_lstOf (K := K)) (by rfl) T.b_list (by decide +kernel) (pa_cons (pe_fldK (K := K) (pv 0)) pa_nil)))
    (pss_one (ps_ret (pv 1)))))), ?_⟩
    dsimp only [L2.start, List.map_cons, List.map_nil, List.map, List.length_cons, List.length_nil, Nat.reduceAdd, Nat.reduceSub, List.replicate, List.cons_append, List.nil_append]
    obtain ⟨hp, ⟨xs, hr, hx⟩, ht, nrt⟩ := id hph
    have lx : xs.length = row.length := hx.1
    have lt : (told.map V.int).length = told.length := List.length_map ..
    wtm_at "gs"
    rename_i nx ndx
    obtain ⟨H0, e0⟩ : ∃ H0, H0 = upd (upd H dx (HO.own x)) x (HO.ins a.PlainHall dx []) := ⟨_, rfl⟩
    rw [← e0]
    refine spPI_u1 (x := x) (dx := dx) (M := told.length) (by rw [e0]; exact upd_same) rfl hl5 (fun HH r' t' sb nr nt hphN => ⟨rfl, ?_⟩) (by rw [lt]; rfl)
    have nHx : H x = none := by assumption
    have nHd : H dx = none := by assumption
    have sH : Same H HH := fun b u e => by
      have n1 : b ≠ x := fun c => by rw [c, nHx] at e; cases e
      have n2 : b ≠ dx := fun c => by rw [c, nHd] at e; cases e
      exact sb b u n1 (by rw [e0, upd_ne n1, upd_ne n2]; exact e)
    have hpN := sH _ _ hp
    have hrN := sH _ _ hr
    have htN := sH _ _ ht
    have hxN : All2 (IdAt HH) xs row := hx.mono fun _ _ => IdAt.same sH
    obtain ⟨hxp, -, -, -⟩ := hphN
    clear sb nr nt e0
    wtm_at "gs"
    rename_i r2 h2 HA sA gA
    have hxA := sA _ _ hxp
    have n2 : r2 ≠ x := ne_of_none hxp h2 |>.symm
    have nq : q ≠ x := fun c => by rw [c, upd_same] at hq; cases hq
    have hqA : HA q = none := by rw [upd_ne nq] at hq; exact hq
    have nrq : r2 ≠ q := ne_of_none gA hqA
    have sF : Same H (upd HN x (.ins a.PlainHall dx [("kept_row", .ref r2), ("kept_told", .ref q)])) := fun b u e => by
      have n1 : b ≠ x := ne_of_none e nHx
      rw [upd_ne n1]
      exact sa _ _ (by rw [upd_ne n1]; exact sA _ _ (sH _ _ e))
    refine k _ x dx r2 q sF nHx (none_same sH h2) (none_same sH (none_same sA hqA)) ⟨upd_same, ⟨xs, ?_, hx.mono fun _ _ => IdAt.same sF⟩, ?_, nrq⟩
    · rw [upd_ne n2]
      exact sa _ _ (by rw [upd_ne n2]; exact gA)
    · rw [upd_ne nq]
      exact hg
theorem ok_PlainHall_eq (T : Txt K mg a) : FnOk P w K mg base CX0 2 a.PlainHall_eq a.d_PlainHall_eq ["self", "other"] (spPEq K a) := by
  refine fund_ok0 T.F_PlainHall_eq sc_PlainHall_eq (fun vs H Q E h => ?_) (fun cdv A outer s H vs Q E hr h => ?_)
  · obtain ⟨p, dx, r, t, p', row, told, rfl, hph, hl, hl5, h⟩ := h
    rfl
  · obtain ⟨p, dx, r, t, p', row, told, rfl, hph, hl, hl5, h⟩ := h
    refine ⟨_, (pss_one (ps_ret (pe_and (pe_callB (call_isiC (K := K) T.i_PlainHall) (by rfl) T.b_isinstance (by decide +kernel) (pa_cons (pv 1) (pa_cons (pe_glob rfl T.m_PlainHall (show RelV (V.ref a.PlainHall) _ from rfl)) pa_nil))) (pe_one (pe_cmpR (op_eqU hr.units (K := K)) (pe_meth0 (pv 0) T.c_PlainHall T.M_PlainHall_state (ok_PlainHall_state (K := K) T) (hr.mono (by decide)) T.B_PlainHall_state .nil pass0) (pe_meth0 (pv 1) T.c_PlainHall T.M_PlainHall_state (ok_PlainHall_state (K := K) T) (hr.mono (by decide)) T.B_PlainHall_state .nil pass0) (nomark _)))))), ?_⟩
    dsimp only [L2.start, List.map_cons, List.map_nil, List.map, List.length_cons, List.length_nil, Nat.reduceAdd, Nat.reduceSub, List.replicate, List.cons_append, List.nil_append]
    rcases h with ⟨dx', r', t', row', told', hph2, hl2, hl6, k⟩ | ⟨xs, hq, k⟩
    · obtain ⟨hp, hr, ht, nrt⟩ := id hph
      obtain ⟨hp2, hr2, ht2, nrt2⟩ := id hph2
      wtm_at "gs"
      rename_i HA q1 qr1 qt1 ys sA hno1 hq1 hqr1 hy hqt1
      refine i_eqG (n := 3) (.inr ⟨.of (sm _ _ hq1), .of hq⟩) (by decide) (state_eqs (sm _ _ hqr1) (hy.mono fun _ _ => IdAt.same sm) (sm _ _ hqt1) hqr hx hqt) ?_
      exact k _ (sA.trans sm)
    · wtm_at "gs"
      exact k
theorem ok_is_add (T : Txt K mg a) : FnOk P w K mg base CX0 2 a.is_add a.d_is_add ["deed", "members"] (spIA K) := by
  refine fund_ok0 T.F_is_add sc_is_add (fun vs H Q E h => ?_) (fun cdv A outer s H vs Q E hr h => ?_)
  · obtain ⟨v, M, rfl, h⟩ := h
    rfl
  · obtain ⟨v, M, rfl, h⟩ := h
    refine ⟨_, (pss_cons (ps_if (PW.pt (pw_or (pt_not (pt_val (pe_callB (call_isiB .tup (K := K)) (by rfl) T.b_isinstance (by decide +kernel) (pa_cons (pv 0) (pa_cons (pe_bltn (v := .ty "tuple") (u := .type "tuple") (by rfl) T.b_tuple (by decide +kernel) rfl) pa_nil))))) (pw_or (pt_cmpR (op_neU hr.units (K := K)) (pe_callB (call_lenU (K := K)) (by rfl) T.b_len (by decide +kernel) (pa_cons (pv 0) pa_nil)) pe_int (nomark _)) (pw_or1 (pt_not (pt_val (pe_callB (call_isiB .str (K := K)) (by rfl) T.b_isinstance (by decide +kernel) (pa_cons (pe_ix (ix_U (K := K)) (pv 0) pe_int (fun _ _ => rfl)) (pa_cons (pe_bltn (v := .ty "str") (u := .type "str") (by rfl) T.b_str (by decide +kernel) rfl) pa_nil))))))))) (pss_one (ps_ret pe_bl)) pss_nil)
    (pss_one (ps_ret (pe_and (pe_cmpR (op_eqU hr.units (K := K)) (pe_ix (ix_U (K := K)) (pv 0) pe_int (fun _ _ => rfl)) pe_str (nomark _)) (pe_and (pe_call (ok_is_whole (K := K) T) (hr.mono (by decide)) (by rfl) T.m_is_whole T.F_is_whole.kp T.B_is_whole .nil pass0 (pa_cons (pe_ix (ix_U (K := K)) (pv 0) pe_int (fun _ _ => rfl)) (pa_cons pe_int (pa_cons (pe_op op_subU (pv 1) pe_int) pa_nil)))) (pe_one (pe_callD (ok_is_whole (K := K) T) (hr.mono (by decide)) (by rfl) T.m_is_whole T.F_is_whole.kp T.B1_is_whole pass0 (pa_cons (pe_ix (ix_U (K := K)) (pv 0) pe_int (fun _ _ => rfl)) (pa_cons pe_int pa_nil))))))))), ?_⟩
    dsimp only [L2.start, List.map_cons, List.map_nil, List.map, List.length_cons, List.length_nil, Nat.reduceAdd, Nat.reduceSub, List.replicate, List.cons_append, List.nil_append]
    rcases h with ⟨hn, k⟩ | ⟨q, xs, rfl, hq, hk, hl, k⟩
    · wtm_at "gs"
      exact k
    · by_cases c : xs.length = 3
      · obtain ⟨x0, x1, x2, rfl⟩ : ∃ x0 x1 x2, xs = [x0, x1, x2] := by
          match xs, c with
          | [x0, x1, x2], _ => exact ⟨x0, x1, x2, rfl⟩
        have k0 := hk x0 (by simp)
        have k1 := hk x1 (by simp)
        have k2 := hk x2 (by simp)
        cases x0 <;> first | exact k0.elim | skip
        case ref =>
          wtm_at "gs"
          refine i_isoR k0 fun f c e1 e2 e3 => ?_
          wtm_at "gs"
          exact k
        case str z =>
          by_cases c : z = "add"
          · subst c
            have e : adB M [.str "add", x1, x2] = (isWh 0 (.int (M - 1)) x1 && isWh 1 .non x2) := by simp [adB]
            rw [e] at k
            wtm_at "gs"
            cases h : isWh 0 (.int (M - 1)) x1 with
            | true =>
              rw [h, Bool.true_and] at k
              rw [if_pos rfl]
              wtm_at "gs"
              exact k
            | false =>
              rw [h, Bool.false_and] at k
              rw [if_neg Bool.false_ne_true]
              exact k
          · have e : adB M [.str z, x1, x2] = false := by simp [adB, c]
            rw [e] at k
            wtm_at "gs"
            exact k
        all_goals wtm_at "gs"
        all_goals exact k
      · have e := adB_no (M := M) c
        rw [e] at k
        wtm_at "gs"
        exact k
theorem ok_is_tell (T : Txt K mg a) : FnOk P w K mg base CX0 2 a.is_tell a.d_is_tell ["deed", "members"] (spIT K) := by
  refine fund_ok0 T.F_is_tell sc_is_tell (fun vs H Q E h => ?_) (fun cdv A outer s H vs Q E hr h => ?_)
  · obtain ⟨v, M, rfl, h⟩ := h
    rfl
  · obtain ⟨v, M, rfl, h⟩ := h
    refine ⟨_, (pss_cons (ps_if (PW.pt (pw_or (pt_not (pt_val (pe_callB (call_isiB .tup (K := K)) (by rfl) T.b_isinstance (by decide +kernel) (pa_cons (pv 0) (pa_cons (pe_bltn (v := .ty "tuple") (u := .type "tuple") (by rfl) T.b_tuple (by decide +kernel) rfl) pa_nil))))) (pw_or (pt_cmpR (op_neU hr.units (K := K)) (pe_callB (call_lenU (K := K)) (by rfl) T.b_len (by decide +kernel) (pa_cons (pv 0) pa_nil)) pe_int (nomark _)) (pw_or1 (pt_not (pt_val (pe_callB (call_isiB .str (K := K)) (by rfl) T.b_isinstance (by decide +kernel) (pa_cons (pe_ix (ix_U (K := K)) (pv 0) pe_int (fun _ _ => rfl)) (pa_cons (pe_bltn (v := .ty "str") (u := .type "str") (by rfl) T.b_str (by decide +kernel) rfl) pa_nil))))))))) (pss_one (ps_ret pe_bl)) pss_nil)
    (pss_one (ps_ret (pe_and (pe_cmpR (op_eqU hr.units (K := K)) (pe_ix (ix_U (K := K)) (pv 0) pe_int (fun _ _ => rfl)) pe_str (nomark _)) (pe_one (pe_call (ok_is_whole (K := K) T) (hr.mono (by decide)) (by rfl) T.m_is_whole T.F_is_whole.kp T.B_is_whole .nil pass0 (pa_cons (pe_ix (ix_U (K := K)) (pv 0) pe_int (fun _ _ => rfl)) (pa_cons pe_int (pa_cons (pe_op op_subU (pv 1) pe_int) pa_nil))))))))), ?_⟩
    dsimp only [L2.start, List.map_cons, List.map_nil, List.map, List.length_cons, List.length_nil, Nat.reduceAdd, Nat.reduceSub, List.replicate, List.cons_append, List.nil_append]
    rcases h with ⟨hn, k⟩ | ⟨q, xs, rfl, hq, hk, hl, k⟩
    · wtm_at "gs"
      exact k
    · by_cases c : xs.length = 2
      · obtain ⟨x0, x1, rfl⟩ : ∃ x0 x1, xs = [x0, x1] := by
          match xs, c with
          | [x0, x1], _ => exact ⟨x0, x1, rfl⟩
        have k0 := hk x0 (by simp)
        have k1 := hk x1 (by simp)
        cases x0 <;> first | exact k0.elim | skip
        case ref =>
          wtm_at "gs"
          refine i_isoR k0 fun f c e1 e2 e3 => ?_
          wtm_at "gs"
          exact k
        case str z =>
          by_cases c : z = "tell"
          · subst c
            have e : teB M [.str "tell", x1] = isWh 0 (.int (M - 1)) x1 := by simp [teB]
            rw [e] at k
            wtm_at "gs"
            exact k
          · have e : teB M [.str z, x1] = false := by simp [teB, c]
            rw [e] at k
            wtm_at "gs"
            exact k
        all_goals wtm_at "gs"
        all_goals exact k
      · have e := teB_no (M := M) c
        rw [e] at k
        wtm_at "gs"
        exact k
end
def spPDo (K : PySem.W.Frag) (a : Ad) : Sp := fun vs H Q E => ∃ (p dx r t : Addr) (row : List Idn) (told : List Int) (v : V), vs = [.ref p, v] ∧ (PhAt a.PlainHall H p dx r t row told) ∧ (row.length ≤ 400) ∧ (told.length ≤ 5) ∧ ((∃ (q : Addr) (s n : Int), (v = .ref q) ∧ (H q = some (.tup [.str "add", .int s, .int n])) ∧ (0 ≤ s ∧ s ≤ (told.length : Int) - 1) ∧ (1 ≤ n) ∧ ((s, n) ∉ row) ∧ (1 < n → (s, n - 1) ∈ row) ∧ (∀ HH, (SameBut r H HH) → (PhAt a.PlainHall HH p dx r t (row ++ [(s, n)]) told) → Q (.non) HH)) ∨ (∃ (q : Addr) (s n : Int), (v = .ref q) ∧ (H q = some (.tup [.str "add", .int s, .int n])) ∧ (0 ≤ s ∧ s ≤ (told.length : Int) - 1) ∧ (1 ≤ n) ∧ ((s, n) ∈ row) ∧ (∀ HH ed (y : Addr), Same H HH → HH ed = some (.xd [("found", .ref y)]) → (HH y = some (.tup [.int s, .int n])) → E (.ref a.Known) (some ed) HH)) ∨ (∃ (q : Addr) (s n : Int), (v = .ref q) ∧ (H q = some (.tup [.str "add", .int s, .int n])) ∧ (0 ≤ s ∧ s ≤ (told.length : Int) - 1) ∧ (1 ≤ n) ∧ ((s, n) ∉ row) ∧ (1 < n) ∧ ((s, n - 1) ∉ row) ∧ (∀ HH ed (l y : Addr), Same H HH → HH ed = some (.xd [("found", .ref l)]) → (HH l = some (.lst [.ref y])) → (HH y = some (.tup [.int s, .int (n - 1)])) → (H l = none) → E (.ref a.Lacks) (some ed) HH)) ∨ (∃ (q : Addr) (m kn : Nat) (z : Idn), (v = .ref q) ∧ (H q = some (.tup [.str "tell", .int m])) ∧ (m < told.length) ∧ (told.getD m 0 = (kn : Nat)) ∧ (row[kn]? = some z) ∧ (∀ HH y, (SameBut t H HH) → (PhAt a.PlainHall HH p dx r t row (told.set m ((kn : Int) + 1))) → (IdAt HH y z) → Q (y) HH)) ∨ (∃ (q : Addr) (m kn : Nat), (v = .ref q) ∧ (H q = some (.tup [.str "tell", .int m])) ∧ (m < told.length) ∧ (told.getD m 0 = (kn : Nat)) ∧ (kn = row.length) ∧ (∀ HH ed, Same H HH → HH ed = some (.xd [("found", .int m)]) → E (.ref a.AllTold) (some ed) HH)) ∨ ((NoDd K H told.length v) ∧ (∀ HH ed, Same H HH → HH ed = some (.xd [("found", v)]) → E (.ref a.NoDeed) (some ed) HH)))
theorem spPDo_u1 {K : PySem.W.Frag} {a : Ad} {H : Hp} {Q : VK} {E : XK} {vs : List V} {p dx r t : Addr} {row : List Idn} {told : List Int} {v : V} {q : Addr} {s n : Int} (g0 : PhAt a.PlainHall H p dx r t row told) (g1 : row.length ≤ 400) (g2 : told.length ≤ 5) (g3 : v = .ref q) (g4 : H q = some (.tup [.str "add", .int s, .int n])) (g5 : 0 ≤ s ∧ s ≤ (told.length : Int) - 1) (g6 : 1 ≤ n) (g7 : (s, n) ∉ row) (g8 : 1 < n → (s, n - 1) ∈ row) (k : ∀ HH, (SameBut r H HH) → (PhAt a.PlainHall HH p dx r t (row ++ [(s, n)]) told) → Q (.non) HH) (he : vs = [.ref p, v] := by rfl) : spPDo K a vs H Q E := ⟨p, dx, r, t, row, told, v, he, g0, g1, g2, .inl ⟨q, s, n, g3, g4, g5, g6, g7, g8, k⟩⟩
theorem spPDo_u2 {K : PySem.W.Frag} {a : Ad} {H : Hp} {Q : VK} {E : XK} {vs : List V} {p dx r t : Addr} {row : List Idn} {told : List Int} {v : V} {q : Addr} {s n : Int} (g0 : PhAt a.PlainHall H p dx r t row told) (g1 : row.length ≤ 400) (g2 : told.length ≤ 5) (g3 : v = .ref q) (g4 : H q = some (.tup [.str "add", .int s, .int n])) (g5 : 0 ≤ s ∧ s ≤ (told.length : Int) - 1) (g6 : 1 ≤ n) (g7 : (s, n) ∈ row) (k : ∀ HH ed (y : Addr), Same H HH → HH ed = some (.xd [("found", .ref y)]) → (HH y = some (.tup [.int s, .int n])) → E (.ref a.Known) (some ed) HH) (he : vs = [.ref p, v] := by rfl) : spPDo K a vs H Q E := ⟨p, dx, r, t, row, told, v, he, g0, g1, g2, .inr (.inl ⟨q, s, n, g3, g4, g5, g6, g7, k⟩)⟩
theorem spPDo_u3 {K : PySem.W.Frag} {a : Ad} {H : Hp} {Q : VK} {E : XK} {vs : List V} {p dx r t : Addr} {row : List Idn} {told : List Int} {v : V} {q : Addr} {s n : Int} (g0 : PhAt a.PlainHall H p dx r t row told) (g1 : row.length ≤ 400) (g2 : told.length ≤ 5) (g3 : v = .ref q) (g4 : H q = some (.tup [.str "add", .int s, .int n])) (g5 : 0 ≤ s ∧ s ≤ (told.length : Int) - 1) (g6 : 1 ≤ n) (g7 : (s, n) ∉ row) (g8 : 1 < n) (g9 : (s, n - 1) ∉ row) (k : ∀ HH ed (l y : Addr), Same H HH → HH ed = some (.xd [("found", .ref l)]) → (HH l = some (.lst [.ref y])) → (HH y = some (.tup [.int s, .int (n - 1)])) → (H l = none) → E (.ref a.Lacks) (some ed) HH) (he : vs = [.ref p, v] := by rfl) : spPDo K a vs H Q E := ⟨p, dx, r, t, row, told, v, he, g0, g1, g2, .inr (.inr (.inl ⟨q, s, n, g3, g4, g5, g6, g7, g8, g9, k⟩))⟩
theorem spPDo_u4 {K : PySem.W.Frag} {a : Ad} {H : Hp} {Q : VK} {E : XK} {vs : List V} {p dx r t : Addr} {row : List Idn} {told : List Int} {v : V} {q : Addr} {m kn : Nat} {z : Idn} (g0 : PhAt a.PlainHall H p dx r t row told) (g1 : row.length ≤ 400) (g2 : told.length ≤ 5) (g3 : v = .ref q) (g4 : H q = some (.tup [.str "tell", .int m])) (g5 : m < told.length) (g6 : told.getD m 0 = (kn : Nat)) (g7 : row[kn]? = some z) (k : ∀ HH y, (SameBut t H HH) → (PhAt a.PlainHall HH p dx r t row (told.set m ((kn : Int) + 1))) → (IdAt HH y z) → Q (y) HH) (he : vs = [.ref p, v] := by rfl) : spPDo K a vs H Q E := ⟨p, dx, r, t, row, told, v, he, g0, g1, g2, .inr (.inr (.inr (.inl ⟨q, m, kn, z, g3, g4, g5, g6, g7, k⟩)))⟩
theorem spPDo_u5 {K : PySem.W.Frag} {a : Ad} {H : Hp} {Q : VK} {E : XK} {vs : List V} {p dx r t : Addr} {row : List Idn} {told : List Int} {v : V} {q : Addr} {m kn : Nat} (g0 : PhAt a.PlainHall H p dx r t row told) (g1 : row.length ≤ 400) (g2 : told.length ≤ 5) (g3 : v = .ref q) (g4 : H q = some (.tup [.str "tell", .int m])) (g5 : m < told.length) (g6 : told.getD m 0 = (kn : Nat)) (g7 : kn = row.length) (k : ∀ HH ed, Same H HH → HH ed = some (.xd [("found", .int m)]) → E (.ref a.AllTold) (some ed) HH) (he : vs = [.ref p, v] := by rfl) : spPDo K a vs H Q E := ⟨p, dx, r, t, row, told, v, he, g0, g1, g2, .inr (.inr (.inr (.inr (.inl ⟨q, m, kn, g3, g4, g5, g6, g7, k⟩))))⟩
theorem spPDo_u6 {K : PySem.W.Frag} {a : Ad} {H : Hp} {Q : VK} {E : XK} {vs : List V} {p dx r t : Addr} {row : List Idn} {told : List Int} {v : V} (g0 : PhAt a.PlainHall H p dx r t row told) (g1 : row.length ≤ 400) (g2 : told.length ≤ 5) (g3 : NoDd K H told.length v) (k : ∀ HH ed, Same H HH → HH ed = some (.xd [("found", v)]) → E (.ref a.NoDeed) (some ed) HH) (he : vs = [.ref p, v] := by rfl) : spPDo K a vs H Q E := ⟨p, dx, r, t, row, told, v, he, g0, g1, g2, .inr (.inr (.inr (.inr (.inr (⟨g3, k⟩)))))⟩
set_option hygiene false in
local macro_rules | `(tactic| wtm_at "u") => `(tactic| first | ((with_reducible refine' spPDo_u1 ?g0 ?g1 ?g2 ?g3 ?g4 ?g5 ?g6 ?g7 ?g8 (fun HH sb hph' => ?_) ?he); (case he => rfl); (case g0 => wtm_at "ph"); (case g1 => wtm_at "as"); (case g2 => wtm_at "as"); (case g3 => exact rfl); (case g4 => wtm_at "get"); (case g5 => wtm_at "as"); (case g6 => wtm_at "as"); (case g7 => wtm_at "as"); (case g8 => wtm_at "as")) | ((with_reducible refine' spPDo_u2 ?g0 ?g1 ?g2 ?g3 ?g4 ?g5 ?g6 ?g7 (fun HH ed y sm hed hy => ?_) ?he); (case he => rfl); (case g0 => wtm_at "ph"); (case g1 => wtm_at "as"); (case g2 => wtm_at "as"); (case g3 => exact rfl); (case g4 => wtm_at "get"); (case g5 => wtm_at "as"); (case g6 => wtm_at "as"); (case g7 => wtm_at "as")) | ((with_reducible refine' spPDo_u3 ?g0 ?g1 ?g2 ?g3 ?g4 ?g5 ?g6 ?g7 ?g8 ?g9 (fun HH ed l y sm hed hy hz hno => ?_) ?he); (case he => rfl); (case g0 => wtm_at "ph"); (case g1 => wtm_at "as"); (case g2 => wtm_at "as"); (case g3 => exact rfl); (case g4 => wtm_at "get"); (case g5 => wtm_at "as"); (case g6 => wtm_at "as"); (case g7 => wtm_at "as"); (case g8 => wtm_at "as"); (case g9 => wtm_at "as")) | ((with_reducible refine' spPDo_u4 ?g0 ?g1 ?g2 ?g3 ?g4 ?g5 ?g6 ?g7 (fun HH y sb hph' hv => ?_) ?he); (case he => rfl); (case g0 => wtm_at "ph"); (case g1 => wtm_at "as"); (case g2 => wtm_at "as"); (case g3 => exact rfl); (case g4 => wtm_at "get"); (case g5 => wtm_at "as"); (case g6 => wtm_at "as"); (case g7 => wtm_at "as")) | ((with_reducible refine' spPDo_u5 ?g0 ?g1 ?g2 ?g3 ?g4 ?g5 ?g6 ?g7 (fun HH ed sm hed => ?_) ?he); (case he => rfl); (case g0 => wtm_at "ph"); (case g1 => wtm_at "as"); (case g2 => wtm_at "as"); (case g3 => exact rfl); (case g4 => wtm_at "get"); (case g5 => wtm_at "as"); (case g6 => wtm_at "as"); (case g7 => wtm_at "as")) | ((with_reducible refine' spPDo_u6 ?g0 ?g1 ?g2 ?g3 (fun HH ed sm hed => ?_) ?he); (case he => rfl); (case g0 => wtm_at "ph"); (case g1 => wtm_at "as"); (case g2 => wtm_at "as"); (case g3 => wtm_at "as")) | fail)
section
variable {P : Program} {w : World} {K : PySem.W.Frag} {mg : Str → Option Value} {base : Heap} {a : Ad}
theorem ok_PlainHall_do (T : Txt K mg a) : FnOk P w K mg base (L2.CX P w) 4 a.PlainHall_do a.d_PlainHall_do ["self", "deed"] (spPDo K a) := by
  refine fund_okX T.F_PlainHall_do sc_PlainHall_do (fun vs H Q E h => ?_) (fun cdv A outer s H vs Q E hr tk hp h => ?_)
  · obtain ⟨p, dx, r, t, row, told, v, rfl, hph, hl, hl5, h⟩ := h
    rfl
  · obtain ⟨p, dx, r, t, row, told, v, rfl, hph, hl, hl5, h⟩ := h
    refine ⟨_, (pss_cons (ps_set (i := 2) sc_PlainHall_do.nd rfl (by first | exact Or.inl rfl | exact Or.inr rfl) (pe_callB (call_lenU (K := K)) (by rfl) T.b_len (by decide +kernel) (pa_cons (pe_fldK (K := K) (pv 0)) pa_nil)))
    (pss_cons (ps_if (pt_val (pe_call (ok_is_add (K := K) T) (hr.mono (by decide)) (by rfl) T.m_is_add T.F_is_add.kp T.B_is_add .nil pass0 (pa_cons (pv 1) (pa_cons (pv 2) pa_nil)))) (pss_cons (ps_expr (pe_methS (pv 0) T.c_PlainHall T.M_PlainHall_add_id (ok_PlainHall_add_id (K := K) T) (hr.mono (by decide)) T.B_PlainHall_add_id .nil (passAt tk) (pa_cons (pe_tup (pa_cons (pe_ix (ix_U (K := K)) (pv 1) pe_int (fun _ _ => rfl)) (pa_cons (pe_ix (ix_U (K := K)) (pv 1) pe_int (fun _ _ => rfl)) pa_nil))) pa_nil)))
    (pss_one (ps_ret pe_non))) pss_nil)
    (pss_cons (ps_if (pt_val (pe_call (ok_is_tell (K := K) T) (hr.mono (by decide)) (by rfl) T.m_is_tell T.F_is_tell.kp T.B_is_tell .nil pass0 (pa_cons (pv 1) (pa_cons (pv 2) pa_nil)))) (pss_one (ps_ret (pe_methS (pv 0) T.c_PlainHall T.M_PlainHall_tell_next (ok_PlainHall_tell_next (K := K) T) (hr.mono (by decide)) T.B_PlainHall_tell_next .nil (passAt tk) (pa_cons (pe_ix (ix_U (K := K)) (pv 1) pe_int (fun _ _ => rfl)) pa_nil)))) pss_nil)
    (pss_one (ps_raiseM rfl tk (pmk_exc T.o_NoDeed T.oi_NoDeed T.ot_NoDeed (ok_NoDeed_init (K := K) T) (hr.mono (by decide)) T.B_NoDeed_init (by rfl) T.m_NoDeed (pa_cons (pv 1) pa_nil))))))), ?_⟩
    clear tk hp
    dsimp only [L2.start, List.map_cons, List.map_nil, List.map, List.length_cons, List.length_nil, Nat.reduceAdd, Nat.reduceSub, List.replicate, List.cons_append, List.nil_append]
    rcases h with ⟨q, s, n, rfl, hq, h1, h2, hn, ha, k⟩ | ⟨q, s, n, rfl, hq, h1, h2, hn, k⟩ | ⟨q, s, n, rfl, hq, h1, h2, hn, h3, ha, k⟩ | ⟨q, m, kn, z, rfl, hq, hm, hk, hz, k⟩ | ⟨q, m, kn, rfl, hq, hm, hk, hz, k⟩ | ⟨hn, k⟩
    all_goals obtain ⟨hp, hr, ht, nrt⟩ := id hph
    all_goals have lt : (told.map V.int).length = told.length := List.length_map ..
    · have kk : ∀ x ∈ [V.str "add", .int s, .int n], Kn K H x := fun x hx => by simp at hx; rcases hx with rfl | rfl | rfl <;> exact trivial
      have e : adB told.length [V.str "add", .int s, .int n] = true := by simp [adB, isWh]; omega
      wtm_at "gs"
      rw [lt]
      wtm_at "gs"
      refine spPAdd_u1 (hph.same sa) hl ⟨q, rfl, hg⟩ hn ha fun HH sb hph' => ?_
      wtm_at "gs"
      exact k _ (fun b u n e => sb b u n (sa _ _ e)) hph'
    · have kk : ∀ x ∈ [V.str "add", .int s, .int n], Kn K H x := fun x hx => by simp at hx; rcases hx with rfl | rfl | rfl <;> exact trivial
      have e : adB told.length [V.str "add", .int s, .int n] = true := by simp [adB, isWh]; omega
      wtm_at "gs"
      rw [lt]
      wtm_at "gs"
      exact spPAdd_u2 (hph.same sa) hl ⟨q, rfl, hg⟩ hn fun HH ed sm hed => k _ _ _ (sa.trans sm) hed (sm _ _ hg)
    · have kk : ∀ x ∈ [V.str "add", .int s, .int n], Kn K H x := fun x hx => by simp at hx; rcases hx with rfl | rfl | rfl <;> exact trivial
      have e : adB told.length [V.str "add", .int s, .int n] = true := by simp [adB, isWh]; omega
      wtm_at "gs"
      rw [lt]
      wtm_at "gs"
      exact spPAdd_u3 (hph.same sa) hl ⟨q, rfl, hg⟩ hn h3 ha fun HH ed l y sm hed hy hz hno => k _ _ _ _ (sa.trans sm) hed hy hz (none_same sa hno)
    · have kk : ∀ x ∈ [V.str "tell", .int m], Kn K H x := fun x hx => by simp at hx; rcases hx with rfl | rfl <;> exact trivial
      have e : teB told.length [V.str "tell", .int m] = true := by simp [teB, isWh]; omega
      wtm_at "gs"
      rw [lt]
      wtm_at "gs"
      exact spPTell_u1 hph (by omega) hl5 hm hk hz k
    · have kk : ∀ x ∈ [V.str "tell", .int m], Kn K H x := fun x hx => by simp at hx; rcases hx with rfl | rfl <;> exact trivial
      have e : teB told.length [V.str "tell", .int m] = true := by simp [teB, isWh]; omega
      wtm_at "gs"
      rw [lt]
      wtm_at "gs"
      exact spPTell_u2 hph (by omega) hl5 hm hk hz fun HH ed sm hed => k _ _ sm hed
    · rcases hn with hn | ⟨q, xs, rfl, hq, hk, hl10, e1, e2⟩
      · wtm_at "gs"
        exact k _ _ (by wtm_at "rz") (by wtm_at "rz")
      · wtm_at "gs"
        rw [lt]
        wtm_at "gs"
        exact k _ _ (by wtm_at "rz") (by wtm_at "rz")
end

/-! ### what the law tells -/
def SameBs (L : List Addr) (H H' : Hp) : Prop := ∀ b u, b ∉ L → H b = some u → H' b = some u
theorem SameBs.tp {L : List Addr} {H H' : Hp} (hL : ∀ l ∈ L, ∃ xs, H l = some (.lst xs)) (s : SameBs L H H') : ∀ b xs, H b = some (.tup xs) → H' b = some (.tup xs) := fun b xs e => s _ _ (fun h => by obtain ⟨ys, e2⟩ := hL b h; rw [e] at e2; cases e2) e
theorem PhAt.buts {C : Addr} {H H' : Hp} {p dx r t : Addr} {row : List Idn} {told : List Int} {L : List Addr} (h : PhAt C H p dx r t row told) (hL : ∀ l ∈ L, ∃ xs, H l = some (.lst xs)) (s : SameBs L H H') (h1 : r ∉ L) (h2 : t ∉ L) : PhAt C H' p dx r t row told :=
  ⟨s _ _ (fun q => by obtain ⟨ys, e2⟩ := hL _ q; rw [h.hp] at e2; cases e2) h.hp, h.hr.keeps (SameBs.tp hL s) fun _ => s _ _ h1, s _ _ h2 h.ht, h.nrt⟩
inductive Fd where
  | non
  | num (m : Int)
  | idn (z : Idn)
  | lck (z : Idn)
/-- what was found; its list is younger than H0 -/
def FdAt (H0 H : Hp) : Fd → V → Prop
  | .non, x => x = .non
  | .num m, x => x = .int m
  | .idn z, x => IdAt H x z
  | .lck z, x => ∃ l y, x = .ref l ∧ H0 l = none ∧ H l = some (.lst [.ref y]) ∧ H y = some (.tup [.int z.1, .int z.2])
def ReAt (H0 H : Hp) (v : V) (ws : List Str) (f : Fd) : Prop := ∃ q l x, v = .ref q ∧ H0 l = none ∧ H q = some (.tup [.ref l, x]) ∧ H l = some (.lst (ws.map V.str)) ∧ FdAt H0 H f x
theorem FdAt.buts {H0 H H' : Hp} {f : Fd} {x : V} {L : List Addr} (h0 : ∀ l ∈ L, H0 l ≠ none) (hL : ∀ l ∈ L, ∃ xs, H l = some (.lst xs)) (s : SameBs L H H') (h : FdAt H0 H f x) : FdAt H0 H' f x := by
  cases f with
  | non => exact h
  | num m => exact h
  | idn z => exact IdAt.keeps (SameBs.tp hL s) h
  | lck z =>
    obtain ⟨l, y, e, n, h1, h2⟩ := h
    exact ⟨l, y, e, n, s _ _ (fun c => h0 l c n) h1, SameBs.tp hL s _ _ h2⟩
theorem ReAt.buts {H0 H H' : Hp} {v : V} {ws : List Str} {f : Fd} {L : List Addr} (h0 : ∀ l ∈ L, H0 l ≠ none) (hL : ∀ l ∈ L, ∃ xs, H l = some (.lst xs)) (s : SameBs L H H') (h : ReAt H0 H v ws f) : ReAt H0 H' v ws f := by
  obtain ⟨q, l, x, e, n, h1, h2, h3⟩ := h
  exact ⟨q, l, x, e, n, SameBs.tp hL s _ _ h1, s _ _ (fun c => h0 l c n) h2, h3.buts h0 hL s⟩
theorem ReAt.same {H0 H H' : Hp} {v : V} {ws : List Str} {f : Fd} (s : Same H H') (h : ReAt H0 H v ws f) : ReAt H0 H' v ws f := h.buts (L := []) (fun _ h => nomatch h) (fun _ h => nomatch h) fun b u _ e => s b u e
theorem FdAt.eqv {K : PySem.W.Frag} {H0 H1 H : Hp} {f : Fd} {x y : V} (h1 : FdAt H0 H f x) (h2 : FdAt H1 H f y) : EqV K H 2 x y true := by
  cases f with
  | non => rw [show x = .non from h1, show y = .non from h2]; exact .flat rfl
  | num m => rw [show x = .int m from h1, show y = .int m from h2]; exact .selfB rfl
  | idn z =>
    have t := IdAt.eqv (K := K) (n := 1) (show IdAt H x z from h1) (show IdAt H y z from h2)
    rwa [decide_eq_true rfl] at t
  | lck z =>
    obtain ⟨l, q, rfl, -, a1, a2⟩ := h1
    obtain ⟨l', q', rfl, -, b1, b2⟩ := h2
    by_cases c : l = l'
    · subst c
      exact .one
    · have t := IdAt.eqv (K := K) (n := 0) (show IdAt H (.ref q) z from ⟨q, rfl, a2⟩) (show IdAt H (.ref q') z from ⟨q', rfl, b2⟩)
      rw [decide_eq_true rfl] at t
      exact .lsts c (.of a1) (.of b1) (EqVs.cons t EqVs.nil)
theorem strs_eqv {K : PySem.W.Frag} {H : Hp} {l l' : Addr} {ws : List Str} (h1 : H l = some (.lst (ws.map V.str))) (h2 : H l' = some (.lst (ws.map V.str))) : EqV K H 2 (.ref l) (.ref l') true := by
  by_cases c : l = l'
  · subst c
    exact .one
  · refine .lsts c (.of h1) (.of h2) (EqVs.selfs fun x hx => ?_)
    obtain ⟨z, _, rfl⟩ := List.mem_map.mp hx
    exact .selfB rfl
theorem ReAt.eq {K : PySem.W.Frag} {H0 H1 H : Hp} {v u : V} {ws : List Str} {f : Fd} {Q : VK} (h1 : ReAt H0 H v ws f) (h2 : ReAt H1 H u ws f) (h : Q (.bl true) H) : rEqU K v u H Q := by
  obtain ⟨q, l, x, rfl, -, a1, a2, a3⟩ := h1
  obtain ⟨q', l', x', rfl, -, b1, b2, b3⟩ := h2
  exact i_eqG (n := 2) (.inr ⟨.of a1, .of b1⟩) (by decide) (EqVs.cons (strs_eqv a2 b2) (EqVs.cons (a3.eqv b3) EqVs.nil)) h
theorem ReAt.ne {K : PySem.W.Frag} {H0 H1 H : Hp} {v u : V} {ws : List Str} {f : Fd} {Q : VK} (h1 : ReAt H0 H v ws f) (h2 : ReAt H1 H u ws f) (h : Q (.bl false) H) : rNeU K v u H Q := by
  obtain ⟨q, l, x, rfl, -, a1, a2, a3⟩ := h1
  obtain ⟨q', l', x', rfl, -, b1, b2, b3⟩ := h2
  exact i_neG (n := 2) (.inr ⟨.of a1, .of b1⟩) (by decide) (EqVs.cons (strs_eqv a2 b2) (EqVs.cons (a3.eqv b3) EqVs.nil)) h
/-- the deeds -/
inductive Dd where
  | add (m n : Int)
  | tell (m : Nat)
def Dd.vs : Dd → List V
  | .add m n => [.str "add", .int m, .int n]
  | .tell m => [.str "tell", .int m]
def Dd.ok (M : Nat) : Dd → Prop
  | .add m n => (0 ≤ m ∧ m ≤ (M : Int) - 1) ∧ 1 ≤ n
  | .tell m => m < M
abbrev PlS := List Idn × List Int
def PlS.at (s : PlS) (m : Nat) : Option Idn := s.1[(s.2.getD m 0).toNat]?
abbrev wTold : List Str := ["told"]
abbrev wKnown : List Str := ["known", "family"]
abbrev wLacks : List Str := ["lacks", "family"]
abbrev wAll : List Str := ["all told", "family"]
/-- what a deed tells -/
def wsOf (s : PlS) : Dd → List Str × Fd
  | .add m n => if (m, n) ∈ s.1 then (wKnown, Fd.idn (m, n)) else if 1 < n ∧ (m, n - 1) ∉ s.1 then (wLacks, Fd.lck (m, n - 1)) else (wTold, Fd.non)
  | .tell m => match s.at m with | some z => (wTold, Fd.idn z) | none => (wAll, Fd.num m)
/-- how it stands behind it -/
def goOf (s : PlS) : Dd → PlS
  | .add m n => if (m, n) ∈ s.1 then s else if 1 < n ∧ (m, n - 1) ∉ s.1 then s else (s.1 ++ [(m, n)], s.2)
  | .tell m => match s.at m with | some _ => (s.1, s.2.set m (s.2.getD m 0 + 1)) | none => s
structure OkS (M : Nat) (s : PlS) : Prop where
  m2 : 2 ≤ M
  m5 : M ≤ 5
  l : s.2.length = M
  t : ∀ x ∈ s.2, 0 ≤ x ∧ x ≤ (s.1.length : Int)
theorem OkS.new {M : Nat} (h : 2 ≤ M ∧ M ≤ 5) : OkS M ([], List.replicate M 0) := ⟨h.1, h.2, List.length_replicate, fun x h => by rw [List.eq_of_mem_replicate h]; exact ⟨Int.le_refl _, Int.le_refl _⟩⟩
theorem OkS.at {M : Nat} {s : PlS} (h : OkS M s) {m : Nat} (hm : m < M) : ∃ k : Nat, s.2.getD m 0 = (k : Int) ∧ k ≤ s.1.length := by
  have hl : m < s.2.length := by rw [h.l]; exact hm
  rw [List.getD_eq_getElem?_getD, List.getElem?_eq_getElem hl]
  have := h.t _ (List.getElem_mem hl)
  exact ⟨(s.2[m]).toNat, by show s.2[m] = _; omega, by omega⟩
theorem D_known {s : PlS} {m n : Int} (c : (m, n) ∈ s.1) : wsOf s (.add m n) = (wKnown, Fd.idn (m, n)) ∧ goOf s (.add m n) = s := ⟨if_pos c, if_pos c⟩
theorem D_lacks {s : PlS} {m n : Int} (c : (m, n) ∉ s.1) (d : 1 < n) (e : (m, n - 1) ∉ s.1) : wsOf s (.add m n) = (wLacks, Fd.lck (m, n - 1)) ∧ goOf s (.add m n) = s := ⟨(if_neg c).trans (if_pos ⟨d, e⟩), (if_neg c).trans (if_pos ⟨d, e⟩)⟩
theorem D_add {s : PlS} {m n : Int} (c : (m, n) ∉ s.1) (d : 1 < n → (m, n - 1) ∈ s.1) : wsOf s (.add m n) = (wTold, Fd.non) ∧ goOf s (.add m n) = (s.1 ++ [(m, n)], s.2) := ⟨(if_neg c).trans (if_neg fun h => h.2 (d h.1)), (if_neg c).trans (if_neg fun h => h.2 (d h.1))⟩
theorem D_tell {s : PlS} {m k : Nat} {z : Idn} (h : s.2.getD m 0 = (k : Int)) (e : s.1[k]? = some z) : wsOf s (.tell m) = (wTold, Fd.idn z) ∧ goOf s (.tell m) = (s.1, s.2.set m ((k : Int) + 1)) := by
  have q : s.at m = some z := by
    unfold PlS.at
    rw [h]
    exact e
  constructor
  · show (match s.at m with | some z => (wTold, Fd.idn z) | none => (wAll, Fd.num m)) = _
    rw [q]
  · show (match s.at m with | some _ => (s.1, s.2.set m (s.2.getD m 0 + 1)) | none => s) = _
    rw [q, h]
theorem D_all {s : PlS} {m : Nat} (h : s.2.getD m 0 = (s.1.length : Int)) : wsOf s (.tell m) = (wAll, Fd.num m) ∧ goOf s (.tell m) = s := by
  have q : s.at m = none := by
    unfold PlS.at
    rw [h]
    exact List.getElem?_eq_none (by simp)
  constructor
  · show (match s.at m with | some z => (wTold, Fd.idn z) | none => (wAll, Fd.num m)) = _
    rw [q]
  · show (match s.at m with | some _ => (s.1, s.2.set m (s.2.getD m 0 + 1)) | none => s) = _
    rw [q]
/-- the five ways -/
theorem D_five {M : Nat} {s : PlS} {d : Dd} (h : OkS M s) (hd : d.ok M) : (∃ (m n : Int), d = .add m n ∧ (m, n) ∈ s.1) ∨ (∃ (m n : Int), d = .add m n ∧ (m, n) ∉ s.1 ∧ 1 < n ∧ (m, n - 1) ∉ s.1) ∨ (∃ (m n : Int), d = .add m n ∧ (m, n) ∉ s.1 ∧ (1 < n → (m, n - 1) ∈ s.1)) ∨
    (∃ (m k : Nat) (z : Idn), d = .tell m ∧ s.2.getD m 0 = (k : Int) ∧ s.1[k]? = some z) ∨ (∃ (m : Nat), d = .tell m ∧ s.2.getD m 0 = (s.1.length : Int)) := by
  cases d with
  | add m n =>
    by_cases c1 : (m, n) ∈ s.1
    · exact .inl ⟨m, n, rfl, c1⟩
    · by_cases c2 : 1 < n ∧ (m, n - 1) ∉ s.1
      · exact .inr (.inl ⟨m, n, rfl, c1, c2⟩)
      · exact .inr (.inr (.inl ⟨m, n, rfl, c1, fun e => Classical.byContradiction fun g => c2 ⟨e, g⟩⟩))
  | tell m =>
    obtain ⟨k, ek, hk⟩ := h.at (show m < M from hd)
    rcases Nat.lt_or_ge k s.1.length with c | c
    · exact .inr (.inr (.inr (.inl ⟨m, k, s.1[k], rfl, ek, List.getElem?_eq_getElem c⟩)))
    · exact .inr (.inr (.inr (.inr ⟨m, rfl, by rw [ek]; omega⟩)))
theorem OkS.go {M : Nat} {s : PlS} {d : Dd} (h : OkS M s) (hd : d.ok M) : OkS M (goOf s d) ∧ (goOf s d).1.length ≤ s.1.length + 1 := by
  rcases D_five h hd with ⟨m, n, rfl, c⟩ | ⟨m, n, rfl, c, d, e⟩ | ⟨m, n, rfl, c, d⟩ | ⟨m, k, z, rfl, c, d⟩ | ⟨m, rfl, c⟩
  · rw [(D_known c).2]
    exact ⟨h, Nat.le_succ _⟩
  · rw [(D_lacks c d e).2]
    exact ⟨h, Nat.le_succ _⟩
  · rw [(D_add c d).2]
    refine ⟨⟨h.m2, h.m5, h.l, fun x hx => ?_⟩, by show (s.1 ++ [(m, n)]).length ≤ _; rw [List.length_append]; exact Nat.le_refl _⟩
    have := h.t x hx
    show 0 ≤ x ∧ x ≤ ((s.1 ++ [(m, n)]).length : Int)
    rw [List.length_append, List.length_singleton]
    omega
  · rw [(D_tell c d).2]
    have := (List.getElem?_eq_some_iff.mp d).1
    refine ⟨⟨h.m2, h.m5, by show (s.2.set m _).length = M; rw [List.length_set]; exact h.l, fun x hx => ?_⟩, Nat.le_succ _⟩
    rcases List.mem_or_eq_of_mem_set hx with hx | hx
    · exact h.t x hx
    · rw [hx]
      show 0 ≤ (k : Int) + 1 ∧ (k : Int) + 1 ≤ (s.1.length : Int)
      omega
  · rw [(D_all c).2]
    exact ⟨h, Nat.le_succ _⟩
/-- what was refused changes nothing -/
theorem wsOf_stay {M : Nat} {s : PlS} {d : Dd} (hs : OkS M s) (hd : d.ok M) : (wsOf s d).1 = wTold ∨ goOf s d = s := by
  rcases D_five hs hd with ⟨m, n, rfl, c⟩ | ⟨m, n, rfl, c, d, e⟩ | ⟨m, n, rfl, c, d⟩ | ⟨m, k, z, rfl, c, d⟩ | ⟨m, rfl, c⟩
  · exact .inr (D_known c).2
  · exact .inr (D_lacks c d e).2
  · exact .inl (by rw [(D_add c d).1])
  · exact .inl (by rw [(D_tell c d).1])
  · exact .inr (D_all c).2
def DdAt (H : Hp) (v : V) (d : Dd) : Prop := ∃ q, v = .ref q ∧ H q = some (.tup d.vs)
theorem DdAt.keeps {H H' : Hp} {v : V} {d : Dd} (k : ∀ b xs, H b = some (.tup xs) → H' b = some (.tup xs)) (h : DdAt H v d) : DdAt H' v d := by
  obtain ⟨q, e, h⟩ := h
  exact ⟨q, e, k _ _ h⟩
theorem DdAt.same {H H' : Hp} {v : V} {d : Dd} (s : Same H H') (h : DdAt H v d) : DdAt H' v d := h.keeps fun _ _ => s _ _
structure StD (H : Hp) (o r t : Addr) (s : PlS) : Prop where
  ho : H o = some (.dK [(.inr "row", .ref r), (.inr "told", .ref t)])
  hr : IdL H r s.1
  ht : H t = some (.lst (s.2.map V.int))
  nrt : r ≠ t
theorem StD.same {H H' : Hp} {o r t : Addr} {x : PlS} (s : Same H H') (h : StD H o r t x) : StD H' o r t x := ⟨s _ _ h.ho, h.hr.same s, s _ _ h.ht, h.nrt⟩
theorem StD.buts {H H' : Hp} {o r t : Addr} {x : PlS} {L : List Addr} (h : StD H o r t x) (hL : ∀ l ∈ L, ∃ xs, H l = some (.lst xs)) (s : SameBs L H H') (h1 : r ∉ L) (h2 : t ∉ L) : StD H' o r t x :=
  ⟨s _ _ (fun q => by obtain ⟨ys, e2⟩ := hL _ q; rw [h.ho] at e2; cases e2) h.ho, h.hr.keeps (SameBs.tp hL s) fun _ => s _ _ h1, s _ _ h2 h.ht, h.nrt⟩
theorem StD.add {H H' : Hp} {o r t : Addr} {x : PlS} {xs : List V} {v : V} {z : Idn} (h : StD H o r t x) (hr : H r = some (.lst xs)) (hx : All2 (IdAt H) xs x.1) (hv : IdAt H v z) (s : SameBut r H H') (e : H' r = some (.lst (xs ++ [v]))) : StD H' o r t (x.1 ++ [z], x.2) := by
  have tp := MdX.tp hr s
  exact ⟨s _ _ (ne_of h.ho hr (by simp)) h.ho, ⟨_, e, All2.append (hx.mono fun _ _ => IdAt.keeps tp) (All2.cons (hv.keeps tp) All2.nil)⟩, s _ _ h.nrt.symm h.ht, h.nrt⟩
theorem StD.tell {H H' : Hp} {o r t : Addr} {x : PlS} {told' : List Int} (h : StD H o r t x) (s : SameBut t H H') (e : H' t = some (.lst (told'.map V.int))) : StD H' o r t (x.1, told') := by
  have tp := MdX.tp h.ht s
  exact ⟨s _ _ (ne_of h.ho h.ht (by simp)) h.ho, h.hr.keeps tp (fun _ => s _ _ h.nrt), e, h.nrt⟩
theorem i_rep1T {H : Hp} {Q : VK} {p : Addr} {x : V} (h1 : H p = some (.lst [x])) (h : ∀ q HN, H q = none → Same H HN → HN q = some (.lst [x]) → Q (.ref q) HN) : rMulU (.ref p) (.int (if true = true then 1 else 0)) H Q :=
  i_repX h1 (by decide) fun q hq => h q _ hq (same_upd (Same.refl _) hq) upd_same
theorem i_rep1F {H : Hp} {Q : VK} {p : Addr} {x : V} (h1 : H p = some (.lst [x])) (h : ∀ q HN, H q = none → Same H HN → HN q = some (.lst []) → Q (.ref q) HN) : rMulU (.ref p) (.int (if false = true then 1 else 0)) H Q :=
  i_repX h1 (by decide) fun q hq => h q _ hq (same_upd (Same.refl _) hq) upd_same
theorem dg_row {r t : V} : valV [((.inr "row" : Key), r), (.inr "told", t)] (.inr "row") = some r := rfl
theorem dg_told2 {r t : V} : valV [((.inr "row" : Key), r), (.inr "told", t)] (.inr "told") = some t := rfl
local macro_rules | `(tactic| wtm_at "sd") => `(tactic| fail)
local macro_rules | `(tactic| wtm_at "sd") => `(tactic| first | wtm_at "as" | ((with_reducible refine' StD.same ?d1 ?d2); (case d2 => wtm_at "as"); (case d1 => wtm_at "same")) | fail)
local macro_rules | `(tactic| wtm_at "dd") => `(tactic| fail)
local macro_rules | `(tactic| wtm_at "dd") => `(tactic| first | wtm_at "as" | ((with_reducible refine' DdAt.same ?d1 ?d2); (case d2 => wtm_at "as"); (case d1 => wtm_at "same")) | fail)
set_option hygiene false in
local macro_rules | `(tactic| wtm_at "u") => `(tactic| first | ((with_reducible refine' i_rep1T ?h1 (fun q HN hq sa hg => ?_)); (case h1 => wtm_at "get")) | ((with_reducible refine' i_rep1F ?h1 (fun q HN hq sa hg => ?_)); (case h1 => wtm_at "get")) | with_reducible refine i_din ?_ | with_reducible refine i_dnotin ?_ | with_reducible refine i_dget ?_ | ((with_reducible refine' i_dgS ?h1 ?h2 ?_); (case h1 => wtm_at "get"); (case h2 => with_reducible first | exact dg_row | exact dg_told2)) | fail)
theorem Kn.ofL {K : PySem.W.Frag} {H : Hp} {q : Addr} {xs : List V} (h : H q = some (.lst xs)) : Kn K H (.ref q) := ⟨.lst xs, .of h, trivial⟩
theorem Kn.ofT {K : PySem.W.Frag} {H : Hp} {q : Addr} {xs : List V} (h : H q = some (.tup xs)) : Kn K H (.ref q) := ⟨.tup xs, .of h, trivial⟩
theorem NoDd.same {K : PySem.W.Frag} {H H' : Hp} {M : Int} {v : V} (s : Same H H') (h : NoDd K H M v) : NoDd K H' M v := by
  rcases h with h | ⟨q, xs, e, h1, h2, h3, h4, h5⟩
  · exact .inl (h.same s)
  · exact .inr ⟨q, xs, e, SqT.same s h1, fun x hx => Kn.same s (h2 x hx), h3, h4, h5⟩
theorem NoDd.tup {K : PySem.W.Frag} {H : Hp} {M : Int} {q : Addr} {xs : List V} (h : H q = some (.tup xs)) (h2 : ∀ x ∈ xs, Kn K H x) (h3 : xs.length ≤ 10) (h4 : adB M xs = false) (h5 : teB M xs = false) : NoDd K H M (.ref q) := .inr ⟨q, xs, rfl, .of h, h2, h3, h4, h5⟩
theorem NoDd.flat {K : PySem.W.Frag} {H : Hp} {M : Int} {x : V} (h : flatV x = true) : NoDd K H M x := .inl (.seq (.flat h))
theorem NoDd.dict {K : PySem.W.Frag} {H : Hp} {M : Int} {q : Addr} (h : H q = some (.dK [])) : NoDd K H M (.ref q) := .inl (.seq (.dict h))
theorem NoDd.list {K : PySem.W.Frag} {H : Hp} {M : Int} {q : Addr} {xs : List V} (h : H q = some (.lst xs)) : NoDd K H M (.ref q) := .inl (.lst (.of h))
/-- one thing is itself -/
def OneV (x : V) : Prop := flatV x = true ∨ ∃ q, x = .ref q
theorem OneV.eqv {K : PySem.W.Frag} {H : Hp} {x : V} {n : Nat} (h : OneV x) : EqV K H n x x true := by
  rcases h with h | ⟨q, rfl⟩
  · exact .selfB h
  · exact .one
def spDid (K : PySem.W.Frag) (a : Ad) : Sp := fun vs H Q E => ∃ (p dx r t : Addr) (M : Nat) (s : PlS) (v : V), vs = [.ref p, v] ∧ (PhAt a.PlainHall H p dx r t s.1 s.2) ∧ (OkS M s) ∧ (s.1.length ≤ 300) ∧ ((∃ (d : Dd), (DdAt H v d) ∧ (d.ok M) ∧ (∀ HH y, (SameBs [r, t] H HH) → (PhAt a.PlainHall HH p dx r t (goOf s d).1 (goOf s d).2) → (ReAt H HH y (wsOf s d).1 (wsOf s d).2) → Q (y) HH)) ∨ ((NoDd K H s.2.length v) ∧ (∀ HH q l, (Same H HH) → (H q = none) → (HH q = some (.tup [.ref l, v])) → (HH l = some (.lst [.str "no deed", .str "family"])) → Q (.ref q) HH)))
theorem spDid_u1 {K : PySem.W.Frag} {a : Ad} {H : Hp} {Q : VK} {E : XK} {vs : List V} {p dx r t : Addr} {M : Nat} {s : PlS} {v : V} {d : Dd} (g0 : PhAt a.PlainHall H p dx r t s.1 s.2) (g1 : OkS M s) (g2 : s.1.length ≤ 300) (g3 : DdAt H v d) (g4 : d.ok M) (k : ∀ HH y, (SameBs [r, t] H HH) → (PhAt a.PlainHall HH p dx r t (goOf s d).1 (goOf s d).2) → (ReAt H HH y (wsOf s d).1 (wsOf s d).2) → Q (y) HH) (he : vs = [.ref p, v] := by rfl) : spDid K a vs H Q E := ⟨p, dx, r, t, M, s, v, he, g0, g1, g2, .inl ⟨d, g3, g4, k⟩⟩
theorem spDid_u2 {K : PySem.W.Frag} {a : Ad} {H : Hp} {Q : VK} {E : XK} {vs : List V} {p dx r t : Addr} {M : Nat} {s : PlS} {v : V} (g0 : PhAt a.PlainHall H p dx r t s.1 s.2) (g1 : OkS M s) (g2 : s.1.length ≤ 300) (g3 : NoDd K H s.2.length v) (k : ∀ HH q l, (Same H HH) → (H q = none) → (HH q = some (.tup [.ref l, v])) → (HH l = some (.lst [.str "no deed", .str "family"])) → Q (.ref q) HH) (he : vs = [.ref p, v] := by rfl) : spDid K a vs H Q E := ⟨p, dx, r, t, M, s, v, he, g0, g1, g2, .inr (⟨g3, k⟩)⟩
set_option hygiene false in
local macro_rules | `(tactic| wtm_at "u") => `(tactic| first | ((with_reducible refine' spDid_u1 ?g0 ?g1 ?g2 ?g3 ?g4 (fun HH y sb hph' hre => ?_) ?he); (case he => rfl); (case g0 => wtm_at "ph"); (case g1 => wtm_at "as"); (case g2 => wtm_at "as"); (case g3 => wtm_at "dd"); (case g4 => wtm_at "as")) | ((with_reducible refine' spDid_u2 ?g0 ?g1 ?g2 ?g3 (fun HH q l sm hno hq hl' => ?_) ?he); (case he => rfl); (case g0 => wtm_at "ph"); (case g1 => wtm_at "as"); (case g2 => wtm_at "as"); (case g3 => wtm_at "as")) | fail)
def spDue (K : PySem.W.Frag) : Sp := fun vs H Q E => ∃ (o r t : Addr) (M : Nat) (s : PlS) (v : V) (d : Dd), vs = [.ref o, v] ∧ (StD H o r t s) ∧ (OkS M s) ∧ (s.1.length ≤ 300) ∧ (DdAt H v d) ∧ (d.ok M) ∧ (∀ HH y, (SameBs [r, t] H HH) → (StD HH o r t (goOf s d)) → (ReAt H HH y (wsOf s d).1 (wsOf s d).2) → Q (y) HH)
theorem spDue_u1 {K : PySem.W.Frag} {H : Hp} {Q : VK} {E : XK} {vs : List V} {o r t : Addr} {M : Nat} {s : PlS} {v : V} {d : Dd} (g0 : StD H o r t s) (g1 : OkS M s) (g2 : s.1.length ≤ 300) (g3 : DdAt H v d) (g4 : d.ok M) (k : ∀ HH y, (SameBs [r, t] H HH) → (StD HH o r t (goOf s d)) → (ReAt H HH y (wsOf s d).1 (wsOf s d).2) → Q (y) HH) (he : vs = [.ref o, v] := by rfl) : spDue K vs H Q E := ⟨o, r, t, M, s, v, d, he, g0, g1, g2, g3, g4, k⟩
set_option hygiene false in
local macro_rules | `(tactic| wtm_at "u") => `(tactic| first | ((with_reducible refine' spDue_u1 ?g0 ?g1 ?g2 ?g3 ?g4 (fun HH y sb hst' hre => ?_) ?he); (case he => rfl); (case g0 => wtm_at "sd"); (case g1 => wtm_at "as"); (case g2 => wtm_at "as"); (case g3 => wtm_at "dd"); (case g4 => wtm_at "as")) | fail)
def spSta (K : PySem.W.Frag) (a : Ad) : Sp := fun vs H Q E => ∃ (p dx r t o r' t' : Addr) (M : Nat) (s : PlS), vs = [.ref p, .ref o] ∧ (PhAt a.PlainHall H p dx r t s.1 s.2) ∧ (StD H o r' t' s) ∧ (OkS M s) ∧ (s.1.length ≤ 300) ∧ (∀ HH, (Same H HH) → Q (.bl true) HH)
theorem spSta_u1 {K : PySem.W.Frag} {a : Ad} {H : Hp} {Q : VK} {E : XK} {vs : List V} {p dx r t o r' t' : Addr} {M : Nat} {s : PlS} (g0 : PhAt a.PlainHall H p dx r t s.1 s.2) (g1 : StD H o r' t' s) (g2 : OkS M s) (g3 : s.1.length ≤ 300) (k : ∀ HH, (Same H HH) → Q (.bl true) HH) (he : vs = [.ref p, .ref o] := by rfl) : spSta K a vs H Q E := ⟨p, dx, r, t, o, r', t', M, s, he, g0, g1, g2, g3, k⟩
set_option hygiene false in
local macro_rules | `(tactic| wtm_at "u") => `(tactic| first | ((with_reducible refine' spSta_u1 ?g0 ?g1 ?g2 ?g3 (fun HH sm => ?_) ?he); (case he => rfl); (case g0 => wtm_at "ph"); (case g1 => wtm_at "sd"); (case g2 => wtm_at "as"); (case g3 => wtm_at "as")) | fail)
def spDone (K : PySem.W.Frag) (a : Ad) : Sp := fun vs H Q E => ∃ (p dx r t o r' t' : Addr) (M : Nat) (s : PlS) (v : V) (d : Dd), vs = [.ref p, .ref o, v] ∧ (PhAt a.PlainHall H p dx r t s.1 s.2) ∧ (StD H o r' t' s) ∧ ((r ≠ r' ∧ r ≠ t') ∧ (t ≠ r' ∧ t ≠ t')) ∧ (OkS M s) ∧ (s.1.length ≤ 250) ∧ (DdAt H v d) ∧ (d.ok M) ∧ (∀ HH, (SameBs [r, t, r', t'] H HH) → (PhAt a.PlainHall HH p dx r t (goOf s d).1 (goOf s d).2) → (StD HH o r' t' (goOf s d)) → Q (.bl true) HH)
theorem spDone_u1 {K : PySem.W.Frag} {a : Ad} {H : Hp} {Q : VK} {E : XK} {vs : List V} {p dx r t o r' t' : Addr} {M : Nat} {s : PlS} {v : V} {d : Dd} (g0 : PhAt a.PlainHall H p dx r t s.1 s.2) (g1 : StD H o r' t' s) (g2 : (r ≠ r' ∧ r ≠ t') ∧ (t ≠ r' ∧ t ≠ t')) (g3 : OkS M s) (g4 : s.1.length ≤ 250) (g5 : DdAt H v d) (g6 : d.ok M) (k : ∀ HH, (SameBs [r, t, r', t'] H HH) → (PhAt a.PlainHall HH p dx r t (goOf s d).1 (goOf s d).2) → (StD HH o r' t' (goOf s d)) → Q (.bl true) HH) (he : vs = [.ref p, .ref o, v] := by rfl) : spDone K a vs H Q E := ⟨p, dx, r, t, o, r', t', M, s, v, d, he, g0, g1, g2, g3, g4, g5, g6, k⟩
set_option hygiene false in
local macro_rules | `(tactic| wtm_at "u") => `(tactic| first | ((with_reducible refine' spDone_u1 ?g0 ?g1 ?g2 ?g3 ?g4 ?g5 ?g6 (fun HH sb hph' hst' => ?_) ?he); (case he => rfl); (case g0 => wtm_at "ph"); (case g1 => wtm_at "sd"); (case g2 => wtm_at "as"); (case g3 => wtm_at "as"); (case g4 => wtm_at "as"); (case g5 => wtm_at "dd"); (case g6 => wtm_at "as")) | fail)
theorem i_lenOP {K : PySem.W.Frag} {a : Ad} {H : Hp} {Q : VK} {p dx r t : Addr} {row : List Idn} {told : List Int} (hph : PhAt a.PlainHall H p dx r t row told) (hl : row.length ≤ 1000) (h : Q (.int row.length) H) : rLenO a.PlainHall (spPLen K a) E0 [.ref p] H Q :=
  ⟨p, dx, _, rfl, hph.hp, spPLen_u1 hph hl ⟨_, rfl, by omega, h⟩⟩
set_option hygiene false in
local macro_rules | `(tactic| wtm_at "u") => `(tactic| ((with_reducible refine' i_lenOP ?h1 ?h2 ?_); (case h1 => wtm_at "ph"); (case h2 => wtm_at "as")))
/-- one thing is like itself, where an exception is handled -/
def SelfE (K : PySem.W.Frag) (H : Hp) (x : V) : Prop := ∀ Q : VK, Q (.bl true) H → rEqU K x x H Q
theorem SelfE.flat {K : PySem.W.Frag} {H : Hp} {x : V} (h : flatV x = true) : SelfE K H x := by
  intro Q q
  cases x <;> first
    | (cases h; done)
    | exact i_eqS rfl q
    | exact i_eqS (by simp [eqS]) q
def spNoM (K : PySem.W.Frag) (a : Ad) : Sp := fun vs H Q E => ∃ (p dx r t : Addr) (M : Nat) (s : PlS) (v : V), vs = [.ref p, v] ∧ (PhAt a.PlainHall H p dx r t s.1 s.2) ∧ (OkS M s) ∧ (Kn K H v) ∧ (isWh 0 (.int (s.2.length - 1)) v = false) ∧ (∀ H', Same H H' → SelfE K H' v) ∧ (∀ HH, (Same H HH) → Q (.bl true) HH)
theorem spNoM_u1 {K : PySem.W.Frag} {a : Ad} {H : Hp} {Q : VK} {E : XK} {vs : List V} {p dx r t : Addr} {M : Nat} {s : PlS} {v : V} (g0 : PhAt a.PlainHall H p dx r t s.1 s.2) (g1 : OkS M s) (g2 : Kn K H v) (g3 : isWh 0 (.int (s.2.length - 1)) v = false) (g4 : ∀ H', Same H H' → SelfE K H' v) (k : ∀ HH, (Same H HH) → Q (.bl true) HH) (he : vs = [.ref p, v] := by rfl) : spNoM K a vs H Q E := ⟨p, dx, r, t, M, s, v, he, g0, g1, g2, g3, g4, k⟩
set_option hygiene false in
local macro_rules | `(tactic| wtm_at "u") => `(tactic| first | ((with_reducible refine' spNoM_u1 ?g0 ?g1 ?g2 ?g3 ?g4 (fun HH sm => ?_) ?he); (case he => rfl); (case g0 => wtm_at "ph"); (case g1 => wtm_at "as"); (case g2 => wtm_at "kn"); (case g3 => wtm_at "as"); (case g4 => wtm_at "as")) | fail)
def spMade (K : PySem.W.Frag) (a : Ad) : Sp := fun vs H Q E => ∃ (v : V), vs = [v] ∧ (Kn K H v) ∧ (isWh 2 (.int 5) v = false) ∧ (∀ H', Same H H' → SelfE K H' v) ∧ (∀ HH, (Same H HH) → Q (.bl true) HH)
theorem spMade_u1 {K : PySem.W.Frag} {a : Ad} {H : Hp} {Q : VK} {E : XK} {vs : List V} {v : V} (g0 : Kn K H v) (g1 : isWh 2 (.int 5) v = false) (g2 : ∀ H', Same H H' → SelfE K H' v) (k : ∀ HH, (Same H HH) → Q (.bl true) HH) (he : vs = [v] := by rfl) : spMade K a vs H Q E := ⟨v, he, g0, g1, g2, k⟩
set_option hygiene false in
local macro_rules | `(tactic| wtm_at "u") => `(tactic| first | ((with_reducible refine' spMade_u1 ?g0 ?g1 ?g2 (fun HH sm => ?_) ?he); (case he => rfl); (case g0 => wtm_at "kn"); (case g1 => wtm_at "as"); (case g2 => wtm_at "as")) | fail)
def spBad (K : PySem.W.Frag) (a : Ad) : Sp := fun vs H Q E => ∃ (p dx r t o r' t' : Addr) (M : Nat) (s : PlS), vs = [.ref p, .ref o] ∧ (PhAt a.PlainHall H p dx r t s.1 s.2) ∧ (StD H o r' t' s) ∧ (OkS M s) ∧ (s.1.length ≤ 250) ∧ (∀ HH, (Same H HH) → Q (.bl true) HH)
theorem spBad_u1 {K : PySem.W.Frag} {a : Ad} {H : Hp} {Q : VK} {E : XK} {vs : List V} {p dx r t o r' t' : Addr} {M : Nat} {s : PlS} (g0 : PhAt a.PlainHall H p dx r t s.1 s.2) (g1 : StD H o r' t' s) (g2 : OkS M s) (g3 : s.1.length ≤ 250) (k : ∀ HH, (Same H HH) → Q (.bl true) HH) (he : vs = [.ref p, .ref o] := by rfl) : spBad K a vs H Q E := ⟨p, dx, r, t, o, r', t', M, s, he, g0, g1, g2, g3, k⟩
set_option hygiene false in
local macro_rules | `(tactic| wtm_at "u") => `(tactic| first | ((with_reducible refine' spBad_u1 ?g0 ?g1 ?g2 ?g3 (fun HH sm => ?_) ?he); (case he => rfl); (case g0 => wtm_at "ph"); (case g1 => wtm_at "sd"); (case g2 => wtm_at "as"); (case g3 => wtm_at "as")) | fail)
section
variable {P : Program} {w : World} {K : PySem.W.Frag} {mg : Str → Option Value} {base : Heap} {a : Ad}
theorem ok__law_did (T : Txt K mg a) : FnOk P w K mg base CX0 5 a._law_did a.d__law_did ["plain", "deed"] (spDid K a) := by
  refine fund_ok0 T.F__law_did sc__law_did (fun vs H Q E h => ?_) (fun cdv A outer s H vs Q E hr h => ?_)
  · obtain ⟨p, dx, r, t, M, s, v, rfl, hph, hs, hl, h⟩ := h
    rfl
  · obtain ⟨p, dx, r, t, M, s, v, rfl, hph, hs, hl, h⟩ := h
    refine ⟨_, (pss_cons (ps_tryM rfl rfl sc__law_did.nd takes0 (fun W pn xe tk hp => (pss_one (ps_set (i := 2) sc__law_did.nd rfl (by first | exact Or.inl rfl | exact Or.inr rfl) (pe_methS (pv 0) T.c_PlainHall T.M_PlainHall_do (ok_PlainHall_do (K := K) T) (hr.mono (by decide)) T.B_PlainHall_do .nil (passAt tk) (pa_cons (pv 1) pa_nil)))))
    (.named (i := 3) rfl rfl (.three ⟨by rfl, by decide, .inl T.m_Known⟩ ⟨by rfl, by decide, .inl T.m_Lacks⟩ ⟨by rfl, by decide, .inl T.m_AllTold⟩) (fun ea oe cls ed pn hz hf => (pss_cons (ps_set (i := 4) sc__law_did.nd rfl (by first | exact Or.inl rfl | exact Or.inr rfl) (pe_op (op_addU (K := K)) (pe_op op_mulU (pe_lst (pa_cons pe_str pa_nil)) (pe_callTy call_intU (by rfl) T.b_int (by decide +kernel) (pa_cons (pe_callB (call_isX (K := K) hz hf) (by rfl) T.b_isinstance (by decide +kernel) (pa_cons (pv 3) (pa_cons (pe_glob rfl T.m_Known (show RelV (V.ref a.Known) _ from rfl)) pa_nil))) pa_nil))) (pe_op op_mulU (pe_lst (pa_cons pe_str pa_nil)) (pe_callTy call_intU (by rfl) T.b_int (by decide +kernel) (pa_cons (pe_callB (call_isX (K := K) hz hf) (by rfl) T.b_isinstance (by decide +kernel) (pa_cons (pv 3) (pa_cons (pe_glob rfl T.m_Lacks (show RelV (V.ref a.Lacks) _ from rfl)) pa_nil))) pa_nil)))))
    (pss_cons (ps_set (i := 4) sc__law_did.nd rfl (by first | exact Or.inl rfl | exact Or.inr rfl) (pe_op (op_addU (K := K)) (pe_op (op_addU (K := K)) (pv 4) (pe_op op_mulU (pe_lst (pa_cons pe_str pa_nil)) (pe_callTy call_intU (by rfl) T.b_int (by decide +kernel) (pa_cons (pe_callB (call_isX (K := K) hz hf) (by rfl) T.b_isinstance (by decide +kernel) (pa_cons (pv 3) (pa_cons (pe_glob rfl T.m_AllTold (show RelV (V.ref a.AllTold) _ from rfl)) pa_nil))) pa_nil)))) (pe_op op_mulU (pe_lst (pa_cons pe_str pa_nil)) (pe_callTy call_intU (by rfl) T.b_int (by decide +kernel) (pa_cons (pe_callB (call_isX (K := K) hz hf) (by rfl) T.b_isinstance (by decide +kernel) (pa_cons (pv 3) (pa_cons (pe_glob rfl T.m_Barred (show RelV (V.ref a.Barred) _ from rfl)) pa_nil))) pa_nil)))))
    (pss_cons (ps_if (pt_not (pt_val (pe_callB (call_isiB .lst (K := K)) (by rfl) T.b_isinstance (by decide +kernel) (pa_cons (pe_xfA (K := K) hz hf (pv 3)) (pa_cons (pe_bltn (v := .ty "list") (u := .type "list") (by rfl) T.b_list (by decide +kernel) rfl) pa_nil))))) (pss_one (ps_ret (pe_tup (pa_cons (pv 4) (pa_cons (pe_xfA (K := K) hz hf (pv 3)) pa_nil))))) pss_nil)
    (pss_cons (ps_set (i := 5) sc__law_did.nd rfl (by first | exact Or.inl rfl | exact Or.inr rfl) (pe_callTy (call_lstOf (K := K)) (by rfl) T.b_list (by decide +kernel) (pa_cons (pe_xfA (K := K) hz hf (pv 3)) pa_nil)))
    (pss_cons (ps_expr (pe_appK (K := K) (pe_bm PySem.F.plainAttrs_list PySem.F.slot_list_append PySem.F.type_list_append mt_append (pe_xfA (K := K) hz hf (pv 3)) (pa_cons pe_str pa_nil))))
    (pss_one (ps_ret (pe_tup (pa_cons (pv 4) (pa_cons (pv 5) pa_nil))))))))))) (.named (i := 3) rfl rfl (.one ⟨by rfl, by decide, .inl T.m_NoDeed⟩) (fun ea oe cls ed pn hz hf => (pss_one (ps_ret (pe_tup (pa_cons (pe_op (op_addU (K := K)) (pe_lst (pa_cons pe_str pa_nil)) (pe_op op_mulU (pe_lst (pa_cons pe_str pa_nil)) (pe_callTy call_intU (by rfl) T.b_int (by decide +kernel) (pa_cons (pe_callB (call_isX (K := K) hz hf) (by rfl) T.b_isinstance (by decide +kernel) (pa_cons (pv 3) (pa_cons (pe_glob rfl T.m_HallError (show RelV (V.ref a.HallError) _ from rfl)) pa_nil))) pa_nil)))) (pa_cons (pe_xfA (K := K) hz hf (pv 3)) pa_nil)))))) .nil)) pss_nil)
    (pss_one (ps_ret (pe_tup (pa_cons (pe_lst (pa_cons pe_str pa_nil)) (pa_cons (pv 2) pa_nil)))))), ?_⟩
    dsimp only [L2.start, List.map_cons, List.map_nil, List.map, List.length_cons, List.length_nil, Nat.reduceAdd, Nat.reduceSub, List.replicate, List.cons_append, List.nil_append]
    rcases h with ⟨d, hd, hdo, k⟩ | ⟨hn, k⟩
    all_goals obtain ⟨hp, hr, ht, nrt⟩ := id hph
    all_goals
      have m2 := hs.m2
      have m5 := hs.m5
      have sl := hs.l
      have hl4 : s.1.length ≤ 400 := by omega
      have sl5 : s.2.length ≤ 5 := by omega
    · obtain ⟨q, rfl, hq⟩ := hd
      rcases D_five hs hdo with ⟨m, n, rfl, c⟩ | ⟨m, n, rfl, c, d, e⟩ | ⟨m, n, rfl, c, d⟩ | ⟨m, kn, z, rfl, c, d⟩ | ⟨m, rfl, c⟩
      all_goals clear hs
      · obtain ⟨h1, h2⟩ : (0 ≤ m ∧ m ≤ (M : Int) - 1) ∧ 1 ≤ n := hdo
        have h1' : 0 ≤ m ∧ m ≤ (s.2.length : Int) - 1 := by rw [sl]; exact h1
        have hq : H q = some (.tup [.str "add", .int m, .int n]) := hq
        rw [(D_known c).1, (D_known c).2] at k
        wtm_at "gs"
        rename_i l hln HL saL hgL
        have s2 : Same HH HN := by wtm_at "same"
        have sF : Same H HN := sm.trans s2
        exact k _ _ (fun b u _ e => sF b u e) (hph.same sF) ⟨q, l, _, rfl, none_same (sm.trans (by wtm_at "same")) hln, hg, sa _ _ hgL, ⟨y, rfl, s2 _ _ hy⟩⟩
      · obtain ⟨h1, h2⟩ : (0 ≤ m ∧ m ≤ (M : Int) - 1) ∧ 1 ≤ n := hdo
        have h1' : 0 ≤ m ∧ m ≤ (s.2.length : Int) - 1 := by rw [sl]; exact h1
        have hq : H q = some (.tup [.str "add", .int m, .int n]) := hq
        rw [(D_lacks c d e).1, (D_lacks c d e).2] at k
        wtm_at "gs"
        rename_i wl hwl HW saW hgW ll hll HLL saLL hgLL HP hgP
        have s1 : Same HH HW := by wtm_at "same"
        have s0 : Same HH HLL := s1.trans saLL
        have nwl : H wl = none := none_same (sm.trans (by wtm_at "same")) hwl
        have nll : H ll = none := none_same (sm.trans s1) hll
        have cw : wl ≠ l := fun c => by
          have h3 := s1 _ _ hy
          rw [← c, hgW] at h3
          simp at h3
        have cl : ll ≠ l := fun c => by
          have := s1 _ _ hy
          rw [← c, hll] at this
          cases this
        have sF : Same H HN := fun b u e => sa _ _ (sb b u (fun c => by rw [c, hno] at e; cases e) (s0 _ _ (sm _ _ e)))
        exact k _ _ (fun b u _ e => sF _ _ e) (hph.same sF) ⟨q, wl, _, rfl, nwl, hg, sa _ _ (sb _ _ cw (saLL _ _ hgW)), ll, y, rfl, nll, sa _ _ (sb _ _ cl hgLL), sa _ _ (sb _ _ (fun c => by rw [c, hy] at hz; cases hz) (s0 _ _ hz))⟩
      · obtain ⟨h1, h2⟩ : (0 ≤ m ∧ m ≤ (M : Int) - 1) ∧ 1 ≤ n := hdo
        have h1' : 0 ≤ m ∧ m ≤ (s.2.length : Int) - 1 := by rw [sl]; exact h1
        have hq : H q = some (.tup [.str "add", .int m, .int n]) := hq
        rw [(D_add c d).1, (D_add c d).2] at k
        wtm_at "gs"
        rename_i l hln HL saL hgL
        have sF : Same HH HN := by wtm_at "same"
        obtain ⟨_, hrr, _⟩ := hph'.hr
        have nl : H l = none := none_but sb hrr hln
        exact k _ _ (fun b u n e => sF _ _ (sb b u (fun c => n (by rw [c]; simp)) e)) (hph'.same sF) ⟨q, l, _, rfl, nl, hg, sa _ _ hgL, rfl⟩
      · have h1 : m < s.2.length := by rw [sl]; exact hdo
        have hq : H q = some (.tup [.str "tell", .int m]) := hq
        rw [(D_tell c d).1, (D_tell c d).2] at k
        wtm_at "gs"
        rename_i l hln HL saL hgL
        have sF : Same HH HN := by wtm_at "same"
        have nl : H l = none := none_but sb hph'.ht hln
        exact k _ _ (fun b u n e => sF _ _ (sb b u (fun c => n (by rw [c]; simp)) e)) (hph'.same sF) ⟨q, l, _, rfl, nl, hg, sa _ _ hgL, hv.same sF⟩
      · have h1 : m < s.2.length := by rw [sl]; exact hdo
        have hq : H q = some (.tup [.str "tell", .int m]) := hq
        rw [(D_all c).1, (D_all c).2] at k
        have e0 : s.1.length = s.1.length := rfl
        wtm_at "gs"
        rename_i l hln HL saL hgL
        have sF : Same H HN := by wtm_at "same"
        exact k _ _ (fun b u _ e => sF b u e) (hph.same sF) ⟨q, l, _, rfl, none_same (by wtm_at "same") hln, hg, sa _ _ hgL, rfl⟩
    · wtm_at "gs"
      rename_i l hln HL saL hgL
      have sF : Same H HN := by wtm_at "same"
      exact k _ q l sF (none_same (by wtm_at "same") hq) hg (sa _ _ hgL)
theorem ok__law_due (T : Txt K mg a) : FnOk P w K mg base CX0 1 a._law_due a.d__law_due ["state", "deed"] (spDue K) := by
  refine fund_ok0 T.F__law_due sc__law_due (fun vs H Q E h => ?_) (fun cdv A outer s H vs Q E hr h => ?_)
  · obtain ⟨o, r, t, M, s, v, d, rfl, hst, hs, hl, hd, hdo, k⟩ := h
    rfl
  · obtain ⟨o, r, t, M, s, v, d, rfl, hst, hs, hl, hd, hdo, k⟩ := h
    refine ⟨_, (pss_cons (ps_if (pt_cmpR (op_eqU hr.units (K := K)) (pe_ix (ix_U (K := K)) (pv 1) pe_int (fun _ _ => rfl)) pe_str (nomark _)) (pss_cons (ps_set (i := 2) sc__law_due.nd rfl (by first | exact Or.inl rfl | exact Or.inr rfl) (pe_ix (ix_U (K := K)) (pe_dget (unit1 hr) (pv 0) pe_str (fun _ _ => rfl)) (pe_ix (ix_U (K := K)) (pv 1) pe_int (fun _ _ => rfl)) (fun _ _ => rfl)))
    (pss_cons (ps_if (pt_cmpR (op_eqU hr.units (K := K)) (pv 2) (pe_callB (call_lenU (K := K)) (by rfl) T.b_len (by decide +kernel) (pa_cons (pe_dget (unit1 hr) (pv 0) pe_str (fun _ _ => rfl)) pa_nil)) (nomark _)) (pss_one (ps_ret (pe_tup (pa_cons (pe_lst (pa_cons pe_str (pa_cons pe_str pa_nil))) (pa_cons (pe_ix (ix_U (K := K)) (pv 1) pe_int (fun _ _ => rfl)) pa_nil))))) pss_nil)
    (pss_cons (ps_asg (pe_op (op_addU (K := K)) (pv 2) pe_int) (pg_sub (pe_dget (unit1 hr) (pv 0) pe_str (fun _ _ => rfl)) (pe_ix (ix_U (K := K)) (pv 1) pe_int (fun _ _ => rfl)) set_list))
    (pss_one (ps_ret (pe_tup (pa_cons (pe_lst (pa_cons pe_str pa_nil)) (pa_cons (pe_ix (ix_U (K := K)) (pe_dget (unit1 hr) (pv 0) pe_str (fun _ _ => rfl)) (pv 2) (fun _ _ => rfl)) pa_nil)))))))) pss_nil)
    (pss_cons (ps_set (i := 3) sc__law_due.nd rfl (by first | exact Or.inl rfl | exact Or.inr rfl) (pe_slice (sl_U (K := K)) (pv 1) (po_some pe_int) po_none))
    (pss_cons (ps_if (pt_cmpR (op_inDK (K := K) (unit65 hr)) (pv 3) (pe_dget (unit1 hr) (pv 0) pe_str (fun _ _ => rfl)) (by rfl)) (pss_one (ps_ret (pe_tup (pa_cons (pe_lst (pa_cons pe_str (pa_cons pe_str pa_nil))) (pa_cons (pv 3) pa_nil))))) pss_nil)
    (pss_cons (ps_if (PW.pt (pw_and (pt_cmpR op_gtU (pe_ix (ix_U (K := K)) (pv 3) pe_int (fun _ _ => rfl)) pe_int (nomark _)) (pw_and1 (pt_cmpR (op_notInDK (K := K) (unit65 hr)) (pe_tup (pa_cons (pe_ix (ix_U (K := K)) (pv 3) pe_int (fun _ _ => rfl)) (pa_cons (pe_op op_subU (pe_ix (ix_U (K := K)) (pv 3) pe_int (fun _ _ => rfl)) pe_int) pa_nil))) (pe_dget (unit1 hr) (pv 0) pe_str (fun _ _ => rfl)) (by rfl))))) (pss_one (ps_ret (pe_tup (pa_cons (pe_lst (pa_cons pe_str (pa_cons pe_str pa_nil))) (pa_cons (pe_lst (pa_cons (pe_tup (pa_cons (pe_ix (ix_U (K := K)) (pv 3) pe_int (fun _ _ => rfl)) (pa_cons (pe_op op_subU (pe_ix (ix_U (K := K)) (pv 3) pe_int (fun _ _ => rfl)) pe_int) pa_nil))) pa_nil)) pa_nil))))) pss_nil)
    (pss_cons (ps_expr (pe_appK (K := K) (pe_bm PySem.F.plainAttrs_list PySem.F.slot_list_append PySem.F.type_list_append mt_append (pe_dget (unit1 hr) (pv 0) pe_str (fun _ _ => rfl)) (pa_cons (pv 3) pa_nil))))
    (pss_one (ps_ret (pe_tup (pa_cons (pe_lst (pa_cons pe_str pa_nil)) (pa_cons pe_non pa_nil)))))))))), ?_⟩
    dsimp only [L2.start, List.map_cons, List.map_nil, List.map, List.length_cons, List.length_nil, Nat.reduceAdd, Nat.reduceSub, List.replicate, List.cons_append, List.nil_append]
    obtain ⟨q, rfl, hq⟩ := hd
    have m2 := hs.m2
    have m5 := hs.m5
    have sl := hs.l
    obtain ⟨ho, ⟨xs, hr, hx⟩, ht, nrt⟩ := id hst
    have lx : xs.length = s.1.length := hx.1
    have lt : (s.2.map V.int).length = s.2.length := List.length_map ..
    rcases D_five hs hdo with ⟨m, n, rfl, c⟩ | ⟨m, n, rfl, c, d, e⟩ | ⟨m, n, rfl, c, d⟩ | ⟨m, kn, z, rfl, c, d⟩ | ⟨m, rfl, c⟩
    all_goals clear hs
    · obtain ⟨h1, h2⟩ : (0 ≤ m ∧ m ≤ (M : Int) - 1) ∧ 1 ≤ n := hdo
      have hq : H q = some (.tup [.str "add", .int m, .int n]) := hq
      rw [(D_known c).1, (D_known c).2] at k
      wtm_at "gs"
      refine i_slTn (.of hq) (show ¬ (HT.sIx 3 0 (some 1) = 0 ∧ HT.sIx 3 3 none = 3) by decide) (fun q hq => ?_)
      wtm_at "absn"
      replace hg : HN q = some (.tup [.int m, .int n]) := hg
      wtm_at "gs"
      refine i_inIds (z := (m, n)) (.of (sa _ _ hr)) (hx.mono fun _ _ => IdAt.same sa) ⟨q, rfl, hg⟩ ?_
      rw [decide_eq_true c]
      wtm_at "gs"
      rename_i qi hqi HI saI hgI l hln HL saL hgL
      have s2 : Same HI HN := by wtm_at "same"
      have sF : Same H HN := saI.trans s2
      exact k _ _ (fun b u _ e => sF b u e) (hst.same sF) ⟨q, l, _, rfl, none_same saI hln, hg, sa _ _ hgL, ⟨qi, rfl, s2 _ _ hgI⟩⟩
    · obtain ⟨h1, h2⟩ : (0 ≤ m ∧ m ≤ (M : Int) - 1) ∧ 1 ≤ n := hdo
      have hq : H q = some (.tup [.str "add", .int m, .int n]) := hq
      rw [(D_lacks c d e).1, (D_lacks c d e).2] at k
      wtm_at "gs"
      refine i_slTn (.of hq) (show ¬ (HT.sIx 3 0 (some 1) = 0 ∧ HT.sIx 3 3 none = 3) by decide) (fun q hq => ?_)
      wtm_at "absn"
      replace hg : HN q = some (.tup [.int m, .int n]) := hg
      wtm_at "gs"
      refine i_inIds (z := (m, n)) (.of (sa _ _ hr)) (hx.mono fun _ _ => IdAt.same sa) ⟨q, rfl, hg⟩ ?_
      rw [decide_eq_false c]
      wtm_at "gs"
      rename_i qi hqi HI saI hgI
      refine i_ninIds (z := (m, n - 1)) (.of (sa _ _ (saI _ _ hr))) (hx.mono fun _ _ => IdAt.same (saI.trans sa)) ⟨q, rfl, hg⟩ ?_
      rw [decide_eq_false e]
      wtm_at "gs"
      rename_i qj hqj HJ saJ hgJ wl hwl HW saW hgW y hy HY saY hgY ll hll HLL saLL hgLL
      have s1 := saI.trans saJ
      have s2 := (s1.trans saW).trans saY
      have sF : Same H HN := (s2.trans saLL).trans sa
      exact k _ _ (fun b u _ e => sF b u e) (hst.same sF) ⟨q, wl, _, rfl, none_same s1 hwl, hg, sa _ _ (saLL _ _ (saY _ _ hgW)), ll, y, rfl, none_same s2 hll, sa _ _ hgLL, sa _ _ (saLL _ _ hgY)⟩
    · obtain ⟨h1, h2⟩ : (0 ≤ m ∧ m ≤ (M : Int) - 1) ∧ 1 ≤ n := hdo
      have hq : H q = some (.tup [.str "add", .int m, .int n]) := hq
      rw [(D_add c d).1, (D_add c d).2] at k
      wtm_at "gs"
      refine i_slTn (.of hq) (show ¬ (HT.sIx 3 0 (some 1) = 0 ∧ HT.sIx 3 3 none = 3) by decide) (fun q hq => ?_)
      wtm_at "absn"
      replace hg : HN q = some (.tup [.int m, .int n]) := hg
      wtm_at "gs"
      refine i_inIds (z := (m, n)) (.of (sa _ _ hr)) (hx.mono fun _ _ => IdAt.same sa) ⟨q, rfl, hg⟩ ?_
      rw [decide_eq_false c]
      wtm_at "gs"
      · rename_i qi hqi HI saI hgI hlt
        refine i_ninIds (z := (m, n - 1)) (.of (sa _ _ (saI _ _ hr))) (hx.mono fun _ _ => IdAt.same (saI.trans sa)) ⟨q, rfl, hg⟩ ?_
        rw [decide_eq_true (d (by assumption))]
        obtain ⟨HJ, eJ⟩ : ∃ y, y = HN := ⟨_, rfl⟩
        subst eJ
        have s1 : Same H HJ ∧ True := ⟨saI.trans sa, trivial⟩
        have hr1 := s1.1 _ _ hr
        have ho1 := s1.1 _ _ ho
        have hgI1 := sa _ _ hgI
        clear saI sa hg hq
        wtm_at "gs"
        rename_i HB hgB l hln HL saL hgL
        have s2 := saL.trans sa
        exact k _ _ (fun b u n e => s2 _ _ (sb b u (fun c => n (by rw [c]; simp)) (s1.1 _ _ e))) (((hst.same s1.1).add hr1 (hx.mono fun _ _ => IdAt.same s1.1) ⟨qi, rfl, hgI1⟩ sb hgB).same s2) ⟨q, l, _, rfl, none_same s1.1 (none_but sb hgB hln), hg, sa _ _ hgL, rfl⟩
      · wtm_at "gs"
        rename_i qi hqi HI saI hgI hlt HB hgB l hln HL saL hgL
        have s2 := saL.trans sa
        exact k _ _ (fun b u n e => s2 _ _ (sb b u (fun c => n (by rw [c]; simp)) (saI _ _ e))) (((hst.same saI).add (saI _ _ hr) (hx.mono fun _ _ => IdAt.same saI) ⟨qi, rfl, hgI⟩ sb hgB).same s2) ⟨q, l, _, rfl, none_same saI (none_but sb hgB hln), hg, sa _ _ hgL, rfl⟩
    · have h1 : m < s.2.length := by rw [sl]; exact hdo
      have hq : H q = some (.tup [.str "tell", .int m]) := hq
      rw [(D_tell c d).1, (D_tell c d).2] at k
      have ai := atI_N h1
      rw [c] at ai
      have hkl := (List.getElem?_eq_some_iff.mp d).1
      obtain ⟨xv, hxv, hxz⟩ := hx.swap.get d
      have axv := atI_of hxv
      have ltm : m < (s.2.map V.int).length := by omega
      wtm_at "gs"
      refine i_setL ht (by rw [lt]; exact ixN_of (by omega) (by omega)) ?_
      rw [Int.toNat_natCast, ← List.map_set]
      wtm_at "abss"
      have hrN := sb _ _ nrt hr
      have hoN := sb _ _ (ne_of ho ht (by simp)) ho
      have hstN := hst.tell sb hg
      have hxzN := hxz.keeps (MdX.tp ht sb)
      have htN := hg
      have w1 : SameBut t H HN ∧ True := ⟨sb, trivial⟩
      clear sb hg
      wtm_at "gs"
      rename_i l hln HL saL hgL
      have sF := saL.trans sa
      exact k _ _ (fun b u n e => sF _ _ (w1.1 b u (fun c => n (by rw [c]; simp)) e)) (hstN.same sF) ⟨q, l, _, rfl, none_but w1.1 htN hln, hg, sa _ _ hgL, hxzN.same sF⟩
    · have h1 : m < s.2.length := by rw [sl]; exact hdo
      have hq : H q = some (.tup [.str "tell", .int m]) := hq
      rw [(D_all c).1, (D_all c).2] at k
      have ai := atI_N h1
      rw [c] at ai
      wtm_at "gs"
      rename_i l hln HL saL hgL
      have sF : Same H HN := by wtm_at "same"
      exact k _ _ (fun b u _ e => sF b u e) (hst.same sF) ⟨q, l, _, rfl, hln, hg, sa _ _ hgL, rfl⟩
theorem ok__law_no_member (T : Txt K mg a) : FnOk P w K mg base CX0 4 a._law_no_member a.d__law_no_member ["plain", "thing"] (spNoM K a) := by
  refine fund_ok0 T.F__law_no_member sc__law_no_member (fun vs H Q E h => ?_) (fun cdv A outer s H vs Q E hr h => ?_)
  · obtain ⟨p, dx, r, t, M, s, v, rfl, hph, hs, hkn, hv, he, k⟩ := h
    rfl
  · obtain ⟨p, dx, r, t, M, s, v, rfl, hph, hs, hkn, hv, he, k⟩ := h
    refine ⟨_, (pss_cons (ps_tryM rfl rfl sc__law_no_member.nd takes0 (fun W pn xe tk hp => (pss_one (ps_expr (pe_methS (pv 0) T.c_PlainHall T.M_PlainHall_told_by (ok_PlainHall_told_by (K := K) T) (hr.mono (by decide)) T.B_PlainHall_told_by .nil (passAt tk) (pa_cons (pv 1) pa_nil)))))
    (.named (i := 2) rfl rfl (.one ⟨by rfl, by decide, .inl T.m_NoMember⟩) (fun ea oe cls ed pn hz hf => (pss_one (ps_ret (pe_and (pe_cmpR (op_eqU hr.units (K := K)) (pe_xfA (K := K) hz hf (pv 2)) (pv 1) (nomark _)) (pe_one (pe_callB (call_isX (K := K) hz hf) (by rfl) T.b_isinstance (by decide +kernel) (pa_cons (pv 2) (pa_cons (pe_glob rfl T.m_HallError (show RelV (V.ref a.HallError) _ from rfl)) pa_nil)))))))) .nil) pss_nil)
    (pss_one (ps_ret pe_bl))), ?_⟩
    dsimp only [L2.start, List.map_cons, List.map_nil, List.map, List.length_cons, List.length_nil, Nat.reduceAdd, Nat.reduceSub, List.replicate, List.cons_append, List.nil_append]
    have m5 := hs.m5
    have sl := hs.l
    have hl5 : s.2.length ≤ 5 := by omega
    obtain ⟨hp, hr, ht, nrt⟩ := id hph
    wtm_at "gs"
    refine he _ (by wtm_at "same") _ ?_
    refine i_bl ?_
    wtm_at "gs"
    exact k _ (by wtm_at "same")
theorem ok__law_made (T : Txt K mg a) : FnOk P w K mg base CX0 5 a._law_made a.d__law_made ["thing"] (spMade K a) := by
  refine fund_ok0 T.F__law_made sc__law_made (fun vs H Q E h => ?_) (fun cdv A outer s H vs Q E hr h => ?_)
  · obtain ⟨v, rfl, hkn, hv, he, k⟩ := h
    rfl
  · obtain ⟨v, rfl, hkn, hv, he, k⟩ := h
    refine ⟨_, (pss_cons (ps_tryM rfl rfl sc__law_made.nd takes0 (fun W pn xe tk hp => (pss_one (ps_expr (pe_makeS T.mk_PlainHall (ok_PlainHall_init (K := K) T) (hr.mono (by decide)) (by rfl) T.m_PlainHall T.B_PlainHall_init .nil (passAt tk) (pa_cons (pv 0) pa_nil)))))
    (.named (i := 1) rfl rfl (.one ⟨by rfl, by decide, .inl T.m_NoNumber⟩) (fun ea oe cls ed pn hz hf => (pss_one (ps_ret (pe_and (pe_cmpR (op_eqU hr.units (K := K)) (pe_xfA (K := K) hz hf (pv 1)) (pv 0) (nomark _)) (pe_one (pe_callB (call_isX (K := K) hz hf) (by rfl) T.b_isinstance (by decide +kernel) (pa_cons (pv 1) (pa_cons (pe_glob rfl T.m_HallError (show RelV (V.ref a.HallError) _ from rfl)) pa_nil)))))))) .nil) pss_nil)
    (pss_one (ps_ret pe_bl))), ?_⟩
    dsimp only [L2.start, List.map_cons, List.map_nil, List.map, List.length_cons, List.length_nil, Nat.reduceAdd, Nat.reduceSub, List.replicate, List.cons_append, List.nil_append]
    wtm_at "gs"
    refine he _ (by wtm_at "same") _ ?_
    refine i_bl ?_
    wtm_at "gs"
    exact k _ (by wtm_at "same")
theorem ok__law_stands (T : Txt K mg a) : FnOk P w K mg base CX0 4 a._law_stands a.d__law_stands ["plain", "state"] (spSta K a) := by
  refine fund_ok0 T.F__law_stands sc__law_stands (fun vs H Q E h => ?_) (fun cdv A outer s H vs Q E hr h => ?_)
  · obtain ⟨p, dx, r, t, o, r', t', M, s, rfl, hph, hst, hs, hl, k⟩ := h
    rfl
  · obtain ⟨p, dx, r, t, o, r', t', M, s, rfl, hph, hst, hs, hl, k⟩ := h
    refine ⟨_, (pss_cons (ps_set (i := 2) sc__law_stands.nd rfl (by first | exact Or.inl rfl | exact Or.inr rfl) (pe_meth0 (pv 0) T.c_PlainHall T.M_PlainHall_row (ok_PlainHall_row (K := K) T) (hr.mono (by decide)) T.B_PlainHall_row .nil pass0))
    (pss_cons (ps_set (i := 3) sc__law_stands.nd rfl (by first | exact Or.inl rfl | exact Or.inr rfl) (pe_tup (pa_cons (pe_callTy (call_tupOf (K := K)) (by rfl) T.b_tuple (by decide +kernel) (pa_cons (pe_dget (unit1 hr) (pv 1) pe_str (fun _ _ => rfl)) pa_nil)) (pa_cons (pe_callTy (call_tupOf (K := K)) (by rfl) T.b_tuple (by decide +kernel) (pa_cons (pe_dget (unit1 hr) (pv 1) pe_str (fun _ _ => rfl)) pa_nil)) pa_nil))))
    (pss_cons (ps_if (PW.pt (pw_or (pt_not (pt_val (pe_callB (call_isiB .lst (K := K)) (by rfl) T.b_isinstance (by decide +kernel) (pa_cons (pv 2) (pa_cons (pe_bltn (v := .ty "list") (u := .type "list") (by rfl) T.b_list (by decide +kernel) rfl) pa_nil))))) (pw_or (pt_cmpR (op_neU hr.units (K := K)) (pv 2) (pe_dget (unit1 hr) (pv 1) pe_str (fun _ _ => rfl)) (nomark _)) (pw_or1 (pt_cmpR (op_neU hr.units (K := K)) (pe_callB (call_lenO T.M_PlainHall_len (ok_PlainHall_len (K := K) T) (hr.mono (by decide)) T.B_PlainHall_len pass0) (by rfl) T.b_len (by decide +kernel) (pa_cons (pv 0) pa_nil)) (pe_callB (call_lenU (K := K)) (by rfl) T.b_len (by decide +kernel) (pa_cons (pv 2) pa_nil)) (nomark _)))))) (pss_one (ps_ret pe_bl)) pss_nil)
    (pss_cons (ps_if (pt_cmpR (op_neU hr.units (K := K)) (pe_meth0 (pv 0) T.c_PlainHall T.M_PlainHall_state (ok_PlainHall_state (K := K) T) (hr.mono (by decide)) T.B_PlainHall_state .nil pass0) (pv 3) (nomark _)) (pss_one (ps_ret pe_bl)) pss_nil)
    (pss_cons (ps_expr (pe_appK (K := K) (pe_bm PySem.F.plainAttrs_list PySem.F.slot_list_append PySem.F.type_list_append mt_append (pv 2) (pa_cons (pe_tup (pa_cons pe_int (pa_cons pe_int pa_nil))) pa_nil))))
    (pss_cons (ps_for PassesOwn.never rfl (pi_range1 (by rfl) T.b_range (pa_cons (pe_callB (call_lenU (K := K)) (by rfl) T.b_len (by decide +kernel) (pa_cons (pe_dget (unit1 hr) (pv 1) pe_str (fun _ _ => rfl)) pa_nil)) pa_nil)) (pg_name (i := 4) sc__law_stands.nd rfl (by first | exact Or.inl rfl | exact Or.inr rfl))
    (pss_one (ps_if (PW.pt (pw_or (pt_cmpR (op_neU hr.units (K := K)) (pe_methS (pv 0) T.c_PlainHall T.M_PlainHall_told_by (ok_PlainHall_told_by (K := K) T) (hr.mono (by decide)) T.B_PlainHall_told_by .nil (passAt takes0) (pa_cons (pv 4) pa_nil)) (pe_ix (ix_U (K := K)) (pe_dget (unit1 hr) (pv 1) pe_str (fun _ _ => rfl)) (pv 4) (fun _ _ => rfl)) (nomark _)) (pw_or1 (pt_val (pe_callB (call_isiB .bl (K := K)) (by rfl) T.b_isinstance (by decide +kernel) (pa_cons (pe_methS (pv 0) T.c_PlainHall T.M_PlainHall_told_by (ok_PlainHall_told_by (K := K) T) (hr.mono (by decide)) T.B_PlainHall_told_by .nil (passAt takes0) (pa_cons (pv 4) pa_nil)) (pa_cons (pe_bltn (v := .ty "bool") (u := .type "bool") (by rfl) T.b_bool (by decide +kernel) rfl) pa_nil))))))) (pss_one (ps_ret pe_bl)) pss_nil)))
    (pss_one (ps_ret (pe_and (pe_cmpR (op_eqU hr.units (K := K)) (pe_meth0 (pv 0) T.c_PlainHall T.M_PlainHall_row (ok_PlainHall_row (K := K) T) (hr.mono (by decide)) T.B_PlainHall_row .nil pass0) (pe_dget (unit1 hr) (pv 1) pe_str (fun _ _ => rfl)) (nomark _)) (pe_one (pe_not (pe_cmpR (op_eqO (K := K) T.M_PlainHall_eq (ok_PlainHall_eq (K := K) T) (hr.mono (by decide)) T.B_PlainHall_eq pass0 T.q_PlainHall) (pv 0) (pv 3) (nomark _))))))))))))), ?_⟩
    dsimp only [L2.start, List.map_cons, List.map_nil, List.map, List.length_cons, List.length_nil, Nat.reduceAdd, Nat.reduceSub, List.replicate, List.cons_append, List.nil_append]
    have m2 := hs.m2
    have m5 := hs.m5
    have sl := hs.l
    have hl1 : s.1.length ≤ 1000 := by omega
    have hl5 : s.2.length ≤ 5 := by omega
    obtain ⟨ho, ⟨ys, hr, hys⟩, ht, nrt⟩ := id hst
    obtain ⟨hp, hrp, htp, nrtp⟩ := id hph
    have ly : ys.length = s.1.length := hys.1
    have lt : (s.2.map V.int).length = s.2.length := List.length_map ..
    wtm_at "gs"
    rename_i L hL qA hqA HA saA hgA qB hqB HB saB hgB
    have s1 : Same HH HN := (saA.trans saB).trans sa
    have lx : xs.length = s.1.length := hx.1
    have nL : H L = none := by assumption
    refine i_neG (n := 2) (.inl ⟨.of (s1 _ _ hL), .of (s1 _ _ (sm _ _ hr))⟩) (by decide) (IdAt.eqvs (n := 1) (hx.mono fun _ _ => IdAt.same s1) (hys.mono fun _ _ => IdAt.same (sm.trans s1))) ?_
    rw [decide_eq_true rfl]
    refine i_bl ?_
    have gA := sa _ _ (saB _ _ hgA)
    have gB := sa _ _ hgB
    have hgD := hg
    have hgL := s1 _ _ hL
    have hphN := (hph.same sm).same s1
    have hpN := hphN.hp
    have hstN := (hst.same sm).same s1
    have htN := hstN.ht
    have hoN := hstN.ho
    have hyN : All2 (IdAt HN) ys s.1 := hys.mono fun _ _ => IdAt.same (sm.trans s1)
    have hxN : All2 (IdAt HN) xs s.1 := hx.mono fun _ _ => IdAt.same s1
    have s0 : Same H HN ∧ True := ⟨sm.trans s1, trivial⟩
    obtain ⟨D, eD⟩ : ∃ y, y = q := ⟨_, rfl⟩
    subst eD
    clear hg hq sa hgB saB hqB hgA saA hqA hL s1 hx hys sm ho hr ht hp hrp htp
    wtm_at "gs"
    have gA2 := sm _ _ gA
    have gB2 := sm _ _ gB
    have hyN2 : All2 (IdAt HH) ys s.1 := hyN.mono fun _ _ => IdAt.same sm
    refine i_neG (n := 3) (.inr ⟨.of hq, .of (sm _ _ hgD)⟩) (by decide) (state_eqs hqr hx hqt gA2 hyN2 gB2) ?_
    rw [decide_eq_true rfl, decide_eq_true rfl]
    refine i_bl ?_
    have hgL2 := sm _ _ hgL
    have hgD2 := sm _ _ hgD
    have hph2 := hphN.same sm
    have hst2 := hstN.same sm
    have ho2 := hst2.ho
    have ht2 := hst2.ht
    have s2 : Same H HH ∧ True := ⟨s0.1.trans sm, trivial⟩
    clear hq hqr hqt hno hx sm gA gB hyN hgL hgD hphN hpN hstN htN hoN s0
    have rL : r ≠ L := fun c => by obtain ⟨_, e, _⟩ := hph.hr; rw [c, nL] at e; cases e
    have tL : t ≠ L := fun c => by have e := hph.ht; rw [c, nL] at e; cases e
    have rL' : r' ≠ L := fun c => by obtain ⟨_, e, _⟩ := hst.hr; rw [c, nL] at e; cases e
    have tL' : t' ≠ L := fun c => by have e := hst.ht; rw [c, nL] at e; cases e
    rw [if_neg (by decide)]
    refine i_next ?_
    dsimp only [List.set]
    refine seq_rest (fun σ' Hb => σ' = [some (.ref p), some (.ref o), some (.ref L), some (.ref D), none] ∧ PhAt a.PlainHall Hb p dx r t s.1 s.2 ∧ StD Hb o r' t' s ∧ Hb D = some (.tup [.ref qA, .ref qB]) ∧ Same H Hb) (fun σ' Hb hJ => ?d1) (fun R hR => ?d2)
    case d2 =>
      wtm_at "gs"
      rename_i HZ hgZ
      have saZ := sa
      have hLs : ∀ l ∈ [L], ∃ xs, HZ l = some (.lst xs) := fun l h => by rw [List.mem_singleton.mp h]; exact ⟨_, saZ _ _ hgL2⟩
      have sbs : SameBs [L] HZ HN := fun b u n e => sb b u (fun c => n (by rw [c]; simp)) e
      exact hR _ _ ⟨rfl, (hph2.same saZ).buts hLs sbs (by simpa using rL) (by simpa using tL), (hst2.same saZ).buts hLs sbs (by simpa using rL') (by simpa using tL'), sb _ _ (fun c => by rw [c, hgL2] at hgD2; cases hgD2) (saZ _ _ hgD2), fun b u e => sb b u (fun c => by rw [c, nL] at e; cases e) (saZ _ _ (s2.1 _ _ e))⟩
    case d1 =>
      obtain ⟨rfl, hphB, hstB, gDB, sF⟩ := hJ
      have htB := hstB.ht
      have hoB := hstB.ho
      have hpB := hphB.hp
      have w1 : Same H Hb ∧ True := ⟨sF, trivial⟩
      clear s2 sF hph2 hst2 ho2 ht2 hgD2 hgL2 hyN2 gA2 gB2
      wtm_at "gs"
      rw [lt]
      refine for_range (lo := 0) (n := s.2.length) (fun i σ H' => ∃ v4, σ = [some (.ref p), some (.ref o), some (.ref L), some (.ref D), v4] ∧ Same Hb H') ⟨_, rfl, Same.refl _⟩ (fun i σ H' hi hJ => ?c1) (fun σ H' hJ => ?c2)
      case c1 =>
        obtain ⟨v4, rfl, f1⟩ := hJ
        rw [Int.zero_add]
        have ai := atI_N hi
        have hphI := hphB.same f1
        have htI := f1 _ _ htB
        have hoI := f1 _ _ hoB
        have hpI := hphI.hp
        wtm_at "gs"
        exact ⟨_, rfl, f1⟩
      case c2 =>
        obtain ⟨v4, rfl, f1⟩ := hJ
        have hphI := hphB.same f1
        have hstI := hstB.same f1
        have htI := f1 _ _ htB
        have hoI := f1 _ _ hoB
        have hpI := hphI.hp
        have gDI := f1 _ _ gDB
        have w2 := w1.1.trans f1
        wtm_at "gs"
        obtain ⟨zs, hrI, hzs⟩ := hstI.hr
        refine i_eqG (n := 2) (.inl ⟨.of hq, .of (sm _ _ hrI)⟩) (by decide) (IdAt.eqvs (n := 1) hx (hzs.mono fun _ _ => IdAt.same sm)) ?_
        rw [decide_eq_true rfl]
        refine i_bl ?_
        have hphJ := hphI.same sm
        have gDJ := sm _ _ gDI
        wtm_at "gs"
        refine i_eqO hphJ.hp (i_isoT (.of gDJ) (.inl rfl)) (spPEq_u2 hphJ hl1 hl5 gDJ ?_ rfl)
        exact ⟨false, rfl, false, rfl, k _ (w2.trans sm)⟩
theorem ok__law_done (T : Txt K mg a) : FnOk P w K mg base CX0 6 a._law_done a.d__law_done ["plain", "state", "deed"] (spDone K a) := by
  refine fund_ok0 T.F__law_done sc__law_done (fun vs H Q E h => ?_) (fun cdv A outer s H vs Q E hr h => ?_)
  · obtain ⟨p, dx, r, t, o, r', t', M, s, v, d, rfl, hph, hst, hn, hs, hl, hd, hdo, k⟩ := h
    rfl
  · obtain ⟨p, dx, r, t, o, r', t', M, s, v, d, rfl, hph, hst, hn, hs, hl, hd, hdo, k⟩ := h
    refine ⟨_, (pss_cons (ps_set (i := 3) sc__law_done.nd rfl (by first | exact Or.inl rfl | exact Or.inr rfl) (pe_call (ok__law_due (K := K) T) (hr.mono (by decide)) (by rfl) T.m__law_due T.F__law_due.kp T.B__law_due .nil pass0 (pa_cons (pv 1) (pa_cons (pv 2) pa_nil))))
    (pss_cons (ps_if (PW.pt (pw_or (pt_cmpR (op_neU hr.units (K := K)) (pe_call (ok__law_did (K := K) T) (hr.mono (by decide)) (by rfl) T.m__law_did T.F__law_did.kp T.B__law_did .nil pass0 (pa_cons (pv 0) (pa_cons (pv 2) pa_nil))) (pv 3) (nomark _)) (pw_or1 (pt_not (pt_val (pe_call (ok__law_stands (K := K) T) (hr.mono (by decide)) (by rfl) T.m__law_stands T.F__law_stands.kp T.B__law_stands .nil pass0 (pa_cons (pv 0) (pa_cons (pv 1) pa_nil)))))))) (pss_one (ps_ret pe_bl)) pss_nil)
    (pss_one (ps_ret (pe_or (pe_cmpR (op_eqU hr.units (K := K)) (pe_ix (ix_U (K := K)) (pv 3) pe_int (fun _ _ => rfl)) (pe_lst (pa_cons pe_str pa_nil)) (nomark _)) (pe_one (pe_cmpR (op_eqU hr.units (K := K)) (pe_call (ok__law_did (K := K) T) (hr.mono (by decide)) (by rfl) T.m__law_did T.F__law_did.kp T.B__law_did .nil pass0 (pa_cons (pv 0) (pa_cons (pv 2) pa_nil))) (pv 3) (nomark _)))))))), ?_⟩
    dsimp only [L2.start, List.map_cons, List.map_nil, List.map, List.length_cons, List.length_nil, Nat.reduceAdd, Nat.reduceSub, List.replicate, List.cons_append, List.nil_append]
    obtain ⟨⟨n1, n2⟩, n3, n4⟩ := hn
    have hl3 : s.1.length ≤ 300 := by omega
    have hgo := hs.go hdo
    have lr : ∀ l ∈ [r, t], ∃ xs, H l = some (.lst xs) := fun l h => by
      simp only [List.mem_cons, List.not_mem_nil, or_false] at h
      rcases h with rfl | rfl
      · obtain ⟨xs, e, _⟩ := hph.hr
        exact ⟨xs, e⟩
      · exact ⟨_, hph.ht⟩
    have ls : ∀ l ∈ [r', t'], ∃ xs, H l = some (.lst xs) := fun l h => by
      simp only [List.mem_cons, List.not_mem_nil, or_false] at h
      rcases h with rfl | rfl
      · obtain ⟨xs, e, _⟩ := hst.hr
        exact ⟨xs, e⟩
      · exact ⟨_, hst.ht⟩
    wtm_at "gs"
    rename_i y
    have hph1 := hph.buts ls sb (by simp [n1, n2]) (by simp [n3, n4])
    have hd1 := hd.keeps (SameBs.tp ls sb)
    have lr1 : ∀ l ∈ [r, t], ∃ xs, HH l = some (.lst xs) := fun l h => by
      simp only [List.mem_cons, List.not_mem_nil, or_false] at h
      rcases h with rfl | rfl
      · obtain ⟨xs, e, _⟩ := hph1.hr
        exact ⟨xs, e⟩
      · exact ⟨_, hph1.ht⟩
    refine spDid_u1 hph1 hs hl3 hd1 hdo (fun HA y2 sbA hphA hreA => ?_) rfl
    have h0 : ∀ l ∈ [r, t], H l ≠ none := fun l h c => by
      obtain ⟨_, e⟩ := lr l h
      rw [c] at e
      cases e
    have hre1 := hre.buts h0 lr1 sbA
    wtm_at "gs"
    refine ReAt.ne hreA hre1 ?_
    refine i_bl ?_
    have hstA := hst'.buts lr1 sbA (by simp [Ne.symm n1, Ne.symm n3]) (by simp [Ne.symm n2, Ne.symm n4])
    have hdA := hd1.keeps (SameBs.tp lr1 sbA)
    have hlA : (goOf s d).1.length ≤ 300 := by have := hgo.2; omega
    have hsA := hgo.1
    have sF : SameBs [r, t, r', t'] H HA := fun b u n e => sbA b u (fun c => n (List.mem_append_left [r', t'] c)) (sb b u (fun c => n (List.mem_append_right [r, t] c)) e)
    obtain ⟨M0, eM⟩ : ∃ y, y = goOf s d := ⟨_, rfl⟩
    obtain ⟨qy, l, x, rfl, nl, gy, gl, gx⟩ := id hre1
    clear hph1 hd1 lr1 hre sb hst' sbA hph hst
    wtm_at "gs"
    have s2 := sm.trans sa
    have lrN : ∀ l ∈ [r, t], ∃ xs, HN l = some (.lst xs) := fun l h => by
      simp only [List.mem_cons, List.not_mem_nil, or_false] at h
      rcases h with rfl | rfl
      · obtain ⟨xs, e, _⟩ := hphA.hr
        exact ⟨xs, s2 _ _ e⟩
      · exact ⟨_, s2 _ _ hphA.ht⟩
    refine i_eqG (n := 2) (b := decide ((wsOf s d).1.map V.str = [V.str "told"])) (.inl ⟨.of (s2 _ _ gl), .of hg⟩) (by decide) (EqVs.iS (by rw [List.all_map]; exact List.all_eq_true.mpr fun _ _ => rfl) rfl) ?_
    refine i_bl ?_
    by_cases cc : (wsOf s d).1.map V.str = [V.str "told"]
    · rw [decide_eq_true cc, if_pos rfl]
      exact k _ (fun b u n e => s2 _ _ (sF b u n e)) (hphA.same s2) (hstA.same s2)
    · rw [decide_eq_false cc, if_neg Bool.false_ne_true]
      have e : goOf s d = s := by
        rcases wsOf_stay hs hdo with e | e
        · exact absurd (by rw [e]; rfl) cc
        · exact e
      have hphS : PhAt a.PlainHall HA p dx r t s.1 s.2 := by
        rw [e] at hphA
        exact hphA
      have w1 : SameBs [r, t, r', t'] H HN ∧ True := ⟨fun b u n e => s2 _ _ (sF b u n e), trivial⟩
      clear sF
      wtm_at "gs"
      refine ReAt.eq hre ((hre1.same s2).buts h0 lrN sb) ?_
      exact k _ (fun b u n e => sb b u (fun c => n (List.mem_append_left [r', t'] c)) (w1.1 b u n e)) hph' ((hstA.same s2).buts lrN sb (by simp [Ne.symm n1, Ne.symm n3]) (by simp [Ne.symm n2, Ne.symm n4]))
theorem ok__law_bad (T : Txt K mg a) : FnOk P w K mg base CX0 6 a._law_bad a.d__law_bad ["plain", "state"] (spBad K a) := by
  refine fund_ok0 T.F__law_bad sc__law_bad (fun vs H Q E h => ?_) (fun cdv A outer s H vs Q E hr h => ?_)
  · obtain ⟨p, dx, r, t, o, r', t', M, s, rfl, hph, hst, hs, hl, k⟩ := h
    rfl
  · obtain ⟨p, dx, r, t, o, r', t', M, s, rfl, hph, hst, hs, hl, k⟩ := h
    refine ⟨_, (pss_cons (ps_set (i := 2) sc__law_bad.nd rfl (by first | exact Or.inl rfl | exact Or.inr rfl) (pe_callB (call_lenU (K := K)) (by rfl) T.b_len (by decide +kernel) (pa_cons (pe_dget (unit1 hr) (pv 1) pe_str (fun _ _ => rfl)) pa_nil)))
    (pss_cons (ps_set (i := 3) sc__law_bad.nd rfl (by first | exact Or.inl rfl | exact Or.inr rfl) (pe_lst (pa_cons pe_non (pa_cons pe_int (pa_cons pe_str (pa_cons (pe_lst (pa_cons pe_str (pa_cons pe_int pa_nil))) (pa_cons (pe_tup pa_nil) (pa_cons (pe_tup (pa_cons pe_str pa_nil)) (pa_cons (pe_tup (pa_cons pe_str (pa_cons (pv 2) pa_nil))) (pa_cons (pe_tup (pa_cons pe_str (pa_cons (pe_un un_neg pe_int) pa_nil))) pa_nil))))))))))
    (pss_cons (ps_set (i := 3) sc__law_bad.nd rfl (by first | exact Or.inl rfl | exact Or.inr rfl) (pe_op (op_addU (K := K)) (pv 3) (pe_lst (pa_cons (pe_tup (pa_cons pe_str (pa_cons pe_bl pa_nil))) (pa_cons (pe_tup (pa_cons pe_str (pa_cons pe_int (pa_cons pe_int pa_nil)))) (pa_cons pe_dnewK (pa_cons (pe_tup (pa_cons pe_str (pa_cons pe_non pa_nil))) (pa_cons (pe_tup (pa_cons pe_str (pa_cons pe_str pa_nil))) (pa_cons (pe_tup (pa_cons pe_str (pa_cons (pe_lst (pa_cons pe_int pa_nil)) pa_nil))) pa_nil)))))))))
    (pss_cons (ps_set (i := 3) sc__law_bad.nd rfl (by first | exact Or.inl rfl | exact Or.inr rfl) (pe_op (op_addU (K := K)) (pv 3) (pe_lst (pa_cons (pe_tup (pa_cons pe_str (pa_cons pe_int (pa_cons pe_int pa_nil)))) (pa_cons (pe_tup (pa_cons pe_str (pa_cons (pv 2) (pa_cons pe_int pa_nil)))) (pa_cons (pe_tup (pa_cons pe_str (pa_cons pe_int pa_nil))) (pa_cons (pe_tup (pa_cons pe_str (pa_cons pe_int (pa_cons pe_bl pa_nil)))) pa_nil)))))))
    (pss_cons (ps_set (i := 3) sc__law_bad.nd rfl (by first | exact Or.inl rfl | exact Or.inr rfl) (pe_op (op_addU (K := K)) (pv 3) (pe_lst (pa_cons (pe_tup (pa_cons pe_str (pa_cons pe_int (pa_cons pe_str pa_nil)))) (pa_cons (pe_tup (pa_cons pe_str (pa_cons pe_non (pa_cons pe_int pa_nil)))) (pa_cons (pe_tup (pa_cons pe_str (pa_cons pe_bl (pa_cons pe_int pa_nil)))) (pa_cons (pe_tup (pa_cons pe_str (pa_cons pe_bl (pa_cons pe_int pa_nil)))) (pa_cons (pe_tup (pa_cons pe_str (pa_cons (pe_un un_neg pe_int) (pa_cons pe_int pa_nil)))) pa_nil))))))))
    (pss_cons (ps_set (i := 3) sc__law_bad.nd rfl (by first | exact Or.inl rfl | exact Or.inr rfl) (pe_op (op_addU (K := K)) (pv 3) (pe_lst (pa_cons (pe_tup (pa_cons pe_str (pa_cons pe_int pa_nil))) (pa_cons (pe_tup (pa_cons pe_str (pa_cons pe_int (pa_cons pe_int (pa_cons pe_int pa_nil))))) (pa_cons (pe_tup (pa_cons (pe_lst (pa_cons pe_str pa_nil)) (pa_cons pe_int (pa_cons pe_int pa_nil)))) (pa_cons (pe_tup (pa_cons pe_str (pa_cons pe_int (pa_cons (pe_un un_neg pe_int) pa_nil)))) (pa_cons (pe_tup (pa_cons pe_str (pa_cons pe_int (pa_cons pe_non pa_nil)))) (pa_cons (pe_tup (pa_cons pe_str (pa_cons pe_str (pa_cons pe_int pa_nil)))) pa_nil)))))))))
    (pss_cons (ps_if (pt_not (pt_val (pe_callB (cr_allK (K := K) rfl) (by rfl) T.b_all (by decide +kernel) (pa_cons (pe_lc (own := [("thing", 4)]) rfl sc__law_bad.nd (pi_listK (K := K) (pv 3)) (blkOk_by (own := [("thing", 4)]) (N := ["plain", "state", "members", "some", "thing"]) (sc := defScope s__law_bad) (by decide +kernel)) (fun _ _ _ _ _ => (pg_name (i := 4) sc__law_bad.nd rfl (by first | exact Or.inl rfl | exact Or.inr rfl))) (fun _ _ _ _ _ => pts_nil) (fun _ _ _ _ _ => (pe_cmpR (op_eqU hr.units (K := K)) (pe_call (ok__law_did (K := K) T) (hr.mono (by decide)) (by rfl) T.m__law_did T.F__law_did.kp T.B__law_did .nil pass0 (pa_cons (pv 0) (pa_cons (pv 4) pa_nil))) (pe_tup (pa_cons (pe_lst (pa_cons pe_str (pa_cons pe_str pa_nil))) (pa_cons (pv 4) pa_nil))) (nomark _)))) pa_nil)))) (pss_one (ps_ret pe_bl)) pss_nil)
    (pss_one (ps_ret (pe_callB (cr_allK (K := K) rfl) (by rfl) T.b_all (by decide +kernel) (pa_cons (pe_lc (own := [("thing", 4)]) rfl sc__law_bad.nd (pi_listK (K := K) (pe_lst (pa_cons (pv 2) (pa_cons (pe_un un_neg pe_int) (pa_cons pe_non (pa_cons pe_bl (pa_cons pe_str (pa_cons (pe_lst (pa_cons pe_int pa_nil)) (pa_cons (pe_tup (pa_cons pe_int pa_nil)) pa_nil))))))))) (blkOk_by (own := [("thing", 4)]) (N := ["plain", "state", "members", "some", "thing"]) (sc := defScope s__law_bad) (by decide +kernel)) (fun _ _ _ _ _ => (pg_name (i := 4) sc__law_bad.nd rfl (by first | exact Or.inl rfl | exact Or.inr rfl))) (fun _ _ _ _ _ => pts_nil) (fun _ _ _ _ _ => (pe_call (ok__law_no_member (K := K) T) (hr.mono (by decide)) (by rfl) T.m__law_no_member T.F__law_no_member.kp T.B__law_no_member .nil pass0 (pa_cons (pv 0) (pa_cons (pv 4) pa_nil))))) pa_nil))))))))))), ?_⟩
    dsimp only [L2.start, List.map_cons, List.map_nil, List.map, List.length_cons, List.length_nil, Nat.reduceAdd, Nat.reduceSub, List.replicate, List.cons_append, List.nil_append]
    have m2 := hs.m2
    have m5 := hs.m5
    have sl := hs.l
    have hl3 : s.1.length ≤ 300 := by omega
    have hl5 : s.2.length ≤ 5 := by omega
    obtain ⟨ho, hr, ht, nrt⟩ := id hst
    have lt : (s.2.map V.int).length = s.2.length := List.length_map ..
    wtm_at "gs"
    have hT : ∀ L, HN q = some (.lst L) → ∀ x ∈ L, NoDd K HN (s.2.length : Nat) x ∧ OneV x := fun L eL x hx => by
      rw [hg] at eL
      cases eL
      simp only [List.mem_append, List.mem_cons, List.not_mem_nil, or_false] at hx
      repeat' (rcases hx with hx | hx)
      all_goals refine ⟨?_, by first | exact .inl rfl | exact .inr ⟨_, rfl⟩⟩
      all_goals first
        | exact NoDd.flat rfl
        | (refine NoDd.dict ?_; wtm_at "get"; done)
        | (refine NoDd.list (xs := [V.str "tell", V.int 0]) ?_; wtm_at "get"; done)
        | (refine' NoDd.tup ?e1 ?e2 ?e3 ?e4 ?e5
           case e1 => wtm_at "getg"
           case e2 =>
             intro y hy
             simp only [List.mem_cons, List.not_mem_nil, or_false] at hy
             repeat' (rcases hy with hy | hy)
             all_goals first | exact trivial | (refine' Kn.ofL ?z1; case z1 => wtm_at "getg")
           case e3 => exact Nat.le_of_ble_eq_true rfl
           case e4 => first | rfl | (simp [adB, isWh]; done) | (simp [adB, isWh]; omega)
           case e5 => first | rfl | (simp [teB, isWh]; done) | (simp [teB, isWh]; omega))
    have w1 : Same H HN ∧ True := ⟨by wtm_at "same", trivial⟩
    obtain ⟨L, eL, hLn⟩ : ∃ L, HN q = some (.lst L) ∧ L.length ≤ 1000 := ⟨_, hg, Nat.le_of_ble_eq_true rfl⟩
    have hB := hT L eL
    obtain ⟨B, eB⟩ : ∃ y, y = q := ⟨_, rfl⟩
    subst eB
    obtain ⟨HB, eH⟩ : ∃ y, y = HN := ⟨_, rfl⟩
    subst eH
    clear hT hg
    repeat (rename Same _ _ => hz; clear hz)
    have hphB := hph.same w1.1
    have hstB := hst.same w1.1
    have hpB := hphB.hp
    intro D hD
    refine' lc_mapL (fun _ => .bl true) (.of eL) hD hLn (fun x hx H1 Q1 R1 s1 k1 => ?l3) (fun H1 s1 e1 => ?l4)
    case l3 =>
      have hn1 := (hB x hx).1.same s1
      have hph1 := hphB.same s1
      wtm_at "gs"
      rename_i qd l hqd qw hqw HW saW hgW
      have s2 := saW.trans sa
      refine i_eqG (n := 2) (.inr ⟨.of (s2 _ _ hqd), .of hg⟩) (by decide) (EqVs.cons (strs_eqv (ws := ["no deed", "family"]) (s2 _ _ hl') (sa _ _ hgW)) (EqVs.cons (hB x hx).2.eqv EqVs.nil)) ?_
      exact k1 _ ((by wtm_at "same"))
    case l4 =>
      have e2 : L.map (fun _ => V.bl true) = (L.map fun _ => true).map V.bl := by rw [List.map_map]; rfl
      rw [e2] at e1
      have e3 : (L.map fun _ => true).all id = true := by rw [List.all_map]; exact List.all_eq_true.mpr fun _ _ => rfl
      wtm_at "gs"
      rename_i qa hqa HA saA hgA qb hqb HC saC hgC
      have sAN := saC.trans sa
      have gA := sAN _ _ hgA
      have gC := sa _ _ hgC
      have s3 : Same HB HN := by wtm_at "same"
      have hT : ∀ x ∈ [V.int (s.2.map V.int).length, .int (-1), .non, .bl true, .str "0", .ref qa, .ref qb], Kn K HN x ∧ isWh 0 (.int (s.2.length - 1)) x = false ∧ ∀ H', Same HN H' → SelfE K H' x := fun x hx => by
        simp only [List.mem_cons, List.not_mem_nil, or_false] at hx
        rcases hx with rfl | rfl | rfl | rfl | rfl | rfl | rfl
        · exact ⟨trivial, by simp [isWh]; omega, fun H' _ Q q => SelfE.flat rfl Q q⟩
        · exact ⟨trivial, by simp [isWh], fun H' _ Q q => SelfE.flat rfl Q q⟩
        · exact ⟨trivial, rfl, fun H' _ Q q => SelfE.flat rfl Q q⟩
        · exact ⟨trivial, rfl, fun H' _ Q q => SelfE.flat rfl Q q⟩
        · exact ⟨trivial, rfl, fun H' _ Q q => SelfE.flat rfl Q q⟩
        · exact ⟨Kn.ofL gA, rfl, fun H' s' Q q => i_eqG (n := 1) (.inl ⟨.of (s' _ _ gA), .of (s' _ _ gA)⟩) (by decide) (EqVs.selfs fun y hy => by rw [List.mem_singleton.mp hy]; exact .selfB rfl) q⟩
        · exact ⟨Kn.ofT gC, rfl, fun H' s' Q q => i_eqG (n := 1) (.inr ⟨.of (s' _ _ gC), .of (s' _ _ gC)⟩) (by decide) (EqVs.selfs fun y hy => by rw [List.mem_singleton.mp hy]; exact .selfB rfl) q⟩
      have w2 : Same H HN ∧ True := ⟨w1.1.trans s3, trivial⟩
      have hphC := hphB.same s3
      clear s3 sAN saA hgA saC hgC
      obtain ⟨C2, eC⟩ : ∃ y, y = q := ⟨_, rfl⟩
      subst eC
      obtain ⟨HD, eD⟩ : ∃ y, y = HN := ⟨_, rfl⟩
      subst eD
      have hgC2 := hg
      clear sa hg
      intro D2 hD2
      refine' lc_mapL (fun _ => .bl true) (.of hgC2) hD2 (Nat.le_of_ble_eq_true rfl) (fun x hx H3 Q3 R3 s3 k3 => ?l5) (fun H3 s3 e5 => ?l6)
      case l5 =>
        obtain ⟨t1, t2, t3⟩ := hT x hx
        have kx := Kn.same s3 t1
        have he := fun H' (h : Same H3 H') => t3 H' (s3.trans h)
        have hph3 := hphC.same s3
        wtm_at "gs"
        exact k3 _ sm
      case l6 =>
        wtm_at "gs"
        refine i_all (bs := [true, true, true, true, true, true, true]) (.of e5) ?_
        exact k _ (w2.1.trans s3)
end

/-! ### the law -/
def spCell (K : PySem.W.Frag) : Sp := fun vs H Q _ => ∃ (p : Addr) (ns : List Int) (i : Int), vs = [.ref p, .int i] ∧ SqL K H p (ns.map V.int) ∧ 0 ≤ i ∧ ∀ n, n = ns.getD i.toNat 0 → Q (.int n) H
section
variable {P : Program} {w : World} {K : PySem.W.Frag} {mg : Str → Option Value} {base : Heap} {a : Ad}
theorem ok__law_cell_at (T : Txt K mg a) : FnOk P w K mg base CX0 1 a._law_cell_at a.d__law_cell_at ["script", "k"] (spCell K) := by
  refine fund_ok0 T.F__law_cell_at sc__law_cell_at (fun vs H Q E h => ?_) (fun cdv A outer s H vs Q E hr h => ?_)
  · obtain ⟨p, ns, i, rfl, hp, h0, k⟩ := h
    rfl
  · obtain ⟨p, ns, i, rfl, hp, h0, k⟩ := h
    refine ⟨_, (pss_cons (ps_if (pt_cmpR op_ltU (pv 1) (pe_callB (call_lenU (K := K)) (by rfl) T.b_len (by decide +kernel) (pa_cons (pv 0) pa_nil)) (nomark _)) (pss_one (ps_ret (pe_ix (ix_U (K := K)) (pv 0) (pv 1) (fun _ _ => rfl)))) pss_nil)
    (pss_one (ps_ret pe_int))), ?_⟩
    dsimp only [L2.start, List.map_cons, List.map_nil, List.map, List.length_cons, List.length_nil, Nat.reduceAdd, Nat.reduceSub, List.replicate, List.cons_append, List.nil_append]
    have ln : (ns.map V.int).length = ns.length := List.length_map ..
    wtm_at "gs"
    · obtain ⟨x, _, hx, hx'⟩ := atI_in (xs := ns.map V.int) (r := i) h0 (by assumption)
      obtain ⟨n, _, rfl, hn⟩ := map_int_at hx
      wtm_at "gs"
      exact k _ (by rw [List.getD_eq_getElem?_getD, hn]; rfl)
    · have hlt : ns.length ≤ i.toNat := by
        have : ¬ i < ((ns.map V.int).length : Int) := by assumption
        omega
      exact k _ (by rw [List.getD_eq_getElem?_getD, List.getElem?_eq_none hlt]; rfl)
end
theorem cell_use {K : PySem.W.Frag} {H : Hp} {Q : VK} {E : XK} {vs : List V} {p : Addr} {ns : List Int} {i : Int} (h1 : SqL K H p (ns.map V.int)) (h2 : 0 ≤ i) (h : ∀ n, n = ns.getD i.toNat 0 → Q (.int n) H) (he : vs = [.ref p, .int i] := by rfl) : spCell K vs H Q E := ⟨p, ns, i, he, h1, h2, h⟩
set_option hygiene false in
local macro_rules | `(tactic| wtm_at "u") => `(tactic| first | ((with_reducible refine' cell_use ?h1 ?h2 (fun cn hcn => ?_) ?he); (case he => rfl); (case h1 => wtm_at "sq"); (case h2 => first | decide | omega)) | fail)
/-- a comprehension over a list, with what was gathered -/
theorem lc_accL {K : PySem.W.Frag} {a : Addr} {xs : List V} {g : TG} {tt : TT} {te : TE} {vs : List Nat} {σ : St} {H1 : Hp} {D : Addr} {Qd : Hp → Prop} (Pr : Nat → List V → Hp → Prop) (hl : xs.length ≤ 1000)
    (p0 : Pr 0 [] (upd H1 D (.lst []))) (hq : ∀ i acc H, Pr i acc H → SqL K H a xs)
    (hs : ∀ i x acc H (Q : VK) (R : Hp → Prop), xs[i]? = some x → Pr i acc H → acc.length = i → H D = some (.lst acc) → (∀ y H', H' D = some (.lst acc) → Pr (i + 1) (acc ++ [y]) (upd H' D (.lst (acc ++ [y]))) → Q y H') → g x (wipe σ vs) H fun σ2 H2 => wipe σ2 vs = wipe σ vs ∧ tt σ2 H2 fun b H3 => if b = true then te σ2 H3 Q else R H3)
    (hd : ∀ H acc, Pr xs.length acc H → acc.length = xs.length → H D = some (.lst acc) → Qd H) :
    ∃ W : Nat → Nat → Hp → Prop, (∃ m, W 0 m (upd H1 D (.lst []))) ∧ ∀ i m H, W i m H →
      ((Itl K a).stop i H ∧ Qd H) ∨ ((Itl K a).go i H ∧ ∃ Nx : Hp → Prop, (∀ H', Nx H' → ∃ m', m' < m ∧ W (i + 1) m' H') ∧ ∀ x H', (Itl K a).yld i H x H' → g x (wipe σ vs) H' fun σ2 H2 => wipe σ2 vs = wipe σ vs ∧ tt σ2 H2 fun b H3 =>
        if b = true then te σ2 H3 fun y H4 => ∃ acc, H4 D = some (.lst acc) ∧ acc.length < sizeLine ∧ Nx (upd H4 D (.lst (acc ++ [y]))) else Nx H3) := by
  refine ⟨fun i m H => m = xs.length - i ∧ i ≤ xs.length ∧ ∃ acc, acc.length = i ∧ H D = some (.lst acc) ∧ Pr i acc H, ⟨xs.length, by simp, Nat.zero_le _, [], rfl, upd_same, p0⟩, ?_⟩
  rintro i m H ⟨rfl, hi, acc, la, hD', p⟩
  have q := hq i acc H p
  by_cases hlt : i < xs.length
  · refine .inr ⟨⟨xs, xs[i], q, by simp [hlt]⟩, fun H' => ∃ y, H' D = some (.lst (acc ++ [y])) ∧ Pr (i + 1) (acc ++ [y]) H', ?_, fun x H' y => ?_⟩
    · rintro H' ⟨y, e, p'⟩
      exact ⟨xs.length - (i + 1), by omega, rfl, hlt, acc ++ [y], by simp [la], e, p'⟩
    · obtain ⟨e, y⟩ := y
      subst e
      exact hs i x acc _ (fun y H4 => ∃ acc, H4 D = some (.lst acc) ∧ acc.length < sizeLine ∧ ∃ z, upd H4 D (.lst (acc ++ [y])) D = some (.lst (_ ++ [z])) ∧ Pr (i + 1) (_ ++ [z]) (upd H4 D (.lst (acc ++ [y])))) _ (y xs q) p la hD' fun z H4 e4 p4 => ⟨acc, e4, line_lt (by omega), z, upd_same, p4⟩
  · have e : i = xs.length := by omega
    subst e
    exact .inl ⟨⟨xs, q, Nat.le_refl _⟩, hd H acc p la hD'⟩
/-- two states compared -/
def rEqD2 (K : PySem.W.Frag) : R2 := fun x y H Q => ∃ o o' r t r' t' b1 b2, x = .ref o ∧ y = .ref o' ∧ H o = some (.dK [(.inr "row", r), (.inr "told", t)]) ∧ H o' = some (.dK [(.inr "row", r'), (.inr "told", t')]) ∧ EqV K H 8 r r' b1 ∧ EqV K H 8 t t' b2 ∧ Q (.bl (b1 && b2)) H
theorem op_eqD2 {X : Cx} (hu : X.A.units + 64 < cLine) {K : PySem.W.Frag} (hK : X.K = K := by rfl) : OpR X (compareOp .Eq) (rEqD2 K) := by
  subst hK
  intro pins s σ H x y v u Q I rx ry h
  obtain ⟨a, b, r, t, r', t', b1, b2, rfl, rfl, ea, eb, e1, e2, q⟩ := h
  obtain rfl : v = Value.ref a := rx
  obtain rfl : u = Value.ref b := ry
  obtain ⟨_, ya, va, ra, da⟩ := (show ObjOk X.prog X.w H s.heap a (.dK _) from I.hok a _ ea)
  obtain ⟨_, yb, vb, rb, db⟩ := (show ObjOk X.prog X.w H s.heap b (.dK _) from I.hok b _ eb)
  unfold KV at ra rb
  cases ra with | @cons _ p1 _ pa h1 ra => ?_
  cases ra with | @cons _ p2 _ pb h2 ra => ?_
  cases ra
  cases rb with | @cons _ q1 _ qa g1 rb => ?_
  cases rb with | @cons _ q2 _ qb g2 rb => ?_
  cases rb
  obtain ⟨k1, u1⟩ := p1
  obtain ⟨k2, u2⟩ := p2
  obtain ⟨l1, w1⟩ := q1
  obtain ⟨l2, w2⟩ := q2
  obtain ⟨rfl, h1⟩ := h1
  obtain ⟨rfl, h2⟩ := h2
  obtain ⟨rfl, g1⟩ := g1
  obtain ⟨rfl, g2⟩ := g2
  refine PySem.W.eq_dictsT (knd := mixKind X.prog X.w) (n := 8) (e := fun k => if k = (Sum.inr "row" : Key) then b1 else b2) ya yb da db (fun k v y hm hv => ?_) (by omega) (fin_bl I q ?_)
  · simp only [List.mem_cons, List.not_mem_nil, or_false] at hm
    rcases hm with hm | hm
    · obtain ⟨rfl, rfl⟩ := Prod.mk.inj hm
      have hy : y = w1 := (Option.some.inj hv).symm
      subst hy
      rw [if_pos rfl]
      exact .leaf fun A hA => e1.at I h1 g1 A hA
    · obtain ⟨rfl, rfl⟩ := Prod.mk.inj hm
      have hy : y = w2 := (Option.some.inj hv).symm
      subst hy
      rw [if_neg (show ¬ ((Sum.inr "told" : Key) = (Sum.inr "row" : Key)) from by decide)]
      exact .leaf fun A hA => e2.at I h2 g2 A hA
  · cases b1 <;> cases b2 <;> rfl
/-- one side: a hall and what it should be -/
structure Sd where
  p : Addr
  dx : Addr
  r : Addr
  t : Addr
  o : Addr
  r' : Addr
  t' : Addr
  M : Nat
  s : PlS
def Sd.ls (x : Sd) : List Addr := [x.r, x.t, x.r', x.t']
structure SdAt (C : Addr) (H : Hp) (x : Sd) : Prop where
  ph : PhAt C H x.p x.dx x.r x.t x.s.1 x.s.2
  st : StD H x.o x.r' x.t' x.s
  ok : OkS x.M x.s
  n : (x.r ≠ x.r' ∧ x.r ≠ x.t') ∧ (x.t ≠ x.r' ∧ x.t ≠ x.t')
theorem SdAt.lsts {C : Addr} {H : Hp} {x : Sd} (h : SdAt C H x) : ∀ l ∈ x.ls, ∃ xs, H l = some (.lst xs) := fun l hl => by
  unfold Sd.ls at hl
  simp only [List.mem_cons, List.not_mem_nil, or_false] at hl
  rcases hl with rfl | rfl | rfl | rfl
  · obtain ⟨xs, e, _⟩ := h.ph.hr
    exact ⟨xs, e⟩
  · exact ⟨_, h.ph.ht⟩
  · obtain ⟨xs, e, _⟩ := h.st.hr
    exact ⟨xs, e⟩
  · exact ⟨_, h.st.ht⟩
theorem SdAt.same {C : Addr} {H H' : Hp} {x : Sd} (s : Same H H') (h : SdAt C H x) : SdAt C H' x := ⟨h.ph.same s, h.st.same s, h.ok, h.n⟩
theorem SdAt.buts {C : Addr} {H H' : Hp} {x : Sd} {L : List Addr} (hL : ∀ l ∈ L, ∃ xs, H l = some (.lst xs)) (s : SameBs L H H') (d : ∀ l ∈ x.ls, l ∉ L) (h : SdAt C H x) : SdAt C H' x :=
  ⟨h.ph.buts hL s (d _ (by simp [Sd.ls])) (d _ (by simp [Sd.ls])), h.st.buts hL s (d _ (by simp [Sd.ls])) (d _ (by simp [Sd.ls])), h.ok, h.n⟩
def ordK (k : Int) (x y : V) : List V := if k = 0 then [x, y] else [y, x]
/-- the two sides, x at k -/
structure TwoAt (C : Addr) (H : Hp) (A B : Addr) (k : Int) (x y : Sd) : Prop where
  hk : k = 0 ∨ k = 1
  ha : H A = some (.lst (ordK k (.ref x.p) (.ref y.p)))
  hb : H B = some (.lst (ordK k (.ref x.o) (.ref y.o)))
  hx : SdAt C H x
  hy : SdAt C H y
  hd : ∀ l ∈ x.ls, l ∉ y.ls
  na : A ∉ x.ls ∧ A ∉ y.ls
  nb : B ∉ x.ls ∧ B ∉ y.ls
theorem ordK_swap {k : Int} (h : k = 0 ∨ k = 1) (x y : V) : ordK (1 - k) y x = ordK k x y := by
  rcases h with rfl | rfl <;> rfl
theorem TwoAt.swap {C : Addr} {H : Hp} {A B : Addr} {k : Int} {x y : Sd} (h : TwoAt C H A B k x y) : TwoAt C H A B (1 - k) y x :=
  ⟨by rcases h.hk with e | e <;> rw [e] <;> decide, by rw [ordK_swap h.hk]; exact h.ha, by rw [ordK_swap h.hk]; exact h.hb, h.hy, h.hx, fun l h1 h2 => h.hd l h2 h1, ⟨h.na.2, h.na.1⟩, ⟨h.nb.2, h.nb.1⟩⟩
theorem TwoAt.to {C : Addr} {H : Hp} {A B : Addr} {k j : Int} {x y : Sd} (h : TwoAt C H A B k x y) (hj : j = 0 ∨ j = 1) : TwoAt C H A B j x y ∨ TwoAt C H A B j y x := by
  rcases h.hk with e | e <;> rcases hj with f | f
  · exact .inl (by rw [f, ← e]; exact h)
  · exact .inr (by have := h.swap; rw [e] at this; rw [f]; exact this)
  · exact .inr (by have := h.swap; rw [e] at this; rw [f]; exact this)
  · exact .inl (by rw [f, ← e]; exact h)
theorem ordK_at {k : Int} (h : k = 0 ∨ k = 1) (x y : V) : atI (ordK k x y) k = some x ∧ atI (ordK k x y) (1 - k) = some y := by
  rcases h with rfl | rfl <;> exact ⟨rfl, rfl⟩
theorem ordK_set {k : Int} (h : k = 0 ∨ k = 1) (x y z : V) : (ordK k x y).set (1 - k).toNat z = ordK k x z := by
  rcases h with rfl | rfl <;> rfl
theorem ordK_ix {k : Int} (h : k = 0 ∨ k = 1) (x y : V) : ixN (ordK k x y).length (1 - k) = some (1 - k).toNat := by
  rcases h with rfl | rfl <;> rfl
theorem TwoAt.same {C : Addr} {H H' : Hp} {A B : Addr} {k : Int} {x y : Sd} (s : Same H H') (h : TwoAt C H A B k x y) : TwoAt C H' A B k x y :=
  ⟨h.hk, s _ _ h.ha, s _ _ h.hb, h.hx.same s, h.hy.same s, h.hd, h.na, h.nb⟩
theorem spPI_mk {K : PySem.W.Frag} {a : Ad} {x dx : Addr} {M : Nat} {H : Hp} {R : Hp → Prop} {E : XK} {vs : List V} (nx : H x = none) (ndx : H dx = none) (hM : 2 ≤ M ∧ M ≤ 5) (k : ∀ HH r t, Same H HH → H r = none → H t = none → PhAt a.PlainHall HH x dx r t [] (List.replicate M 0) → R HH) (he : vs = [.ref x, .int M] := by rfl) :
    spPI K a vs (upd (upd H dx (.own x)) x (.ins a.PlainHall dx [])) (fun v H2 => v = .non ∧ R H2) E := by
  have sL : Same H (upd (upd H dx (.own x)) x (.ins a.PlainHall dx [])) := fun b u e => by rw [upd_ne (ne_of_none e nx), upd_ne (ne_of_none e ndx)]; exact e
  exact spPI_u1 upd_same rfl hM (fun HH r t sb nr nt hph => ⟨rfl, k HH r t (fun b u e => sb b u (ne_of_none e nx) (sL b u e)) (none_same sL nr) (none_same sL nt) hph⟩) he
set_option hygiene false in
local macro_rules | `(tactic| wtm_at "u") => `(tactic| ((with_reducible refine' spPI_mk ?g1 ?g2 ?g3 (fun HH r t sm nr nt hph' => ?_) ?he); (case he => rfl); (case g1 => wtm_at "as"); (case g2 => wtm_at "as"); (case g3 => first | wtm_at "as" | omega)))
/-- a state made anew -/
def FrS (HN : Hp) (D : Addr) (H : Hp) (o r t : Addr) (M : Nat) : Prop := StD H o r t ([], List.replicate M 0) ∧ HN r = none ∧ HN t = none ∧ r ≠ D ∧ t ≠ D ∧ H o ≠ none
theorem FrS.but {HN : Hp} {D : Addr} {H H' : Hp} {o r t : Addr} {M : Nat} {acc : List V} (hD : H D = some (.lst acc)) (s : SameBut D H H') (h : FrS HN D H o r t M) : FrS HN D H' o r t M := by
  obtain ⟨h1, h2, h3, h4, h5, h6⟩ := h
  refine ⟨⟨s _ _ (fun c => by have := h1.ho; rw [c, hD] at this; cases this) h1.ho, ?_, s _ _ h5 h1.ht, h1.nrt⟩, h2, h3, h4, h5, ?_⟩
  · obtain ⟨xs, e, hx⟩ := h1.hr
    exact ⟨xs, s _ _ h4 e, hx.mono fun _ _ => IdAt.keeps (MdX.tp hD s)⟩
  · rw [s _ _ (fun c => by have := h1.ho; rw [c, hD] at this; cases this) h1.ho]
    exact fun c => nomatch c
theorem goOf_tell (s : PlS) (m : Nat) : (goOf s (.tell m)).1 = s.1 := by
  show (match s.at m with | some _ => (s.1, s.2.set m (s.2.getD m 0 + 1)) | none => s).1 = s.1
  split <;> rfl
theorem TwoAt.go {C : Addr} {H H' : Hp} {A B : Addr} {k : Int} {x y : Sd} {s' : PlS} (h : TwoAt C H A B k x y) (sb : SameBs x.ls H H') (hph : PhAt C H' x.p x.dx x.r x.t s'.1 s'.2) (hst : StD H' x.o x.r' x.t' s') (ok : OkS x.M s') : TwoAt C H' A B k ⟨x.p, x.dx, x.r, x.t, x.o, x.r', x.t', x.M, s'⟩ y :=
  ⟨h.hk, sb _ _ h.na.1 h.ha, sb _ _ h.nb.1 h.hb, ⟨hph, hst, ok, h.hx.n⟩, h.hy.buts h.hx.lsts sb (fun l h1 h2 => h.hd l h2 h1), h.hd, h.na, h.nb⟩
theorem SdAt.eqv {K : PySem.W.Frag} {C : Addr} {H : Hp} {x y : Sd} (hx : SdAt C H x) (hy : SdAt C H y) (hd : ∀ l ∈ x.ls, l ∉ y.ls) : EqV K H 8 (.ref x.r') (.ref y.r') (decide (x.s.1 = y.s.1)) ∧ EqV K H 8 (.ref x.t') (.ref y.t') (decide (x.s.2 = y.s.2)) := by
  obtain ⟨xs, e1, h1⟩ := hx.st.hr
  obtain ⟨ys, e2, h2⟩ := hy.st.hr
  exact ⟨.lsts (n := 7) (fun c => hd x.r' (by simp [Sd.ls]) (by rw [c]; simp [Sd.ls])) (.of e1) (.of e2) (IdAt.eqvs (n := 6) h1 h2), .lsts (n := 7) (fun c => hd x.t' (by simp [Sd.ls]) (by rw [c]; simp [Sd.ls])) (.of hx.st.ht) (.of hy.st.ht) (NsTup.eqs (n := 7))⟩
def spLaw (K : PySem.W.Frag) : Sp := fun vs H Q _ => ∃ (p : Addr) (ns : List Int), vs = [.ref p] ∧ SqL K H p (ns.map V.int) ∧ ns.length ≤ 63 ∧ ∀ H', Q (.bl true) H'
section
variable {P : Program} {w : World} {K : PySem.W.Frag} {mg : Str → Option Value} {base : Heap} {a : Ad}
theorem ok_law (T : Txt K mg a) : FnOk P w K mg base CX0 7 a.law a.d_law ["script"] (spLaw K) := by
  refine fund_ok0 T.F_law sc_law (fun vs H Q E h => ?_) (fun cdv A outer s H vs Q E hr h => ?_)
  · obtain ⟨sp, ns, rfl, hS, hl, k⟩ := h
    rfl
  · obtain ⟨sp, ns, rfl, hS, hl, k⟩ := h
    refine ⟨_, (pss_cons (ps_set (i := 1) sc_law.nd rfl (by first | exact Or.inl rfl | exact Or.inr rfl) (pe_lst (pa_cons (pe_op (op_addU (K := K)) pe_int (pe_op op_modU (pe_call (ok__law_cell_at (K := K) T) (hr.mono (by decide)) (by rfl) T.m__law_cell_at T.F__law_cell_at.kp T.B__law_cell_at .nil pass0 (pa_cons (pv 0) (pa_cons pe_int pa_nil))) pe_int)) (pa_cons (pe_op (op_addU (K := K)) pe_int (pe_op op_modU (pe_op op_fdivU (pe_call (ok__law_cell_at (K := K) T) (hr.mono (by decide)) (by rfl) T.m__law_cell_at T.F__law_cell_at.kp T.B__law_cell_at .nil pass0 (pa_cons (pv 0) (pa_cons pe_int pa_nil))) pe_int) pe_int)) pa_nil))))
    (pss_cons (ps_set (i := 2) sc_law.nd rfl (by first | exact Or.inl rfl | exact Or.inr rfl) (pe_lst (pa_cons (pe_makeS T.mk_PlainHall (ok_PlainHall_init (K := K) T) (hr.mono (by decide)) (by rfl) T.m_PlainHall T.B_PlainHall_init .nil (passAt takes0) (pa_cons (pe_ix (ix_U (K := K)) (pv 1) pe_int (fun _ _ => rfl)) pa_nil)) (pa_cons (pe_makeS T.mk_PlainHall (ok_PlainHall_init (K := K) T) (hr.mono (by decide)) (by rfl) T.m_PlainHall T.B_PlainHall_init .nil (passAt takes0) (pa_cons (pe_ix (ix_U (K := K)) (pv 1) pe_int (fun _ _ => rfl)) pa_nil)) pa_nil))))
    (pss_cons (ps_setLc (i := 3) (own := [("size", 4)]) rfl sc_law.nd rfl rfl (sw_true rfl rfl rfl (by decide +kernel)) (pi_listK (K := K) (pv 1)) (blkOk_by (own := [("size", 4)]) (N := ["script", "sizes", "some", "states", "size", "cell", "pool", "side", "way", "twin", "far", "kept", "state", "member", "number", "ident", "deed", "thing"]) (sc := defScope s_law) (by decide +kernel)) (fun _ _ _ _ _ => (pg_name (i := 4) sc_law.nd rfl (by first | exact Or.inl rfl | exact Or.inr rfl))) (fun _ _ _ _ _ => pts_nil) (fun _ _ _ _ _ => (pe_disp (pps_cons pe_str (pe_lst pa_nil) (pps_cons pe_str (pe_op op_mulU (pe_lst (pa_cons pe_int pa_nil)) (pv 4)) pps_nil)) (by rfl) (by rfl) (fun z => by cases z) (by decide))))
    (pss_cons (ps_for PassesOwn.never rfl (pi_listK (K := K) (pe_slice (sl_U (K := K)) (pv 0) (po_some pe_int) (po_some pe_int))) (pg_name (i := 5) sc_law.nd rfl (by first | exact Or.inl rfl | exact Or.inr rfl))
    (pss_cons (ps_set (i := 6) sc_law.nd rfl (by first | exact Or.inl rfl | exact Or.inr rfl) (pe_call (ok__law_pool (K := K) T) (hr.mono (by decide)) (by rfl) T.m__law_pool T.F__law_pool.kp T.B__law_pool .nil pass0 (pa_cons (pv 5) pa_nil)))
    (pss_cons (ps_set (i := 7) sc_law.nd rfl (by first | exact Or.inl rfl | exact Or.inr rfl) (pe_call (ok__law_take (K := K) T) (hr.mono (by decide)) (by rfl) T.m__law_take T.F__law_take.kp T.B__law_take .nil pass0 (pa_cons (pv 6) (pa_cons pe_int pa_nil))))
    (pss_cons (ps_set (i := 8) sc_law.nd rfl (by first | exact Or.inl rfl | exact Or.inr rfl) (pe_call (ok__law_take (K := K) T) (hr.mono (by decide)) (by rfl) T.m__law_take T.F__law_take.kp T.B__law_take .nil pass0 (pa_cons (pv 6) (pa_cons pe_int pa_nil))))
    (pss_cons (ps_set (i := 9) sc_law.nd rfl (by first | exact Or.inl rfl | exact Or.inr rfl) (pe_call (ok__law_take (K := K) T) (hr.mono (by decide)) (by rfl) T.m__law_take T.F__law_take.kp T.B__law_take .nil pass0 (pa_cons (pv 6) (pa_cons pe_int pa_nil))))
    (pss_cons (ps_set (i := 10) sc_law.nd rfl (by first | exact Or.inl rfl | exact Or.inr rfl) (pe_call (ok__law_take (K := K) T) (hr.mono (by decide)) (by rfl) T.m__law_take T.F__law_take.kp T.B__law_take .nil pass0 (pa_cons (pv 6) (pa_cons (pe_ix (ix_U (K := K)) (pe_lst (pa_cons pe_int (pa_cons pe_int (pa_cons (pe_op op_powU pe_int pe_int) pa_nil)))) (pe_call (ok__law_take (K := K) T) (hr.mono (by decide)) (by rfl) T.m__law_take T.F__law_take.kp T.B__law_take .nil pass0 (pa_cons (pv 6) (pa_cons pe_int pa_nil))) (fun _ _ => rfl)) pa_nil))))
    (pss_cons (ps_if (pt_cmpR (op_eqU hr.units (K := K)) (pv 9) pe_int (nomark _)) (pss_cons (ps_asg (pe_meth0 (pe_ix (ix_U (K := K)) (pv 2) (pv 7) (fun _ _ => rfl)) T.c_PlainHall T.M_PlainHall_twin (ok_PlainHall_twin (K := K) T) (hr.mono (by decide)) T.B_PlainHall_twin .nil pass0) (pg_sub (pv 2) (pe_op op_subU pe_int (pv 7)) set_list))
    (pss_cons (ps_set (i := 11) sc_law.nd rfl (by first | exact Or.inl rfl | exact Or.inr rfl) (pe_ix (ix_U (K := K)) (pv 3) (pv 7) (fun _ _ => rfl)))
    (pss_one (ps_asg (pe_disp (pps_cons pe_str (pe_callTy (call_lstOf (K := K)) (by rfl) T.b_list (by decide +kernel) (pa_cons (pe_dget (unit1 hr) (pv 11) pe_str (fun _ _ => rfl)) pa_nil)) (pps_cons pe_str (pe_callTy (call_lstOf (K := K)) (by rfl) T.b_list (by decide +kernel) (pa_cons (pe_dget (unit1 hr) (pv 11) pe_str (fun _ _ => rfl)) pa_nil)) pps_nil)) (by rfl) (by rfl) (fun z => by cases z) (by decide)) (pg_sub (pv 3) (pe_op op_subU pe_int (pv 7)) set_list))))) pss_nil)
    (pss_cons (ps_set (i := 12) sc_law.nd rfl (by first | exact Or.inl rfl | exact Or.inr rfl) (pe_ix (ix_U (K := K)) (pv 3) (pv 7) (fun _ _ => rfl)))
    (pss_cons (ps_set (i := 13) sc_law.nd rfl (by first | exact Or.inl rfl | exact Or.inr rfl) (pe_call (ok__law_take (K := K) T) (hr.mono (by decide)) (by rfl) T.m__law_take T.F__law_take.kp T.B__law_take .nil pass0 (pa_cons (pv 6) (pa_cons (pe_callB (call_lenU (K := K)) (by rfl) T.b_len (by decide +kernel) (pa_cons (pe_dget (unit1 hr) (pv 12) pe_str (fun _ _ => rfl)) pa_nil)) pa_nil))))
    (pss_cons (ps_set (i := 14) sc_law.nd rfl (by first | exact Or.inl rfl | exact Or.inr rfl) (pe_callB (call_lenU (K := K)) (by rfl) T.b_len (by decide +kernel) (pa_cons (pe_lc (own := [("ident", 15)]) rfl sc_law.nd (pi_listK (K := K) (pe_dget (unit1 hr) (pv 12) pe_str (fun _ _ => rfl))) (blkOk_by (own := [("ident", 15)]) (N := ["script", "sizes", "some", "states", "size", "cell", "pool", "side", "way", "twin", "far", "kept", "state", "member", "number", "ident", "deed", "thing"]) (sc := defScope s_law) (by decide +kernel)) (fun _ _ _ _ _ => (pg_name (i := 15) sc_law.nd rfl (by first | exact Or.inl rfl | exact Or.inr rfl))) (fun _ _ _ _ _ => pts_one (pt_cmpR (op_eqU hr.units (K := K)) (pe_ix (ix_U (K := K)) (pv 15) pe_int (fun _ _ => rfl)) (pv 13) (nomark _))) (fun _ _ _ _ _ => (pv 15))) pa_nil)))
    (pss_cons (ps_set (i := 16) sc_law.nd rfl (by first | exact Or.inl rfl | exact Or.inr rfl) (pe_tup (pa_cons pe_str (pa_cons (pv 13) pa_nil))))
    (pss_cons (ps_if (pt_cmpR op_ltU (pv 8) pe_int (nomark _)) (pss_one (ps_set (i := 16) sc_law.nd rfl (by first | exact Or.inl rfl | exact Or.inr rfl) (pe_tup (pa_cons pe_str (pa_cons (pv 13) (pa_cons (pe_op (op_addU (K := K)) (pv 14) pe_int) pa_nil)))))) pss_nil)
    (pss_cons (ps_if (pt_cmpR (op_eqU hr.units (K := K)) (pv 8) pe_int (nomark _)) (pss_one (ps_set (i := 16) sc_law.nd rfl (by first | exact Or.inl rfl | exact Or.inr rfl) (pe_tup (pa_cons pe_str (pa_cons (pv 13) (pa_cons (pe_callB (call_maxU rfl) (by rfl) T.b_max (by decide +kernel) (pa_cons pe_int (pa_cons (pe_op op_subU (pe_op (op_addU (K := K)) (pv 14) pe_int) (pv 10)) pa_nil))) pa_nil)))))) pss_nil)
    (pss_cons (ps_if (pt_cmpR (op_eqU hr.units (K := K)) (pv 8) pe_int (nomark _)) (pss_one (ps_set (i := 16) sc_law.nd rfl (by first | exact Or.inl rfl | exact Or.inr rfl) (pe_tup (pa_cons pe_str (pa_cons (pv 13) (pa_cons (pe_op (op_addU (K := K)) (pe_op (op_addU (K := K)) (pv 14) pe_int) (pv 10)) pa_nil)))))) pss_nil)
    (pss_cons (ps_if (pt_cmpR op_gtU (pe_callB (call_lenU (K := K)) (by rfl) T.b_len (by decide +kernel) (pa_cons (pe_dget (unit1 hr) (pv 12) pe_str (fun _ _ => rfl)) pa_nil)) pe_int (nomark _)) (pss_one (ps_set (i := 16) sc_law.nd rfl (by first | exact Or.inl rfl | exact Or.inr rfl) (pe_tup (pa_cons pe_str (pa_cons (pv 13) pa_nil))))) pss_nil)
    (pss_cons (ps_if (pt_not (pt_val (pe_call (ok__law_done (K := K) T) (hr.mono (by decide)) (by rfl) T.m__law_done T.F__law_done.kp T.B__law_done .nil pass0 (pa_cons (pe_ix (ix_U (K := K)) (pv 2) (pv 7) (fun _ _ => rfl)) (pa_cons (pv 12) (pa_cons (pv 16) pa_nil)))))) (pss_one (ps_ret pe_bl)) pss_nil)
    (pss_cons (ps_if (pt_not (pt_val (pe_call (ok__law_stands (K := K) T) (hr.mono (by decide)) (by rfl) T.m__law_stands T.F__law_stands.kp T.B__law_stands .nil pass0 (pa_cons (pe_ix (ix_U (K := K)) (pv 2) (pe_op op_subU pe_int (pv 7)) (fun _ _ => rfl)) (pa_cons (pe_ix (ix_U (K := K)) (pv 3) (pe_op op_subU pe_int (pv 7)) (fun _ _ => rfl)) pa_nil))))) (pss_one (ps_ret pe_bl)) pss_nil)
    (pss_cons (ps_if (pt_cmpR (op_neU hr.units (K := K)) (pe_cmpR (op_eqO (K := K) T.M_PlainHall_eq (ok_PlainHall_eq (K := K) T) (hr.mono (by decide)) T.B_PlainHall_eq pass0 T.q_PlainHall) (pe_ix (ix_U (K := K)) (pv 2) pe_int (fun _ _ => rfl)) (pe_ix (ix_U (K := K)) (pv 2) pe_int (fun _ _ => rfl)) (nomark _)) (pe_cmpR (op_eqD2 hr.units (K := K)) (pe_ix (ix_U (K := K)) (pv 3) pe_int (fun _ _ => rfl)) (pe_ix (ix_U (K := K)) (pv 3) pe_int (fun _ _ => rfl)) (nomark _)) (nomark _)) (pss_one (ps_ret pe_bl)) pss_nil)
    (pss_cons (ps_if (PW.pt (pw_and (pt_cmpR (op_eqU hr.units (K := K)) (pv 9) pe_int (nomark _)) (pw_and1 (pt_not (pt_val (pe_call (ok__law_bad (K := K) T) (hr.mono (by decide)) (by rfl) T.m__law_bad T.F__law_bad.kp T.B__law_bad .nil pass0 (pa_cons (pe_ix (ix_U (K := K)) (pv 2) (pv 7) (fun _ _ => rfl)) (pa_cons (pv 12) pa_nil)))))))) (pss_one (ps_ret pe_bl)) pss_nil)
    (pss_one (ps_if (pt_not (pt_val (pe_call (ok__law_stands (K := K) T) (hr.mono (by decide)) (by rfl) T.m__law_stands T.F__law_stands.kp T.B__law_stands .nil pass0 (pa_cons (pe_ix (ix_U (K := K)) (pv 2) (pv 7) (fun _ _ => rfl)) (pa_cons (pv 12) pa_nil))))) (pss_one (ps_ret pe_bl)) pss_nil)))))))))))))))))))))
    (pss_cons (ps_if (PW.pt (pw_or (pt_not (pt_val (pe_call (ok__law_bad (K := K) T) (hr.mono (by decide)) (by rfl) T.m__law_bad T.F__law_bad.kp T.B__law_bad .nil pass0 (pa_cons (pe_ix (ix_U (K := K)) (pv 2) pe_int (fun _ _ => rfl)) (pa_cons (pe_ix (ix_U (K := K)) (pv 3) pe_int (fun _ _ => rfl)) pa_nil))))) (pw_or1 (pt_not (pt_val (pe_call (ok__law_stands (K := K) T) (hr.mono (by decide)) (by rfl) T.m__law_stands T.F__law_stands.kp T.B__law_stands .nil pass0 (pa_cons (pe_ix (ix_U (K := K)) (pv 2) pe_int (fun _ _ => rfl)) (pa_cons (pe_ix (ix_U (K := K)) (pv 3) pe_int (fun _ _ => rfl)) pa_nil)))))))) (pss_one (ps_ret pe_bl)) pss_nil)
    (pss_one (ps_ret (pe_callB (cr_allK (K := K) rfl) (by rfl) T.b_all (by decide +kernel) (pa_cons (pe_lc (own := [("thing", 17)]) rfl sc_law.nd (pi_listK (K := K) (pe_lst (pa_cons pe_int (pa_cons pe_int (pa_cons pe_int (pa_cons (pe_un un_neg pe_int) (pa_cons pe_non (pa_cons pe_bl (pa_cons pe_str (pa_cons (pe_lst (pa_cons pe_int pa_nil)) (pa_cons (pe_op op_powU pe_int pe_int) pa_nil))))))))))) (blkOk_by (own := [("thing", 17)]) (N := ["script", "sizes", "some", "states", "size", "cell", "pool", "side", "way", "twin", "far", "kept", "state", "member", "number", "ident", "deed", "thing"]) (sc := defScope s_law) (by decide +kernel)) (fun _ _ _ _ _ => (pg_name (i := 17) sc_law.nd rfl (by first | exact Or.inl rfl | exact Or.inr rfl))) (fun _ _ _ _ _ => pts_nil) (fun _ _ _ _ _ => (pe_call (ok__law_made (K := K) T) (hr.mono (by decide)) (by rfl) T.m__law_made T.F__law_made.kp T.B__law_made .nil pass0 (pa_cons (pv 17) pa_nil)))) pa_nil))))))))), ?_⟩
    dsimp only [L2.start, List.map_cons, List.map_nil, List.map, List.length_cons, List.length_nil, Nat.reduceAdd, Nat.reduceSub, List.replicate, List.cons_append, List.nil_append]
    wtm_at "gs"
    rename_i cn1 hcn1
    obtain ⟨M0, e0, h0⟩ : ∃ M0 : Nat, 2 + cn1 % 4 = (M0 : Int) ∧ 2 ≤ M0 ∧ M0 ≤ 5 := ⟨(2 + cn1 % 4).toNat, by omega, by omega, by omega⟩
    obtain ⟨M1, e1, h1⟩ : ∃ M1 : Nat, 2 + cn / 4 % 4 = (M1 : Int) ∧ 2 ≤ M1 ∧ M1 ≤ 5 := ⟨(2 + cn / 4 % 4).toNat, by omega, by omega, by omega⟩
    rw [e0, e1] at hg
    rw [e0]
    have hSN := SqL.sm sa hS
    have hgZ := hg
    obtain ⟨SZ, eZ⟩ : ∃ y, y = q := ⟨_, rfl⟩
    subst eZ
    clear hS sa hg hcn hcn1 e0 e1
    wtm_at "gs"
    rename_i y0 dx0 a1 a2 a3 a4 a5 H0 r0 t0 sm0 nr0 nt0 hph0
    have hZ := (sm0.trans sm).trans sa
    have hZN := hZ _ _ hgZ
    obtain ⟨HB, eB⟩ : ∃ y, y = HN := ⟨_, rfl⟩
    subst eB
    obtain ⟨LA, eA⟩ : ∃ y, y = q := ⟨_, rfl⟩
    subst eA
    have hgA := hg
    have nA : HH LA = none := hq
    have sHB : Same HH HB ∧ True := ⟨sa, trivial⟩
    have s0H : Same H0 HH ∧ True := ⟨sm, trivial⟩
    clear hg hq
    intro D hD
    refine' lc_accL (K := K) (a := SZ) (xs := [V.int M0, V.int M1]) (fun i acc Hc => Same HB Hc ∧ (i = 0 → acc = []) ∧ (i = 1 → ∃ o r' t', acc = [.ref o] ∧ FrS HB D Hc o r' t' M0) ∧ (i = 2 → ∃ o r' t' o1 r1 t1, acc = [.ref o, .ref o1] ∧ FrS HB D Hc o r' t' M0 ∧ FrS HB D Hc o1 r1 t1 M1 ∧ (r' ≠ r1 ∧ r' ≠ t1 ∧ t' ≠ r1 ∧ t' ≠ t1))) (Nat.le_of_ble_eq_true rfl) ?l0 (fun i acc Hc hc => .of (hc.1 _ _ hZN)) (fun i x acc Hc Q1 R1 hx pr la hDc k1 => ?l1) (fun Hc acc pr la hDc => ?l2)
    case l0 => exact ⟨same_upd (Same.refl _) hD, (fun _ => rfl), (fun e => absurd e (by decide)), (fun e => absurd e (by decide))⟩
    case l1 =>
      obtain ⟨M, rfl, hM, hiM⟩ : ∃ M : Nat, x = .int M ∧ (2 ≤ M ∧ M ≤ 5) ∧ ((i = 0 ∧ M = M0) ∨ (i = 1 ∧ M = M1)) := by
        match i, hx with
        | 0, hx => cases hx; exact ⟨M0, rfl, h0, .inl ⟨rfl, rfl⟩⟩
        | 1, hx => cases hx; exact ⟨M1, rfl, h1, .inr ⟨rfl, rfl⟩⟩
        | i + 2, hx => simp at hx
      obtain ⟨sN, pr0, pr1, pr2⟩ := pr
      have w1 : Same HB Hc ∧ True := ⟨sN, trivial⟩
      clear sN sa sm sm0 hZ
      wtm_at "gs"
      rename_i qd hqd qr hqr HR saR hgR qz hqz HZ saZ hgZ2
      have nrd : qr ≠ qd := fun c => by rw [c, upd_same] at hqr; cases hqr
      have nqr : Hc qr = none := by rw [upd_ne nrd] at hqr; exact hqr
      have gd : HN qd = some (.dK []) := sa _ _ (saZ _ _ (saR _ _ upd_same))
      have gdZ : HZ qd = some (.dK []) := saZ _ _ (saR _ _ upd_same)
      have nqd : q ≠ qd := fun c => by rw [c, gdZ] at hq; cases hq
      have nq : Hc q = none := by
        have e := none_same (saR.trans saZ) hq
        rw [upd_ne nqd] at e
        exact e
      have nrq : qr ≠ q := ne_of_none (saZ _ _ hgR) hq
      have sH : Same Hc (upd HN qd (.dK [(.inr "row", .ref qr), (.inr "told", .ref q)])) := fun b u e => by
        have nb : b ≠ qd := ne_of_none e hqd
        rw [upd_ne nb]
        exact sa _ _ (saZ _ _ (saR _ _ (by rw [upd_ne nb]; exact e)))
      have eM : ((M : Int)).toNat = M := Int.toNat_natCast M
      rw [eM] at hg
      have fN : FrS HB D (upd HN qd (.dK [(.inr "row", .ref qr), (.inr "told", .ref q)])) qd qr q M := by
        refine ⟨⟨upd_same, ⟨[], ?_, All2.nil⟩, ?_, nrq⟩, none_same w1.1 nqr, none_same w1.1 nq, ?_, ?_, ?_⟩
        · rw [upd_ne nrd]
          exact sa _ _ (saZ _ _ hgR)
        · rw [upd_ne nqd]
          exact hg
        · exact fun c => by rw [c, hDc] at nqr; cases nqr
        · exact fun c => by rw [c, hDc] at nq; cases nq
        · rw [upd_same]
          exact fun c => nomatch c
      have hDf := sH _ _ hDc
      have sU : ∀ o, SameBut D (upd HN qd (.dK [(.inr "row", .ref qr), (.inr "told", .ref q)])) (upd (upd HN qd (.dK [(.inr "row", .ref qr), (.inr "told", .ref q)])) D o) := fun o b u n e => by rw [upd_ne n]; exact e
      refine ⟨gd, [(.inr "row", .ref qr), (.inr "told", .ref q)], rfl, Nat.le_of_ble_eq_true rfl, ?_⟩
      refine k1 (.ref qd) _ hDf ⟨fun b u e => ?_, (fun e => absurd e (by omega)), (fun e => ?_), (fun e => ?_)⟩
      · rw [upd_ne (ne_of_none e hD)]
        exact sH _ _ (w1.1 _ _ e)
      · obtain ⟨rfl, rfl⟩ : i = 0 ∧ M = M0 := by omega
        exact ⟨qd, qr, q, by rw [pr0 rfl]; rfl, fN.but hDf (sU _)⟩
      · obtain ⟨rfl, rfl⟩ : i = 1 ∧ M = M1 := by omega
        obtain ⟨o, r', t', ea, f⟩ := pr1 rfl
        have eR : ∃ u, Hc r' = some u := by obtain ⟨_, e, _⟩ := f.1.hr; exact ⟨_, e⟩
        have eT := f.1.ht
        obtain ⟨u, eR⟩ := eR
        exact ⟨o, r', t', qd, qr, q, by rw [ea]; rfl, (f.but hDc (.of sH)).but hDf (sU _), fN.but hDf (sU _), ne_of_none eR nqr, ne_of_none eR nq, ne_of_none eT nqr, ne_of_none eT nq⟩
    case l2 =>
      obtain ⟨sN, pr0, pr1, pr2⟩ := pr
      obtain ⟨o0, r0', t0', o1, r1', t1', rfl, f0, f1, d0⟩ := pr2 rfl
      have sZ : Same HB Hc ∧ True := ⟨sN, trivial⟩
      have hSc := SqL.sm (hZ.trans sN) hSN
      clear sN sa sm sm0 hZ hSN
      wtm_at "gs"
      have eR0 : ∃ u, H0 r0 = some u := by obtain ⟨_, e, _⟩ := hph0.hr; exact ⟨_, e⟩
      have eR1 : ∃ u, HH r = some u := by obtain ⟨_, e, _⟩ := hph'.hr; exact ⟨_, e⟩
      obtain ⟨uR0, eR0⟩ := eR0
      obtain ⟨uR1, eR1⟩ := eR1
      have eT0 := hph0.ht
      have eT1 := hph'.ht
      have bR0 := sHB.1 _ _ (s0H.1 _ _ eR0)
      have bT0 := sHB.1 _ _ (s0H.1 _ _ eT0)
      have bR1 := sHB.1 _ _ eR1
      have bT1 := sHB.1 _ _ eT1
      have two : TwoAt a.PlainHall HN LA D 0 ⟨y0, dx0, r0, t0, o0, r0', t0', M0, ([], List.replicate M0 0)⟩ ⟨x, dx, r, t, o1, r1', t1', M1, ([], List.replicate M1 0)⟩ := by
        obtain ⟨g1, g2, g3, g4, g5, g6⟩ := f0
        obtain ⟨k1, k2, k3, k4, k5, k6⟩ := f1
        obtain ⟨d1, d2, d3, d4⟩ := d0
        have sE := sZ.1.trans sa
        refine ⟨.inl rfl, sE _ _ hgA, sa _ _ hDc, ⟨((hph0.same s0H.1).same sHB.1).same sE, g1.same sa, OkS.new h0, ⟨ne_of_none bR0 g2, ne_of_none bR0 g3⟩, ne_of_none bT0 g2, ne_of_none bT0 g3⟩, ⟨(hph'.same sHB.1).same sE, k1.same sa, OkS.new h1, ⟨ne_of_none bR1 k2, ne_of_none bR1 k3⟩, ne_of_none bT1 k2, ne_of_none bT1 k3⟩, ?_, ?_, ?_⟩
        · intro l h1 h2
          simp only [Sd.ls, List.mem_cons, List.not_mem_nil, or_false] at h1 h2
          rcases h1 with rfl | rfl | rfl | rfl
          · rcases h2 with h | h | h | h
            · exact ne_of_none eR0 nr h
            · exact ne_of_none eR0 nt h
            · exact ne_of_none bR0 k2 h
            · exact ne_of_none bR0 k3 h
          · rcases h2 with h | h | h | h
            · exact ne_of_none eT0 nr h
            · exact ne_of_none eT0 nt h
            · exact ne_of_none bT0 k2 h
            · exact ne_of_none bT0 k3 h
          · rcases h2 with h | h | h | h
            · exact ne_of_none bR1 g2 h.symm
            · exact ne_of_none bT1 g2 h.symm
            · exact d1 h
            · exact d2 h
          · rcases h2 with h | h | h | h
            · exact ne_of_none bR1 g3 h.symm
            · exact ne_of_none bT1 g3 h.symm
            · exact d3 h
            · exact d4 h
        · constructor
          · simp only [Sd.ls, List.mem_cons, List.not_mem_nil, or_false, not_or]
            exact ⟨(ne_of_none (s0H.1 _ _ eR0) nA).symm, (ne_of_none (s0H.1 _ _ eT0) nA).symm, ne_of_none hgA g2, ne_of_none hgA g3⟩
          · simp only [Sd.ls, List.mem_cons, List.not_mem_nil, or_false, not_or]
            exact ⟨(ne_of_none eR1 nA).symm, (ne_of_none eT1 nA).symm, ne_of_none hgA k2, ne_of_none hgA k3⟩
        · constructor
          · simp only [Sd.ls, List.mem_cons, List.not_mem_nil, or_false, not_or]
            exact ⟨(ne_of_none bR0 hD).symm, (ne_of_none bT0 hD).symm, Ne.symm g4, Ne.symm g5⟩
          · simp only [Sd.ls, List.mem_cons, List.not_mem_nil, or_false, not_or]
            exact ⟨(ne_of_none bR1 hD).symm, (ne_of_none bT1 hD).symm, Ne.symm k4, Ne.symm k5⟩
      have nLA : LA ≠ q := ne_of_none (sZ.1 _ _ hgA) hq
      have nLD : D ≠ q := ne_of_none hDc hq
      have nAD : LA ≠ D := ne_of_none hgA hD
      have nC : ∀ l ∈ [r0, t0, r0', t0', r, t, r1', t1'], q ≠ l := fun l h c => by
        have e : ∃ u, Hc l = some u := by
          simp only [List.mem_cons, List.not_mem_nil, or_false] at h
          rcases h with rfl | rfl | rfl | rfl | rfl | rfl | rfl | rfl
          · exact ⟨_, sZ.1 _ _ bR0⟩
          · exact ⟨_, sZ.1 _ _ bT0⟩
          · obtain ⟨_, e, _⟩ := f0.1.hr
            exact ⟨_, e⟩
          · exact ⟨_, f0.1.ht⟩
          · exact ⟨_, sZ.1 _ _ bR1⟩
          · exact ⟨_, sZ.1 _ _ bT1⟩
          · obtain ⟨_, e, _⟩ := f1.1.hr
            exact ⟨_, e⟩
          · exact ⟨_, f1.1.ht⟩
        obtain ⟨u, e⟩ := e
        rw [← c, hq] at e
        cases e
      obtain ⟨LC, eC⟩ : ∃ y, y = q := ⟨_, rfl⟩
      subst eC
      obtain ⟨HE, eE⟩ : ∃ y, y = HN := ⟨_, rfl⟩
      subst eE
      have hgC := hg
      clear hg hq sa sZ hSc hDc f0 f1 d0 bR0 bT0 bR1 bT1 eR0 eR1 eT0 eT1 s0H sHB nA hgA hph0 hph' pr0 pr1 pr2 hZN hgZ
      refine for_list (xs := cutV (ns.map V.int) (some 1) (some 61)) (fun i σ H' => ∃ v4 v5 v6 v7 v8 v9 v10 v11 v12 v13 v14 v15 v16 v17 X Y, σ = [some (.ref sp), some (.ref SZ), some (.ref LA), some (.ref D), v4, v5, v6, v7, v8, v9, v10, v11, v12, v13, v14, v15, v16, v17] ∧ TwoAt a.PlainHall H' LA D 0 X Y ∧ X.s.1.length ≤ 30 ∧ Y.s.1.length ≤ 30 ∧ (LC ∉ X.ls ∧ LC ∉ Y.ls) ∧ H' LC = some (.lst (cutV (ns.map V.int) (some 1) (some 61)))) ⟨_, _, _, _, _, _, _, _, _, _, _, _, _, _, _, _, rfl, two, Nat.zero_le _, Nat.zero_le _, ⟨fun h => nC LC (List.mem_append_left [r, t, r1', t1'] h) rfl, fun h => nC LC (List.mem_append_right [r0, t0, r0', t0'] h) rfl⟩, hgC⟩ (fun i σ H' hi hJ => ?q1) (fun i x σ H' hx hJ => ?q2) (fun σ H' hJ => ?q3)
      case q1 =>
        obtain ⟨v4, v5, v6, v7, v8, v9, v10, v11, v12, v13, v14, v15, v16, v17, X, Y, rfl, tw, lX, lY, nc, hC⟩ := hJ
        exact .of hC
      case q3 =>
        obtain ⟨v4, v5, v6, v7, v8, v9, v10, v11, v12, v13, v14, v15, v16, v17, X, Y, rfl, tw, lX, lY, nc, hC⟩ := hJ
        have hA : H' LA = some (.lst [.ref X.p, .ref Y.p]) := tw.ha
        have hB : H' D = some (.lst [.ref X.o, .ref Y.o]) := tw.hb
        have hph := tw.hx.ph
        have hst := tw.hx.st
        have hok := tw.hx.ok
        have l250 : X.s.1.length ≤ 250 := by omega
        have l300 : X.s.1.length ≤ 300 := by omega
        clear two hgC hD nx nr nt
        wtm_at "gs"
        rename_i qz hqz HZ saZ hgZ
        have gz := sa _ _ hgZ
        have hT : ∀ x ∈ [V.int 1, .int 6, .int 0, .int (-2), .non, .bl true, .str "2", .ref qz, .int (10 ^ Int.toNat 29)], Kn K HN x ∧ isWh 2 (.int 5) x = false ∧ ∀ H', Same HN H' → SelfE K H' x := fun x hx => by
          simp only [List.mem_cons, List.not_mem_nil, or_false] at hx
          rcases hx with rfl | rfl | rfl | rfl | rfl | rfl | rfl | rfl | rfl
          · exact ⟨trivial, rfl, fun H' _ Q q => SelfE.flat rfl Q q⟩
          · exact ⟨trivial, rfl, fun H' _ Q q => SelfE.flat rfl Q q⟩
          · exact ⟨trivial, rfl, fun H' _ Q q => SelfE.flat rfl Q q⟩
          · exact ⟨trivial, rfl, fun H' _ Q q => SelfE.flat rfl Q q⟩
          · exact ⟨trivial, rfl, fun H' _ Q q => SelfE.flat rfl Q q⟩
          · exact ⟨trivial, rfl, fun H' _ Q q => SelfE.flat rfl Q q⟩
          · exact ⟨trivial, rfl, fun H' _ Q q => SelfE.flat rfl Q q⟩
          · exact ⟨Kn.ofL gz, rfl, fun H' s' Q q => i_eqG (n := 1) (.inl ⟨.of (s' _ _ gz), .of (s' _ _ gz)⟩) (by decide) (EqVs.selfs fun y hy => by rw [List.mem_singleton.mp hy]; exact .selfB rfl) q⟩
          · exact ⟨trivial, by decide +kernel, fun H' _ Q q => SelfE.flat rfl Q q⟩
        clear hph hst hok tw sm saZ hgZ
        have hgQ := hg
        clear hg sa
        intro D2 hD2
        refine' lc_mapL (fun _ => .bl true) (.of hgQ) hD2 (Nat.le_of_ble_eq_true rfl) (fun x hx H3 Q3 R3 s3 k3 => ?u1) (fun H3 s3 e5 => ?u2)
        case u1 =>
          obtain ⟨t1, t2, t3⟩ := hT x hx
          have kx := Kn.same s3 t1
          have he := fun H' (h : Same H3 H') => t3 H' (s3.trans h)
          wtm_at "gs"
          exact k3 _ sm
        case u2 =>
          wtm_at "gs"
          refine i_all (bs := [true, true, true, true, true, true, true, true, true]) (.of e5) ?_
          exact k _
      case q2 =>
        obtain ⟨v4, v5, v6, v7, v8, v9, v10, v11, v12, v13, v14, v15, v16, v17, X, Y, rfl, tw, lX, lY, nc, hC⟩ := hJ
        obtain ⟨n, rfl⟩ : ∃ n : Int, x = .int n := by
          have h2 := List.mem_of_getElem? hx
          obtain ⟨n, _, e⟩ := List.mem_map.mp (List.mem_of_mem_drop (List.mem_of_mem_take h2))
          exact ⟨n, e.symm⟩
        have hA : H' LA = some (.lst [.ref X.p, .ref Y.p]) := tw.ha
        have hB : H' D = some (.lst [.ref X.o, .ref Y.o]) := tw.hb
        clear two hgC hD nx nr nt hx
        wtm_at "gi"
        rename_i p1 hp1 sd m1 hsd0 hsd1 wy m2 hwy0 hwy1 tn m3 htn0 htn1
        have key : ∃ m3 : Int, atI [V.int 1, V.int 4, V.int (10 ^ Int.toNat 29)] r = some (.int m3) ∧ 0 < m3 ∧ m3.natAbs.log2 < 9000 := by
          obtain rfl | rfl | rfl : r = 0 ∨ r = 1 ∨ r = 2 := by omega
          · exact ⟨1, rfl, by decide, by decide +kernel⟩
          · exact ⟨4, rfl, by decide, by decide +kernel⟩
          · exact ⟨10 ^ 29, rfl, by decide, by decide +kernel⟩
        obtain ⟨fz, hat, hf0, hf9⟩ := key
        refine i_ixL (by wtm_at "sq") hat ?_
        wtm_at "gi"
        rename_i rr mr hrr0 hrr1
        have nq1 : q ≠ p1 := ne_of_none (show (upd (upd (upd (upd H' p1 (.lst [.int m])) p1 (.lst [.int m1])) p1 (.lst [.int m2])) p1 (.lst [.int m3])) p1 = some _ from upd_same) hq |>.symm
        have sX : Same H' (upd (upd HN p1 (.lst [.int mr])) p1 (.lst [.int m'])) := fun b u e => by
          have nb : b ≠ p1 := ne_of_none e hp1
          rw [upd_ne nb, upd_ne nb]
          exact sa _ _ (by rw [upd_ne nb, upd_ne nb, upd_ne nb, upd_ne nb]; exact e)
        have np : ∀ b u, H' b = some u → p1 ≠ b := fun b u e => (ne_of_none e hp1).symm
        obtain ⟨Hn, eHn⟩ : ∃ y, y = upd (upd HN p1 (.lst [.int mr])) p1 (.lst [.int m']) := ⟨_, rfl⟩
        rw [← eHn] at sX ⊢
        have gp : Hn p1 = some (.lst [.int m']) := by rw [eHn]; exact upd_same
        have hsd : sd = 0 ∨ sd = 1 := by omega
        obtain ⟨U, W, tw2, lU, lW, nU, nW⟩ : ∃ U W, TwoAt a.PlainHall H' LA D sd U W ∧ U.s.1.length ≤ 30 ∧ W.s.1.length ≤ 30 ∧ LC ∉ U.ls ∧ LC ∉ W.ls := by
          rcases tw.to hsd with h | h
          · exact ⟨X, Y, h, lX, lY, nc.1, nc.2⟩
          · exact ⟨Y, X, h, lY, lX, nc.2, nc.1⟩
        have pU : p1 ∉ U.ls := fun h => by
          obtain ⟨xs, e⟩ := tw2.hx.lsts _ h
          exact np _ _ e rfl
        have pW : p1 ∉ W.ls := fun h => by
          obtain ⟨xs, e⟩ := tw2.hy.lsts _ h
          exact np _ _ e rfl
        have pA : p1 ≠ LA := np _ _ hA
        have pD : p1 ≠ D := np _ _ hB
        have pC : p1 ≠ LC := np _ _ hC
        have tw3 := tw2.same sX
        have hCn := sX _ _ hC
        have hr4 : 0 ≤ r := hr0
        clear eHn sa hq hg nq1 sX np tw tw2 hA hB hC lX lY nc hat
        dsimp only [List.set]
        refine seq_rest (fun σ' Hb => ∃ v11 U W mb, σ' = [some (.ref sp), some (.ref SZ), some (.ref LA), some (.ref D), v4, some (.int n), some (.ref p1), some (.int sd), some (.int wy), some (.int tn), some (.int r), v11, v12, v13, v14, v15, v16, v17] ∧ TwoAt a.PlainHall Hb LA D sd U W ∧ (U.s.1.length ≤ 30 ∧ W.s.1.length ≤ 30) ∧ (LC ∉ U.ls ∧ LC ∉ W.ls) ∧ (p1 ∉ U.ls ∧ p1 ∉ W.ls) ∧ Hb LC = some (.lst (cutV (ns.map V.int) (some 1) (some 61))) ∧ Hb p1 = some (.lst [.int mb])) (fun σ' Hb hJ => ?y1) (fun R hR => ?y2)
        case y2 =>
          have hA2 := tw3.ha
          have hB2 := tw3.hb
          have aA := ordK_at hsd (.ref U.p) (.ref W.p)
          have aB := ordK_at hsd (.ref U.o) (.ref W.o)
          obtain ⟨aA1, aA2⟩ := aA
          obtain ⟨aB1, aB2⟩ := aB
          have hphU := tw3.hx.ph
          have hpU := hphU.hp
          have hstU := tw3.hx.st
          have lU1 : U.s.1.length ≤ 1000 := by omega
          have lU2 : 2 ≤ U.s.2.length ∧ U.s.2.length ≤ 5 := by rw [tw3.hx.ok.l]; exact ⟨tw3.hx.ok.m2, tw3.hx.ok.m5⟩
          wtm_at "gs"
          rotate_left
          · exact hR _ _ ⟨_, U, W, m', rfl, tw3, ⟨lU, lW⟩, ⟨nU, nW⟩, ⟨pU, pW⟩, hCn, gp⟩
          refine i_setL (sm _ _ hA2) (ordK_ix hsd _ _) ?_
          rw [ordK_set hsd]
          wtm_at "abss"
          have hLs : ∀ l ∈ [LA], ∃ xs, HH l = some (.lst xs) := fun l h => by rw [List.mem_singleton.mp h]; exact ⟨_, sm _ _ hA2⟩
          have sbs : SameBs [LA] HH HN := fun b u n e => sb b u (fun c => n (by rw [c]; simp)) e
          have hna := tw3.na
          have dA : ∀ l ∈ U.ls, l ∉ [LA] := fun l h c => hna.1 (by rw [← List.mem_singleton.mp c]; exact h)
          have hxU := (tw3.hx.same sm).buts hLs sbs dA
          have nxA : x ≠ LA := (ne_of_none hA2 nx).symm
          have hphX : PhAt a.PlainHall HN x dx' r' t' U.s.1 U.s.2 := hph'.buts hLs sbs (by simpa using (ne_of_none hA2 nr).symm) (by simpa using (ne_of_none hA2 nt).symm)
          have hDN : HN D = some (.lst (ordK sd (.ref U.o) (.ref W.o))) := sb _ _ nAD.symm (sm _ _ hB2)
          have hAN := hg
          have hCN := sb _ _ nLA.symm (sm _ _ hCn)
          have gpN := sb _ _ pA (sm _ _ gp)
          have hstN := hxU.st
          have hoN := hstN.ho
          have htN := hstN.ht
          obtain ⟨zs, hrN, hzs⟩ := hstN.hr
          have w1 : SameBs [LA] Hn HN ∧ True := ⟨fun b u n e => sbs b u n (sm _ _ e), trivial⟩
          have lzs : zs.length = U.s.1.length := hzs.1
          clear sb sbs hg sm hph' hA2 hB2 hstU hphU hpU hLs
          wtm_at "gs"
          rename_i HM qd hqd qr hqr HR saR hgR
          have nrd : qr ≠ qd := fun c => by rw [c, upd_same] at hqr; cases hqr
          have nqr : HM qr = none := by rw [upd_ne nrd] at hqr; exact hqr
          have gd : HN qd = some (.dK []) := sa _ _ (saR _ _ upd_same)
          have gdR : HR qd = some (.dK []) := saR _ _ upd_same
          have nqd : q ≠ qd := fun c => by rw [c, gdR] at hq; cases hq
          have nq : HM q = none := by
            have e := none_same saR hq
            rw [upd_ne nqd] at e
            exact e
          have nrq : qr ≠ q := ne_of_none hgR hq
          refine ⟨gd, [(.inr "row", .ref qr), (.inr "told", .ref q)], rfl, Nat.le_of_ble_eq_true rfl, ?_⟩
          have sH : Same HM (upd HN qd (.dK [(.inr "row", .ref qr), (.inr "told", .ref q)])) := fun b u e => by
            have nb : b ≠ qd := ne_of_none e hqd
            rw [upd_ne nb]
            exact sa _ _ (saR _ _ (by rw [upd_ne nb]; exact e))
          obtain ⟨HF, eF⟩ : ∃ y, y = upd HN qd (.dK [(.inr "row", .ref qr), (.inr "told", .ref q)]) := ⟨_, rfl⟩
          have gF : HF qd = some (.dK [(.inr "row", .ref qr), (.inr "told", .ref q)]) := by rw [eF]; exact upd_same
          have gFr : HF qr = some (.lst zs) := by rw [eF, upd_ne nrd]; exact sa _ _ hgR
          have gFq : HF q = some (.lst (U.s.2.map V.int)) := by rw [eF, upd_ne nqd]; exact hg
          show gSub _ _ _ (V.ref qd) _ (upd HN qd (.dK [(.inr "row", .ref qr), (.inr "told", .ref q)])) _
          rw [← eF] at sH ⊢
          have stF : StD HF qd qr q U.s := ⟨gF, ⟨zs, gFr, hzs.mono fun _ _ => IdAt.same sH⟩, gFq, nrq⟩
          have hDF := sH _ _ hDN
          clear eF gd gdR sa hg hgR saR
          wtm_at "gs"
          refine i_setL hDF (ordK_ix hsd _ _) ?_
          rw [ordK_set hsd]
          wtm_at "abss"
          have hLD : ∀ l ∈ [D], ∃ xs, HF l = some (.lst xs) := fun l h => by rw [List.mem_singleton.mp h]; exact ⟨_, hDF⟩
          have sbd : SameBs [D] HF HN := fun b u n e => sb b u (fun c => n (by rw [c]; simp)) e
          have hnb := tw3.nb
          have nDr : r' ≠ D := (ne_of_none tw3.hb nr).symm
          have nDt : t' ≠ D := (ne_of_none tw3.hb nt).symm
          have nDqr : qr ≠ D := (ne_of_none hDN nqr).symm
          have nDq : q ≠ D := (ne_of_none hDN nq).symm
          have mem : ∀ l u1 u2, Hn l = some u1 → HM l = some u2 → l ∉ [r', t', qr, q] := fun l u1 u2 e1 e2 h => by
            simp only [List.mem_cons, List.not_mem_nil, or_false] at h
            rcases h with h | h | h | h
            · exact ne_of_none e1 nr h
            · exact ne_of_none e1 nt h
            · exact ne_of_none e2 nqr h
            · exact ne_of_none e2 nq h
          have eRx : ∃ u, HM r' = some u := by obtain ⟨_, e, _⟩ := hphX.hr; exact ⟨_, e⟩
          obtain ⟨uRx, eRx⟩ := eRx
          have eTx := hphX.ht
          refine hR _ _ ⟨_, U, ⟨x, dx', r', t', qd, qr, q, U.M, U.s⟩, m', rfl, ⟨hsd, sb _ _ nAD (sH _ _ hAN), hg, (hxU.same sH).buts hLD sbd (fun l h c => hnb.1 (by rw [← List.mem_singleton.mp c]; exact h)), ⟨(hphX.same sH).buts hLD sbd (by simpa using nDr) (by simpa using nDt), stF.buts hLD sbd (by simpa using nDqr) (by simpa using nDq), tw3.hx.ok, ⟨ne_of_none eRx nqr, ne_of_none eRx nq⟩, ne_of_none eTx nqr, ne_of_none eTx nq⟩, fun l hl => ?_, ⟨hna.1, mem _ _ _ tw3.ha hAN⟩, ⟨hnb.1, mem _ _ _ tw3.hb hDN⟩⟩, ⟨lU, lU⟩, ⟨nU, mem _ _ _ hCn hCN⟩, ⟨pU, mem _ _ _ gp gpN⟩, sb _ _ nLD.symm (sH _ _ hCN), sb _ _ pD (sH _ _ gpN)⟩
          obtain ⟨x1, e1⟩ := tw3.hx.lsts _ hl
          obtain ⟨x2, e2⟩ := hxU.lsts _ hl
          exact mem _ _ _ e1 e2
        case y1 =>
          obtain ⟨v11, U, W, mb, rfl, tw, ⟨lU, lW⟩, ⟨cU, cW⟩, ⟨pU, pW⟩, hC, gp⟩ := hJ
          have hA2 := tw.ha
          have hB2 := tw.hb
          obtain ⟨aA1, aA2⟩ := ordK_at hsd (.ref U.p) (.ref W.p)
          obtain ⟨aB1, aB2⟩ := ordK_at hsd (.ref U.o) (.ref W.o)
          have hst := tw.hx.st
          have ho := hst.ho
          have ht := hst.ht
          obtain ⟨zs, hr, hzs⟩ := hst.hr
          have lzs : zs.length = U.s.1.length := hzs.1
          have sl := tw.hx.ok.l
          have lt : (U.s.2.map V.int).length = U.s.2.length := List.length_map ..
          have m2 := tw.hx.ok.m2
          have m5 := tw.hx.ok.m5
          clear tw3 hCn nU nW
          have nst : ∀ b u, Hb b = some u → b ∈ U.ls ++ W.ls → b ≠ p1 := fun b u e h c => by
            rw [c] at h
            rcases List.mem_append.mp h with h | h
            · exact pU h
            · exact pW h
          wtm_at "gi"
          rw [lt]
          refine take_use (n := (U.s.2.length : Int)) gp (by omega) (log2_le (by omega) (by omega)) (fun mi m4 hmi0 hmi1 => ?_)
          have sp4 : SameBut p1 Hb (upd Hb p1 (.lst [.int m4])) := fun b u n e => by rw [upd_ne n]; exact e
          have sbp : SameBs [p1] Hb (upd Hb p1 (.lst [.int m4])) := fun b u n e => sp4 b u (fun c => n (by rw [c]; simp)) e
          have hLp : ∀ l ∈ [p1], ∃ xs, Hb l = some (.lst xs) := fun l h => by rw [List.mem_singleton.mp h]; exact ⟨_, gp⟩
          have dU : ∀ l ∈ U.ls, l ∉ [p1] := fun l h c => pU (by rw [← List.mem_singleton.mp c]; exact h)
          have dW : ∀ l ∈ W.ls, l ∉ [p1] := fun l h c => pW (by rw [← List.mem_singleton.mp c]; exact h)
          obtain ⟨H4, e4⟩ : ∃ y, y = upd Hb p1 (.lst [.int m4]) := ⟨_, rfl⟩
          rw [← e4] at sp4 sbp ⊢
          have tw4 : TwoAt a.PlainHall H4 LA D sd U W := ⟨hsd, sp4 _ _ pA.symm hA2, sp4 _ _ pD.symm hB2, tw.hx.buts hLp sbp dU, tw.hy.buts hLp sbp dW, tw.hd, tw.na, tw.nb⟩
          have hC4 := sp4 _ _ pC.symm hC
          clear e4 sbp sp4 hLp dU dW tw hA2 hB2 hst ho ht hr hzs gp hC
          have hA2 := tw4.ha
          have hB2 := tw4.hb
          have hst := tw4.hx.st
          have ho := hst.ho
          have ht := hst.ht
          obtain ⟨ws, hr, hws⟩ := hst.hr
          have lws : ws.length = U.s.1.length := hws.1
          wtm_at "gi"
          intro D5 hD5
          refine' lc_prL (fun _ _ => True) (.of hr) hD5 (by omega) (fun H H' y acc e s h => h) (fun x hx H1 Q1 R1 s1 ha k1 k2 => ?z1) (fun H5 ys s5 e5 l5 _ => ?z2)
          case z1 =>
            obtain ⟨ix, hix⟩ := List.getElem?_of_mem hx
            obtain ⟨z, _, qz, rfl, hqz⟩ := hws.get hix
            have hq1 := s1 _ _ hqz
            wtm_at "gs"
            · exact k1 _ _ (Same.refl _) trivial
            · exact k2 _ (Same.refl _)
          case z2 =>
            have tw5 := tw4.same s5
            have hC5 := s5 _ _ hC4
            have l5' : ys.length ≤ 30 := by omega
            clear hst ho ht hr hws hA2 hB2 tw4 hC4
            wtm_at "gi"
            have em : ((mi.toNat : Nat) : Int) = mi := by omega
            have okT : (Dd.tell mi.toNat).ok U.M := by show mi.toNat < U.M; omega
            have okA : ∀ k : Int, 1 ≤ k → (Dd.add mi k).ok U.M := fun k h => ⟨⟨hmi0, by omega⟩, h⟩
            have ddT : DdAt HN (.ref q) (.tell mi.toNat) := ⟨q, rfl, by show HN q = some (.tup [.str "tell", .int (mi.toNat : Nat)]); rw [em]; exact hg⟩
            have s6 : Same H5 HN ∧ True := ⟨sa, trivial⟩
            clear sa hg hq
            dsimp only [List.set]
            refine seq_rest (fun σ' Hb => ∃ v d, σ' = [some (.ref sp), some (.ref SZ), some (.ref LA), some (.ref D), v4, some (.int n), some (.ref p1), some (.int sd), some (.int wy), some (.int tn), some (.int r), v11, some (.ref U.o), some (.int mi), some (.int ys.length), v15, some v, v17] ∧ Same H5 Hb ∧ DdAt Hb v d ∧ d.ok U.M) (fun σ' Hb hJ => ?w1) (fun R hR => ?w2)
            case w2 =>
              wtm_at "gs"
              · exact hR _ _ ⟨_, .add mi (ys.length + 1), rfl, s6.1.trans sa, ⟨q, rfl, hg⟩, okA _ (by omega)⟩
              · exact hR _ _ ⟨_, _, rfl, s6.1, ddT, okT⟩
            case w1 =>
              obtain ⟨v, d, rfl, s7, hdd, hok⟩ := hJ
              refine seq_rest (fun σ' Hb => ∃ v d, σ' = [some (.ref sp), some (.ref SZ), some (.ref LA), some (.ref D), v4, some (.int n), some (.ref p1), some (.int sd), some (.int wy), some (.int tn), some (.int r), v11, some (.ref U.o), some (.int mi), some (.int ys.length), v15, some v, v17] ∧ Same H5 Hb ∧ DdAt Hb v d ∧ d.ok U.M) (fun σ' Hb hJ => ?x1) (fun R hR => ?x2)
              case x2 =>
                have w7 : Same H5 Hb ∧ True := ⟨s7, trivial⟩
                clear s7
                wtm_at "gs"
                · exact hR _ _ ⟨_, .add mi (maxP 1 (ys.length + 2 - r)), rfl, w7.1.trans sa, ⟨q, rfl, hg⟩, okA _ (by unfold maxP; split <;> omega)⟩
                · exact hR _ _ ⟨v, d, rfl, w7.1, hdd, hok⟩
              case x1 =>
                obtain ⟨v, d, rfl, s8, hdd, hok⟩ := hJ
                refine seq_rest (fun σ' Hb => ∃ v d, σ' = [some (.ref sp), some (.ref SZ), some (.ref LA), some (.ref D), v4, some (.int n), some (.ref p1), some (.int sd), some (.int wy), some (.int tn), some (.int r), v11, some (.ref U.o), some (.int mi), some (.int ys.length), v15, some v, v17] ∧ Same H5 Hb ∧ DdAt Hb v d ∧ d.ok U.M) (fun σ' Hb hJ => ?x3) (fun R hR => ?x4)
                case x4 =>
                  have w8 : Same H5 Hb ∧ True := ⟨s8, trivial⟩
                  clear s8
                  wtm_at "gs"
                  · exact hR _ _ ⟨_, .add mi (ys.length + 1 + r), rfl, w8.1.trans sa, ⟨q, rfl, hg⟩, okA _ (by omega)⟩
                  · exact hR _ _ ⟨v, d, rfl, w8.1, hdd, hok⟩
                case x3 =>
                  obtain ⟨v, d, rfl, s9, hdd, hok⟩ := hJ
                  have tw6 := tw5.same s9
                  have hokU := tw5.hx.ok
                  have hst6 := tw6.hx.st
                  have ho6 := hst6.ho
                  obtain ⟨zs, hr6, hzs⟩ := hst6.hr
                  have lzs : zs.length = U.s.1.length := hzs.1
                  refine seq_rest (fun σ' Hb => ∃ v d, σ' = [some (.ref sp), some (.ref SZ), some (.ref LA), some (.ref D), v4, some (.int n), some (.ref p1), some (.int sd), some (.int wy), some (.int tn), some (.int r), v11, some (.ref U.o), some (.int mi), some (.int ys.length), v15, some v, v17] ∧ Same H5 Hb ∧ DdAt Hb v d ∧ d.ok U.M ∧ (goOf U.s d).1.length ≤ 30) (fun σ' Hb hJ => ?x5) (fun R hR => ?x6)
                  case x6 =>
                    have w9 : Same H5 Hb ∧ True := ⟨s9, trivial⟩
                    clear s9 ddT tw5 tw6 hst6
                    wtm_at "gs"
                    · exact hR _ _ ⟨_, .tell mi.toNat, rfl, w9.1.trans sa, ⟨q, rfl, by show HN q = some (.tup [.str "tell", .int (mi.toNat : Nat)]); rw [em]; exact hg⟩, okT, by rw [goOf_tell]; exact lU⟩
                    · exact hR _ _ ⟨v, d, rfl, w9.1, hdd, hok, by have := (hokU.go hok).2; omega⟩
                  case x5 =>
                  clear s9 tw6 hst6 ho6 hr6 hzs lzs hdd hok ddT
                  obtain ⟨v, d, rfl, s10, hdd, hok, lgo⟩ := hJ
                  have tw7 := tw5.same s10
                  have hC7 := s10 _ _ hC5
                  have hA2 := tw7.ha
                  have hB2 := tw7.hb
                  have hphU := tw7.hx.ph
                  have hstU := tw7.hx.st
                  have hnU := tw7.hx.n
                  have hsU := tw7.hx.ok
                  have hlU : U.s.1.length ≤ 250 := by omega
                  clear tw5 s10 hC5
                  wtm_at "gs"
                  have twN := tw7.go sb hph' hst' (hsU.go hok).1
                  have hCN := sb _ _ cU hC7
                  obtain ⟨U2, eU⟩ : ∃ y, y = (⟨U.p, U.dx, U.r, U.t, U.o, U.r', U.t', U.M, goOf U.s d⟩ : Sd) := ⟨_, rfl⟩
                  have ep : U.p = U2.p := by rw [eU]
                  have eo : U.o = U2.o := by rw [eU]
                  have cU2 : LC ∉ U2.ls := by rw [eU]; exact cU
                  have lU2 : U2.s.1.length ≤ 30 := by rw [eU]; exact lgo
                  rw [← eU] at twN
                  rw [ep] at aA1 aA2
                  rw [eo] at aB1 aB2
                  rw [eo]
                  clear eU tw7 hph' hst' sb lgo hok hdd hC7 cU lU hsU hnU hstU hphU hA2 hB2 hlU ep eo pU okA okT em hmi0 hmi1 nst sl lt m2 m5
                  have hA2 := twN.ha
                  have hB2 := twN.hb
                  have hphW := twN.hy.ph
                  have hstW := twN.hy.st
                  have hsW := twN.hy.ok
                  have lW3 : W.s.1.length ≤ 300 := by omega
                  wtm_at "gs"
                  have tw8 := twN.same sm
                  obtain ⟨X, Y, tw0, lX, lY⟩ : ∃ X Y, TwoAt a.PlainHall HH LA D 0 X Y ∧ X.s.1.length ≤ 30 ∧ Y.s.1.length ≤ 30 := by
                    rcases tw8.to (.inl rfl) with h | h
                    · exact ⟨_, _, h, lU2, lW⟩
                    · exact ⟨_, _, h, lW, lU2⟩
                  have hA0 : HH LA = some (.lst [.ref X.p, .ref Y.p]) := tw0.ha
                  have hB0 : HH D = some (.lst [.ref X.o, .ref Y.o]) := tw0.hb
                  have hCN := sm _ _ hCN
                  clear hA2 hB2 hphW hstW twN sm
                  wtm_at "gs"
                  refine i_eqO tw0.hx.ph.hp (i_isoC tw0.hy.ph.hp T.c_PlainHall T.i_PlainHall (.inr rfl)) (spPEq_u1 tw0.hx.ph (by omega) (by rw [tw0.hx.ok.l]; exact tw0.hx.ok.m5) tw0.hy.ph (by omega) (by rw [tw0.hy.ok.l]; exact tw0.hy.ok.m5) (fun HE sE => ?_) rfl)
                  refine ⟨_, rfl, ?_⟩
                  rw [if_neg Bool.false_ne_true]
                  have tw1 := tw0.same sE
                  have hB1 : HE D = some (.lst [.ref X.o, .ref Y.o]) := tw1.hb
                  have tw9 := tw8.same sE
                  have hCE := sE _ _ hCN
                  clear hA0 hB0 tw0 sE tw8
                  wtm_at "gs"
                  obtain ⟨v1, v2⟩ := tw1.hx.eqv (K := K) tw1.hy tw1.hd
                  refine ⟨_, _, _, _, _, _, _, _, rfl, rfl, tw1.hx.st.ho, tw1.hy.st.ho, v1, v2, ?_⟩
                  obtain ⟨bb, ebb⟩ : ∃ b, b = (decide (X.s.1 = Y.s.1) && decide (X.s.2 = Y.s.2)) := ⟨_, rfl⟩
                  rw [← ebb]
                  refine i_neS rfl ?_
                  have fin : ∀ H', Same HE H' → ∃ X Y, TwoAt a.PlainHall H' LA D 0 X Y ∧ X.s.1.length ≤ 30 ∧ Y.s.1.length ≤ 30 ∧ (LC ∉ X.ls ∧ LC ∉ Y.ls) ∧ H' LC = some (.lst (cutV (ns.map V.int) (some 1) (some 61))) := fun H' s => by
                    rcases (tw9.same s).to (.inl rfl) with h | h
                    · exact ⟨_, _, h, lU2, lW, ⟨cU2, cW⟩, s _ _ hCE⟩
                    · exact ⟨_, _, h, lW, lU2, ⟨cW, cU2⟩, s _ _ hCE⟩
                  have hA2 := tw9.ha
                  have hphU := tw9.hx.ph
                  have hstU := tw9.hx.st
                  have hsU := tw9.hx.ok
                  have lU3 : U2.s.1.length ≤ 250 := by omega
                  have lU4 : U2.s.1.length ≤ 300 := by omega
                  clear hB1 tw9 tw1 v1 v2 ebb lX lY
                  refine i_bl ?_
                  rw [if_neg (by cases bb <;> decide)]
                  refine i_next ?_
                  wtm_at "gs"
                  all_goals
                    obtain ⟨X', Y', g1, g2, g3, g4, g5⟩ := fin HH (by wtm_at "same")
                    exact ⟨_, _, _, _, _, _, _, _, _, _, _, _, _, _, X', Y', rfl, g1, g2, g3, g4, g5⟩
end

set_option maxRecDepth 100000
section
variable {w : World} {K : PySem.W.Frag}
theorem z_a0 (c : hd.Says w K) : PySem.W.findIn K (.ref 57) "__init__" = some (some (.ref 54)) := c.v 0 (q := (fun K => PySem.W.findIn K (.ref 57) "__init__", some (some (.ref 54)))) (by kernel_rfl)
theorem z_a1 (c : hd.Says w K) : PySem.W.findIn K (.ref 76) "__init__" = some (some (.ref 73)) := c.v 1 (q := (fun K => PySem.W.findIn K (.ref 76) "__init__", some (some (.ref 73)))) (by kernel_rfl)
theorem z_a10 (c : hd.Says w K) : PySem.W.findIn K (.ref 263) "__init__" = some (some (.ref 197)) := c.v 2 (q := (fun K => PySem.W.findIn K (.ref 263) "__init__", some (some (.ref 197)))) (by kernel_rfl)
theorem z_a11 (c : hd.Says w K) : PySem.W.findIn K (.ref 263) "__eq__" = some (some (.ref 204)) := c.v 3 (q := (fun K => PySem.W.findIn K (.ref 263) "__eq__", some (some (.ref 204)))) (by kernel_rfl)
theorem z_a12 (c : hd.Says w K) : PySem.W.findIn K (.ref 263) "__len__" = some (some (.ref 211)) := c.v 4 (q := (fun K => PySem.W.findIn K (.ref 263) "__len__", some (some (.ref 211)))) (by kernel_rfl)
theorem z_a13 (c : hd.Says w K) : PySem.W.findIn K (.ref 263) "row" = some (some (.ref 218)) := c.v 5 (q := (fun K => PySem.W.findIn K (.ref 263) "row", some (some (.ref 218)))) (by kernel_rfl)
theorem z_a14 (c : hd.Says w K) : PySem.W.findIn K (.ref 263) "told_by" = some (some (.ref 225)) := c.v 6 (q := (fun K => PySem.W.findIn K (.ref 263) "told_by", some (some (.ref 225)))) (by kernel_rfl)
theorem z_a15 (c : hd.Says w K) : PySem.W.findIn K (.ref 263) "state" = some (some (.ref 232)) := c.v 7 (q := (fun K => PySem.W.findIn K (.ref 263) "state", some (some (.ref 232)))) (by kernel_rfl)
theorem z_a16 (c : hd.Says w K) : PySem.W.findIn K (.ref 263) "add_id" = some (some (.ref 239)) := c.v 8 (q := (fun K => PySem.W.findIn K (.ref 263) "add_id", some (some (.ref 239)))) (by kernel_rfl)
theorem z_a17 (c : hd.Says w K) : PySem.W.findIn K (.ref 263) "tell_next" = some (some (.ref 246)) := c.v 9 (q := (fun K => PySem.W.findIn K (.ref 263) "tell_next", some (some (.ref 246)))) (by kernel_rfl)
theorem z_a18 (c : hd.Says w K) : PySem.W.findIn K (.ref 263) "do" = some (some (.ref 253)) := c.v 10 (q := (fun K => PySem.W.findIn K (.ref 263) "do", some (some (.ref 253)))) (by kernel_rfl)
theorem z_a19 (c : hd.Says w K) : PySem.W.findIn K (.ref 263) "twin" = some (some (.ref 260)) := c.v 11 (q := (fun K => PySem.W.findIn K (.ref 263) "twin", some (some (.ref 260)))) (by kernel_rfl)
theorem z_a2 (c : hd.Says w K) : PySem.W.findIn K (.ref 95) "__init__" = some (some (.ref 92)) := c.v 12 (q := (fun K => PySem.W.findIn K (.ref 95) "__init__", some (some (.ref 92)))) (by kernel_rfl)
theorem z_a20 (c : hd.Says w K) : PySem.W.nsIn K mainGlobals "_law_cell_at" = some (some (.ref 274)) := c.v 13 (q := (fun K => PySem.W.nsIn K mainGlobals "_law_cell_at", some (some (.ref 274)))) (by kernel_rfl)
theorem z_a21 (c : hd.Says w K) : PySem.W.nsIn K mainGlobals "_law_pool" = some (some (.ref 281)) := c.v 14 (q := (fun K => PySem.W.nsIn K mainGlobals "_law_pool", some (some (.ref 281)))) (by kernel_rfl)
theorem z_a22 (c : hd.Says w K) : PySem.W.nsIn K mainGlobals "_law_take" = some (some (.ref 288)) := c.v 15 (q := (fun K => PySem.W.nsIn K mainGlobals "_law_take", some (some (.ref 288)))) (by kernel_rfl)
theorem z_a23 (c : hd.Says w K) : PySem.W.nsIn K mainGlobals "_law_did" = some (some (.ref 295)) := c.v 16 (q := (fun K => PySem.W.nsIn K mainGlobals "_law_did", some (some (.ref 295)))) (by kernel_rfl)
theorem z_a24 (c : hd.Says w K) : PySem.W.nsIn K mainGlobals "_law_due" = some (some (.ref 302)) := c.v 17 (q := (fun K => PySem.W.nsIn K mainGlobals "_law_due", some (some (.ref 302)))) (by kernel_rfl)
theorem z_a25 (c : hd.Says w K) : PySem.W.nsIn K mainGlobals "_law_no_member" = some (some (.ref 309)) := c.v 18 (q := (fun K => PySem.W.nsIn K mainGlobals "_law_no_member", some (some (.ref 309)))) (by kernel_rfl)
theorem z_a26 (c : hd.Says w K) : PySem.W.nsIn K mainGlobals "_law_stands" = some (some (.ref 316)) := c.v 19 (q := (fun K => PySem.W.nsIn K mainGlobals "_law_stands", some (some (.ref 316)))) (by kernel_rfl)
theorem z_a27 (c : hd.Says w K) : PySem.W.nsIn K mainGlobals "_law_bad" = some (some (.ref 321)) := c.v 20 (q := (fun K => PySem.W.nsIn K mainGlobals "_law_bad", some (some (.ref 321)))) (by kernel_rfl)
theorem z_a28 (c : hd.Says w K) : PySem.W.nsIn K mainGlobals "_law_made" = some (some (.ref 328)) := c.v 21 (q := (fun K => PySem.W.nsIn K mainGlobals "_law_made", some (some (.ref 328)))) (by kernel_rfl)
theorem z_a29 (c : hd.Says w K) : PySem.W.nsIn K mainGlobals "_law_done" = some (some (.ref 335)) := c.v 22 (q := (fun K => PySem.W.nsIn K mainGlobals "_law_done", some (some (.ref 335)))) (by kernel_rfl)
theorem z_a3 (c : hd.Says w K) : PySem.W.findIn K (.ref 114) "__init__" = some (some (.ref 111)) := c.v 23 (q := (fun K => PySem.W.findIn K (.ref 114) "__init__", some (some (.ref 111)))) (by kernel_rfl)
theorem z_a30 (c : hd.Says w K) : PySem.W.nsIn K mainGlobals "law" = some (some (.ref 340)) := c.v 24 (q := (fun K => PySem.W.nsIn K mainGlobals "law", some (some (.ref 340)))) (by kernel_rfl)
theorem z_a4 (c : hd.Says w K) : PySem.W.findIn K (.ref 133) "__init__" = some (some (.ref 130)) := c.v 25 (q := (fun K => PySem.W.findIn K (.ref 133) "__init__", some (some (.ref 130)))) (by kernel_rfl)
theorem z_a5 (c : hd.Says w K) : PySem.W.findIn K (.ref 152) "__init__" = some (some (.ref 149)) := c.v 26 (q := (fun K => PySem.W.findIn K (.ref 152) "__init__", some (some (.ref 149)))) (by kernel_rfl)
theorem z_a6 (c : hd.Says w K) : PySem.W.nsIn K mainGlobals "is_whole" = some (some (.ref 162)) := c.v 27 (q := (fun K => PySem.W.nsIn K mainGlobals "is_whole", some (some (.ref 162)))) (by kernel_rfl)
theorem z_a7 (c : hd.Says w K) : PySem.W.nsIn K mainGlobals "are_members" = some (some (.ref 169)) := c.v 28 (q := (fun K => PySem.W.nsIn K mainGlobals "are_members", some (some (.ref 169)))) (by kernel_rfl)
theorem z_a8 (c : hd.Says w K) : PySem.W.nsIn K mainGlobals "is_add" = some (some (.ref 176)) := c.v 29 (q := (fun K => PySem.W.nsIn K mainGlobals "is_add", some (some (.ref 176)))) (by kernel_rfl)
theorem z_a9 (c : hd.Says w K) : PySem.W.nsIn K mainGlobals "is_tell" = some (some (.ref 183)) := c.v 30 (q := (fun K => PySem.W.nsIn K mainGlobals "is_tell", some (some (.ref 183)))) (by kernel_rfl)
theorem z_aC0 (c : hd.Says w K) : PySem.W.nsIn K mainGlobals "HallError" = some (some (.ref 24)) := c.v 31 (q := (fun K => PySem.W.nsIn K mainGlobals "HallError", some (some (.ref 24)))) (by kernel_rfl)
theorem z_aC1 (c : hd.Says w K) : PySem.W.nsIn K mainGlobals "Barred" = some (some (.ref 37)) := c.v 32 (q := (fun K => PySem.W.nsIn K mainGlobals "Barred", some (some (.ref 37)))) (by kernel_rfl)
theorem z_aC2 (c : hd.Says w K) : PySem.W.nsIn K mainGlobals "NoNumber" = some (some (.ref 57)) := c.v 33 (q := (fun K => PySem.W.nsIn K mainGlobals "NoNumber", some (some (.ref 57)))) (by kernel_rfl)
theorem z_aC3 (c : hd.Says w K) : PySem.W.nsIn K mainGlobals "NoMember" = some (some (.ref 76)) := c.v 34 (q := (fun K => PySem.W.nsIn K mainGlobals "NoMember", some (some (.ref 76)))) (by kernel_rfl)
theorem z_aC4 (c : hd.Says w K) : PySem.W.nsIn K mainGlobals "NoDeed" = some (some (.ref 95)) := c.v 35 (q := (fun K => PySem.W.nsIn K mainGlobals "NoDeed", some (some (.ref 95)))) (by kernel_rfl)
theorem z_aC5 (c : hd.Says w K) : PySem.W.nsIn K mainGlobals "Lacks" = some (some (.ref 114)) := c.v 36 (q := (fun K => PySem.W.nsIn K mainGlobals "Lacks", some (some (.ref 114)))) (by kernel_rfl)
theorem z_aC6 (c : hd.Says w K) : PySem.W.nsIn K mainGlobals "Known" = some (some (.ref 133)) := c.v 37 (q := (fun K => PySem.W.nsIn K mainGlobals "Known", some (some (.ref 133)))) (by kernel_rfl)
theorem z_aC7 (c : hd.Says w K) : PySem.W.nsIn K mainGlobals "AllTold" = some (some (.ref 152)) := c.v 38 (q := (fun K => PySem.W.nsIn K mainGlobals "AllTold", some (some (.ref 152)))) (by kernel_rfl)
theorem z_aC8 (c : hd.Says w K) : PySem.W.nsIn K mainGlobals "PlainHall" = some (some (.ref 263)) := c.v 39 (q := (fun K => PySem.W.nsIn K mainGlobals "PlainHall", some (some (.ref 263)))) (by kernel_rfl)
theorem z_ga0 (c : hd.Says w K) : PySem.W.findIn K (.ref 24) "__getattribute__" = some (some (.builtin "BaseException.__getattribute__")) := c.v 40 (q := (fun K => PySem.W.findIn K (.ref 24) "__getattribute__", some (some (.builtin "BaseException.__getattribute__")))) (by kernel_rfl)
theorem z_ga1 (c : hd.Says w K) : PySem.W.findIn K (.ref 37) "__getattribute__" = some (some (.builtin "BaseException.__getattribute__")) := c.v 41 (q := (fun K => PySem.W.findIn K (.ref 37) "__getattribute__", some (some (.builtin "BaseException.__getattribute__")))) (by kernel_rfl)
theorem z_ga2 (c : hd.Says w K) : PySem.W.findIn K (.ref 57) "__getattribute__" = some (some (.builtin "BaseException.__getattribute__")) := c.v 42 (q := (fun K => PySem.W.findIn K (.ref 57) "__getattribute__", some (some (.builtin "BaseException.__getattribute__")))) (by kernel_rfl)
theorem z_ga3 (c : hd.Says w K) : PySem.W.findIn K (.ref 76) "__getattribute__" = some (some (.builtin "BaseException.__getattribute__")) := c.v 43 (q := (fun K => PySem.W.findIn K (.ref 76) "__getattribute__", some (some (.builtin "BaseException.__getattribute__")))) (by kernel_rfl)
theorem z_ga4 (c : hd.Says w K) : PySem.W.findIn K (.ref 95) "__getattribute__" = some (some (.builtin "BaseException.__getattribute__")) := c.v 44 (q := (fun K => PySem.W.findIn K (.ref 95) "__getattribute__", some (some (.builtin "BaseException.__getattribute__")))) (by kernel_rfl)
theorem z_ga5 (c : hd.Says w K) : PySem.W.findIn K (.ref 114) "__getattribute__" = some (some (.builtin "BaseException.__getattribute__")) := c.v 45 (q := (fun K => PySem.W.findIn K (.ref 114) "__getattribute__", some (some (.builtin "BaseException.__getattribute__")))) (by kernel_rfl)
theorem z_ga6 (c : hd.Says w K) : PySem.W.findIn K (.ref 133) "__getattribute__" = some (some (.builtin "BaseException.__getattribute__")) := c.v 46 (q := (fun K => PySem.W.findIn K (.ref 133) "__getattribute__", some (some (.builtin "BaseException.__getattribute__")))) (by kernel_rfl)
theorem z_ga7 (c : hd.Says w K) : PySem.W.findIn K (.ref 152) "__getattribute__" = some (some (.builtin "BaseException.__getattribute__")) := c.v 47 (q := (fun K => PySem.W.findIn K (.ref 152) "__getattribute__", some (some (.builtin "BaseException.__getattribute__")))) (by kernel_rfl)
theorem z_gg0 (c : hd.Says w K) : PySem.W.findIn K (.ref 24) "__getattr__" = some none := c.v 48 (q := (fun K => PySem.W.findIn K (.ref 24) "__getattr__", some none)) (by kernel_rfl)
theorem z_gg1 (c : hd.Says w K) : PySem.W.findIn K (.ref 37) "__getattr__" = some none := c.v 49 (q := (fun K => PySem.W.findIn K (.ref 37) "__getattr__", some none)) (by kernel_rfl)
theorem z_gg2 (c : hd.Says w K) : PySem.W.findIn K (.ref 57) "__getattr__" = some none := c.v 50 (q := (fun K => PySem.W.findIn K (.ref 57) "__getattr__", some none)) (by kernel_rfl)
theorem z_gg3 (c : hd.Says w K) : PySem.W.findIn K (.ref 76) "__getattr__" = some none := c.v 51 (q := (fun K => PySem.W.findIn K (.ref 76) "__getattr__", some none)) (by kernel_rfl)
theorem z_gg4 (c : hd.Says w K) : PySem.W.findIn K (.ref 95) "__getattr__" = some none := c.v 52 (q := (fun K => PySem.W.findIn K (.ref 95) "__getattr__", some none)) (by kernel_rfl)
theorem z_gg5 (c : hd.Says w K) : PySem.W.findIn K (.ref 114) "__getattr__" = some none := c.v 53 (q := (fun K => PySem.W.findIn K (.ref 114) "__getattr__", some none)) (by kernel_rfl)
theorem z_gg6 (c : hd.Says w K) : PySem.W.findIn K (.ref 133) "__getattr__" = some none := c.v 54 (q := (fun K => PySem.W.findIn K (.ref 133) "__getattr__", some none)) (by kernel_rfl)
theorem z_gg7 (c : hd.Says w K) : PySem.W.findIn K (.ref 152) "__getattr__" = some none := c.v 55 (q := (fun K => PySem.W.findIn K (.ref 152) "__getattr__", some none)) (by kernel_rfl)
theorem z_gl0 (c : hd.Says w K) : conB K "LEAST_MEMBERS" (V.int 2) = true := c.b 0 (q := fun K => conB K "LEAST_MEMBERS" (V.int 2)) (by kernel_rfl)
theorem z_gl1 (c : hd.Says w K) : conB K "MOST_MEMBERS" (V.int 5) = true := c.b 1 (q := fun K => conB K "MOST_MEMBERS" (V.int 5)) (by kernel_rfl)
theorem z_hd0 (c : hd.Says w K) : PySem.W.hasDictIn K 24 = true := c.b 2 (q := fun K => PySem.W.hasDictIn K 24) (by kernel_rfl)
theorem z_hd1 (c : hd.Says w K) : PySem.W.hasDictIn K 37 = true := c.b 3 (q := fun K => PySem.W.hasDictIn K 37) (by kernel_rfl)
theorem z_hd2 (c : hd.Says w K) : PySem.W.hasDictIn K 57 = true := c.b 4 (q := fun K => PySem.W.hasDictIn K 57) (by kernel_rfl)
theorem z_hd3 (c : hd.Says w K) : PySem.W.hasDictIn K 76 = true := c.b 5 (q := fun K => PySem.W.hasDictIn K 76) (by kernel_rfl)
theorem z_hd4 (c : hd.Says w K) : PySem.W.hasDictIn K 95 = true := c.b 6 (q := fun K => PySem.W.hasDictIn K 95) (by kernel_rfl)
theorem z_hd5 (c : hd.Says w K) : PySem.W.hasDictIn K 114 = true := c.b 7 (q := fun K => PySem.W.hasDictIn K 114) (by kernel_rfl)
theorem z_hd6 (c : hd.Says w K) : PySem.W.hasDictIn K 133 = true := c.b 8 (q := fun K => PySem.W.hasDictIn K 133) (by kernel_rfl)
theorem z_hd7 (c : hd.Says w K) : PySem.W.hasDictIn K 152 = true := c.b 9 (q := fun K => PySem.W.hasDictIn K 152) (by kernel_rfl)
theorem z_hd8 (c : hd.Says w K) : PySem.W.hasDictIn K 263 = true := c.b 10 (q := fun K => PySem.W.hasDictIn K 263) (by kernel_rfl)
theorem z_hf0 (c : hd.Says w K) : PySem.W.findCls K (.ref 24) (.type "type") "__init__" = some (.val (.builtin "ValueError.__init__")) := c.c 0 (q := (fun K => PySem.W.findCls K (.ref 24) (.type "type") "__init__", some (.val (.builtin "ValueError.__init__")))) (by kernel_rfl)
theorem z_hf1 (c : hd.Says w K) : PySem.W.findCls K (.ref 37) (.type "type") "__init__" = some (.val (.builtin "LookupError.__init__")) := c.c 1 (q := (fun K => PySem.W.findCls K (.ref 37) (.type "type") "__init__", some (.val (.builtin "LookupError.__init__")))) (by kernel_rfl)
theorem z_hn (c : hd.Says w K) : PySem.W.specialIn K (.builtin "object.__class__") "__get__" = some (some (.builtin "getset_descriptor.__get__")) := c.v 56 (q := (fun K => PySem.W.specialIn K (.builtin "object.__class__") "__get__", some (some (.builtin "getset_descriptor.__get__")))) (by kernel_rfl)
theorem z_hq0 (c : hd.Says w K) : PySem.W.readsIn K 24 (.type "type") = true := c.b 11 (q := fun K => PySem.W.readsIn K 24 (.type "type")) (by kernel_rfl)
theorem z_hq1 (c : hd.Says w K) : PySem.W.readsIn K 37 (.type "type") = true := c.b 12 (q := fun K => PySem.W.readsIn K 37 (.type "type")) (by kernel_rfl)
theorem z_hs0 (c : hd.Says w K) : PySem.W.specialIn K (.ref 24) "__getattribute__" = some (some (.builtin "type.__getattribute__")) := c.v 57 (q := (fun K => PySem.W.specialIn K (.ref 24) "__getattribute__", some (some (.builtin "type.__getattribute__")))) (by kernel_rfl)
theorem z_hs1 (c : hd.Says w K) : PySem.W.specialIn K (.ref 37) "__getattribute__" = some (some (.builtin "type.__getattribute__")) := c.v 58 (q := (fun K => PySem.W.specialIn K (.ref 37) "__getattribute__", some (some (.builtin "type.__getattribute__")))) (by kernel_rfl)
theorem z_htk (c : hd.Says w K) : PySem.W.takesIn K (.builtin "object.__class__") = some true := c.o 0 (q := (fun K => PySem.W.takesIn K (.builtin "object.__class__"), some true)) (by kernel_rfl)
theorem z_i0 (c : hd.Says w K) : PySem.W.isFn K (.ref 54) = true := c.b 13 (q := fun K => PySem.W.isFn K (.ref 54)) (by kernel_rfl)
theorem z_i1 (c : hd.Says w K) : PySem.W.isFn K (.ref 73) = true := c.b 14 (q := fun K => PySem.W.isFn K (.ref 73)) (by kernel_rfl)
theorem z_i10 (c : hd.Says w K) : PySem.W.isFn K (.ref 197) = true := c.b 15 (q := fun K => PySem.W.isFn K (.ref 197)) (by kernel_rfl)
theorem z_i11 (c : hd.Says w K) : PySem.W.isFn K (.ref 204) = true := c.b 16 (q := fun K => PySem.W.isFn K (.ref 204)) (by kernel_rfl)
theorem z_i12 (c : hd.Says w K) : PySem.W.isFn K (.ref 211) = true := c.b 17 (q := fun K => PySem.W.isFn K (.ref 211)) (by kernel_rfl)
theorem z_i13 (c : hd.Says w K) : PySem.W.isFn K (.ref 218) = true := c.b 18 (q := fun K => PySem.W.isFn K (.ref 218)) (by kernel_rfl)
theorem z_i14 (c : hd.Says w K) : PySem.W.isFn K (.ref 225) = true := c.b 19 (q := fun K => PySem.W.isFn K (.ref 225)) (by kernel_rfl)
theorem z_i15 (c : hd.Says w K) : PySem.W.isFn K (.ref 232) = true := c.b 20 (q := fun K => PySem.W.isFn K (.ref 232)) (by kernel_rfl)
theorem z_i16 (c : hd.Says w K) : PySem.W.isFn K (.ref 239) = true := c.b 21 (q := fun K => PySem.W.isFn K (.ref 239)) (by kernel_rfl)
theorem z_i17 (c : hd.Says w K) : PySem.W.isFn K (.ref 246) = true := c.b 22 (q := fun K => PySem.W.isFn K (.ref 246)) (by kernel_rfl)
theorem z_i18 (c : hd.Says w K) : PySem.W.isFn K (.ref 253) = true := c.b 23 (q := fun K => PySem.W.isFn K (.ref 253)) (by kernel_rfl)
theorem z_i19 (c : hd.Says w K) : PySem.W.isFn K (.ref 260) = true := c.b 24 (q := fun K => PySem.W.isFn K (.ref 260)) (by kernel_rfl)
theorem z_i2 (c : hd.Says w K) : PySem.W.isFn K (.ref 92) = true := c.b 25 (q := fun K => PySem.W.isFn K (.ref 92)) (by kernel_rfl)
theorem z_i3 (c : hd.Says w K) : PySem.W.isFn K (.ref 111) = true := c.b 26 (q := fun K => PySem.W.isFn K (.ref 111)) (by kernel_rfl)
theorem z_i4 (c : hd.Says w K) : PySem.W.isFn K (.ref 130) = true := c.b 27 (q := fun K => PySem.W.isFn K (.ref 130)) (by kernel_rfl)
theorem z_i5 (c : hd.Says w K) : PySem.W.isFn K (.ref 149) = true := c.b 28 (q := fun K => PySem.W.isFn K (.ref 149)) (by kernel_rfl)
theorem z_ia0 (c : hd.Says w K) : PySem.W.findIn K (.ref 24) "__class__" = some (some (.builtin "object.__class__")) := c.v 59 (q := (fun K => PySem.W.findIn K (.ref 24) "__class__", some (some (.builtin "object.__class__")))) (by kernel_rfl)
theorem z_ia1 (c : hd.Says w K) : PySem.W.findIn K (.ref 37) "__class__" = some (some (.builtin "object.__class__")) := c.v 60 (q := (fun K => PySem.W.findIn K (.ref 37) "__class__", some (some (.builtin "object.__class__")))) (by kernel_rfl)
theorem z_ia2 (c : hd.Says w K) : PySem.W.findIn K (.ref 57) "__class__" = some (some (.builtin "object.__class__")) := c.v 61 (q := (fun K => PySem.W.findIn K (.ref 57) "__class__", some (some (.builtin "object.__class__")))) (by kernel_rfl)
theorem z_ia3 (c : hd.Says w K) : PySem.W.findIn K (.ref 76) "__class__" = some (some (.builtin "object.__class__")) := c.v 62 (q := (fun K => PySem.W.findIn K (.ref 76) "__class__", some (some (.builtin "object.__class__")))) (by kernel_rfl)
theorem z_ia4 (c : hd.Says w K) : PySem.W.findIn K (.ref 95) "__class__" = some (some (.builtin "object.__class__")) := c.v 63 (q := (fun K => PySem.W.findIn K (.ref 95) "__class__", some (some (.builtin "object.__class__")))) (by kernel_rfl)
theorem z_ia5 (c : hd.Says w K) : PySem.W.findIn K (.ref 114) "__class__" = some (some (.builtin "object.__class__")) := c.v 64 (q := (fun K => PySem.W.findIn K (.ref 114) "__class__", some (some (.builtin "object.__class__")))) (by kernel_rfl)
theorem z_ia6 (c : hd.Says w K) : PySem.W.findIn K (.ref 133) "__class__" = some (some (.builtin "object.__class__")) := c.v 65 (q := (fun K => PySem.W.findIn K (.ref 133) "__class__", some (some (.builtin "object.__class__")))) (by kernel_rfl)
theorem z_ia7 (c : hd.Says w K) : PySem.W.findIn K (.ref 152) "__class__" = some (some (.builtin "object.__class__")) := c.v 66 (q := (fun K => PySem.W.findIn K (.ref 152) "__class__", some (some (.builtin "object.__class__")))) (by kernel_rfl)
theorem z_ia8 (c : hd.Says w K) : PySem.W.findIn K (.ref 263) "__class__" = some (some (.builtin "object.__class__")) := c.v 67 (q := (fun K => PySem.W.findIn K (.ref 263) "__class__", some (some (.builtin "object.__class__")))) (by kernel_rfl)
theorem z_ic0 (c : hd.Says w K) : PySem.W.isClsIn K 24 = true := c.b 29 (q := fun K => PySem.W.isClsIn K 24) (by kernel_rfl)
theorem z_ic1 (c : hd.Says w K) : PySem.W.isClsIn K 37 = true := c.b 30 (q := fun K => PySem.W.isClsIn K 37) (by kernel_rfl)
theorem z_ic2 (c : hd.Says w K) : PySem.W.isClsIn K 57 = true := c.b 31 (q := fun K => PySem.W.isClsIn K 57) (by kernel_rfl)
theorem z_ic3 (c : hd.Says w K) : PySem.W.isClsIn K 76 = true := c.b 32 (q := fun K => PySem.W.isClsIn K 76) (by kernel_rfl)
theorem z_ic4 (c : hd.Says w K) : PySem.W.isClsIn K 95 = true := c.b 33 (q := fun K => PySem.W.isClsIn K 95) (by kernel_rfl)
theorem z_ic5 (c : hd.Says w K) : PySem.W.isClsIn K 114 = true := c.b 34 (q := fun K => PySem.W.isClsIn K 114) (by kernel_rfl)
theorem z_ic6 (c : hd.Says w K) : PySem.W.isClsIn K 133 = true := c.b 35 (q := fun K => PySem.W.isClsIn K 133) (by kernel_rfl)
theorem z_ic7 (c : hd.Says w K) : PySem.W.isClsIn K 152 = true := c.b 36 (q := fun K => PySem.W.isClsIn K 152) (by kernel_rfl)
theorem z_ic8 (c : hd.Says w K) : PySem.W.isClsIn K 263 = true := c.b 37 (q := fun K => PySem.W.isClsIn K 263) (by kernel_rfl)
theorem z_ii8NoneType (c : hd.Says w K) : PySem.W.subIn K (.type "NoneType") (.ref 263) = some false := c.o 1 (q := (fun K => PySem.W.subIn K (.type "NoneType") (.ref 263), some false)) (by kernel_rfl)
theorem z_ii8bool (c : hd.Says w K) : PySem.W.subIn K (.type "bool") (.ref 263) = some false := c.o 2 (q := (fun K => PySem.W.subIn K (.type "bool") (.ref 263), some false)) (by kernel_rfl)
theorem z_ii8dict (c : hd.Says w K) : PySem.W.subIn K (.type "dict") (.ref 263) = some false := c.o 3 (q := (fun K => PySem.W.subIn K (.type "dict") (.ref 263), some false)) (by kernel_rfl)
theorem z_ii8int (c : hd.Says w K) : PySem.W.subIn K (.type "int") (.ref 263) = some false := c.o 4 (q := (fun K => PySem.W.subIn K (.type "int") (.ref 263), some false)) (by kernel_rfl)
theorem z_ii8list (c : hd.Says w K) : PySem.W.subIn K (.type "list") (.ref 263) = some false := c.o 5 (q := (fun K => PySem.W.subIn K (.type "list") (.ref 263), some false)) (by kernel_rfl)
theorem z_ii8str (c : hd.Says w K) : PySem.W.subIn K (.type "str") (.ref 263) = some false := c.o 6 (q := (fun K => PySem.W.subIn K (.type "str") (.ref 263), some false)) (by kernel_rfl)
theorem z_ii8tuple (c : hd.Says w K) : PySem.W.subIn K (.type "tuple") (.ref 263) = some false := c.o 7 (q := (fun K => PySem.W.subIn K (.type "tuple") (.ref 263), some false)) (by kernel_rfl)
theorem z_im0 (c : hd.Says w K) : PySem.W.mroIn K 24 (.type "object") = some true := c.o 8 (q := (fun K => PySem.W.mroIn K 24 (.type "object"), some true)) (by kernel_rfl)
theorem z_im1 (c : hd.Says w K) : PySem.W.mroIn K 37 (.type "object") = some true := c.o 9 (q := (fun K => PySem.W.mroIn K 37 (.type "object"), some true)) (by kernel_rfl)
theorem z_im2 (c : hd.Says w K) : PySem.W.mroIn K 57 (.type "object") = some true := c.o 10 (q := (fun K => PySem.W.mroIn K 57 (.type "object"), some true)) (by kernel_rfl)
theorem z_im3 (c : hd.Says w K) : PySem.W.mroIn K 76 (.type "object") = some true := c.o 11 (q := (fun K => PySem.W.mroIn K 76 (.type "object"), some true)) (by kernel_rfl)
theorem z_im4 (c : hd.Says w K) : PySem.W.mroIn K 95 (.type "object") = some true := c.o 12 (q := (fun K => PySem.W.mroIn K 95 (.type "object"), some true)) (by kernel_rfl)
theorem z_im5 (c : hd.Says w K) : PySem.W.mroIn K 114 (.type "object") = some true := c.o 13 (q := (fun K => PySem.W.mroIn K 114 (.type "object"), some true)) (by kernel_rfl)
theorem z_im6 (c : hd.Says w K) : PySem.W.mroIn K 133 (.type "object") = some true := c.o 14 (q := (fun K => PySem.W.mroIn K 133 (.type "object"), some true)) (by kernel_rfl)
theorem z_im7 (c : hd.Says w K) : PySem.W.mroIn K 152 (.type "object") = some true := c.o 15 (q := (fun K => PySem.W.mroIn K 152 (.type "object"), some true)) (by kernel_rfl)
theorem z_im8 (c : hd.Says w K) : PySem.W.mroIn K 263 (.type "object") = some true := c.o 16 (q := (fun K => PySem.W.mroIn K 263 (.type "object"), some true)) (by kernel_rfl)
theorem z_io8bool (c : hd.Says w K) : PySem.W.subIn K (.ref 263) (.type "bool") = some false := c.o 17 (q := (fun K => PySem.W.subIn K (.ref 263) (.type "bool"), some false)) (by kernel_rfl)
theorem z_io8dict (c : hd.Says w K) : PySem.W.subIn K (.ref 263) (.type "dict") = some false := c.o 18 (q := (fun K => PySem.W.subIn K (.ref 263) (.type "dict"), some false)) (by kernel_rfl)
theorem z_io8int (c : hd.Says w K) : PySem.W.subIn K (.ref 263) (.type "int") = some false := c.o 19 (q := (fun K => PySem.W.subIn K (.ref 263) (.type "int"), some false)) (by kernel_rfl)
theorem z_io8list (c : hd.Says w K) : PySem.W.subIn K (.ref 263) (.type "list") = some false := c.o 20 (q := (fun K => PySem.W.subIn K (.ref 263) (.type "list"), some false)) (by kernel_rfl)
theorem z_io8str (c : hd.Says w K) : PySem.W.subIn K (.ref 263) (.type "str") = some false := c.o 21 (q := (fun K => PySem.W.subIn K (.ref 263) (.type "str"), some false)) (by kernel_rfl)
theorem z_io8tuple (c : hd.Says w K) : PySem.W.subIn K (.ref 263) (.type "tuple") = some false := c.o 22 (q := (fun K => PySem.W.subIn K (.ref 263) (.type "tuple"), some false)) (by kernel_rfl)
theorem z_it0 (c : hd.Says w K) : PySem.W.typeIn K (.ref 24) = some (.type "type") := c.u 0 (q := (fun K => PySem.W.typeIn K (.ref 24), some (.type "type"))) (by kernel_rfl)
theorem z_it1 (c : hd.Says w K) : PySem.W.typeIn K (.ref 37) = some (.type "type") := c.u 1 (q := (fun K => PySem.W.typeIn K (.ref 37), some (.type "type"))) (by kernel_rfl)
theorem z_it2 (c : hd.Says w K) : PySem.W.typeIn K (.ref 57) = some (.type "type") := c.u 2 (q := (fun K => PySem.W.typeIn K (.ref 57), some (.type "type"))) (by kernel_rfl)
theorem z_it3 (c : hd.Says w K) : PySem.W.typeIn K (.ref 76) = some (.type "type") := c.u 3 (q := (fun K => PySem.W.typeIn K (.ref 76), some (.type "type"))) (by kernel_rfl)
theorem z_it4 (c : hd.Says w K) : PySem.W.typeIn K (.ref 95) = some (.type "type") := c.u 4 (q := (fun K => PySem.W.typeIn K (.ref 95), some (.type "type"))) (by kernel_rfl)
theorem z_it5 (c : hd.Says w K) : PySem.W.typeIn K (.ref 114) = some (.type "type") := c.u 5 (q := (fun K => PySem.W.typeIn K (.ref 114), some (.type "type"))) (by kernel_rfl)
theorem z_it6 (c : hd.Says w K) : PySem.W.typeIn K (.ref 133) = some (.type "type") := c.u 6 (q := (fun K => PySem.W.typeIn K (.ref 133), some (.type "type"))) (by kernel_rfl)
theorem z_it7 (c : hd.Says w K) : PySem.W.typeIn K (.ref 152) = some (.type "type") := c.u 7 (q := (fun K => PySem.W.typeIn K (.ref 152), some (.type "type"))) (by kernel_rfl)
theorem z_it8 (c : hd.Says w K) : PySem.W.typeIn K (.ref 263) = some (.type "type") := c.u 8 (q := (fun K => PySem.W.typeIn K (.ref 263), some (.type "type"))) (by kernel_rfl)
theorem z_k0 (c : hd.Says w K) : PySem.W.keepIn K (.ref 54) = true := c.b 38 (q := fun K => PySem.W.keepIn K (.ref 54)) (by kernel_rfl)
theorem z_k1 (c : hd.Says w K) : PySem.W.keepIn K (.ref 73) = true := c.b 39 (q := fun K => PySem.W.keepIn K (.ref 73)) (by kernel_rfl)
theorem z_k10 (c : hd.Says w K) : PySem.W.keepIn K (.ref 197) = true := c.b 40 (q := fun K => PySem.W.keepIn K (.ref 197)) (by kernel_rfl)
theorem z_k11 (c : hd.Says w K) : PySem.W.keepIn K (.ref 204) = true := c.b 41 (q := fun K => PySem.W.keepIn K (.ref 204)) (by kernel_rfl)
theorem z_k12 (c : hd.Says w K) : PySem.W.keepIn K (.ref 211) = true := c.b 42 (q := fun K => PySem.W.keepIn K (.ref 211)) (by kernel_rfl)
theorem z_k13 (c : hd.Says w K) : PySem.W.keepIn K (.ref 218) = true := c.b 43 (q := fun K => PySem.W.keepIn K (.ref 218)) (by kernel_rfl)
theorem z_k14 (c : hd.Says w K) : PySem.W.keepIn K (.ref 225) = true := c.b 44 (q := fun K => PySem.W.keepIn K (.ref 225)) (by kernel_rfl)
theorem z_k15 (c : hd.Says w K) : PySem.W.keepIn K (.ref 232) = true := c.b 45 (q := fun K => PySem.W.keepIn K (.ref 232)) (by kernel_rfl)
theorem z_k16 (c : hd.Says w K) : PySem.W.keepIn K (.ref 239) = true := c.b 46 (q := fun K => PySem.W.keepIn K (.ref 239)) (by kernel_rfl)
theorem z_k17 (c : hd.Says w K) : PySem.W.keepIn K (.ref 246) = true := c.b 47 (q := fun K => PySem.W.keepIn K (.ref 246)) (by kernel_rfl)
theorem z_k18 (c : hd.Says w K) : PySem.W.keepIn K (.ref 253) = true := c.b 48 (q := fun K => PySem.W.keepIn K (.ref 253)) (by kernel_rfl)
theorem z_k19 (c : hd.Says w K) : PySem.W.keepIn K (.ref 260) = true := c.b 49 (q := fun K => PySem.W.keepIn K (.ref 260)) (by kernel_rfl)
theorem z_k2 (c : hd.Says w K) : PySem.W.keepIn K (.ref 92) = true := c.b 50 (q := fun K => PySem.W.keepIn K (.ref 92)) (by kernel_rfl)
theorem z_k20 (c : hd.Says w K) : PySem.W.keepIn K (.ref 274) = true := c.b 51 (q := fun K => PySem.W.keepIn K (.ref 274)) (by kernel_rfl)
theorem z_k21 (c : hd.Says w K) : PySem.W.keepIn K (.ref 281) = true := c.b 52 (q := fun K => PySem.W.keepIn K (.ref 281)) (by kernel_rfl)
theorem z_k22 (c : hd.Says w K) : PySem.W.keepIn K (.ref 288) = true := c.b 53 (q := fun K => PySem.W.keepIn K (.ref 288)) (by kernel_rfl)
theorem z_k23 (c : hd.Says w K) : PySem.W.keepIn K (.ref 295) = true := c.b 54 (q := fun K => PySem.W.keepIn K (.ref 295)) (by kernel_rfl)
theorem z_k24 (c : hd.Says w K) : PySem.W.keepIn K (.ref 302) = true := c.b 55 (q := fun K => PySem.W.keepIn K (.ref 302)) (by kernel_rfl)
theorem z_k25 (c : hd.Says w K) : PySem.W.keepIn K (.ref 309) = true := c.b 56 (q := fun K => PySem.W.keepIn K (.ref 309)) (by kernel_rfl)
theorem z_k26 (c : hd.Says w K) : PySem.W.keepIn K (.ref 316) = true := c.b 57 (q := fun K => PySem.W.keepIn K (.ref 316)) (by kernel_rfl)
theorem z_k27 (c : hd.Says w K) : PySem.W.keepIn K (.ref 321) = true := c.b 58 (q := fun K => PySem.W.keepIn K (.ref 321)) (by kernel_rfl)
theorem z_k28 (c : hd.Says w K) : PySem.W.keepIn K (.ref 328) = true := c.b 59 (q := fun K => PySem.W.keepIn K (.ref 328)) (by kernel_rfl)
theorem z_k29 (c : hd.Says w K) : PySem.W.keepIn K (.ref 335) = true := c.b 60 (q := fun K => PySem.W.keepIn K (.ref 335)) (by kernel_rfl)
theorem z_k3 (c : hd.Says w K) : PySem.W.keepIn K (.ref 111) = true := c.b 61 (q := fun K => PySem.W.keepIn K (.ref 111)) (by kernel_rfl)
theorem z_k30 (c : hd.Says w K) : PySem.W.keepIn K (.ref 340) = true := c.b 62 (q := fun K => PySem.W.keepIn K (.ref 340)) (by kernel_rfl)
theorem z_k4 (c : hd.Says w K) : PySem.W.keepIn K (.ref 130) = true := c.b 63 (q := fun K => PySem.W.keepIn K (.ref 130)) (by kernel_rfl)
theorem z_k5 (c : hd.Says w K) : PySem.W.keepIn K (.ref 149) = true := c.b 64 (q := fun K => PySem.W.keepIn K (.ref 149)) (by kernel_rfl)
theorem z_k6 (c : hd.Says w K) : PySem.W.keepIn K (.ref 162) = true := c.b 65 (q := fun K => PySem.W.keepIn K (.ref 162)) (by kernel_rfl)
theorem z_k7 (c : hd.Says w K) : PySem.W.keepIn K (.ref 169) = true := c.b 66 (q := fun K => PySem.W.keepIn K (.ref 169)) (by kernel_rfl)
theorem z_k8 (c : hd.Says w K) : PySem.W.keepIn K (.ref 176) = true := c.b 67 (q := fun K => PySem.W.keepIn K (.ref 176)) (by kernel_rfl)
theorem z_k9 (c : hd.Says w K) : PySem.W.keepIn K (.ref 183) = true := c.b 68 (q := fun K => PySem.W.keepIn K (.ref 183)) (by kernel_rfl)
theorem z_kc2 (c : hd.Says w K) : PySem.W.keepIn K (.ref 57) = true := c.b 69 (q := fun K => PySem.W.keepIn K (.ref 57)) (by kernel_rfl)
theorem z_kc3 (c : hd.Says w K) : PySem.W.keepIn K (.ref 76) = true := c.b 70 (q := fun K => PySem.W.keepIn K (.ref 76)) (by kernel_rfl)
theorem z_kc4 (c : hd.Says w K) : PySem.W.keepIn K (.ref 95) = true := c.b 71 (q := fun K => PySem.W.keepIn K (.ref 95)) (by kernel_rfl)
theorem z_kc5 (c : hd.Says w K) : PySem.W.keepIn K (.ref 114) = true := c.b 72 (q := fun K => PySem.W.keepIn K (.ref 114)) (by kernel_rfl)
theorem z_kc6 (c : hd.Says w K) : PySem.W.keepIn K (.ref 133) = true := c.b 73 (q := fun K => PySem.W.keepIn K (.ref 133)) (by kernel_rfl)
theorem z_kc7 (c : hd.Says w K) : PySem.W.keepIn K (.ref 152) = true := c.b 74 (q := fun K => PySem.W.keepIn K (.ref 152)) (by kernel_rfl)
theorem z_kc8 (c : hd.Says w K) : PySem.W.keepIn K (.ref 263) = true := c.b 75 (q := fun K => PySem.W.keepIn K (.ref 263)) (by kernel_rfl)
theorem z_mk8 (c : hd.Says w K) : PySem.W.makesIn K 263 = true := c.b 76 (q := fun K => PySem.W.makesIn K 263) (by kernel_rfl)
theorem z_n2_found (c : hd.Says w K) : PySem.W.findIn K (.ref 57) "found" = some none := c.v 68 (q := (fun K => PySem.W.findIn K (.ref 57) "found", some none)) (by kernel_rfl)
theorem z_n3_found (c : hd.Says w K) : PySem.W.findIn K (.ref 76) "found" = some none := c.v 69 (q := (fun K => PySem.W.findIn K (.ref 76) "found", some none)) (by kernel_rfl)
theorem z_n4_found (c : hd.Says w K) : PySem.W.findIn K (.ref 95) "found" = some none := c.v 70 (q := (fun K => PySem.W.findIn K (.ref 95) "found", some none)) (by kernel_rfl)
theorem z_n5_found (c : hd.Says w K) : PySem.W.findIn K (.ref 114) "found" = some none := c.v 71 (q := (fun K => PySem.W.findIn K (.ref 114) "found", some none)) (by kernel_rfl)
theorem z_n6_found (c : hd.Says w K) : PySem.W.findIn K (.ref 133) "found" = some none := c.v 72 (q := (fun K => PySem.W.findIn K (.ref 133) "found", some none)) (by kernel_rfl)
theorem z_n7_found (c : hd.Says w K) : PySem.W.findIn K (.ref 152) "found" = some none := c.v 73 (q := (fun K => PySem.W.findIn K (.ref 152) "found", some none)) (by kernel_rfl)
theorem z_n8_kept_row (c : hd.Says w K) : PySem.W.findIn K (.ref 263) "kept_row" = some none := c.v 74 (q := (fun K => PySem.W.findIn K (.ref 263) "kept_row", some none)) (by kernel_rfl)
theorem z_n8_kept_told (c : hd.Says w K) : PySem.W.findIn K (.ref 263) "kept_told" = some none := c.v 75 (q := (fun K => PySem.W.findIn K (.ref 263) "kept_told", some none)) (by kernel_rfl)
theorem z_ne2_0 (_ : hd.Says w K) : (Value.ref 57 == Value.ref 24) = false := by rfl
theorem z_ne2_1 (_ : hd.Says w K) : (Value.ref 57 == Value.ref 37) = false := by rfl
theorem z_ne2_3 (_ : hd.Says w K) : (Value.ref 57 == Value.ref 76) = false := by rfl
theorem z_ne2_4 (_ : hd.Says w K) : (Value.ref 57 == Value.ref 95) = false := by rfl
theorem z_ne2_5 (_ : hd.Says w K) : (Value.ref 57 == Value.ref 114) = false := by rfl
theorem z_ne2_6 (_ : hd.Says w K) : (Value.ref 57 == Value.ref 133) = false := by rfl
theorem z_ne2_7 (_ : hd.Says w K) : (Value.ref 57 == Value.ref 152) = false := by rfl
theorem z_ne3_0 (_ : hd.Says w K) : (Value.ref 76 == Value.ref 24) = false := by rfl
theorem z_ne3_1 (_ : hd.Says w K) : (Value.ref 76 == Value.ref 37) = false := by rfl
theorem z_ne3_2 (_ : hd.Says w K) : (Value.ref 76 == Value.ref 57) = false := by rfl
theorem z_ne3_4 (_ : hd.Says w K) : (Value.ref 76 == Value.ref 95) = false := by rfl
theorem z_ne3_5 (_ : hd.Says w K) : (Value.ref 76 == Value.ref 114) = false := by rfl
theorem z_ne3_6 (_ : hd.Says w K) : (Value.ref 76 == Value.ref 133) = false := by rfl
theorem z_ne3_7 (_ : hd.Says w K) : (Value.ref 76 == Value.ref 152) = false := by rfl
theorem z_ne4_0 (_ : hd.Says w K) : (Value.ref 95 == Value.ref 24) = false := by rfl
theorem z_ne4_1 (_ : hd.Says w K) : (Value.ref 95 == Value.ref 37) = false := by rfl
theorem z_ne4_2 (_ : hd.Says w K) : (Value.ref 95 == Value.ref 57) = false := by rfl
theorem z_ne4_3 (_ : hd.Says w K) : (Value.ref 95 == Value.ref 76) = false := by rfl
theorem z_ne4_5 (_ : hd.Says w K) : (Value.ref 95 == Value.ref 114) = false := by rfl
theorem z_ne4_6 (_ : hd.Says w K) : (Value.ref 95 == Value.ref 133) = false := by rfl
theorem z_ne4_7 (_ : hd.Says w K) : (Value.ref 95 == Value.ref 152) = false := by rfl
theorem z_ne5_0 (_ : hd.Says w K) : (Value.ref 114 == Value.ref 24) = false := by rfl
theorem z_ne5_1 (_ : hd.Says w K) : (Value.ref 114 == Value.ref 37) = false := by rfl
theorem z_ne5_2 (_ : hd.Says w K) : (Value.ref 114 == Value.ref 57) = false := by rfl
theorem z_ne5_3 (_ : hd.Says w K) : (Value.ref 114 == Value.ref 76) = false := by rfl
theorem z_ne5_4 (_ : hd.Says w K) : (Value.ref 114 == Value.ref 95) = false := by rfl
theorem z_ne5_6 (_ : hd.Says w K) : (Value.ref 114 == Value.ref 133) = false := by rfl
theorem z_ne5_7 (_ : hd.Says w K) : (Value.ref 114 == Value.ref 152) = false := by rfl
theorem z_ne6_0 (_ : hd.Says w K) : (Value.ref 133 == Value.ref 24) = false := by rfl
theorem z_ne6_1 (_ : hd.Says w K) : (Value.ref 133 == Value.ref 37) = false := by rfl
theorem z_ne6_2 (_ : hd.Says w K) : (Value.ref 133 == Value.ref 57) = false := by rfl
theorem z_ne6_3 (_ : hd.Says w K) : (Value.ref 133 == Value.ref 76) = false := by rfl
theorem z_ne6_4 (_ : hd.Says w K) : (Value.ref 133 == Value.ref 95) = false := by rfl
theorem z_ne6_5 (_ : hd.Says w K) : (Value.ref 133 == Value.ref 114) = false := by rfl
theorem z_ne6_7 (_ : hd.Says w K) : (Value.ref 133 == Value.ref 152) = false := by rfl
theorem z_ne7_0 (_ : hd.Says w K) : (Value.ref 152 == Value.ref 24) = false := by rfl
theorem z_ne7_1 (_ : hd.Says w K) : (Value.ref 152 == Value.ref 37) = false := by rfl
theorem z_ne7_2 (_ : hd.Says w K) : (Value.ref 152 == Value.ref 57) = false := by rfl
theorem z_ne7_3 (_ : hd.Says w K) : (Value.ref 152 == Value.ref 76) = false := by rfl
theorem z_ne7_4 (_ : hd.Says w K) : (Value.ref 152 == Value.ref 95) = false := by rfl
theorem z_ne7_5 (_ : hd.Says w K) : (Value.ref 152 == Value.ref 114) = false := by rfl
theorem z_ne7_6 (_ : hd.Says w K) : (Value.ref 152 == Value.ref 133) = false := by rfl
theorem z_pg8 (c : hd.Says w K) : PySem.W.plainGet K 263 Str.empty = true := c.b 77 (q := fun K => PySem.W.plainGet K 263 Str.empty) (by kernel_rfl)
theorem z_po8 (c : hd.Says w K) : PySem.W.plainOver K 263 = true := c.b 78 (q := fun K => PySem.W.plainOver K 263) (by kernel_rfl)
theorem z_sa2 (c : hd.Says w K) : PySem.W.findIn K (.ref 57) "__setattr__" = some (some (.builtin "object.__setattr__")) := c.v 76 (q := (fun K => PySem.W.findIn K (.ref 57) "__setattr__", some (some (.builtin "object.__setattr__")))) (by kernel_rfl)
theorem z_sa3 (c : hd.Says w K) : PySem.W.findIn K (.ref 76) "__setattr__" = some (some (.builtin "object.__setattr__")) := c.v 77 (q := (fun K => PySem.W.findIn K (.ref 76) "__setattr__", some (some (.builtin "object.__setattr__")))) (by kernel_rfl)
theorem z_sa4 (c : hd.Says w K) : PySem.W.findIn K (.ref 95) "__setattr__" = some (some (.builtin "object.__setattr__")) := c.v 78 (q := (fun K => PySem.W.findIn K (.ref 95) "__setattr__", some (some (.builtin "object.__setattr__")))) (by kernel_rfl)
theorem z_sa5 (c : hd.Says w K) : PySem.W.findIn K (.ref 114) "__setattr__" = some (some (.builtin "object.__setattr__")) := c.v 79 (q := (fun K => PySem.W.findIn K (.ref 114) "__setattr__", some (some (.builtin "object.__setattr__")))) (by kernel_rfl)
theorem z_sa6 (c : hd.Says w K) : PySem.W.findIn K (.ref 133) "__setattr__" = some (some (.builtin "object.__setattr__")) := c.v 80 (q := (fun K => PySem.W.findIn K (.ref 133) "__setattr__", some (some (.builtin "object.__setattr__")))) (by kernel_rfl)
theorem z_sa7 (c : hd.Says w K) : PySem.W.findIn K (.ref 152) "__setattr__" = some (some (.builtin "object.__setattr__")) := c.v 81 (q := (fun K => PySem.W.findIn K (.ref 152) "__setattr__", some (some (.builtin "object.__setattr__")))) (by kernel_rfl)
theorem z_sa8 (c : hd.Says w K) : PySem.W.findIn K (.ref 263) "__setattr__" = some (some (.builtin "object.__setattr__")) := c.v 82 (q := (fun K => PySem.W.findIn K (.ref 263) "__setattr__", some (some (.builtin "object.__setattr__")))) (by kernel_rfl)
theorem z_sx0 (c : hd.Says w K) : PySem.W.subIn K (.ref 24) (.type "BaseException") = some true := c.o 23 (q := (fun K => PySem.W.subIn K (.ref 24) (.type "BaseException"), some true)) (by kernel_rfl)
theorem z_sx1 (c : hd.Says w K) : PySem.W.subIn K (.ref 37) (.type "BaseException") = some true := c.o 24 (q := (fun K => PySem.W.subIn K (.ref 37) (.type "BaseException"), some true)) (by kernel_rfl)
theorem z_sx2 (c : hd.Says w K) : PySem.W.subIn K (.ref 57) (.type "BaseException") = some true := c.o 25 (q := (fun K => PySem.W.subIn K (.ref 57) (.type "BaseException"), some true)) (by kernel_rfl)
theorem z_sx3 (c : hd.Says w K) : PySem.W.subIn K (.ref 76) (.type "BaseException") = some true := c.o 26 (q := (fun K => PySem.W.subIn K (.ref 76) (.type "BaseException"), some true)) (by kernel_rfl)
theorem z_sx4 (c : hd.Says w K) : PySem.W.subIn K (.ref 95) (.type "BaseException") = some true := c.o 27 (q := (fun K => PySem.W.subIn K (.ref 95) (.type "BaseException"), some true)) (by kernel_rfl)
theorem z_sx5 (c : hd.Says w K) : PySem.W.subIn K (.ref 114) (.type "BaseException") = some true := c.o 28 (q := (fun K => PySem.W.subIn K (.ref 114) (.type "BaseException"), some true)) (by kernel_rfl)
theorem z_sx6 (c : hd.Says w K) : PySem.W.subIn K (.ref 133) (.type "BaseException") = some true := c.o 29 (q := (fun K => PySem.W.subIn K (.ref 133) (.type "BaseException"), some true)) (by kernel_rfl)
theorem z_sx7 (c : hd.Says w K) : PySem.W.subIn K (.ref 152) (.type "BaseException") = some true := c.o 30 (q := (fun K => PySem.W.subIn K (.ref 152) (.type "BaseException"), some true)) (by kernel_rfl)
theorem z_tf0 (c : hd.Says w K) : PySem.W.typeIn K (.ref 54) = some (.type "function") := c.u 9 (q := (fun K => PySem.W.typeIn K (.ref 54), some (.type "function"))) (by kernel_rfl)
theorem z_tf1 (c : hd.Says w K) : PySem.W.typeIn K (.ref 73) = some (.type "function") := c.u 10 (q := (fun K => PySem.W.typeIn K (.ref 73), some (.type "function"))) (by kernel_rfl)
theorem z_tf2 (c : hd.Says w K) : PySem.W.typeIn K (.ref 92) = some (.type "function") := c.u 11 (q := (fun K => PySem.W.typeIn K (.ref 92), some (.type "function"))) (by kernel_rfl)
theorem z_tf3 (c : hd.Says w K) : PySem.W.typeIn K (.ref 111) = some (.type "function") := c.u 12 (q := (fun K => PySem.W.typeIn K (.ref 111), some (.type "function"))) (by kernel_rfl)
theorem z_tf4 (c : hd.Says w K) : PySem.W.typeIn K (.ref 130) = some (.type "function") := c.u 13 (q := (fun K => PySem.W.typeIn K (.ref 130), some (.type "function"))) (by kernel_rfl)
theorem z_tf5 (c : hd.Says w K) : PySem.W.typeIn K (.ref 149) = some (.type "function") := c.u 14 (q := (fun K => PySem.W.typeIn K (.ref 149), some (.type "function"))) (by kernel_rfl)
theorem z_x2_0 (c : hd.Says w K) : PySem.W.subIn K (.ref 57) (.ref 24) = some true := c.o 31 (q := (fun K => PySem.W.subIn K (.ref 57) (.ref 24), some true)) (by kernel_rfl)
theorem z_x2_1 (c : hd.Says w K) : PySem.W.subIn K (.ref 57) (.ref 37) = some false := c.o 32 (q := (fun K => PySem.W.subIn K (.ref 57) (.ref 37), some false)) (by kernel_rfl)
theorem z_x2_2 (c : hd.Says w K) : PySem.W.subIn K (.ref 57) (.ref 57) = some true := c.o 33 (q := (fun K => PySem.W.subIn K (.ref 57) (.ref 57), some true)) (by kernel_rfl)
theorem z_x2_3 (c : hd.Says w K) : PySem.W.subIn K (.ref 57) (.ref 76) = some false := c.o 34 (q := (fun K => PySem.W.subIn K (.ref 57) (.ref 76), some false)) (by kernel_rfl)
theorem z_x2_4 (c : hd.Says w K) : PySem.W.subIn K (.ref 57) (.ref 95) = some false := c.o 35 (q := (fun K => PySem.W.subIn K (.ref 57) (.ref 95), some false)) (by kernel_rfl)
theorem z_x2_5 (c : hd.Says w K) : PySem.W.subIn K (.ref 57) (.ref 114) = some false := c.o 36 (q := (fun K => PySem.W.subIn K (.ref 57) (.ref 114), some false)) (by kernel_rfl)
theorem z_x2_6 (c : hd.Says w K) : PySem.W.subIn K (.ref 57) (.ref 133) = some false := c.o 37 (q := (fun K => PySem.W.subIn K (.ref 57) (.ref 133), some false)) (by kernel_rfl)
theorem z_x2_7 (c : hd.Says w K) : PySem.W.subIn K (.ref 57) (.ref 152) = some false := c.o 38 (q := (fun K => PySem.W.subIn K (.ref 57) (.ref 152), some false)) (by kernel_rfl)
theorem z_x3_0 (c : hd.Says w K) : PySem.W.subIn K (.ref 76) (.ref 24) = some true := c.o 39 (q := (fun K => PySem.W.subIn K (.ref 76) (.ref 24), some true)) (by kernel_rfl)
theorem z_x3_1 (c : hd.Says w K) : PySem.W.subIn K (.ref 76) (.ref 37) = some false := c.o 40 (q := (fun K => PySem.W.subIn K (.ref 76) (.ref 37), some false)) (by kernel_rfl)
theorem z_x3_2 (c : hd.Says w K) : PySem.W.subIn K (.ref 76) (.ref 57) = some false := c.o 41 (q := (fun K => PySem.W.subIn K (.ref 76) (.ref 57), some false)) (by kernel_rfl)
theorem z_x3_3 (c : hd.Says w K) : PySem.W.subIn K (.ref 76) (.ref 76) = some true := c.o 42 (q := (fun K => PySem.W.subIn K (.ref 76) (.ref 76), some true)) (by kernel_rfl)
theorem z_x3_4 (c : hd.Says w K) : PySem.W.subIn K (.ref 76) (.ref 95) = some false := c.o 43 (q := (fun K => PySem.W.subIn K (.ref 76) (.ref 95), some false)) (by kernel_rfl)
theorem z_x3_5 (c : hd.Says w K) : PySem.W.subIn K (.ref 76) (.ref 114) = some false := c.o 44 (q := (fun K => PySem.W.subIn K (.ref 76) (.ref 114), some false)) (by kernel_rfl)
theorem z_x3_6 (c : hd.Says w K) : PySem.W.subIn K (.ref 76) (.ref 133) = some false := c.o 45 (q := (fun K => PySem.W.subIn K (.ref 76) (.ref 133), some false)) (by kernel_rfl)
theorem z_x3_7 (c : hd.Says w K) : PySem.W.subIn K (.ref 76) (.ref 152) = some false := c.o 46 (q := (fun K => PySem.W.subIn K (.ref 76) (.ref 152), some false)) (by kernel_rfl)
theorem z_x4_0 (c : hd.Says w K) : PySem.W.subIn K (.ref 95) (.ref 24) = some true := c.o 47 (q := (fun K => PySem.W.subIn K (.ref 95) (.ref 24), some true)) (by kernel_rfl)
theorem z_x4_1 (c : hd.Says w K) : PySem.W.subIn K (.ref 95) (.ref 37) = some false := c.o 48 (q := (fun K => PySem.W.subIn K (.ref 95) (.ref 37), some false)) (by kernel_rfl)
theorem z_x4_2 (c : hd.Says w K) : PySem.W.subIn K (.ref 95) (.ref 57) = some false := c.o 49 (q := (fun K => PySem.W.subIn K (.ref 95) (.ref 57), some false)) (by kernel_rfl)
theorem z_x4_3 (c : hd.Says w K) : PySem.W.subIn K (.ref 95) (.ref 76) = some false := c.o 50 (q := (fun K => PySem.W.subIn K (.ref 95) (.ref 76), some false)) (by kernel_rfl)
theorem z_x4_4 (c : hd.Says w K) : PySem.W.subIn K (.ref 95) (.ref 95) = some true := c.o 51 (q := (fun K => PySem.W.subIn K (.ref 95) (.ref 95), some true)) (by kernel_rfl)
theorem z_x4_5 (c : hd.Says w K) : PySem.W.subIn K (.ref 95) (.ref 114) = some false := c.o 52 (q := (fun K => PySem.W.subIn K (.ref 95) (.ref 114), some false)) (by kernel_rfl)
theorem z_x4_6 (c : hd.Says w K) : PySem.W.subIn K (.ref 95) (.ref 133) = some false := c.o 53 (q := (fun K => PySem.W.subIn K (.ref 95) (.ref 133), some false)) (by kernel_rfl)
theorem z_x4_7 (c : hd.Says w K) : PySem.W.subIn K (.ref 95) (.ref 152) = some false := c.o 54 (q := (fun K => PySem.W.subIn K (.ref 95) (.ref 152), some false)) (by kernel_rfl)
theorem z_x5_0 (c : hd.Says w K) : PySem.W.subIn K (.ref 114) (.ref 24) = some false := c.o 55 (q := (fun K => PySem.W.subIn K (.ref 114) (.ref 24), some false)) (by kernel_rfl)
theorem z_x5_1 (c : hd.Says w K) : PySem.W.subIn K (.ref 114) (.ref 37) = some true := c.o 56 (q := (fun K => PySem.W.subIn K (.ref 114) (.ref 37), some true)) (by kernel_rfl)
theorem z_x5_2 (c : hd.Says w K) : PySem.W.subIn K (.ref 114) (.ref 57) = some false := c.o 57 (q := (fun K => PySem.W.subIn K (.ref 114) (.ref 57), some false)) (by kernel_rfl)
theorem z_x5_3 (c : hd.Says w K) : PySem.W.subIn K (.ref 114) (.ref 76) = some false := c.o 58 (q := (fun K => PySem.W.subIn K (.ref 114) (.ref 76), some false)) (by kernel_rfl)
theorem z_x5_4 (c : hd.Says w K) : PySem.W.subIn K (.ref 114) (.ref 95) = some false := c.o 59 (q := (fun K => PySem.W.subIn K (.ref 114) (.ref 95), some false)) (by kernel_rfl)
theorem z_x5_5 (c : hd.Says w K) : PySem.W.subIn K (.ref 114) (.ref 114) = some true := c.o 60 (q := (fun K => PySem.W.subIn K (.ref 114) (.ref 114), some true)) (by kernel_rfl)
theorem z_x5_6 (c : hd.Says w K) : PySem.W.subIn K (.ref 114) (.ref 133) = some false := c.o 61 (q := (fun K => PySem.W.subIn K (.ref 114) (.ref 133), some false)) (by kernel_rfl)
theorem z_x5_7 (c : hd.Says w K) : PySem.W.subIn K (.ref 114) (.ref 152) = some false := c.o 62 (q := (fun K => PySem.W.subIn K (.ref 114) (.ref 152), some false)) (by kernel_rfl)
theorem z_x6_0 (c : hd.Says w K) : PySem.W.subIn K (.ref 133) (.ref 24) = some false := c.o 63 (q := (fun K => PySem.W.subIn K (.ref 133) (.ref 24), some false)) (by kernel_rfl)
theorem z_x6_1 (c : hd.Says w K) : PySem.W.subIn K (.ref 133) (.ref 37) = some true := c.o 64 (q := (fun K => PySem.W.subIn K (.ref 133) (.ref 37), some true)) (by kernel_rfl)
theorem z_x6_2 (c : hd.Says w K) : PySem.W.subIn K (.ref 133) (.ref 57) = some false := c.o 65 (q := (fun K => PySem.W.subIn K (.ref 133) (.ref 57), some false)) (by kernel_rfl)
theorem z_x6_3 (c : hd.Says w K) : PySem.W.subIn K (.ref 133) (.ref 76) = some false := c.o 66 (q := (fun K => PySem.W.subIn K (.ref 133) (.ref 76), some false)) (by kernel_rfl)
theorem z_x6_4 (c : hd.Says w K) : PySem.W.subIn K (.ref 133) (.ref 95) = some false := c.o 67 (q := (fun K => PySem.W.subIn K (.ref 133) (.ref 95), some false)) (by kernel_rfl)
theorem z_x6_5 (c : hd.Says w K) : PySem.W.subIn K (.ref 133) (.ref 114) = some false := c.o 68 (q := (fun K => PySem.W.subIn K (.ref 133) (.ref 114), some false)) (by kernel_rfl)
theorem z_x6_6 (c : hd.Says w K) : PySem.W.subIn K (.ref 133) (.ref 133) = some true := c.o 69 (q := (fun K => PySem.W.subIn K (.ref 133) (.ref 133), some true)) (by kernel_rfl)
theorem z_x6_7 (c : hd.Says w K) : PySem.W.subIn K (.ref 133) (.ref 152) = some false := c.o 70 (q := (fun K => PySem.W.subIn K (.ref 133) (.ref 152), some false)) (by kernel_rfl)
theorem z_x7_0 (c : hd.Says w K) : PySem.W.subIn K (.ref 152) (.ref 24) = some false := c.o 71 (q := (fun K => PySem.W.subIn K (.ref 152) (.ref 24), some false)) (by kernel_rfl)
theorem z_x7_1 (c : hd.Says w K) : PySem.W.subIn K (.ref 152) (.ref 37) = some true := c.o 72 (q := (fun K => PySem.W.subIn K (.ref 152) (.ref 37), some true)) (by kernel_rfl)
theorem z_x7_2 (c : hd.Says w K) : PySem.W.subIn K (.ref 152) (.ref 57) = some false := c.o 73 (q := (fun K => PySem.W.subIn K (.ref 152) (.ref 57), some false)) (by kernel_rfl)
theorem z_x7_3 (c : hd.Says w K) : PySem.W.subIn K (.ref 152) (.ref 76) = some false := c.o 74 (q := (fun K => PySem.W.subIn K (.ref 152) (.ref 76), some false)) (by kernel_rfl)
theorem z_x7_4 (c : hd.Says w K) : PySem.W.subIn K (.ref 152) (.ref 95) = some false := c.o 75 (q := (fun K => PySem.W.subIn K (.ref 152) (.ref 95), some false)) (by kernel_rfl)
theorem z_x7_5 (c : hd.Says w K) : PySem.W.subIn K (.ref 152) (.ref 114) = some false := c.o 76 (q := (fun K => PySem.W.subIn K (.ref 152) (.ref 114), some false)) (by kernel_rfl)
theorem z_x7_6 (c : hd.Says w K) : PySem.W.subIn K (.ref 152) (.ref 133) = some false := c.o 77 (q := (fun K => PySem.W.subIn K (.ref 152) (.ref 133), some false)) (by kernel_rfl)
theorem z_x7_7 (c : hd.Says w K) : PySem.W.subIn K (.ref 152) (.ref 152) = some true := c.o 78 (q := (fun K => PySem.W.subIn K (.ref 152) (.ref 152), some true)) (by kernel_rfl)
theorem z_z21 (c : hd.Says w K) : PySem.W.nsIn K mainGlobals "all" = some none := c.v 83 (q := (fun K => PySem.W.nsIn K mainGlobals "all", some none)) (by kernel_rfl)
theorem z_z23 (c : hd.Says w K) : PySem.W.nsIn K mainGlobals "bool" = some none := c.v 84 (q := (fun K => PySem.W.nsIn K mainGlobals "bool", some none)) (by kernel_rfl)
theorem z_z24 (c : hd.Says w K) : PySem.W.nsIn K mainGlobals "int" = some none := c.v 85 (q := (fun K => PySem.W.nsIn K mainGlobals "int", some none)) (by kernel_rfl)
theorem z_z28 (c : hd.Says w K) : PySem.W.nsIn K mainGlobals "isinstance" = some none := c.v 86 (q := (fun K => PySem.W.nsIn K mainGlobals "isinstance", some none)) (by kernel_rfl)
theorem z_z29 (c : hd.Says w K) : PySem.W.nsIn K mainGlobals "len" = some none := c.v 87 (q := (fun K => PySem.W.nsIn K mainGlobals "len", some none)) (by kernel_rfl)
theorem z_z30 (c : hd.Says w K) : PySem.W.nsIn K mainGlobals "list" = some none := c.v 88 (q := (fun K => PySem.W.nsIn K mainGlobals "list", some none)) (by kernel_rfl)
theorem z_z31 (c : hd.Says w K) : PySem.W.nsIn K mainGlobals "max" = some none := c.v 89 (q := (fun K => PySem.W.nsIn K mainGlobals "max", some none)) (by kernel_rfl)
theorem z_z32 (c : hd.Says w K) : PySem.W.nsIn K mainGlobals "range" = some none := c.v 90 (q := (fun K => PySem.W.nsIn K mainGlobals "range", some none)) (by kernel_rfl)
theorem z_z33 (c : hd.Says w K) : PySem.W.nsIn K mainGlobals "str" = some none := c.v 91 (q := (fun K => PySem.W.nsIn K mainGlobals "str", some none)) (by kernel_rfl)
theorem z_z34 (c : hd.Says w K) : PySem.W.nsIn K mainGlobals "tuple" = some none := c.v 92 (q := (fun K => PySem.W.nsIn K mainGlobals "tuple", some none)) (by kernel_rfl)
theorem zF_AllTold_init (c : hd.Says w K) : FunD K "__init__" "AllTold.__init__" (defArgs s_AllTold_init) (defBody s_AllTold_init) (defScope s_AllTold_init) [] [] 149 (fdAt K 149) := c.f 0 (d := ⟨fun _ => 149, "__init__", "AllTold.__init__", defArgs s_AllTold_init, defBody s_AllTold_init, defScope s_AllTold_init, [], []⟩) (by kernel_rfl)
theorem zF_Known_init (c : hd.Says w K) : FunD K "__init__" "Known.__init__" (defArgs s_Known_init) (defBody s_Known_init) (defScope s_Known_init) [] [] 130 (fdAt K 130) := c.f 1 (d := ⟨fun _ => 130, "__init__", "Known.__init__", defArgs s_Known_init, defBody s_Known_init, defScope s_Known_init, [], []⟩) (by kernel_rfl)
theorem zF_Lacks_init (c : hd.Says w K) : FunD K "__init__" "Lacks.__init__" (defArgs s_Lacks_init) (defBody s_Lacks_init) (defScope s_Lacks_init) [] [] 111 (fdAt K 111) := c.f 2 (d := ⟨fun _ => 111, "__init__", "Lacks.__init__", defArgs s_Lacks_init, defBody s_Lacks_init, defScope s_Lacks_init, [], []⟩) (by kernel_rfl)
theorem zF_NoDeed_init (c : hd.Says w K) : FunD K "__init__" "NoDeed.__init__" (defArgs s_NoDeed_init) (defBody s_NoDeed_init) (defScope s_NoDeed_init) [] [] 92 (fdAt K 92) := c.f 3 (d := ⟨fun _ => 92, "__init__", "NoDeed.__init__", defArgs s_NoDeed_init, defBody s_NoDeed_init, defScope s_NoDeed_init, [], []⟩) (by kernel_rfl)
theorem zF_NoMember_init (c : hd.Says w K) : FunD K "__init__" "NoMember.__init__" (defArgs s_NoMember_init) (defBody s_NoMember_init) (defScope s_NoMember_init) [] [] 73 (fdAt K 73) := c.f 4 (d := ⟨fun _ => 73, "__init__", "NoMember.__init__", defArgs s_NoMember_init, defBody s_NoMember_init, defScope s_NoMember_init, [], []⟩) (by kernel_rfl)
theorem zF_NoNumber_init (c : hd.Says w K) : FunD K "__init__" "NoNumber.__init__" (defArgs s_NoNumber_init) (defBody s_NoNumber_init) (defScope s_NoNumber_init) [] [] 54 (fdAt K 54) := c.f 5 (d := ⟨fun _ => 54, "__init__", "NoNumber.__init__", defArgs s_NoNumber_init, defBody s_NoNumber_init, defScope s_NoNumber_init, [], []⟩) (by kernel_rfl)
theorem zF_PlainHall_add_id (c : hd.Says w K) : FunD K "add_id" "PlainHall.add_id" (defArgs s_PlainHall_add_id) (defBody s_PlainHall_add_id) (defScope s_PlainHall_add_id) [] [] 239 (fdAt K 239) := c.f 6 (d := ⟨fun _ => 239, "add_id", "PlainHall.add_id", defArgs s_PlainHall_add_id, defBody s_PlainHall_add_id, defScope s_PlainHall_add_id, [], []⟩) (by kernel_rfl)
theorem zF_PlainHall_do (c : hd.Says w K) : FunD K "do" "PlainHall.do" (defArgs s_PlainHall_do) (defBody s_PlainHall_do) (defScope s_PlainHall_do) [] [] 253 (fdAt K 253) := c.f 7 (d := ⟨fun _ => 253, "do", "PlainHall.do", defArgs s_PlainHall_do, defBody s_PlainHall_do, defScope s_PlainHall_do, [], []⟩) (by kernel_rfl)
theorem zF_PlainHall_eq (c : hd.Says w K) : FunD K "__eq__" "PlainHall.__eq__" (defArgs s_PlainHall_eq) (defBody s_PlainHall_eq) (defScope s_PlainHall_eq) [] [] 204 (fdAt K 204) := c.f 8 (d := ⟨fun _ => 204, "__eq__", "PlainHall.__eq__", defArgs s_PlainHall_eq, defBody s_PlainHall_eq, defScope s_PlainHall_eq, [], []⟩) (by kernel_rfl)
theorem zF_PlainHall_init (c : hd.Says w K) : FunD K "__init__" "PlainHall.__init__" (defArgs s_PlainHall_init) (defBody s_PlainHall_init) (defScope s_PlainHall_init) [] [] 197 (fdAt K 197) := c.f 9 (d := ⟨fun _ => 197, "__init__", "PlainHall.__init__", defArgs s_PlainHall_init, defBody s_PlainHall_init, defScope s_PlainHall_init, [], []⟩) (by kernel_rfl)
theorem zF_PlainHall_len (c : hd.Says w K) : FunD K "__len__" "PlainHall.__len__" (defArgs s_PlainHall_len) (defBody s_PlainHall_len) (defScope s_PlainHall_len) [] [] 211 (fdAt K 211) := c.f 10 (d := ⟨fun _ => 211, "__len__", "PlainHall.__len__", defArgs s_PlainHall_len, defBody s_PlainHall_len, defScope s_PlainHall_len, [], []⟩) (by kernel_rfl)
theorem zF_PlainHall_row (c : hd.Says w K) : FunD K "row" "PlainHall.row" (defArgs s_PlainHall_row) (defBody s_PlainHall_row) (defScope s_PlainHall_row) [] [] 218 (fdAt K 218) := c.f 11 (d := ⟨fun _ => 218, "row", "PlainHall.row", defArgs s_PlainHall_row, defBody s_PlainHall_row, defScope s_PlainHall_row, [], []⟩) (by kernel_rfl)
theorem zF_PlainHall_state (c : hd.Says w K) : FunD K "state" "PlainHall.state" (defArgs s_PlainHall_state) (defBody s_PlainHall_state) (defScope s_PlainHall_state) [] [] 232 (fdAt K 232) := c.f 12 (d := ⟨fun _ => 232, "state", "PlainHall.state", defArgs s_PlainHall_state, defBody s_PlainHall_state, defScope s_PlainHall_state, [], []⟩) (by kernel_rfl)
theorem zF_PlainHall_tell_next (c : hd.Says w K) : FunD K "tell_next" "PlainHall.tell_next" (defArgs s_PlainHall_tell_next) (defBody s_PlainHall_tell_next) (defScope s_PlainHall_tell_next) [] [] 246 (fdAt K 246) := c.f 13 (d := ⟨fun _ => 246, "tell_next", "PlainHall.tell_next", defArgs s_PlainHall_tell_next, defBody s_PlainHall_tell_next, defScope s_PlainHall_tell_next, [], []⟩) (by kernel_rfl)
theorem zF_PlainHall_told_by (c : hd.Says w K) : FunD K "told_by" "PlainHall.told_by" (defArgs s_PlainHall_told_by) (defBody s_PlainHall_told_by) (defScope s_PlainHall_told_by) [] [] 225 (fdAt K 225) := c.f 14 (d := ⟨fun _ => 225, "told_by", "PlainHall.told_by", defArgs s_PlainHall_told_by, defBody s_PlainHall_told_by, defScope s_PlainHall_told_by, [], []⟩) (by kernel_rfl)
theorem zF_PlainHall_twin (c : hd.Says w K) : FunD K "twin" "PlainHall.twin" (defArgs s_PlainHall_twin) (defBody s_PlainHall_twin) (defScope s_PlainHall_twin) [] [] 260 (fdAt K 260) := c.f 15 (d := ⟨fun _ => 260, "twin", "PlainHall.twin", defArgs s_PlainHall_twin, defBody s_PlainHall_twin, defScope s_PlainHall_twin, [], []⟩) (by kernel_rfl)
theorem zF__law_bad (c : hd.Says w K) : FunD K "_law_bad" "_law_bad" (defArgs s__law_bad) (defBody s__law_bad) (defScope s__law_bad) [] [] 321 (fdAt K 321) := c.f 16 (d := ⟨fun _ => 321, "_law_bad", "_law_bad", defArgs s__law_bad, defBody s__law_bad, defScope s__law_bad, [], []⟩) (by kernel_rfl)
theorem zF__law_cell_at (c : hd.Says w K) : FunD K "_law_cell_at" "_law_cell_at" (defArgs s__law_cell_at) (defBody s__law_cell_at) (defScope s__law_cell_at) [] [] 274 (fdAt K 274) := c.f 17 (d := ⟨fun _ => 274, "_law_cell_at", "_law_cell_at", defArgs s__law_cell_at, defBody s__law_cell_at, defScope s__law_cell_at, [], []⟩) (by kernel_rfl)
theorem zF__law_did (c : hd.Says w K) : FunD K "_law_did" "_law_did" (defArgs s__law_did) (defBody s__law_did) (defScope s__law_did) [] [] 295 (fdAt K 295) := c.f 18 (d := ⟨fun _ => 295, "_law_did", "_law_did", defArgs s__law_did, defBody s__law_did, defScope s__law_did, [], []⟩) (by kernel_rfl)
theorem zF__law_done (c : hd.Says w K) : FunD K "_law_done" "_law_done" (defArgs s__law_done) (defBody s__law_done) (defScope s__law_done) [] [] 335 (fdAt K 335) := c.f 19 (d := ⟨fun _ => 335, "_law_done", "_law_done", defArgs s__law_done, defBody s__law_done, defScope s__law_done, [], []⟩) (by kernel_rfl)
theorem zF__law_due (c : hd.Says w K) : FunD K "_law_due" "_law_due" (defArgs s__law_due) (defBody s__law_due) (defScope s__law_due) [] [] 302 (fdAt K 302) := c.f 20 (d := ⟨fun _ => 302, "_law_due", "_law_due", defArgs s__law_due, defBody s__law_due, defScope s__law_due, [], []⟩) (by kernel_rfl)
theorem zF__law_made (c : hd.Says w K) : FunD K "_law_made" "_law_made" (defArgs s__law_made) (defBody s__law_made) (defScope s__law_made) [] [] 328 (fdAt K 328) := c.f 21 (d := ⟨fun _ => 328, "_law_made", "_law_made", defArgs s__law_made, defBody s__law_made, defScope s__law_made, [], []⟩) (by kernel_rfl)
theorem zF__law_no_member (c : hd.Says w K) : FunD K "_law_no_member" "_law_no_member" (defArgs s__law_no_member) (defBody s__law_no_member) (defScope s__law_no_member) [] [] 309 (fdAt K 309) := c.f 22 (d := ⟨fun _ => 309, "_law_no_member", "_law_no_member", defArgs s__law_no_member, defBody s__law_no_member, defScope s__law_no_member, [], []⟩) (by kernel_rfl)
theorem zF__law_pool (c : hd.Says w K) : FunD K "_law_pool" "_law_pool" (defArgs s__law_pool) (defBody s__law_pool) (defScope s__law_pool) [] [] 281 (fdAt K 281) := c.f 23 (d := ⟨fun _ => 281, "_law_pool", "_law_pool", defArgs s__law_pool, defBody s__law_pool, defScope s__law_pool, [], []⟩) (by kernel_rfl)
theorem zF__law_stands (c : hd.Says w K) : FunD K "_law_stands" "_law_stands" (defArgs s__law_stands) (defBody s__law_stands) (defScope s__law_stands) [] [] 316 (fdAt K 316) := c.f 24 (d := ⟨fun _ => 316, "_law_stands", "_law_stands", defArgs s__law_stands, defBody s__law_stands, defScope s__law_stands, [], []⟩) (by kernel_rfl)
theorem zF__law_take (c : hd.Says w K) : FunD K "_law_take" "_law_take" (defArgs s__law_take) (defBody s__law_take) (defScope s__law_take) [] [] 288 (fdAt K 288) := c.f 25 (d := ⟨fun _ => 288, "_law_take", "_law_take", defArgs s__law_take, defBody s__law_take, defScope s__law_take, [], []⟩) (by kernel_rfl)
theorem zF_are_members (c : hd.Says w K) : FunD K "are_members" "are_members" (defArgs s_are_members) (defBody s_are_members) (defScope s_are_members) [] [] 169 (fdAt K 169) := c.f 26 (d := ⟨fun _ => 169, "are_members", "are_members", defArgs s_are_members, defBody s_are_members, defScope s_are_members, [], []⟩) (by kernel_rfl)
theorem zF_is_add (c : hd.Says w K) : FunD K "is_add" "is_add" (defArgs s_is_add) (defBody s_is_add) (defScope s_is_add) [] [] 176 (fdAt K 176) := c.f 27 (d := ⟨fun _ => 176, "is_add", "is_add", defArgs s_is_add, defBody s_is_add, defScope s_is_add, [], []⟩) (by kernel_rfl)
theorem zF_is_tell (c : hd.Says w K) : FunD K "is_tell" "is_tell" (defArgs s_is_tell) (defBody s_is_tell) (defScope s_is_tell) [] [] 183 (fdAt K 183) := c.f 28 (d := ⟨fun _ => 183, "is_tell", "is_tell", defArgs s_is_tell, defBody s_is_tell, defScope s_is_tell, [], []⟩) (by kernel_rfl)
theorem zF_is_whole (c : hd.Says w K) : FunD K "is_whole" "is_whole" (defArgs s_is_whole) (defBody s_is_whole) (defScope s_is_whole) [V.non] [] 162 (fdAt K 162) := c.f 29 (d := ⟨fun _ => 162, "is_whole", "is_whole", defArgs s_is_whole, defBody s_is_whole, defScope s_is_whole, [.non], []⟩) (by kernel_rfl)
theorem zF_law (c : hd.Says w K) : FunD K "law" "law" (defArgs s_law) (defBody s_law) (defScope s_law) [] [] 340 (fdAt K 340) := c.f 30 (d := ⟨fun _ => 340, "law", "law", defArgs s_law, defBody s_law, defScope s_law, [], []⟩) (by kernel_rfl)
theorem z_zx2 (c : hd.Says w K) : oexB K 57 = true := c.b 79 (q := fun K => oexB K 57) (by kernel_rfl)
theorem z_zx3 (c : hd.Says w K) : oexB K 76 = true := c.b 80 (q := fun K => oexB K 76) (by kernel_rfl)
theorem z_zx4 (c : hd.Says w K) : oexB K 95 = true := c.b 81 (q := fun K => oexB K 95) (by kernel_rfl)
theorem z_zx5 (c : hd.Says w K) : oexBL K 114 = true := c.b 82 (q := fun K => oexBL K 114) (by kernel_rfl)
theorem z_zx6 (c : hd.Says w K) : oexBL K 133 = true := c.b 83 (q := fun K => oexBL K 133) (by kernel_rfl)
theorem z_zx7 (c : hd.Says w K) : oexBL K 152 = true := c.b 84 (q := fun K => oexBL K 152) (by kernel_rfl)
end
def adOf (K : PySem.W.Frag) : Ad := { HallError := 24, Barred := 37, NoNumber := 57, NoMember := 76, NoDeed := 95, Lacks := 114, Known := 133, AllTold := 152, PlainHall := 263, NoNumber_init := 54, d_NoNumber_init := fdAt K 54, NoMember_init := 73, d_NoMember_init := fdAt K 73, NoDeed_init := 92, d_NoDeed_init := fdAt K 92, Lacks_init := 111, d_Lacks_init := fdAt K 111, Known_init := 130, d_Known_init := fdAt K 130, AllTold_init := 149, d_AllTold_init := fdAt K 149, is_whole := 162, d_is_whole := fdAt K 162, are_members := 169, d_are_members := fdAt K 169, is_add := 176, d_is_add := fdAt K 176, is_tell := 183, d_is_tell := fdAt K 183, PlainHall_init := 197, d_PlainHall_init := fdAt K 197, PlainHall_eq := 204, d_PlainHall_eq := fdAt K 204, PlainHall_len := 211, d_PlainHall_len := fdAt K 211, PlainHall_row := 218, d_PlainHall_row := fdAt K 218, PlainHall_told_by := 225, d_PlainHall_told_by := fdAt K 225, PlainHall_state := 232, d_PlainHall_state := fdAt K 232, PlainHall_add_id := 239, d_PlainHall_add_id := fdAt K 239, PlainHall_tell_next := 246, d_PlainHall_tell_next := fdAt K 246, PlainHall_do := 253, d_PlainHall_do := fdAt K 253, PlainHall_twin := 260, d_PlainHall_twin := fdAt K 260, _law_cell_at := 274, d__law_cell_at := fdAt K 274, _law_pool := 281, d__law_pool := fdAt K 281, _law_take := 288, d__law_take := fdAt K 288, _law_did := 295, d__law_did := fdAt K 295, _law_due := 302, d__law_due := fdAt K 302, _law_no_member := 309, d__law_no_member := fdAt K 309, _law_stands := 316, d__law_stands := fdAt K 316, _law_bad := 321, d__law_bad := fdAt K 321, _law_made := 328, d__law_made := fdAt K 328, _law_done := 335, d__law_done := fdAt K 335, law := 340, d_law := fdAt K 340 }
theorem txt_of {w : World} {K : PySem.W.Frag} {h : Heap} {mg : Str → Option Value} (X : K.In h) (G : h.Ns mainGlobals mg) (c : hd.Says w K) : Txt K mg (adOf K) := {
    m_HallError := PySem.W.mg_of X G (z_aC0 c),
    e_HallError := ⟨(z_ga0 c), (z_gg0 c), (z_sx0 c), (z_hd0 c), (z_ia0 c), (z_hn c), (z_htk c), (z_im0 c), (z_it0 c)⟩,
    hs_HallError := (z_hs0 c),
    hq_HallError := (z_hq0 c),
    hf_HallError := (z_hf0 c),
    m_Barred := PySem.W.mg_of X G (z_aC1 c),
    e_Barred := ⟨(z_ga1 c), (z_gg1 c), (z_sx1 c), (z_hd1 c), (z_ia1 c), (z_hn c), (z_htk c), (z_im1 c), (z_it1 c)⟩,
    hs_Barred := (z_hs1 c),
    hq_Barred := (z_hq1 c),
    hf_Barred := (z_hf1 c),
    m_NoNumber := PySem.W.mg_of X G (z_aC2 c),
    n_NoNumber_found := (z_n2_found c),
    e_NoNumber := ⟨(z_ga2 c), (z_gg2 c), (z_sx2 c), (z_hd2 c), (z_ia2 c), (z_hn c), (z_htk c), (z_im2 c), (z_it2 c)⟩,
    o_NoNumber := ⟨oexB_ok (z_zx2 c), (z_sa2 c), (z_sx2 c), (z_it2 c), (z_kc2 c)⟩,
    oi_NoNumber := (z_a0 c),
    ot_NoNumber := (z_tf0 c),
    u_NoNumber_HallError := (z_x2_0 c),
    u_NoNumber_Barred := (z_x2_1 c),
    u_NoNumber_NoNumber := (z_x2_2 c),
    u_NoNumber_NoMember := (z_x2_3 c),
    u_NoNumber_NoDeed := (z_x2_4 c),
    u_NoNumber_Lacks := (z_x2_5 c),
    u_NoNumber_Known := (z_x2_6 c),
    u_NoNumber_AllTold := (z_x2_7 c),
    x_NoNumber_HallError := kit_in (z_ne2_0 c) (z_ic0 c) (z_it0 c) (z_x2_0 c),
    x_NoNumber_Barred := kit_in (z_ne2_1 c) (z_ic1 c) (z_it1 c) (z_x2_1 c),
    x_NoNumber_NoMember := kit_in (z_ne2_3 c) (z_ic3 c) (z_it3 c) (z_x2_3 c),
    x_NoNumber_NoDeed := kit_in (z_ne2_4 c) (z_ic4 c) (z_it4 c) (z_x2_4 c),
    x_NoNumber_Lacks := kit_in (z_ne2_5 c) (z_ic5 c) (z_it5 c) (z_x2_5 c),
    x_NoNumber_Known := kit_in (z_ne2_6 c) (z_ic6 c) (z_it6 c) (z_x2_6 c),
    x_NoNumber_AllTold := kit_in (z_ne2_7 c) (z_ic7 c) (z_it7 c) (z_x2_7 c),
    m_NoMember := PySem.W.mg_of X G (z_aC3 c),
    n_NoMember_found := (z_n3_found c),
    e_NoMember := ⟨(z_ga3 c), (z_gg3 c), (z_sx3 c), (z_hd3 c), (z_ia3 c), (z_hn c), (z_htk c), (z_im3 c), (z_it3 c)⟩,
    o_NoMember := ⟨oexB_ok (z_zx3 c), (z_sa3 c), (z_sx3 c), (z_it3 c), (z_kc3 c)⟩,
    oi_NoMember := (z_a1 c),
    ot_NoMember := (z_tf1 c),
    u_NoMember_HallError := (z_x3_0 c),
    u_NoMember_Barred := (z_x3_1 c),
    u_NoMember_NoNumber := (z_x3_2 c),
    u_NoMember_NoMember := (z_x3_3 c),
    u_NoMember_NoDeed := (z_x3_4 c),
    u_NoMember_Lacks := (z_x3_5 c),
    u_NoMember_Known := (z_x3_6 c),
    u_NoMember_AllTold := (z_x3_7 c),
    x_NoMember_HallError := kit_in (z_ne3_0 c) (z_ic0 c) (z_it0 c) (z_x3_0 c),
    x_NoMember_Barred := kit_in (z_ne3_1 c) (z_ic1 c) (z_it1 c) (z_x3_1 c),
    x_NoMember_NoNumber := kit_in (z_ne3_2 c) (z_ic2 c) (z_it2 c) (z_x3_2 c),
    x_NoMember_NoDeed := kit_in (z_ne3_4 c) (z_ic4 c) (z_it4 c) (z_x3_4 c),
    x_NoMember_Lacks := kit_in (z_ne3_5 c) (z_ic5 c) (z_it5 c) (z_x3_5 c),
    x_NoMember_Known := kit_in (z_ne3_6 c) (z_ic6 c) (z_it6 c) (z_x3_6 c),
    x_NoMember_AllTold := kit_in (z_ne3_7 c) (z_ic7 c) (z_it7 c) (z_x3_7 c),
    m_NoDeed := PySem.W.mg_of X G (z_aC4 c),
    n_NoDeed_found := (z_n4_found c),
    e_NoDeed := ⟨(z_ga4 c), (z_gg4 c), (z_sx4 c), (z_hd4 c), (z_ia4 c), (z_hn c), (z_htk c), (z_im4 c), (z_it4 c)⟩,
    o_NoDeed := ⟨oexB_ok (z_zx4 c), (z_sa4 c), (z_sx4 c), (z_it4 c), (z_kc4 c)⟩,
    oi_NoDeed := (z_a2 c),
    ot_NoDeed := (z_tf2 c),
    u_NoDeed_HallError := (z_x4_0 c),
    u_NoDeed_Barred := (z_x4_1 c),
    u_NoDeed_NoNumber := (z_x4_2 c),
    u_NoDeed_NoMember := (z_x4_3 c),
    u_NoDeed_NoDeed := (z_x4_4 c),
    u_NoDeed_Lacks := (z_x4_5 c),
    u_NoDeed_Known := (z_x4_6 c),
    u_NoDeed_AllTold := (z_x4_7 c),
    x_NoDeed_HallError := kit_in (z_ne4_0 c) (z_ic0 c) (z_it0 c) (z_x4_0 c),
    x_NoDeed_Barred := kit_in (z_ne4_1 c) (z_ic1 c) (z_it1 c) (z_x4_1 c),
    x_NoDeed_NoNumber := kit_in (z_ne4_2 c) (z_ic2 c) (z_it2 c) (z_x4_2 c),
    x_NoDeed_NoMember := kit_in (z_ne4_3 c) (z_ic3 c) (z_it3 c) (z_x4_3 c),
    x_NoDeed_Lacks := kit_in (z_ne4_5 c) (z_ic5 c) (z_it5 c) (z_x4_5 c),
    x_NoDeed_Known := kit_in (z_ne4_6 c) (z_ic6 c) (z_it6 c) (z_x4_6 c),
    x_NoDeed_AllTold := kit_in (z_ne4_7 c) (z_ic7 c) (z_it7 c) (z_x4_7 c),
    m_Lacks := PySem.W.mg_of X G (z_aC5 c),
    n_Lacks_found := (z_n5_found c),
    e_Lacks := ⟨(z_ga5 c), (z_gg5 c), (z_sx5 c), (z_hd5 c), (z_ia5 c), (z_hn c), (z_htk c), (z_im5 c), (z_it5 c)⟩,
    o_Lacks := ⟨oexBT_ok (z_zx5 c), (z_sa5 c), (z_sx5 c), (z_it5 c), (z_kc5 c)⟩,
    oi_Lacks := (z_a3 c),
    ot_Lacks := (z_tf3 c),
    u_Lacks_HallError := (z_x5_0 c),
    u_Lacks_Barred := (z_x5_1 c),
    u_Lacks_NoNumber := (z_x5_2 c),
    u_Lacks_NoMember := (z_x5_3 c),
    u_Lacks_NoDeed := (z_x5_4 c),
    u_Lacks_Lacks := (z_x5_5 c),
    u_Lacks_Known := (z_x5_6 c),
    u_Lacks_AllTold := (z_x5_7 c),
    x_Lacks_HallError := kit_in (z_ne5_0 c) (z_ic0 c) (z_it0 c) (z_x5_0 c),
    x_Lacks_Barred := kit_in (z_ne5_1 c) (z_ic1 c) (z_it1 c) (z_x5_1 c),
    x_Lacks_NoNumber := kit_in (z_ne5_2 c) (z_ic2 c) (z_it2 c) (z_x5_2 c),
    x_Lacks_NoMember := kit_in (z_ne5_3 c) (z_ic3 c) (z_it3 c) (z_x5_3 c),
    x_Lacks_NoDeed := kit_in (z_ne5_4 c) (z_ic4 c) (z_it4 c) (z_x5_4 c),
    x_Lacks_Known := kit_in (z_ne5_6 c) (z_ic6 c) (z_it6 c) (z_x5_6 c),
    x_Lacks_AllTold := kit_in (z_ne5_7 c) (z_ic7 c) (z_it7 c) (z_x5_7 c),
    m_Known := PySem.W.mg_of X G (z_aC6 c),
    n_Known_found := (z_n6_found c),
    e_Known := ⟨(z_ga6 c), (z_gg6 c), (z_sx6 c), (z_hd6 c), (z_ia6 c), (z_hn c), (z_htk c), (z_im6 c), (z_it6 c)⟩,
    o_Known := ⟨oexBT_ok (z_zx6 c), (z_sa6 c), (z_sx6 c), (z_it6 c), (z_kc6 c)⟩,
    oi_Known := (z_a4 c),
    ot_Known := (z_tf4 c),
    u_Known_HallError := (z_x6_0 c),
    u_Known_Barred := (z_x6_1 c),
    u_Known_NoNumber := (z_x6_2 c),
    u_Known_NoMember := (z_x6_3 c),
    u_Known_NoDeed := (z_x6_4 c),
    u_Known_Lacks := (z_x6_5 c),
    u_Known_Known := (z_x6_6 c),
    u_Known_AllTold := (z_x6_7 c),
    x_Known_HallError := kit_in (z_ne6_0 c) (z_ic0 c) (z_it0 c) (z_x6_0 c),
    x_Known_Barred := kit_in (z_ne6_1 c) (z_ic1 c) (z_it1 c) (z_x6_1 c),
    x_Known_NoNumber := kit_in (z_ne6_2 c) (z_ic2 c) (z_it2 c) (z_x6_2 c),
    x_Known_NoMember := kit_in (z_ne6_3 c) (z_ic3 c) (z_it3 c) (z_x6_3 c),
    x_Known_NoDeed := kit_in (z_ne6_4 c) (z_ic4 c) (z_it4 c) (z_x6_4 c),
    x_Known_Lacks := kit_in (z_ne6_5 c) (z_ic5 c) (z_it5 c) (z_x6_5 c),
    x_Known_AllTold := kit_in (z_ne6_7 c) (z_ic7 c) (z_it7 c) (z_x6_7 c),
    m_AllTold := PySem.W.mg_of X G (z_aC7 c),
    n_AllTold_found := (z_n7_found c),
    e_AllTold := ⟨(z_ga7 c), (z_gg7 c), (z_sx7 c), (z_hd7 c), (z_ia7 c), (z_hn c), (z_htk c), (z_im7 c), (z_it7 c)⟩,
    o_AllTold := ⟨oexBT_ok (z_zx7 c), (z_sa7 c), (z_sx7 c), (z_it7 c), (z_kc7 c)⟩,
    oi_AllTold := (z_a5 c),
    ot_AllTold := (z_tf5 c),
    u_AllTold_HallError := (z_x7_0 c),
    u_AllTold_Barred := (z_x7_1 c),
    u_AllTold_NoNumber := (z_x7_2 c),
    u_AllTold_NoMember := (z_x7_3 c),
    u_AllTold_NoDeed := (z_x7_4 c),
    u_AllTold_Lacks := (z_x7_5 c),
    u_AllTold_Known := (z_x7_6 c),
    u_AllTold_AllTold := (z_x7_7 c),
    x_AllTold_HallError := kit_in (z_ne7_0 c) (z_ic0 c) (z_it0 c) (z_x7_0 c),
    x_AllTold_Barred := kit_in (z_ne7_1 c) (z_ic1 c) (z_it1 c) (z_x7_1 c),
    x_AllTold_NoNumber := kit_in (z_ne7_2 c) (z_ic2 c) (z_it2 c) (z_x7_2 c),
    x_AllTold_NoMember := kit_in (z_ne7_3 c) (z_ic3 c) (z_it3 c) (z_x7_3 c),
    x_AllTold_NoDeed := kit_in (z_ne7_4 c) (z_ic4 c) (z_it4 c) (z_x7_4 c),
    x_AllTold_Lacks := kit_in (z_ne7_5 c) (z_ic5 c) (z_it5 c) (z_x7_5 c),
    x_AllTold_Known := kit_in (z_ne7_6 c) (z_ic6 c) (z_it6 c) (z_x7_6 c),
    m_PlainHall := PySem.W.mg_of X G (z_aC8 c),
    c_PlainHall := ⟨(z_pg8 c), (z_hd8 c), (z_po8 c), (z_sa8 c)⟩,
    i_PlainHall := ⟨(z_ia8 c), (z_hn c), (z_htk c), (z_im8 c), fun d => by cases d <;> first | exact kit_out (by decide +kernel) (z_io8int c) | exact kit_out (by decide +kernel) (z_io8bool c) | exact kit_out (by decide +kernel) (z_io8str c) | exact kit_out (by decide +kernel) (z_io8list c) | exact kit_out (by decide +kernel) (z_io8tuple c) | exact kit_out (by decide +kernel) (z_io8dict c), fun t ht => by
      simp only [List.mem_cons, List.not_mem_nil, or_false] at ht
      rcases ht with rfl | rfl | rfl | rfl | rfl | rfl | rfl
      all_goals first | exact kit_in rfl (z_ic8 c) (z_it8 c) (z_ii8NoneType c) | exact kit_in rfl (z_ic8 c) (z_it8 c) (z_ii8int c) | exact kit_in rfl (z_ic8 c) (z_it8 c) (z_ii8bool c) | exact kit_in rfl (z_ic8 c) (z_it8 c) (z_ii8str c) | exact kit_in rfl (z_ic8 c) (z_it8 c) (z_ii8list c) | exact kit_in rfl (z_ic8 c) (z_it8 c) (z_ii8tuple c) | exact kit_in rfl (z_ic8 c) (z_it8 c) (z_ii8dict c)⟩,
    q_PlainHall := fun t ht => by
      simp only [List.mem_cons, List.not_mem_nil, or_false] at ht
      rcases ht with rfl | rfl | rfl | rfl | rfl | rfl | rfl
      all_goals first | exact (z_ii8NoneType c) | exact (z_ii8int c) | exact (z_ii8bool c) | exact (z_ii8str c) | exact (z_ii8list c) | exact (z_ii8tuple c) | exact (z_ii8dict c),
    mk_PlainHall := ⟨(z_mk8 c), (z_a10 c), (z_i10 c), (z_kc8 c)⟩,
    n_PlainHall_kept_row := (z_n8_kept_row c),
    n_PlainHall_kept_told := (z_n8_kept_told c),
    F_NoNumber_init := (zF_NoNumber_init c),
    B_NoNumber_init := fund_all0 (zF_NoNumber_init c) (fun _ _ _ _ _ _ us hl => match us, hl with | [_, _], _ => rfl),
    F_NoMember_init := (zF_NoMember_init c),
    B_NoMember_init := fund_all0 (zF_NoMember_init c) (fun _ _ _ _ _ _ us hl => match us, hl with | [_, _], _ => rfl),
    F_NoDeed_init := (zF_NoDeed_init c),
    B_NoDeed_init := fund_all0 (zF_NoDeed_init c) (fun _ _ _ _ _ _ us hl => match us, hl with | [_, _], _ => rfl),
    F_Lacks_init := (zF_Lacks_init c),
    B_Lacks_init := fund_all0 (zF_Lacks_init c) (fun _ _ _ _ _ _ us hl => match us, hl with | [_, _], _ => rfl),
    F_Known_init := (zF_Known_init c),
    B_Known_init := fund_all0 (zF_Known_init c) (fun _ _ _ _ _ _ us hl => match us, hl with | [_, _], _ => rfl),
    F_AllTold_init := (zF_AllTold_init c),
    B_AllTold_init := fund_all0 (zF_AllTold_init c) (fun _ _ _ _ _ _ us hl => match us, hl with | [_, _], _ => rfl),
    F_is_whole := (zF_is_whole c),
    B_is_whole := fund_allD (zF_is_whole c) (by simp) (fun _ _ _ _ _ _ _ us its hl h2 => match us, its, hl, h2 with | [_, _, _], [_], _, _ => ⟨_, rfl, rfl⟩),
    m_is_whole := PySem.W.mg_of X G (z_a6 c),
    B1_is_whole := FunD.binds1 (zF_is_whole c) 2 0 (by simp) (by decide) (fun _ _ _ _ _ _ _ us its h1 h2 => match us, its, h1, h2 with | [_, _], [_], _, _ => ⟨_, rfl, rfl⟩),
    F_are_members := (zF_are_members c),
    B_are_members := fund_all0 (zF_are_members c) (fun _ _ _ _ _ _ us hl => match us, hl with | [_], _ => rfl),
    m_are_members := PySem.W.mg_of X G (z_a7 c),
    F_is_add := (zF_is_add c),
    B_is_add := fund_all0 (zF_is_add c) (fun _ _ _ _ _ _ us hl => match us, hl with | [_, _], _ => rfl),
    m_is_add := PySem.W.mg_of X G (z_a8 c),
    F_is_tell := (zF_is_tell c),
    B_is_tell := fund_all0 (zF_is_tell c) (fun _ _ _ _ _ _ us hl => match us, hl with | [_, _], _ => rfl),
    m_is_tell := PySem.W.mg_of X G (z_a9 c),
    F_PlainHall_init := (zF_PlainHall_init c),
    B_PlainHall_init := fund_all0 (zF_PlainHall_init c) (fun _ _ _ _ _ _ us hl => match us, hl with | [_, _], _ => rfl),
    F_PlainHall_eq := (zF_PlainHall_eq c),
    B_PlainHall_eq := fund_all0 (zF_PlainHall_eq c) (fun _ _ _ _ _ _ us hl => match us, hl with | [_, _], _ => rfl),
    M_PlainHall_eq := ⟨(z_a11 c), (z_i11 c), (z_k11 c)⟩,
    F_PlainHall_len := (zF_PlainHall_len c),
    B_PlainHall_len := fund_all0 (zF_PlainHall_len c) (fun _ _ _ _ _ _ us hl => match us, hl with | [_], _ => rfl),
    M_PlainHall_len := ⟨(z_a12 c), (z_i12 c), (z_k12 c)⟩,
    F_PlainHall_row := (zF_PlainHall_row c),
    B_PlainHall_row := fund_all0 (zF_PlainHall_row c) (fun _ _ _ _ _ _ us hl => match us, hl with | [_], _ => rfl),
    M_PlainHall_row := ⟨(z_a13 c), (z_i13 c), (z_k13 c)⟩,
    F_PlainHall_told_by := (zF_PlainHall_told_by c),
    B_PlainHall_told_by := fund_all0 (zF_PlainHall_told_by c) (fun _ _ _ _ _ _ us hl => match us, hl with | [_, _], _ => rfl),
    M_PlainHall_told_by := ⟨(z_a14 c), (z_i14 c), (z_k14 c)⟩,
    F_PlainHall_state := (zF_PlainHall_state c),
    B_PlainHall_state := fund_all0 (zF_PlainHall_state c) (fun _ _ _ _ _ _ us hl => match us, hl with | [_], _ => rfl),
    M_PlainHall_state := ⟨(z_a15 c), (z_i15 c), (z_k15 c)⟩,
    F_PlainHall_add_id := (zF_PlainHall_add_id c),
    B_PlainHall_add_id := fund_all0 (zF_PlainHall_add_id c) (fun _ _ _ _ _ _ us hl => match us, hl with | [_, _], _ => rfl),
    M_PlainHall_add_id := ⟨(z_a16 c), (z_i16 c), (z_k16 c)⟩,
    F_PlainHall_tell_next := (zF_PlainHall_tell_next c),
    B_PlainHall_tell_next := fund_all0 (zF_PlainHall_tell_next c) (fun _ _ _ _ _ _ us hl => match us, hl with | [_, _], _ => rfl),
    M_PlainHall_tell_next := ⟨(z_a17 c), (z_i17 c), (z_k17 c)⟩,
    F_PlainHall_do := (zF_PlainHall_do c),
    B_PlainHall_do := fund_all0 (zF_PlainHall_do c) (fun _ _ _ _ _ _ us hl => match us, hl with | [_, _], _ => rfl),
    M_PlainHall_do := ⟨(z_a18 c), (z_i18 c), (z_k18 c)⟩,
    F_PlainHall_twin := (zF_PlainHall_twin c),
    B_PlainHall_twin := fund_all0 (zF_PlainHall_twin c) (fun _ _ _ _ _ _ us hl => match us, hl with | [_], _ => rfl),
    M_PlainHall_twin := ⟨(z_a19 c), (z_i19 c), (z_k19 c)⟩,
    F__law_cell_at := (zF__law_cell_at c),
    B__law_cell_at := fund_all0 (zF__law_cell_at c) (fun _ _ _ _ _ _ us hl => match us, hl with | [_, _], _ => rfl),
    m__law_cell_at := PySem.W.mg_of X G (z_a20 c),
    F__law_pool := (zF__law_pool c),
    B__law_pool := fund_all0 (zF__law_pool c) (fun _ _ _ _ _ _ us hl => match us, hl with | [_], _ => rfl),
    m__law_pool := PySem.W.mg_of X G (z_a21 c),
    F__law_take := (zF__law_take c),
    B__law_take := fund_all0 (zF__law_take c) (fun _ _ _ _ _ _ us hl => match us, hl with | [_, _], _ => rfl),
    m__law_take := PySem.W.mg_of X G (z_a22 c),
    F__law_did := (zF__law_did c),
    B__law_did := fund_all0 (zF__law_did c) (fun _ _ _ _ _ _ us hl => match us, hl with | [_, _], _ => rfl),
    m__law_did := PySem.W.mg_of X G (z_a23 c),
    F__law_due := (zF__law_due c),
    B__law_due := fund_all0 (zF__law_due c) (fun _ _ _ _ _ _ us hl => match us, hl with | [_, _], _ => rfl),
    m__law_due := PySem.W.mg_of X G (z_a24 c),
    F__law_no_member := (zF__law_no_member c),
    B__law_no_member := fund_all0 (zF__law_no_member c) (fun _ _ _ _ _ _ us hl => match us, hl with | [_, _], _ => rfl),
    m__law_no_member := PySem.W.mg_of X G (z_a25 c),
    F__law_stands := (zF__law_stands c),
    B__law_stands := fund_all0 (zF__law_stands c) (fun _ _ _ _ _ _ us hl => match us, hl with | [_, _], _ => rfl),
    m__law_stands := PySem.W.mg_of X G (z_a26 c),
    F__law_bad := (zF__law_bad c),
    B__law_bad := fund_all0 (zF__law_bad c) (fun _ _ _ _ _ _ us hl => match us, hl with | [_, _], _ => rfl),
    m__law_bad := PySem.W.mg_of X G (z_a27 c),
    F__law_made := (zF__law_made c),
    B__law_made := fund_all0 (zF__law_made c) (fun _ _ _ _ _ _ us hl => match us, hl with | [_], _ => rfl),
    m__law_made := PySem.W.mg_of X G (z_a28 c),
    F__law_done := (zF__law_done c),
    B__law_done := fund_all0 (zF__law_done c) (fun _ _ _ _ _ _ us hl => match us, hl with | [_, _, _], _ => rfl),
    m__law_done := PySem.W.mg_of X G (z_a29 c),
    F_law := (zF_law c),
    g_LEAST_MEMBERS := (conB_ok (z_gl0 c)).elim fun _ h => ⟨_, PySem.W.mg_of X G h.1, h.2⟩,
    g_MOST_MEMBERS := (conB_ok (z_gl1 c)).elim fun _ h => ⟨_, PySem.W.mg_of X G h.1, h.2⟩,
    b_all := PySem.W.mg_none_of X G (z_z21 c),
    b_bool := PySem.W.mg_none_of X G (z_z23 c),
    b_int := PySem.W.mg_none_of X G (z_z24 c),
    b_isinstance := PySem.W.mg_none_of X G (z_z28 c),
    b_len := PySem.W.mg_none_of X G (z_z29 c),
    b_list := PySem.W.mg_none_of X G (z_z30 c),
    b_max := PySem.W.mg_none_of X G (z_z31 c),
    b_range := PySem.W.mg_none_of X G (z_z32 c),
    b_str := PySem.W.mg_none_of X G (z_z33 c),
    b_tuple := PySem.W.mg_none_of X G (z_z34 c)
  }
theorem law_of {l : PySem.W.OpenLaw} {w : World} {K : PySem.W.Frag} {h : Heap} {mg : Str → Option Value} {fa : Addr} (X : K.In h) (G : h.Ns mainGlobals mg) (c : hd.Says w K) (hfa : mg "law" = some (.ref fa)) :
    ∃ (K : PySem.W.Frag) (fd : FuncData) (sp : Sp), K.In h ∧ (∀ (s : Shared) (u : Value), BindsTo s fd ⟨[u], []⟩ [("script", u)]) ∧
      (∀ (H : Hp) (a : Addr) (ns : List Int), ns.length ≤ 63 → Only H → SqL K H a (ns.map V.int) → sp [.ref a] H (fun v _ => v = .bl true) fun _ _ _ => False) ∧
      ∀ base : Heap, K.In base → base.Ns mainGlobals mg → FnOk l.prog w K mg base CX0 7 fa fd ["script"] sp := by
  have e := hfa.symm.trans (PySem.W.mg_of X G (z_a30 c))
  cases e
  have T := txt_of X G c
  exact ⟨K, _, spLaw K, X, fun s v => (zF_law c).bindsA (ps := ["script"]) (fun _ _ _ _ _ _ us hl => match us, hl with | [_], _ => rfl) s [v] rfl, fun H a ns hl _ hS => ⟨a, ns, rfl, hS, hl, fun _ => rfl⟩, fun base _ _ => ok_law T⟩
end My
open PySem PySem.W PyProof.Rows
set_option maxRecDepth 100000 in
set_option maxHeartbeats 0 in
theorem PySem.Challenge.cw_causehall_k78_plain_deeds_holds : PySem.Challenge.rw_causehall_k78_plain_deeds.Holds := by
  w_on; o_law
  refine HeadRun.head_any (r := OpenLaw.row PySem.Challenge.rw_causehall_k78_plain_deeds) (q := My.hdQ) (H := My.hd.hook) (ob := My.hd.ob) (M := 3484) (loose := My.hdLoose) (d := HeadRun.topDef (OpenLaw.row PySem.Challenge.rw_causehall_k78_plain_deeds).prog 29) (kwd := []) My.hd.ob_eq (by kernel_rfl) (fun s => by kernel_rfl) My.run0 (by kernel_rfl) (by kernel_rfl) (by kernel_rfl) (by rfl) (by first | assumption | decide +kernel) (by decide +kernel) ⟨rfl, rfl, rfl, rfl, rfl, by decide +kernel⟩ ?hw ?hc
  case hw => w_witness2
  case hc =>
    refine L2.walk_ofE (l := PySem.Challenge.rw_causehall_k78_plain_deeds) (n := 63) (k := 7) (x := "script") (CX := L2.CX0) rfl (by decide) (by kernel_rfl) ⟨rfl, by decide, by decide⟩ ?F (fun _ _ _ _ z => z)
    intro w mg fa h Y G hmg0
    obtain ⟨K, KX, c⟩ := Y
    have hmg : mg ("law" : PySem.Str) = some (.ref fa) := by
      have e : (HeadRun.topDef (OpenLaw.row PySem.Challenge.rw_causehall_k78_plain_deeds).prog 29).name = ("law" : PySem.Str) := by kernel_rfl
      rw [← e]
      exact hmg0
    exact My.law_of KX G c hmg
#print axioms PySem.Challenge.cw_causehall_k78_plain_deeds_holds

