import PyProof.Rows.All
import Wide.All
import OpenK.AllK
import Wide.FinOn
import HandS.ForMost
import HandS.Wide
import HandS.IsInst
import HandS.Style
import HandS.Defaults
import HandS.Walk
import KE.IntTextLaws
import HandS.ForExc
import HandS.TryMany
import HandS.TryElse
import KE.KTryMore
import HandS.ExcInit
import HandS.CallSlots
import HandS.ExcField
import HandS.ExcIs
import KE.KEqNest
import PyProof.NeKinds
import KE.KExcIs
import HandS.Zip
import KE.KRevSl
import HandS.OwnEq
import HandS.Small
import HandS.More
import KE.GoesEnum
import KE.GoesMore
import KE.DataMinMax
import KE.KFmtOwn
import KE.KCallOwn
import PyProof.InstNe
import HandS.FStr
import PyProof.Rows.StrJoinMade
import HandS.DictComp
import HandS.HotCalls
import HandS.CallLocal
import HandS.Deep
import HandS.DictTup
import HandS.TupLen
import HandS.Conv
import HandS.Dict
import HandS.WordsDict
import HandS.TupAny
import HandS.TupMul
import PyProof.ExcClass
import HandS.HeadNt
import HandS.HeadHook3
import HandS.HeadEnd
import KE.HD2
import PySem.Challenge.RW_causehall_k34_roads_refused
set_option maxRecDepth 100000
set_option maxHeartbeats 4000000
namespace My
open PySem L2
/-! ### the head by one kernel run: what the walk needs of the heap is looked at there, by numbers of objects -/
structure HdD where
  as : List Addr
  fn : List He5.DefA
  ts : List (Addr × List Str)
  vs : List ((PySem.W.Frag → Option (Option Value)) × Option (Option Value))
  us : List ((PySem.W.Frag → Option Value) × Option Value)
  cs : List ((PySem.W.Frag → Option PySem.W.CFound) × Option PySem.W.CFound)
  os : List ((PySem.W.Frag → Option Bool) × Option Bool)
  bs : List (PySem.W.Frag → Bool)
abbrev HdA : Type := List (Option (Option Value)) × List (Option Value) × List (Option PySem.W.CFound) × List (Option Bool) × List Bool × List Bool × List He5.FnW × List (Option (List (Option (Str × Int))))
def HdD.at (D : HdD) (K : PySem.W.Frag) : HdA :=
  (D.vs.map (fun q => q.1 K), D.us.map (fun q => q.1 K), D.cs.map (fun q => q.1 K), D.os.map (fun q => q.1 K), D.bs.map (fun q => q K), D.fn.map (fun d => d.ok K), D.fn.map (fun d => He5.fnA K (d.at_ K)), D.ts.map (fun t => He.dicW K t.1))
def HdD.due (D : HdD) (w : World) : HdA :=
  (D.vs.map (fun q => q.2), D.us.map (fun q => q.2), D.cs.map (fun q => q.2), D.os.map (fun q => q.2), D.bs.map (fun _ => true), D.fn.map (fun _ => true), D.fn.map He5.DefA.val, D.ts.map (fun t => some (He.keysIn w.params t.2)))
def HdD.Says (D : HdD) (w : World) (K : PySem.W.Frag) : Prop := D.at K = D.due w
def HdD.hook (D : HdD) : PySem.W.Hook where
  α := HdA
  obs := fun s => D.at (He.frG s.heap.get? D.as)
  val := D.due
  says := fun w h => ∃ K : PySem.W.Frag, K.In h ∧ D.Says w K
  of := fun _ _ e => ⟨_, He.frG_in, e⟩
  keeps := fun _ _ _ ⟨K, hK, c⟩ k => ⟨K, PySem.W.Frag.In.keeps hK k, c⟩
def HdD.ob (D : HdD) (s : PySem.W.SharedT) : HdA := D.at (He.frG (HeadRun.getT s) D.as)
theorem HdD.ob_eq (D : HdD) (s : PySem.W.SharedT) : D.ob s = D.hook.obs s.abs := by
  have e : HeadRun.getT s = s.abs.heap.get? := funext (HeadRun.getT_eq s)
  show D.at (He.frG (HeadRun.getT s) D.as) = D.at (He.frG s.abs.heap.get? D.as)
  rw [e]
theorem map_at {α β : Type} {l : List α} {f g : α → β} (e : l.map f = l.map g) {i : Nat} {q : α} (h : l[i]? = some q) : f q = g q := by
  have e2 : (l.map f)[i]? = (l.map g)[i]? := by rw [e]
  rw [List.getElem?_map, List.getElem?_map, h] at e2
  exact Option.some.inj e2
/-- the def that stands at an object -/
def fdAt (K : PySem.W.Frag) (f : Addr) : FuncData := match K.lookup f with
  | some ⟨_, _, .func fd, _⟩ => fd
  | _ => PySem.W.fnOf "" "" ⟨[], [], none, [], [], none, []⟩ [] ⟨.function, [], false, false, []⟩ .none .none .none .none none .none .none
section
variable {D : HdD} {w : World} {K : PySem.W.Frag}
theorem HdD.Says.v (c : D.Says w K) (i : Nat) {q : (PySem.W.Frag → Option (Option Value)) × Option (Option Value)} (h : D.vs[i]? = some q) : q.1 K = q.2 := map_at (congrArg (fun z : HdA => z.1) c) h
theorem HdD.Says.u (c : D.Says w K) (i : Nat) {q : (PySem.W.Frag → Option Value) × Option Value} (h : D.us[i]? = some q) : q.1 K = q.2 := map_at (congrArg (fun z : HdA => z.2.1) c) h
theorem HdD.Says.c (c : D.Says w K) (i : Nat) {q : (PySem.W.Frag → Option PySem.W.CFound) × Option PySem.W.CFound} (h : D.cs[i]? = some q) : q.1 K = q.2 := map_at (congrArg (fun z : HdA => z.2.2.1) c) h
theorem HdD.Says.o (c : D.Says w K) (i : Nat) {q : (PySem.W.Frag → Option Bool) × Option Bool} (h : D.os[i]? = some q) : q.1 K = q.2 := map_at (congrArg (fun z : HdA => z.2.2.2.1) c) h
theorem HdD.Says.b (c : D.Says w K) (i : Nat) {q : PySem.W.Frag → Bool} (h : D.bs[i]? = some q) : q K = true := map_at (congrArg (fun z : HdA => z.2.2.2.2.1) c) h
theorem HdD.Says.f (c : D.Says w K) (i : Nat) {d : He5.DefA} (h : D.fn[i]? = some d) : FunD K d.name d.qual d.params d.body d.scope (d.dvs K) (d.kws K) (d.at_ K) (fdAt K (d.at_ K)) := by
  have e1 : d.ok K = true := map_at (congrArg (fun z : HdA => z.2.2.2.2.2.1) c) h
  have e2 : He5.fnA K (d.at_ K) = d.val := map_at (congrArg (fun z : HdA => z.2.2.2.2.2.2.1) c) h
  obtain ⟨fd, F⟩ := He5.DefA.funD e2 e1
  have e3 : fdAt K (d.at_ K) = fd := by
    obtain ⟨oc, od, dV, kV, doc, pm, an, cdv, ct, osl, -, l, -⟩ := F.ex
    unfold fdAt
    rw [l]
  rw [e3]
  exact F
theorem HdD.Says.t (c : D.Says w K) (i : Nat) {t : Addr × List Str} (h : D.ts[i]? = some t) : ∃ es n, KDict K w t.1 es n := by
  have e2 : He.dicW K t.1 = some (He.keysIn w.params t.2) := map_at (congrArg (fun z : HdA => z.2.2.2.2.2.2.2) c) h
  exact He.dicW_ok e2
end
/-- a module's constant -/
def conB (K : PySem.W.Frag) (x : Str) (v : V) : Bool := match PySem.W.nsIn K mainGlobals x with
  | some (some u) => He.relB v u
  | _ => false
theorem conB_ok {K : PySem.W.Frag} {x : Str} {v : V} (h : conB K x v = true) : ∃ u, PySem.W.nsIn K mainGlobals x = some (some u) ∧ RelV v u := by
  unfold conB at h
  cases e : PySem.W.nsIn K mainGlobals x with
  | none =>
    rw [e] at h
    cases h
  | some r =>
    rw [e] at h
    cases r with
    | none => cases h
    | some u => exact ⟨u, rfl, He.relB_ok h⟩
/-- an own error class under ValueError -/
def oexB (K : PySem.W.Frag) (C : Addr) : Bool := match K.lookup C with
  | some ⟨.type t, _, .cls cd, sl⟩ => (match cd.mro, sl.toList with
    | .ref C' :: bm, [_, _, _, _, some (.builtin n), _] => t == "type" && C' == C && n == "ValueError.__new__" && !cd.hasDel && cd.hasDict && PySem.HandSPX.refsVE bm
    | _, _ => false)
  | _ => false
theorem oexB_ok {K : PySem.W.Frag} {C : Addr} (q : oexB K C = true) : ∃ nm q N bs bm sn sub ab col dd k0 k1 k2 k3 k5, K.lookup C = some (excClassObj nm q C N bs bm true sn sub ab col dd k0 k1 k2 k3 k5 "ValueError.__new__") ∧ PySem.HandSPX.refsVE bm = true := by
  unfold oexB at q
  split at q
  · rename_i t dd cd sl ho
    split at q
    · rename_i C' bm k0 k1 k2 k3 n k5 hm hs
      simp only [Bool.and_eq_true, beq_iff_eq, Bool.not_eq_true'] at q
      obtain ⟨⟨⟨⟨⟨rfl, rfl⟩, rfl⟩, hdel⟩, hd⟩, hv⟩ := q
      obtain ⟨nm, bs, mro, ns, qn, hd', sn, sub, ab, col, del⟩ := cd
      dsimp only at hm hdel hd
      subst hm hdel hd
      have hsl : sl = #[k0, k1, k2, k3, some (.builtin "ValueError.__new__"), k5] := by
        obtain ⟨l⟩ := sl
        simp only at hs
        rw [hs]
      subst hsl
      exact ⟨_, _, _, _, _, _, _, _, _, _, _, _, _, _, _, ho, hv⟩
    · cases q
  · cases q
/-- a law of a plain program; the run for each answer to one row -/
theorem head_split {r : PySem.W.OpenRow} {q : Program} {H : PySem.W.Hook} {ob : PySem.W.SharedT → H.α} {M : Nat} {loose : List PySem.Str} {d : DefRec} {kwd : List (PySem.Str × PySem.Expr)} (row : String) (ho : ∀ s : PySem.W.SharedT, ob s = H.obs s.abs)
    (e : PySem.W.opening r.prog = PySem.W.plainProg r.prog.main.scope.names) (f : ∀ s, fenceModules? r.prog s = some s) (run0 : ∀ w : World, HeadRun.RunEq r q H ob M loose (w.withFollow row false)) (run1 : ∀ w : World, HeadRun.RunEq r q H ob M loose (w.withFollow row true))
    (hdef : PySem.W.defOf q r.name = some (d, kwd)) (hp : r.prog.theDef r.name = some (d.params, d.body, d.scope)) (hk : PySem.W.kwWritten? d.params.kwonlyargs d.params.kw_defaults = some kwd)
    (hwr : (!r.writes || r.records.isEmpty) = true) (k1 : r.wellSaid = true) (ok : (PySem.W.chainsOk q && PySem.W.opensWell r.prog && (PySem.W.frees r.toRowW && r.within.isEmpty)) = true) (hb : r.prog.bare) (hw : r.toRowW.promised)
    (call : PySem.W.WalkO q loose (PySem.W.XL q []) H.says r.toRowW d kwd fun f vs => PySem.call f vs) : r.Holds :=
  HeadRun.head_any ho e f (fun w => by
    have e := World.withFollow_self w row
    cases hb : w.params.followText row
    · rw [hb] at e
      rw [← e]
      exact run0 _
    · rw [hb] at e
      rw [← e]
      exact run1 _) hdef hp hk hwr k1 ok hb hw call
end My
/-! families of own error classes, looked at in the head -/
namespace My
open PySem L2
abbrev tlL : List Value := [.type "LookupError", .type "Exception", .type "BaseException", .type "object"]
abbrev tlK : List Value := [.type "KeyError", .type "LookupError", .type "Exception", .type "BaseException", .type "object"]
/-- an own error class of such a family -/
def oexBT (tl : List Value) (K : PySem.W.Frag) (C : Addr) : Bool := match K.lookup C with
  | some ⟨.type t, _, .cls cd, sl⟩ => (match cd.mro, sl.toList with
    | .ref C' :: bm, [_, _, _, _, some (.builtin n), _] => t == "type" && C' == C && n == "LookupError.__new__" && !cd.hasDel && cd.hasDict && PySem.W.excTail tl bm
    | _, _ => false)
  | _ => false
abbrev oexBL (K : PySem.W.Frag) (C : Addr) : Bool := oexBT tlL K C
abbrev oexBK (K : PySem.W.Frag) (C : Addr) : Bool := oexBT tlK K C
end My
set_option Elab.async false
set_option maxRecDepth 100000
set_option maxHeartbeats 0
namespace My
open PySem L2
def top (i : Nat) : Stmt := PySem.Challenge.pw_causehall_k34_roads_refused.main.body.getD i (.Pass ⟨0, 0, 0, 0⟩)
abbrev s_NoNumber_init : Stmt := inClass (top 3) 0
abbrev s_NoMember_init : Stmt := inClass (top 4) 0
abbrev s_NotOnRoad_init : Stmt := inClass (top 5) 0
abbrev s_is_whole : Stmt := top 9
abbrev s_are_members : Stmt := top 10
abbrev s_copied_thing : Stmt := top 12
abbrev s_Roads_init : Stmt := inClass (top 13) 0
abbrev s_Roads_len : Stmt := inClass (top 13) 1
abbrev s_Roads_need_road : Stmt := inClass (top 13) 2
abbrev s_Roads_need_number : Stmt := inClass (top 13) 3
abbrev s_Roads_put_on : Stmt := inClass (top 13) 4
abbrev s_Roads_put : Stmt := inClass (top 13) 5
abbrev s_Roads_come : Stmt := inClass (top 13) 6
abbrev s_Roads_lose : Stmt := inClass (top 13) 7
abbrev s_Roads_double : Stmt := inClass (top 13) 8
abbrev s_Roads_under_way : Stmt := inClass (top 13) 9
abbrev s_Roads_between : Stmt := inClass (top 13) 10
abbrev s_Roads_twin : Stmt := inClass (top 13) 11
abbrev s__law_cell_at : Stmt := top 15
abbrev s__law_pool : Stmt := top 16
abbrev s__law_take : Stmt := top 17
abbrev s__law_road : Stmt := top 18
abbrev s__law_number : Stmt := top 19
abbrev s__law_kinds : Stmt := top 20
abbrev s__law_gone : Stmt := top 21
abbrev s__law_very : Stmt := top 22
abbrev s__law_refused : Stmt := top 23
abbrev s__law_stands : Stmt := top 24
abbrev s__law_made : Stmt := top 25
abbrev s__law_step : Stmt := top 26
abbrev s__law_looked : Stmt := top 27
abbrev s_law : Stmt := top 28
def hdAs : List Addr := [2, 3, 15, 22, 23, 24, 25, 28, 35, 36, 37, 38, 41, 48, 50, 51, 53, 54, 55, 56, 57, 60, 67, 69, 70, 72, 73, 74, 75, 76, 79, 86, 88, 89, 91, 92, 93, 94, 95, 98, 99, 101, 102, 104, 105, 106, 108, 109, 111, 112, 113, 116, 117, 125, 127, 128, 130, 131, 132, 134, 135, 137, 138, 139, 141, 142, 144, 145, 146, 148, 149, 151, 152, 153, 155, 156, 158, 159, 160, 162, 163, 165, 166, 167, 169, 170, 172, 173, 174, 176, 177, 179, 180, 181, 183, 184, 186, 187, 188, 190, 191, 193, 194, 195, 198, 199, 200, 202, 203, 205, 206, 207, 208, 209, 210, 211, 214, 216, 217, 219, 220, 221, 223, 224, 226, 227, 228, 230, 231, 233, 234, 235, 237, 238, 240, 241, 242, 244, 245, 247, 248, 249, 251, 252, 254, 255, 256, 258, 259, 261, 262, 263, 265, 266, 268, 269, 270, 273, 274, 275, 278, 279, 280, 282, 283, 285, 286, 287, 289, 290, 292, 293, 294, 296, 297, 299, 300, 301, 304, 305]
def hdFn : List He5.DefA := [⟨fun _ => 73, "__init__", "NoMember.__init__", defArgs s_NoMember_init, defBody s_NoMember_init, defScope s_NoMember_init, [], []⟩,
    ⟨fun _ => 54, "__init__", "NoNumber.__init__", defArgs s_NoNumber_init, defBody s_NoNumber_init, defScope s_NoNumber_init, [], []⟩,
    ⟨fun _ => 92, "__init__", "NotOnRoad.__init__", defArgs s_NotOnRoad_init, defBody s_NotOnRoad_init, defScope s_NotOnRoad_init, [], []⟩,
    ⟨fun _ => 199, "between", "Roads.between", defArgs s_Roads_between, defBody s_Roads_between, defScope s_Roads_between, [], []⟩,
    ⟨fun _ => 173, "come", "Roads.come", defArgs s_Roads_come, defBody s_Roads_come, defScope s_Roads_come, [], []⟩,
    ⟨fun _ => 187, "double", "Roads.double", defArgs s_Roads_double, defBody s_Roads_double, defScope s_Roads_double, [], []⟩,
    ⟨fun _ => 131, "__init__", "Roads.__init__", defArgs s_Roads_init, defBody s_Roads_init, defScope s_Roads_init, [], []⟩,
    ⟨fun _ => 138, "__len__", "Roads.__len__", defArgs s_Roads_len, defBody s_Roads_len, defScope s_Roads_len, [], []⟩,
    ⟨fun _ => 180, "lose", "Roads.lose", defArgs s_Roads_lose, defBody s_Roads_lose, defScope s_Roads_lose, [], []⟩,
    ⟨fun _ => 152, "need_number", "Roads.need_number", defArgs s_Roads_need_number, defBody s_Roads_need_number, defScope s_Roads_need_number, [], []⟩,
    ⟨fun _ => 145, "need_road", "Roads.need_road", defArgs s_Roads_need_road, defBody s_Roads_need_road, defScope s_Roads_need_road, [], []⟩,
    ⟨fun _ => 166, "put", "Roads.put", defArgs s_Roads_put, defBody s_Roads_put, defScope s_Roads_put, [], []⟩,
    ⟨fun _ => 159, "put_on", "Roads.put_on", defArgs s_Roads_put_on, defBody s_Roads_put_on, defScope s_Roads_put_on, [], []⟩,
    ⟨fun _ => 206, "twin", "Roads.twin", defArgs s_Roads_twin, defBody s_Roads_twin, defScope s_Roads_twin, [], []⟩,
    ⟨fun _ => 194, "under_way", "Roads.under_way", defArgs s_Roads_under_way, defBody s_Roads_under_way, defScope s_Roads_under_way, [], []⟩,
    ⟨fun _ => 220, "_law_cell_at", "_law_cell_at", defArgs s__law_cell_at, defBody s__law_cell_at, defScope s__law_cell_at, [], []⟩,
    ⟨fun _ => 262, "_law_gone", "_law_gone", defArgs s__law_gone, defBody s__law_gone, defScope s__law_gone, [], []⟩,
    ⟨fun _ => 255, "_law_kinds", "_law_kinds", defArgs s__law_kinds, defBody s__law_kinds, defScope s__law_kinds, [], []⟩,
    ⟨fun _ => 300, "_law_looked", "_law_looked", defArgs s__law_looked, defBody s__law_looked, defScope s__law_looked, [], []⟩,
    ⟨fun _ => 286, "_law_made", "_law_made", defArgs s__law_made, defBody s__law_made, defScope s__law_made, [], []⟩,
    ⟨fun _ => 248, "_law_number", "_law_number", defArgs s__law_number, defBody s__law_number, defScope s__law_number, [], []⟩,
    ⟨fun _ => 227, "_law_pool", "_law_pool", defArgs s__law_pool, defBody s__law_pool, defScope s__law_pool, [], []⟩,
    ⟨fun _ => 274, "_law_refused", "_law_refused", defArgs s__law_refused, defBody s__law_refused, defScope s__law_refused, [], []⟩,
    ⟨fun _ => 241, "_law_road", "_law_road", defArgs s__law_road, defBody s__law_road, defScope s__law_road, [], []⟩,
    ⟨fun _ => 279, "_law_stands", "_law_stands", defArgs s__law_stands, defBody s__law_stands, defScope s__law_stands, [], []⟩,
    ⟨fun _ => 293, "_law_step", "_law_step", defArgs s__law_step, defBody s__law_step, defScope s__law_step, [], []⟩,
    ⟨fun _ => 234, "_law_take", "_law_take", defArgs s__law_take, defBody s__law_take, defScope s__law_take, [], []⟩,
    ⟨fun _ => 269, "_law_very", "_law_very", defArgs s__law_very, defBody s__law_very, defScope s__law_very, [], []⟩,
    ⟨fun _ => 112, "are_members", "are_members", defArgs s_are_members, defBody s_are_members, defScope s_are_members, [], []⟩,
    ⟨fun _ => 117, "copied_thing", "copied_thing", defArgs s_copied_thing, defBody s_copied_thing, defScope s_copied_thing, [], []⟩,
    ⟨fun _ => 105, "is_whole", "is_whole", defArgs s_is_whole, defBody s_is_whole, defScope s_is_whole, [.non], []⟩,
    ⟨fun _ => 305, "law", "law", defArgs s_law, defBody s_law, defScope s_law, [], []⟩]
def hdTs : List (Addr × List Str) := []
def hdVs : List ((PySem.W.Frag → Option (Option Value)) × Option (Option Value)) := [(fun K => PySem.W.findIn K (.ref 57) "__init__", some (some (.ref 54))),
    (fun K => PySem.W.findIn K (.ref 76) "__init__", some (some (.ref 73))),
    (fun K => PySem.W.findIn K (.ref 209) "put_on", some (some (.ref 159))),
    (fun K => PySem.W.findIn K (.ref 209) "put", some (some (.ref 166))),
    (fun K => PySem.W.findIn K (.ref 209) "come", some (some (.ref 173))),
    (fun K => PySem.W.findIn K (.ref 209) "lose", some (some (.ref 180))),
    (fun K => PySem.W.findIn K (.ref 209) "double", some (some (.ref 187))),
    (fun K => PySem.W.findIn K (.ref 209) "under_way", some (some (.ref 194))),
    (fun K => PySem.W.findIn K (.ref 209) "between", some (some (.ref 199))),
    (fun K => PySem.W.findIn K (.ref 209) "twin", some (some (.ref 206))),
    (fun K => PySem.W.nsIn K mainGlobals "_law_cell_at", some (some (.ref 220))),
    (fun K => PySem.W.nsIn K mainGlobals "_law_pool", some (some (.ref 227))),
    (fun K => PySem.W.findIn K (.ref 95) "__init__", some (some (.ref 92))),
    (fun K => PySem.W.nsIn K mainGlobals "_law_take", some (some (.ref 234))),
    (fun K => PySem.W.nsIn K mainGlobals "_law_road", some (some (.ref 241))),
    (fun K => PySem.W.nsIn K mainGlobals "_law_number", some (some (.ref 248))),
    (fun K => PySem.W.nsIn K mainGlobals "_law_kinds", some (some (.ref 255))),
    (fun K => PySem.W.nsIn K mainGlobals "_law_gone", some (some (.ref 262))),
    (fun K => PySem.W.nsIn K mainGlobals "_law_very", some (some (.ref 269))),
    (fun K => PySem.W.nsIn K mainGlobals "_law_refused", some (some (.ref 274))),
    (fun K => PySem.W.nsIn K mainGlobals "_law_stands", some (some (.ref 279))),
    (fun K => PySem.W.nsIn K mainGlobals "_law_made", some (some (.ref 286))),
    (fun K => PySem.W.nsIn K mainGlobals "_law_step", some (some (.ref 293))),
    (fun K => PySem.W.nsIn K mainGlobals "is_whole", some (some (.ref 105))),
    (fun K => PySem.W.nsIn K mainGlobals "_law_looked", some (some (.ref 300))),
    (fun K => PySem.W.nsIn K mainGlobals "law", some (some (.ref 305))),
    (fun K => PySem.W.nsIn K mainGlobals "are_members", some (some (.ref 112))),
    (fun K => PySem.W.nsIn K mainGlobals "copied_thing", some (some (.ref 117))),
    (fun K => PySem.W.findIn K (.ref 209) "__init__", some (some (.ref 131))),
    (fun K => PySem.W.findIn K (.ref 209) "__len__", some (some (.ref 138))),
    (fun K => PySem.W.findIn K (.ref 209) "need_road", some (some (.ref 145))),
    (fun K => PySem.W.findIn K (.ref 209) "need_number", some (some (.ref 152))),
    (fun K => PySem.W.nsIn K mainGlobals "HallError", some (some (.ref 24))),
    (fun K => PySem.W.nsIn K mainGlobals "Missing", some (some (.ref 37))),
    (fun K => PySem.W.nsIn K mainGlobals "NoNumber", some (some (.ref 57))),
    (fun K => PySem.W.nsIn K mainGlobals "NoMember", some (some (.ref 76))),
    (fun K => PySem.W.nsIn K mainGlobals "NotOnRoad", some (some (.ref 95))),
    (fun K => PySem.W.nsIn K mainGlobals "Roads", some (some (.ref 209))),
    (fun K => PySem.W.findIn K (.ref 24) "__getattribute__", some (some (.builtin "BaseException.__getattribute__"))),
    (fun K => PySem.W.findIn K (.ref 37) "__getattribute__", some (some (.builtin "BaseException.__getattribute__"))),
    (fun K => PySem.W.findIn K (.ref 57) "__getattribute__", some (some (.builtin "BaseException.__getattribute__"))),
    (fun K => PySem.W.findIn K (.ref 76) "__getattribute__", some (some (.builtin "BaseException.__getattribute__"))),
    (fun K => PySem.W.findIn K (.ref 95) "__getattribute__", some (some (.builtin "BaseException.__getattribute__"))),
    (fun K => PySem.W.findIn K (.ref 24) "__getattr__", some none),
    (fun K => PySem.W.findIn K (.ref 37) "__getattr__", some none),
    (fun K => PySem.W.findIn K (.ref 57) "__getattr__", some none),
    (fun K => PySem.W.findIn K (.ref 76) "__getattr__", some none),
    (fun K => PySem.W.findIn K (.ref 95) "__getattr__", some none),
    (fun K => PySem.W.specialIn K (.builtin "object.__class__") "__get__", some (some (.builtin "getset_descriptor.__get__"))),
    (fun K => PySem.W.specialIn K (.ref 24) "__getattribute__", some (some (.builtin "type.__getattribute__"))),
    (fun K => PySem.W.specialIn K (.ref 37) "__getattribute__", some (some (.builtin "type.__getattribute__"))),
    (fun K => PySem.W.findIn K (.ref 24) "__class__", some (some (.builtin "object.__class__"))),
    (fun K => PySem.W.findIn K (.ref 37) "__class__", some (some (.builtin "object.__class__"))),
    (fun K => PySem.W.findIn K (.ref 57) "__class__", some (some (.builtin "object.__class__"))),
    (fun K => PySem.W.findIn K (.ref 76) "__class__", some (some (.builtin "object.__class__"))),
    (fun K => PySem.W.findIn K (.ref 95) "__class__", some (some (.builtin "object.__class__"))),
    (fun K => PySem.W.findIn K (.ref 209) "__class__", some (some (.builtin "object.__class__"))),
    (fun K => PySem.W.findIn K (.ref 57) "found", some none),
    (fun K => PySem.W.findIn K (.ref 76) "found", some none),
    (fun K => PySem.W.findIn K (.ref 95) "found", some none),
    (fun K => PySem.W.findIn K (.ref 209) "kept_members", some none),
    (fun K => PySem.W.findIn K (.ref 209) "kept_way", some none),
    (fun K => PySem.W.findIn K (.ref 209) "last_number", some none),
    (fun K => PySem.W.findIn K (.ref 57) "__setattr__", some (some (.builtin "object.__setattr__"))),
    (fun K => PySem.W.findIn K (.ref 76) "__setattr__", some (some (.builtin "object.__setattr__"))),
    (fun K => PySem.W.findIn K (.ref 95) "__setattr__", some (some (.builtin "object.__setattr__"))),
    (fun K => PySem.W.findIn K (.ref 209) "__setattr__", some (some (.builtin "object.__setattr__"))),
    (fun K => PySem.W.nsIn K mainGlobals "KeyError", some none),
    (fun K => PySem.W.nsIn K mainGlobals "all", some none),
    (fun K => PySem.W.nsIn K mainGlobals "bool", some none),
    (fun K => PySem.W.nsIn K mainGlobals "dict", some none),
    (fun K => PySem.W.nsIn K mainGlobals "int", some none),
    (fun K => PySem.W.nsIn K mainGlobals "isinstance", some none),
    (fun K => PySem.W.nsIn K mainGlobals "len", some none),
    (fun K => PySem.W.nsIn K mainGlobals "list", some none),
    (fun K => PySem.W.nsIn K mainGlobals "max", some none),
    (fun K => PySem.W.nsIn K mainGlobals "range", some none),
    (fun K => PySem.W.nsIn K mainGlobals "sorted", some none),
    (fun K => PySem.W.nsIn K mainGlobals "tuple", some none)]
def hdUs : List ((PySem.W.Frag → Option Value) × Option Value) := [(fun K => PySem.W.typeIn K (.ref 24), some (.type "type")),
    (fun K => PySem.W.typeIn K (.ref 37), some (.type "type")),
    (fun K => PySem.W.typeIn K (.ref 57), some (.type "type")),
    (fun K => PySem.W.typeIn K (.ref 76), some (.type "type")),
    (fun K => PySem.W.typeIn K (.ref 95), some (.type "type")),
    (fun K => PySem.W.typeIn K (.ref 209), some (.type "type")),
    (fun K => PySem.W.typeIn K (.ref 54), some (.type "function")),
    (fun K => PySem.W.typeIn K (.ref 73), some (.type "function")),
    (fun K => PySem.W.typeIn K (.ref 92), some (.type "function"))]
def hdCs : List ((PySem.W.Frag → Option PySem.W.CFound) × Option PySem.W.CFound) := [(fun K => PySem.W.findCls K (.ref 24) (.type "type") "__init__", some (.val (.builtin "ValueError.__init__"))),
    (fun K => PySem.W.findCls K (.ref 37) (.type "type") "__init__", some (.val (.builtin "KeyError.__init__")))]
def hdOs : List ((PySem.W.Frag → Option Bool) × Option Bool) := [(fun K => PySem.W.takesIn K (.builtin "object.__class__"), some true),
    (fun K => PySem.W.subIn K (.type "NoneType") (.ref 209), some false),
    (fun K => PySem.W.subIn K (.type "bool") (.ref 209), some false),
    (fun K => PySem.W.subIn K (.type "dict") (.ref 209), some false),
    (fun K => PySem.W.subIn K (.type "int") (.ref 209), some false),
    (fun K => PySem.W.subIn K (.type "list") (.ref 209), some false),
    (fun K => PySem.W.subIn K (.type "str") (.ref 209), some false),
    (fun K => PySem.W.subIn K (.type "tuple") (.ref 209), some false),
    (fun K => PySem.W.mroIn K 24 (.type "object"), some true),
    (fun K => PySem.W.mroIn K 37 (.type "object"), some true),
    (fun K => PySem.W.mroIn K 57 (.type "object"), some true),
    (fun K => PySem.W.mroIn K 76 (.type "object"), some true),
    (fun K => PySem.W.mroIn K 95 (.type "object"), some true),
    (fun K => PySem.W.mroIn K 209 (.type "object"), some true),
    (fun K => PySem.W.subIn K (.ref 209) (.type "bool"), some false),
    (fun K => PySem.W.subIn K (.ref 209) (.type "dict"), some false),
    (fun K => PySem.W.subIn K (.ref 209) (.type "int"), some false),
    (fun K => PySem.W.subIn K (.ref 209) (.type "list"), some false),
    (fun K => PySem.W.subIn K (.ref 209) (.type "str"), some false),
    (fun K => PySem.W.subIn K (.ref 209) (.type "tuple"), some false),
    (fun K => PySem.W.subIn K (.ref 24) (.type "BaseException"), some true),
    (fun K => PySem.W.subIn K (.ref 37) (.type "BaseException"), some true),
    (fun K => PySem.W.subIn K (.ref 57) (.type "BaseException"), some true),
    (fun K => PySem.W.subIn K (.ref 76) (.type "BaseException"), some true),
    (fun K => PySem.W.subIn K (.ref 95) (.type "BaseException"), some true),
    (fun K => PySem.W.subIn K (.ref 57) (.ref 24), some true),
    (fun K => PySem.W.subIn K (.ref 57) (.ref 37), some false),
    (fun K => PySem.W.subIn K (.ref 57) (.ref 57), some true),
    (fun K => PySem.W.subIn K (.ref 57) (.ref 76), some false),
    (fun K => PySem.W.subIn K (.ref 57) (.ref 95), some false),
    (fun K => PySem.W.subIn K (.ref 76) (.ref 24), some true),
    (fun K => PySem.W.subIn K (.ref 76) (.ref 37), some false),
    (fun K => PySem.W.subIn K (.ref 76) (.ref 57), some false),
    (fun K => PySem.W.subIn K (.ref 76) (.ref 76), some true),
    (fun K => PySem.W.subIn K (.ref 76) (.ref 95), some false),
    (fun K => PySem.W.subIn K (.ref 95) (.ref 24), some false),
    (fun K => PySem.W.subIn K (.ref 95) (.ref 37), some true),
    (fun K => PySem.W.subIn K (.ref 95) (.ref 57), some false),
    (fun K => PySem.W.subIn K (.ref 95) (.ref 76), some false),
    (fun K => PySem.W.subIn K (.ref 95) (.ref 95), some true),
    (fun K => PySem.W.subIn K (.ref 95) (.type "KeyError"), some true)]
def hdBs : List (PySem.W.Frag → Bool) := [fun K => conB K "LEAST_MEMBERS" (V.int 2),
    fun K => conB K "MOST_MEMBERS" (V.int 5),
    fun K => PySem.W.hasDictIn K 24,
    fun K => PySem.W.hasDictIn K 37,
    fun K => PySem.W.hasDictIn K 57,
    fun K => PySem.W.hasDictIn K 76,
    fun K => PySem.W.hasDictIn K 95,
    fun K => PySem.W.hasDictIn K 209,
    fun K => PySem.W.readsIn K 24 (.type "type"),
    fun K => PySem.W.readsIn K 37 (.type "type"),
    fun K => PySem.W.isFn K (.ref 54),
    fun K => PySem.W.isFn K (.ref 73),
    fun K => PySem.W.isFn K (.ref 159),
    fun K => PySem.W.isFn K (.ref 166),
    fun K => PySem.W.isFn K (.ref 173),
    fun K => PySem.W.isFn K (.ref 180),
    fun K => PySem.W.isFn K (.ref 187),
    fun K => PySem.W.isFn K (.ref 194),
    fun K => PySem.W.isFn K (.ref 199),
    fun K => PySem.W.isFn K (.ref 206),
    fun K => PySem.W.isFn K (.ref 92),
    fun K => PySem.W.isFn K (.ref 131),
    fun K => PySem.W.isFn K (.ref 138),
    fun K => PySem.W.isFn K (.ref 145),
    fun K => PySem.W.isFn K (.ref 152),
    fun K => PySem.W.isClsIn K 24,
    fun K => PySem.W.isClsIn K 37,
    fun K => PySem.W.isClsIn K 57,
    fun K => PySem.W.isClsIn K 76,
    fun K => PySem.W.isClsIn K 95,
    fun K => PySem.W.isClsIn K 209,
    fun K => PySem.W.keepIn K (.ref 54),
    fun K => PySem.W.keepIn K (.ref 73),
    fun K => PySem.W.keepIn K (.ref 159),
    fun K => PySem.W.keepIn K (.ref 166),
    fun K => PySem.W.keepIn K (.ref 173),
    fun K => PySem.W.keepIn K (.ref 180),
    fun K => PySem.W.keepIn K (.ref 187),
    fun K => PySem.W.keepIn K (.ref 194),
    fun K => PySem.W.keepIn K (.ref 199),
    fun K => PySem.W.keepIn K (.ref 206),
    fun K => PySem.W.keepIn K (.ref 220),
    fun K => PySem.W.keepIn K (.ref 227),
    fun K => PySem.W.keepIn K (.ref 92),
    fun K => PySem.W.keepIn K (.ref 234),
    fun K => PySem.W.keepIn K (.ref 241),
    fun K => PySem.W.keepIn K (.ref 248),
    fun K => PySem.W.keepIn K (.ref 255),
    fun K => PySem.W.keepIn K (.ref 262),
    fun K => PySem.W.keepIn K (.ref 269),
    fun K => PySem.W.keepIn K (.ref 274),
    fun K => PySem.W.keepIn K (.ref 279),
    fun K => PySem.W.keepIn K (.ref 286),
    fun K => PySem.W.keepIn K (.ref 293),
    fun K => PySem.W.keepIn K (.ref 105),
    fun K => PySem.W.keepIn K (.ref 300),
    fun K => PySem.W.keepIn K (.ref 305),
    fun K => PySem.W.keepIn K (.ref 112),
    fun K => PySem.W.keepIn K (.ref 117),
    fun K => PySem.W.keepIn K (.ref 131),
    fun K => PySem.W.keepIn K (.ref 138),
    fun K => PySem.W.keepIn K (.ref 145),
    fun K => PySem.W.keepIn K (.ref 152),
    fun K => PySem.W.keepIn K (.ref 57),
    fun K => PySem.W.keepIn K (.ref 76),
    fun K => PySem.W.keepIn K (.ref 95),
    fun K => PySem.W.keepIn K (.ref 209),
    fun K => PySem.W.makesIn K 209,
    fun K => PySem.W.plainGet K 209 Str.empty,
    fun K => PySem.W.plainOver K 209,
    fun K => oexB K 57,
    fun K => oexB K 76,
    fun K => oexBK K 95]
def hd : HdD := { as := hdAs, fn := hdFn, ts := hdTs, vs := hdVs, us := hdUs, cs := hdCs, os := hdOs, bs := hdBs }
abbrev hdR : PySem.W.OpenRow := PySem.W.OpenLaw.row PySem.Challenge.rw_causehall_k34_roads_refused
abbrev hdQ : Program := PySem.W.view hdR.prog [28]
def hdL0 : List Str := ["HallError", "Missing", "NoNumber", "NoMember", "NotOnRoad", "LEAST_MEMBERS", "MOST_MEMBERS", "is_whole", "are_members", "copied_thing", "Roads", "_law_cell_at", "_law_pool", "_law_take", "_law_road", "_law_number", "_law_kinds", "_law_gone", "_law_very", "_law_refused", "_law_stands", "_law_made", "_law_step", "_law_looked"]
def hdLoose : List Str := hdL0
theorem run0 (w : World) : HeadRun.RunEq hdR hdQ hd.hook hd.ob 2883 hdLoose w := by
  intro os
  kernel_rfl
end My
set_option maxHeartbeats 4000000
set_option Elab.async false
set_option maxRecDepth 100000
set_option maxHeartbeats 4000000
/-! == of things of any make: what is one thing, numbers, texts, lists and tuples of such. -/
namespace My
open PySem L2 PySem.SeqAt PySem.W
/-- what == says of two flat things, numbers and truths together -/
def eqF : V → V → Option Bool
  | .int i, .int j => some (i == j)
  | .bl i, .bl j => some (i == j)
  | .str i, .str j => some (i == j)
  | .bl a, .int j => some ((if a then 1 else 0) == j)
  | .int i, .bl b => some (i == (if b then 1 else 0))
  | .non, .non => some true
  | .int _, .non | .non, .int _ | .int _, .str _ | .str _, .int _ | .str _, .non | .non, .str _ | .bl _, .non | .non, .bl _ | .bl _, .str _ | .str _, .bl _ => some false
  | _, _ => none
theorem eqF_at {A : Around} {s : Shared} {x y : V} {b : Bool} {u v : Value} (h : eqF x y = some b) (ru : RelV x u) (rv : RelV y v) : EqAt A s u v b := by
  cases x with
  | non =>
    cases y with
    | non =>
      obtain rfl : u = Value.none := ru
      obtain rfl : v = Value.none := rv
      obtain rfl := Option.some.inj h
      exact .same _
    | bl q =>
      obtain rfl : u = Value.none := ru
      obtain rfl : v = Value.bool q := rv
      obtain rfl := Option.some.inj h
      exact .none_bool _
    | int q =>
      obtain rfl : u = Value.none := ru
      obtain ⟨tq, rfl⟩ : ∃ t, v = Value.int q t := rv
      obtain rfl := Option.some.inj h
      exact .none_int _ _
    | str q =>
      obtain rfl : u = Value.none := ru
      obtain ⟨tq, rfl⟩ : ∃ t, v = Value.str q t := rv
      obtain rfl := Option.some.inj h
      exact .none_str _ _
    | _ => cases h
  | bl p =>
    cases y with
    | non =>
      obtain rfl : u = Value.bool p := ru
      obtain rfl : v = Value.none := rv
      obtain rfl := Option.some.inj h
      exact .bool_none _
    | bl q =>
      obtain rfl : u = Value.bool p := ru
      obtain rfl : v = Value.bool q := rv
      obtain rfl := Option.some.inj h
      exact .bool_bool _ _
    | int q =>
      obtain rfl : u = Value.bool p := ru
      obtain ⟨tq, rfl⟩ : ∃ t, v = Value.int q t := rv
      obtain rfl := Option.some.inj h
      exact .bool_int _ _ _
    | str q =>
      obtain rfl : u = Value.bool p := ru
      obtain ⟨tq, rfl⟩ : ∃ t, v = Value.str q t := rv
      obtain rfl := Option.some.inj h
      exact .bool_str _ _ _
    | _ => cases h
  | int p =>
    cases y with
    | non =>
      obtain ⟨tp, rfl⟩ : ∃ t, u = Value.int p t := ru
      obtain rfl : v = Value.none := rv
      obtain rfl := Option.some.inj h
      exact .int_none _ _
    | bl q =>
      obtain ⟨tp, rfl⟩ : ∃ t, u = Value.int p t := ru
      obtain rfl : v = Value.bool q := rv
      obtain rfl := Option.some.inj h
      exact .int_bool _ _ _
    | int q =>
      obtain ⟨tp, rfl⟩ : ∃ t, u = Value.int p t := ru
      obtain ⟨tq, rfl⟩ : ∃ t, v = Value.int q t := rv
      obtain rfl := Option.some.inj h
      exact .int_int _ _ _ _
    | str q =>
      obtain ⟨tp, rfl⟩ : ∃ t, u = Value.int p t := ru
      obtain ⟨tq, rfl⟩ : ∃ t, v = Value.str q t := rv
      obtain rfl := Option.some.inj h
      exact .int_str _ _ _ _
    | _ => cases h
  | str p =>
    cases y with
    | non =>
      obtain ⟨tp, rfl⟩ : ∃ t, u = Value.str p t := ru
      obtain rfl : v = Value.none := rv
      obtain rfl := Option.some.inj h
      exact .str_none _ _
    | bl q =>
      obtain ⟨tp, rfl⟩ : ∃ t, u = Value.str p t := ru
      obtain rfl : v = Value.bool q := rv
      obtain rfl := Option.some.inj h
      exact .str_bool _ _ _
    | int q =>
      obtain ⟨tp, rfl⟩ : ∃ t, u = Value.str p t := ru
      obtain ⟨tq, rfl⟩ : ∃ t, v = Value.int q t := rv
      obtain rfl := Option.some.inj h
      exact .str_int _ _ _ _
    | str q =>
      obtain ⟨tp, rfl⟩ : ∃ t, u = Value.str p t := ru
      obtain ⟨tq, rfl⟩ : ∃ t, v = Value.str q t := rv
      obtain rfl := Option.some.inj h
      exact .str_str _ _ _ _
    | _ => cases h
  | _ => cases y <;> cases h
mutual
/-- x == y is b, as an item of a list tells it -/
inductive EqV (K : Frag) (H : Hp) : Nat → V → V → Bool → Prop
  | one {n : Nat} {a : Addr} : EqV K H n (.ref a) (.ref a) true
  | flat {n : Nat} {x y : V} {b : Bool} (h : eqF x y = some b) : EqV K H n x y b
  | lsts {n : Nat} {a c : Addr} {xs ys : List V} {b : Bool} (d : a ≠ c) (h1 : SqL K H a xs) (h2 : SqL K H c ys) (h : EqVs K H n xs ys b) : EqV K H (n + 1) (.ref a) (.ref c) b
  | tups {n : Nat} {a c : Addr} {xs ys : List V} {b : Bool} (d : a ≠ c) (h1 : SqT K H a xs) (h2 : SqT K H c ys) (h : EqVs K H n xs ys b) : EqV K H (n + 1) (.ref a) (.ref c) b
/-- of two rows -/
inductive EqVs (K : Frag) (H : Hp) : Nat → List V → List V → Bool → Prop
  | nil {n : Nat} : EqVs K H n [] [] true
  | cons {n : Nat} {x y : V} {xs ys : List V} {b c : Bool} (h : EqV K H n x y b) (t : EqVs K H n xs ys c) : EqVs K H n (x :: xs) (y :: ys) (b && c)
  | nilc {n : Nat} {y : V} {ys : List V} : EqVs K H n [] (y :: ys) false
  | cnil {n : Nat} {x : V} {xs : List V} : EqVs K H n (x :: xs) [] false
end
section
variable {X : Cx} {pins : List (Addr × Obj)} {σ : St} {H : Hp} {s : Shared}
/-- of a row: each place's answer -/
def RowT (s : Shared) (n : Nat) (us ws : List Value) (b : Bool) : Prop :=
  ∃ e : Nat → Bool, (∀ j (h1 : j < us.length) (h2 : j < ws.length) (A : Around), A.units + n < cLine → EqAt A s us[j] ws[j] (e j)) ∧ (us.length = ws.length → b = (List.range us.length).all e) ∧ (us.length ≠ ws.length → b = false)
theorem all_succ (e : Nat → Bool) (n : Nat) : (List.range (n + 1)).all e = (e 0 && (List.range n).all fun j => e (j + 1)) := by
  rw [List.range_succ_eq_map, List.all_cons, List.all_map]
  rfl
theorem RowT.lists {n : Nat} {us ws : List Value} {b : Bool} {a c : Addr} (r : RowT s n us ws b) (ha : s.heap.IsList a us.toArray) (hc : s.heap.IsList c ws.toArray) {A : Around} (hu : A.units + (n + 1) < cLine) : RcAt A s (.ref a) (.ref c) b ∧ RcNeAt A s (.ref a) (.ref c) (!b) := by
  obtain ⟨e, t, q1, q2⟩ := r
  have t' : ∀ j (h1 : j < us.toArray.size) (h2 : j < ws.toArray.size), EqAt A.in1 s us.toArray[j] ws.toArray[j] (e j) := fun j h1 h2 => t j h1 h2 A.in1 (by show A.units + 1 + n < cLine; omega)
  by_cases hl : us.length = ws.length
  · rw [q1 hl]
    exact ⟨.lists ha hc hl (by omega) t', .lists ha hc hl (by omega) t'⟩
  · rw [q2 hl]
    have hb : (us.toArray.size != ws.toArray.size) = true := by simpa using hl
    exact ⟨.lists_lengths ha hc hb (by omega), .lists_lengths ha hc hb (by omega)⟩
theorem RowT.tups {n : Nat} {us ws : List Value} {b : Bool} {a c : Addr} (r : RowT s n us ws b) (ha : s.heap.IsTuple a us.toArray) (hc : s.heap.IsTuple c ws.toArray) {A : Around} (hu : A.units + (n + 1) < cLine) : RcAt A s (.ref a) (.ref c) b ∧ RcNeAt A s (.ref a) (.ref c) (!b) := by
  obtain ⟨e, t, q1, q2⟩ := r
  have t' : ∀ j (h1 : j < us.toArray.size) (h2 : j < ws.toArray.size), EqAt A.in1 s us.toArray[j] ws.toArray[j] (e j) := fun j h1 h2 => t j h1 h2 A.in1 (by show A.units + 1 + n < cLine; omega)
  have g1 := RcAt.tuples ha hc (by omega) t'
  have g2 := RcNeAt.tuples ha hc (by omega) t'
  have e1 : ((List.range (min us.toArray.size ws.toArray.size)).all e && us.toArray.size == ws.toArray.size) = b := by
    by_cases hl : us.length = ws.length
    · rw [q1 hl]
      simp [hl]
    · rw [q2 hl]
      simp [hl]
  rw [e1] at g1 g2
  exact ⟨g1, g2⟩
mutual
theorem EqV.at (I : Inv X pins σ H s) : ∀ {n : Nat} {x y : V} {b : Bool}, EqV X.K H n x y b → ∀ {u v : Value}, RelV x u → RelV y v → ∀ A : Around, A.units + n < cLine → EqAt A s u v b
  | _, _, _, _, .one, _, _, ru, rv, _, _ => by
    cases ru
    cases rv
    exact .same _
  | _, _, _, _, .flat h, _, _, ru, rv, _, _ => eqF_at h ru rv
  | _, _, _, _, .lsts d h1 h2 h, _, _, ru, rv, A, hu => by
    cases ru
    cases rv
    obtain ⟨us, r1, p1, _⟩ := I.list h1
    obtain ⟨ws, r2, p2, _⟩ := I.list h2
    exact .of_refs d ((EqVs.row I h r1 r2).lists p1.isList p2.isList hu).1
  | _, _, _, _, .tups d h1 h2 h, _, _, ru, rv, A, hu => by
    cases ru
    cases rv
    obtain ⟨us, r1, p1, _⟩ := I.tuple h1
    obtain ⟨ws, r2, p2, _⟩ := I.tuple h2
    exact .of_refs d ((EqVs.row I h r1 r2).tups (show s.heap.IsTuple _ us.toArray from p1) (show s.heap.IsTuple _ ws.toArray from p2) hu).1
theorem EqVs.row (I : Inv X pins σ H s) : ∀ {n : Nat} {xs ys : List V} {b : Bool}, EqVs X.K H n xs ys b → ∀ {us ws : List Value}, Vals xs us → Vals ys ws → RowT s n us ws b
  | _, _, _, _, .nil, _, _, .nil, .nil => ⟨fun _ => true, fun j h1 => absurd h1 (Nat.not_lt_zero _), fun _ => rfl, fun h => absurd rfl h⟩
  | _, _, _, _, .nilc, _, _, .nil, .cons _ _ => ⟨fun _ => true, fun j h1 => absurd h1 (Nat.not_lt_zero _), fun h => absurd h (by simp), fun _ => rfl⟩
  | _, _, _, _, .cnil, _, _, .cons _ _, .nil => ⟨fun _ => true, fun j _ h2 => absurd h2 (Nat.not_lt_zero _), fun h => absurd h (by simp), fun _ => rfl⟩
  | _, _, _, _, .cons (b := b) h t, _, _, .cons r1 s1, .cons r2 s2 => by
    obtain ⟨e, q, q1, q2⟩ := EqVs.row I t s1 s2
    have q0 := EqV.at I h r1 r2
    refine ⟨fun j => match j with | 0 => b | j + 1 => e j, ?_, ?_, ?_⟩
    · intro j h1 h2 A hu
      cases j with
      | zero => exact q0 A hu
      | succ j => exact q j (Nat.lt_of_succ_lt_succ h1) (Nat.lt_of_succ_lt_succ h2) A hu
    · intro hl
      rw [q1 (Nat.succ.inj hl)]
      show _ = (List.range (_ + 1)).all _
      rw [all_succ]
    · intro hl
      rw [q2 (fun z => hl (congrArg Nat.succ z)), Bool.and_false]
end
end
/-- == and != of two lists or two tuples, whatever stands in them -/
def rEqG (K : Frag) (ne : Bool) : R2 := fun x y H Q => ∃ (a c : Addr) (xs ys : List V) (n : Nat) (b : Bool), x = .ref a ∧ y = .ref c ∧ ((SqL K H a xs ∧ SqL K H c ys) ∨ (SqT K H a xs ∧ SqT K H c ys)) ∧ n < 60 ∧ EqVs K H n xs ys b ∧ Q (.bl (if ne then !b else b)) H
section
variable {X : Cx}
theorem op_eqG (hu : X.A.units + 64 < cLine) {K : Frag} (hK : X.K = K := by rfl) : OpR X (compareOp .Eq) (rEqG K false) := by
  subst hK
  intro pins s σ H x y v u Q I rx ry h
  obtain ⟨a, c, xs, ys, n, b, rfl, rfl, hs, hn, t, q⟩ := h
  cases rx
  cases ry
  rcases hs with ⟨h1, h2⟩ | ⟨h1, h2⟩
  · obtain ⟨us, r1, p1, _⟩ := I.list h1
    obtain ⟨ws, r2, p2, _⟩ := I.list h2
    exact ((EqVs.row I t r1 r2).lists p1.isList p2.isList (by omega)).1 _ _ _ _ ⟨.bl b, H, I, rfl, q⟩
  · obtain ⟨us, r1, p1, _⟩ := I.tuple h1
    obtain ⟨ws, r2, p2, _⟩ := I.tuple h2
    exact ((EqVs.row I t r1 r2).tups (show s.heap.IsTuple _ us.toArray from p1) (show s.heap.IsTuple _ ws.toArray from p2) (by omega)).1 _ _ _ _ ⟨.bl b, H, I, rfl, q⟩
theorem op_neG (hu : X.A.units + 64 < cLine) {K : Frag} (hK : X.K = K := by rfl) : OpR X (compareOp .NotEq) (rEqG K true) := by
  subst hK
  intro pins s σ H x y v u Q I rx ry h
  obtain ⟨a, c, xs, ys, n, b, rfl, rfl, hs, hn, t, q⟩ := h
  cases rx
  cases ry
  rcases hs with ⟨h1, h2⟩ | ⟨h1, h2⟩
  · obtain ⟨us, r1, p1, _⟩ := I.list h1
    obtain ⟨ws, r2, p2, _⟩ := I.list h2
    exact ((EqVs.row I t r1 r2).lists p1.isList p2.isList (by omega)).2 _ _ _ _ ⟨.bl (!b), H, I, rfl, q⟩
  · obtain ⟨us, r1, p1, _⟩ := I.tuple h1
    obtain ⟨ws, r2, p2, _⟩ := I.tuple h2
    exact ((EqVs.row I t r1 r2).tups (show s.heap.IsTuple _ us.toArray from p1) (show s.heap.IsTuple _ ws.toArray from p2) (by omega)).2 _ _ _ _ ⟨.bl (!b), H, I, rfl, q⟩
end
end My
/-! My own small layer: rules of one name for what several of the layer's rules say, told apart by the values. -/
namespace My
open PySem L2
/-- a is seen as o: a list, a tuple (by whatever stands there), anything else as it is tracked -/
def Obs (K : PySem.W.Frag) (H : Hp) (a : Addr) : HO → Prop
  | .lst xs => SqL K H a xs
  | .tup xs => SqT K H a xs
  | o => H a = some o
theorem Obs.of {K : PySem.W.Frag} {H : Hp} {a : Addr} {o : HO} (h : H a = some o) : Obs K H a o := by
  cases o <;> first | exact h | exact Or.inl (Or.inl h)
/-- of two numbers the greater, the lesser, as max and min tell them -/
def maxP (i j : Int) : Int := if j > i then j else i
def minP (i j : Int) : Int := if j < i then j else i
theorem maxP_eq (i j : Int) : maxP i j = max i j := by unfold maxP; omega
theorem minP_eq (i j : Int) : minP i j = min i j := by unfold minP; omega
def rMaxU : List V → Hp → VK → Prop := fun xs H Q => ∃ i j, xs = [.int i, .int j] ∧ Q (.int (maxP i j)) H
def rMinU : List V → Hp → VK → Prop := fun xs H Q => ∃ i j, xs = [.int i, .int j] ∧ Q (.int (minP i j)) H
section
variable {X : Cx}
/-! ### operators -/
def rAddU (K : PySem.W.Frag) : R2 := fun x y H Q => match x, y with
  | .int i, .int j => Q (.int (i + j)) H
  | .str i, .str j => i.length + j.length ≤ sizeLine ∧ Q (.str (i ++ j)) H
  | .ref a, .ref b => (∃ xs ys, H a = some (.lst xs) ∧ H b = some (.lst ys) ∧ xs.length + ys.length ≤ sizeLine ∧ ∀ p, H p = none → Q (.ref p) (upd H p (.lst (xs ++ ys))))
      ∨ rCatT K (.ref a) (.ref b) H Q
  | _, _ => False
theorem op_addU {K : PySem.W.Frag} (hK : X.K = K := by rfl) : OpR X (binaryOp .Add) (rAddU K) := by
  subst hK
  intro pins s σ H x y v u Q I rx ry h
  cases x <;> cases y <;> first | exact False.elim h | skip
  · exact op_add pins s σ H _ _ v u Q I rx ry ⟨_, _, rfl, rfl, h⟩
  · exact op_add_str pins s σ H _ _ v u Q I rx ry ⟨_, _, rfl, rfl, h.1, h.2⟩
  · rcases h with ⟨xs, ys, h1, h2, h3, h4⟩ | h
    · exact op_cat pins s σ H _ _ v u Q I rx ry ⟨_, _, xs, ys, rfl, rfl, h1, h2, h3, h4⟩
    · exact op_catT pins s σ H _ _ v u Q I rx ry h
theorem op_subU : OpR X (binaryOp .Sub) (rI0 fun i j => .int (i - j)) := op_sub
def rMulU : R2 := fun x y H Q => match x, y with
  | .int i, .int j => CMulW i j ∧ Q (.int (i * j)) H
  | .ref a, .int k => rRep (.ref a) (.int k) H Q
  | _, _ => False
theorem op_mulU : OpR X (binaryOp .Mult) rMulU := by
  intro pins s σ H x y v u Q I rx ry h
  cases x <;> cases y <;> first | exact False.elim h | skip
  · exact op_mulW pins s σ H _ _ v u Q I rx ry ⟨_, _, rfl, rfl, h.1, h.2⟩
  · exact op_rep pins s σ H _ _ v u Q I rx ry h
theorem op_fdivU : OpR X (binaryOp .FloorDiv) (rI CDivW fun i j => .int (i / j)) := op_fdivW
theorem op_modU : OpR X (binaryOp .Mod) (rI (fun _ j => 0 < j) fun i j => .int (i % j)) := op_mod
theorem op_powU : OpR X (binaryOp .Pow) (rI CPow fun i j => .int (i ^ j.toNat)) := op_pow
/-! ### comparisons -/
theorem op_ltU : OpR X (compareOp .Lt) (rI0 fun i j => .bl (decide (i < j))) := op_lt
theorem op_leU : OpR X (compareOp .LtE) (rI0 fun i j => .bl (decide (i ≤ j))) := op_le
theorem op_gtU : OpR X (compareOp .Gt) (rI0 fun i j => .bl (decide (j < i))) := op_gt
theorem op_geU : OpR X (compareOp .GtE) (rI0 fun i j => .bl (decide (j ≤ i))) := op_ge
/-- what == says of two flat things -/
def eqS : V → V → Option Bool
  | .int i, .int j => some (decide (i = j))
  | .bl i, .bl j => some (decide (i = j))
  | .str i, .str j => some (decide (i = j))
  | .non, .non => some true
  | .int _, .non | .non, .int _ | .int _, .str _ | .str _, .int _ | .str _, .non | .non, .str _ | .bl _, .non | .non, .bl _ | .bl _, .str _ | .str _, .bl _ => some false
  | _, _ => none
theorem eqS_scal : ∀ {x y : V} {b : Bool}, eqS x y = some b → scal x y = true ∧ decide (x = y) = b := by
  intro x y b h
  cases x <;> cases y <;> first | (cases h; done) | (cases Option.some.inj h; exact ⟨rfl, by simp⟩)
def rEqU (K : PySem.W.Frag) : R2 := fun x y H Q => match eqS x y with
  | some b => Q (.bl b) H
  | none => rEqD K x y H Q ∨ rEqG K false x y H Q
def rNeU (K : PySem.W.Frag) : R2 := fun x y H Q => match eqS x y with
  | some b => Q (.bl (!b)) H
  | none => rNeD K x y H Q ∨ rEqG K true x y H Q
theorem op_eqU (hu : X.A.units + 64 < cLine) {K : PySem.W.Frag} (hK : X.K = K := by rfl) : OpR X (compareOp .Eq) (rEqU K) := by
  subst hK
  intro pins s σ H x y v u Q I rx ry h
  unfold rEqU at h
  split at h
  · rename_i b e
    obtain ⟨e1, e2⟩ := eqS_scal e
    exact op_eq pins s σ H _ _ v u Q I rx ry ⟨e1, by rw [e2]; exact h⟩
  · rcases h with h | h
    · exact op_eqD hu pins s σ H _ _ v u Q I rx ry h
    · exact op_eqG hu rfl pins s σ H _ _ v u Q I rx ry h
theorem op_neU (hu : X.A.units + 64 < cLine) {K : PySem.W.Frag} (hK : X.K = K := by rfl) : OpR X (compareOp .NotEq) (rNeU K) := by
  subst hK
  intro pins s σ H x y v u Q I rx ry h
  unfold rNeU at h
  split at h
  · rename_i b e
    obtain ⟨e1, e2⟩ := eqS_scal e
    exact op_ne pins s σ H _ _ v u Q I rx ry ⟨e1, by rw [e2]; exact h⟩
  · rcases h with h | h
    · exact op_neD hu pins s σ H _ _ v u Q I rx ry h
    · exact op_neG hu rfl pins s σ H _ _ v u Q I rx ry h
def rIsU : R2 := fun x y H Q => match x, y with
  | .bl a, .bl b => Q (.bl (decide (a = b))) H
  | x, .non => Q (.bl (decide (x = .non))) H
  | .ref a, .ref b => ∃ oa ob, H a = some oa ∧ isObj oa = true ∧ H b = some ob ∧ isObj ob = true ∧ Q (.bl (decide (a = b))) H
  | _, _ => False
def rIsnU : R2 := fun x y H Q => match x, y with
  | .bl a, .bl b => Q (.bl (!decide (a = b))) H
  | x, .non => Q (.bl (!decide (x = .non))) H
  | .ref a, .ref b => ∃ oa ob, H a = some oa ∧ isObj oa = true ∧ H b = some ob ∧ isObj ob = true ∧ Q (.bl (!decide (a = b))) H
  | _, _ => False
theorem op_isU : OpR X (compareOp .Is) rIsU := by
  intro pins s σ H x y v u Q I rx ry h
  cases y <;> cases x <;> first
    | exact False.elim h
    | exact op_isN pins s σ H _ _ v u Q I rx ry ⟨rfl, h⟩
    | exact op_isBl pins s σ H _ _ v u Q I rx ry ⟨_, _, rfl, rfl, h⟩
    | exact op_is_ref pins s σ H _ _ v u Q I rx ry (let ⟨oa, ob, h1, h2, h3, h4, h5⟩ := h; ⟨_, _, oa, ob, rfl, rfl, h1, h2, h3, h4, h5⟩)
theorem op_isnU : OpR X (compareOp .IsNot) rIsnU := by
  intro pins s σ H x y v u Q I rx ry h
  cases y <;> cases x <;> first
    | exact False.elim h
    | exact op_notN pins s σ H _ _ v u Q I rx ry ⟨rfl, h⟩
    | exact op_notBl pins s σ H _ _ v u Q I rx ry ⟨_, _, rfl, rfl, h⟩
    | exact op_isnot_ref pins s σ H _ _ v u Q I rx ry (let ⟨oa, ob, h1, h2, h3, h4, h5⟩ := h; ⟨_, _, oa, ob, rfl, rfl, h1, h2, h3, h4, h5⟩)
/-- one sign in a text; a flat thing in a list or a tuple -/
def rInU (K : PySem.W.Frag) : R2 := fun x y H Q => match y with
  | .str z => ∃ c : Nat, x = .str ⟨#[c]⟩ ∧ Q (.bl (decide (c ∈ z.cps.toList))) H
  | _ => rIn K false x y H Q
theorem op_inU {K : PySem.W.Frag} (hK : X.K = K := by rfl) : OpR X (compareOp .In) (rInU K) := by
  subst hK
  intro pins s σ H x y v u Q I rx ry h
  cases y <;> first
    | exact op_in_seq pins s σ H _ _ v u Q I rx ry h
    | exact op_in_sign pins s σ H _ _ v u Q I rx ry (let ⟨c, e, q⟩ := h; ⟨c, _, e, rfl, q⟩)
/-! ### subscripts, slices -/
def rIxU (K : PySem.W.Frag) : R2 := fun x y H Q => match x, y with
  | .str z, .int i => z.length ≤ sizeLine ∧ ∃ c, atI z.cps.toList i = some c ∧ Q (.str ⟨#[c]⟩) H
  | .ref a, .int i => ∃ xs v, (SqL K H a xs ∨ SqT K H a xs) ∧ atI xs i = some v ∧ Q v H
  | _, _ => False
theorem ix_U {K : PySem.W.Frag} (hK : X.K = K := by rfl) : IxR X (rIxU K) := by
  subst hK
  intro e1 e2 pins s σ H x y v u Q I rx ry h hs
  cases x <;> cases y <;> first | exact False.elim h | skip
  · obtain ⟨h1, c, h2, h3⟩ := h
    exact ix_str e1 e2 pins s σ H _ _ v u Q I rx ry ⟨_, _, c, rfl, rfl, h1, h2, h3⟩ hs
  · obtain ⟨xs, w, h1, h2, h3⟩ := h
    rcases h1 with h1 | h1
    · exact ix_list e1 e2 pins s σ H _ _ v u Q I rx ry ⟨_, xs, _, w, rfl, rfl, h1, h2, h3⟩ hs
    · exact ix_tup e1 e2 pins s σ H _ _ v u Q I rx ry ⟨_, xs, _, w, rfl, rfl, h1, h2, h3⟩ hs
def rSlU (K : PySem.W.Frag) : V → Option Int → Option Int → Hp → VK → Prop := fun x lo hi H Q => match x with
  | .str z => z.length ≤ sizeLine ∧ Q (.str (cutS z lo hi)) H
  | .ref a => rSlL K (.ref a) lo hi H Q ∨ rSlT K (.ref a) lo hi H Q
  | _ => False
theorem sl_U {K : PySem.W.Frag} (hK : X.K = K := by rfl) : SlR X (rSlU K) := by
  subst hK
  intro pins s σ H x v vl vu lo hi sl Q I rx h1 h2 h3 h
  cases x <;> first | exact False.elim h | skip
  · exact sl_str pins s σ H _ v vl vu lo hi sl Q I rx h1 h2 h3 ⟨_, rfl, h.1, h.2⟩
  · exact sl_list.or sl_tup pins s σ H _ v vl vu lo hi sl Q I rx h1 h2 h3 h
/-! ### len, isinstance, int, str -/
def rLenU (K : PySem.W.Frag) : List V → Hp → VK → Prop := fun xs H Q => ∃ x n, xs = [x] ∧ LenV K x H n ∧ Q (.int n) H
theorem call_lenU {K : PySem.W.Frag} (hK : X.K = K := by rfl) : CallR X (.builtin "len") (rLenU K) := by
  subst hK
  exact call_len
def rIntU : List V → Hp → VK → Prop := fun xs H Q => match xs with
  | [.int i] => Q (.int i) H
  | [.bl k] => Q (.int (if k then 1 else 0)) H
  | [.str a] => ∃ n, PySem.intText? a = some n ∧ a.length ≤ 640 ∧ Q (.int n) H
  | _ => False
theorem call_intU : CallR X (.type "int") rIntU := by
  intro pins s σ H xs us Q I r h
  unfold rIntU at h
  split at h
  · exact call_int1 pins s σ H _ us Q I r (.inl ⟨_, rfl, h⟩)
  · exact call_int1 pins s σ H _ us Q I r (.inr ⟨_, rfl, h⟩)
  · obtain ⟨n, h1, h2, h3⟩ := h
    exact call_int_str pins s σ H _ us Q I r ⟨_, n, rfl, h1, h2, h3⟩
  · exact False.elim h
/-! ### isinstance -/
end
/-- the built-in classes that are asked for -/
inductive Kd where | int | bl | str | lst | tup | dct
  deriving DecidableEq
def Kd.name : Kd → String | .int => "int" | .bl => "bool" | .str => "str" | .lst => "list" | .tup => "tuple" | .dct => "dict"
/-- what the text says of a class of its own, for isinstance of its instances and of others -/
structure IsC (K : PySem.W.Frag) (C : Addr) : Prop where
  ha : PySem.W.findIn K (.ref C) "__class__" = some (some (.builtin "object.__class__"))
  hn : PySem.W.specialIn K (.builtin "object.__class__") "__get__" = some (some (.builtin "getset_descriptor.__get__"))
  htk : PySem.W.takesIn K (.builtin "object.__class__") = some true
  hm : PySem.W.mroIn K C (.type "object") = some true
  out : ∀ d : Kd, PySem.W.kitOne K (.ref C) (.type d.name) = some false
  inn : ∀ t : String, t ∈ ["NoneType", "int", "bool", "str", "list", "tuple", "dict"] → PySem.W.kitOne K (.type t) (.ref C) = some false
theorem kit_out {K : PySem.W.Frag} {C : Addr} {n : String} {b : Bool} (hm : PySem.W.kitMeta n = true) (h : PySem.W.subIn K (.ref C) (.type n) = some b) : PySem.W.kitOne K (.ref C) (.type n) = some b := by
  unfold PySem.W.kitOne PySem.W.kitCls
  rw [if_neg (show ¬ ((Value.ref C == Value.type n) = true) by simp)]
  show (if PySem.W.kitMeta n = true then _ else _) = _
  rw [if_pos hm, h]
theorem kit_in {K : PySem.W.Frag} {C : Addr} {t : Value} {b : Bool} (h0 : (t == Value.ref C) = false) (h1 : PySem.W.isClsIn K C = true) (h2 : PySem.W.typeIn K (.ref C) = some (.type "type")) (h : PySem.W.subIn K t (.ref C) = some b) : PySem.W.kitOne K t (.ref C) = some b := by
  unfold PySem.W.kitOne PySem.W.kitCls
  rw [if_neg (by rw [h0]; exact Bool.false_ne_true)]
  show (if ((PySem.W.clsIn K C).isSome && PySem.W.typeIn K (.ref C) == some (.type "type")) = true then _ else _) = _
  have e : (PySem.W.clsIn K C).isSome = true := h1
  rw [if_pos (by rw [e, h2]; rfl), h]
/-- is x of the kind d: what the value alone tells -/
def Kd.has (d : Kd) : V → Bool
  | .int _ => d == .int
  | .bl _ => d == .int || d == .bl
  | .str _ => d == .str
  | _ => false
def Kd.hasO (d : Kd) : HO → Bool
  | .lst _ => d == .lst
  | .tup _ => d == .tup
  | .dK _ => d == .dct
  | .dT _ => d == .dct
  | _ => false
/-- an object whose class is known -/
def KnO (K : PySem.W.Frag) : HO → Prop
  | .lst _ => True
  | .tup _ => True
  | .dK _ => True
  | .dT _ => True
  | .ins C _ _ => Cls K C ∧ IsC K C
  | _ => False
def Kn (K : PySem.W.Frag) (H : Hp) : V → Prop
  | .non => True
  | .bl _ => True
  | .int _ => True
  | .str _ => True
  | .ref a => ∃ o, Obs K H a o ∧ KnO K o
  | _ => False
/-- the class of a value as the library tells it -/
def isO (K : PySem.W.Frag) (x : V) (H : Hp) (R : (Kd → Bool) → Option Addr → Prop) : Prop := match x with
  | .non => R (fun _ => false) none
  | .bl b => R (fun d => d.has (.bl b)) none
  | .int i => R (fun d => d.has (.int i)) none
  | .str z => R (fun d => d.has (.str z)) none
  | .ref a => ∃ o, Obs K H a o ∧ match o with
    | .lst _ => R (fun d => d == .lst) none
    | .tup _ => R (fun d => d == .tup) none
    | .dK _ => R (fun d => d == .dct) none
    | .dT _ => R (fun d => d == .dct) none
    | .ins C _ _ => Cls K C ∧ IsC K C ∧ R (fun _ => false) (some C)
    | _ => False
  | _ => False
theorem tyx_lst {K : PySem.W.Frag} {H : Hp} {a : Addr} {xs : List V} (h : SqL K H a xs) : TyX K H (.ref a) (.type "list") := by
  rcases h with (h | ⟨o, h⟩) | ⟨o, its, n, h1, h2, _⟩
  · exact .base (.lst h)
  · exact .base (.frz h)
  · exact .kList h1 h2
theorem tyx_tup {K : PySem.W.Frag} {H : Hp} {a : Addr} {xs : List V} (h : SqT K H a xs) : TyX K H (.ref a) (.type "tuple") := by
  rcases h with (h | ⟨o, h⟩) | ⟨o, its, n, h1, h2, _⟩
  · exact .base (.tup h)
  · exact .fTuple h
  · exact .kTuple h1 h2
theorem kdk : ∀ (t : String) (d : Kd), t ∈ ["NoneType", "int", "bool", "str", "list", "tuple", "dict"] → kitB t d.name = some (t == d.name || (t == "bool" && d == .int)) := by
  intro t d ht
  simp only [List.mem_cons, List.not_mem_nil, or_false] at ht
  rcases ht with rfl | rfl | rfl | rfl | rfl | rfl | rfl <;> cases d <;> decide +kernel
/-- the type t of x, and what each asked class says of it -/
theorem isO_ty {K : PySem.W.Frag} {x : V} {H : Hp} {R : (Kd → Bool) → Option Addr → Prop} (h : isO K x H R) : ∃ t f c, TyX K H x t ∧ R f c ∧ (∀ d : Kd, PySem.W.kitOne K t (.type d.name) = some (f d)) ∧
    ((c = none ∧ ∃ n, t = .type n ∧ n ∈ ["NoneType", "int", "bool", "str", "list", "tuple", "dict"]) ∨ ∃ C, c = some C ∧ t = .ref C ∧ IsC K C) := by
  have kk : ∀ n, n ∈ ["NoneType", "int", "bool", "str", "list", "tuple", "dict"] → ∀ f : Kd → Bool, (∀ d : Kd, (n == d.name || (n == "bool" && d == .int)) = f d) → ∀ d : Kd, PySem.W.kitOne K (.type n) (.type d.name) = some (f d) := fun n hn f hf d => by
    have e := kdk n d hn
    rw [hf d] at e
    exact kit_ty e
  cases x with
  | non => exact ⟨_, _, _, .base .non, h, kk "NoneType" (by decide) _ (fun d => by cases d <;> decide), .inl ⟨rfl, _, rfl, by decide⟩⟩
  | bl b => exact ⟨_, _, _, .base (.bl b), h, kk "bool" (by decide) _ (fun d => by cases d <;> rfl), .inl ⟨rfl, _, rfl, by decide⟩⟩
  | int i => exact ⟨_, _, _, .base (.int i), h, kk "int" (by decide) _ (fun d => by cases d <;> rfl), .inl ⟨rfl, _, rfl, by decide⟩⟩
  | str z => exact ⟨_, _, _, .base (.str z), h, kk "str" (by decide) _ (fun d => by cases d <;> rfl), .inl ⟨rfl, _, rfl, by decide⟩⟩
  | byt _ => exact h.elim
  | flt _ => exact h.elim
  | ty _ => exact h.elim
  | ref a =>
    obtain ⟨o, ho, h⟩ := h
    cases o with
    | lst xs => exact ⟨_, _, _, tyx_lst ho, h, kk "list" (by decide) _ (fun d => by cases d <;> rfl), .inl ⟨rfl, _, rfl, by decide⟩⟩
    | tup xs => exact ⟨_, _, _, tyx_tup ho, h, kk "tuple" (by decide) _ (fun d => by cases d <;> rfl), .inl ⟨rfl, _, rfl, by decide⟩⟩
    | dK kvs => exact ⟨_, _, _, .base (.dK ho), h, kk "dict" (by decide) _ (fun d => by cases d <;> rfl), .inl ⟨rfl, _, rfl, by decide⟩⟩
    | dT kvs => exact ⟨_, _, _, .base (.dT ho), h, kk "dict" (by decide) _ (fun d => by cases d <;> rfl), .inl ⟨rfl, _, rfl, by decide⟩⟩
    | ins C dx fs =>
      obtain ⟨c, ic, h⟩ := h
      exact ⟨_, _, _, .base (.ins ho c ic.ha ic.hn ic.htk ic.hm), h, ic.out, .inr ⟨C, rfl, rfl, ic⟩⟩
    | _ => exact h.elim
/-- isinstance(x, T) -/
def rIsiB (d : Kd) (K : PySem.W.Frag) : List V → Hp → VK → Prop := fun xs H Q => ∃ x, xs = [x, .ty d.name] ∧ isO K x H fun f _ => Q (.bl (f d)) H
/-- isinstance(x, (T, U)), the tuple just laid -/
def rIsiBs (ds : List Kd) (K : PySem.W.Frag) : List V → Hp → VK → Prop := fun xs H Q => ∃ x tp, xs = [x, .ref tp] ∧ H tp = some (.tup (ds.map fun d => .ty d.name)) ∧ isO K x H fun f _ => Q (.bl (ds.any f)) H
/-- isinstance(x, C), C of the text -/
def rIsiC (C : Addr) (K : PySem.W.Frag) : List V → Hp → VK → Prop := fun xs H Q => ∃ x, xs = [x, .ref C] ∧ isO K x H fun _ c => match c with
  | none => Q (.bl false) H
  | some D => ∃ b, PySem.W.kitOne K (.ref D) (.ref C) = some b ∧ Q (.bl b) H
section
variable {X : Cx}
theorem call_isiB (d : Kd) {K : PySem.W.Frag} (hK : X.K = K := by rfl) : CallR X (.builtin "isinstance") (rIsiB d K) := by
  subst hK
  intro pins s σ H xs us Q I r h
  obtain ⟨x, rfl, h⟩ := h
  obtain ⟨t, f, c, ty, q, k, _⟩ := isO_ty h
  exact call_isi pins s σ H _ us Q I r ⟨x, _, t, _, _, rfl, .ty _, ty, k d, q⟩
theorem kitAny_kds {K : PySem.W.Frag} {t : Value} {f : Kd → Bool} (k : ∀ d : Kd, PySem.W.kitOne K t (.type d.name) = some (f d)) : ∀ ds : List Kd, PySem.W.kitAny K t (ds.map fun d => .type d.name) = some (ds.any f)
  | [] => rfl
  | d :: ds => kitAny_cons (k d) (fun e => by rw [kitAny_kds k ds, List.any_cons, e]; rfl) (fun e => by rw [List.any_cons, e]; rfl)
theorem clsV_kds : ∀ ds : List Kd, Paired ClsV (ds.map fun d => V.ty d.name) (ds.map fun d => Value.type d.name)
  | [] => .nil
  | _ :: ds => .cons (.ty _) (clsV_kds ds)
theorem call_isiBs (ds : List Kd) {K : PySem.W.Frag} (hK : X.K = K := by rfl) : CallR X (.builtin "isinstance") (rIsiBs ds K) := by
  subst hK
  intro pins s σ H xs us Q I r h
  obtain ⟨x, tp, rfl, ht, h⟩ := h
  obtain ⟨t, f, c, ty, q, k, _⟩ := isO_ty h
  exact call_isiT pins s σ H _ us Q I r ⟨x, tp, _, t, _, _, rfl, ht, clsV_kds ds, ty, kitAny_kds k ds, q⟩
theorem call_isiC {C : Addr} {K : PySem.W.Frag} (ic : IsC K C) (hK : X.K = K := by rfl) : CallR X (.builtin "isinstance") (rIsiC C K) := by
  subst hK
  intro pins s σ H xs us Q I r h
  obtain ⟨x, rfl, h⟩ := h
  obtain ⟨t, f, c, ty, q, k, e⟩ := isO_ty h
  rcases e with ⟨rfl, n, rfl, hn⟩ | ⟨D, rfl, rfl, _⟩
  · exact call_isi pins s σ H _ us Q I r ⟨x, _, _, _, _, rfl, .own _, ty, ic.inn n hn, q⟩
  · obtain ⟨b, e, q⟩ := q
    exact call_isi pins s σ H _ us Q I r ⟨x, _, _, _, _, rfl, .own _, ty, e, q⟩
/-! ### rules of the layer, the written part named -/
theorem call_maxU (hc : X.calm = true) : CallR X (.builtin "max") (rMaxU) := call_max2 hc
theorem call_minU (hc : X.calm = true) : CallR X (.builtin "min") (rMinU) := call_min2 hc
theorem cr_allK {K : PySem.W.Frag} (hc : X.calm = true) (hK : X.K = K := by rfl) : CallR X (.builtin "all") (rAll K) := by
  subst hK
  exact cr_all hc
theorem cr_anyK {K : PySem.W.Frag} (hc : X.calm = true) (hK : X.K = K := by rfl) : CallR X (.builtin "any") (rAny K) := by
  subst hK
  exact cr_any hc
theorem cr_sumK {K : PySem.W.Frag} (hc : X.calm = true) (hK : X.K = K := by rfl) : CallR X (.builtin "sum") (rSum K) := by
  subst hK
  exact cr_sum hc
theorem cr_maxK {K : PySem.W.Frag} (hc : X.calm = true) (hK : X.K = K := by rfl) : CallR X (.builtin "max") (rMax K) := by
  subst hK
  exact cr_max hc
theorem cr_minK {K : PySem.W.Frag} (hc : X.calm = true) (hK : X.K = K := by rfl) : CallR X (.builtin "min") (rMin K) := by
  subst hK
  exact cr_min hc
theorem pi_listK {tg l : Expr} {tl : TE} {K : PySem.W.Frag} (hl : PE X l tl) (hK : X.K = K := by rfl) : PI X tg l (iList K tl) := by
  subst hK
  exact pi_list hl
theorem pi_tupK {tg l : Expr} {tl : TE} {K : PySem.W.Frag} (hl : PE X l tl) (hK : X.K = K := by rfl) : PI X tg l (iTup K tl) := by
  subst hK
  exact pi_tup hl
theorem pi_strK {tg l : Expr} {tl : TE} (hl : PE X l tl) : PI X tg l (iStr tl) := pi_str hl
theorem pg_tupK {es : List Expr} {k : Nat} {t : TGs} {n : Nat} {pos : Pos} {K : PySem.W.Frag} (hc : X.calm = true) (h : PGs X es t) (hK : X.K = K := by rfl)
    (hn : (assignEach es X.env).length = n := by rfl) (hst : (assignEach es X.env).findIdx? (·.1) = none := by rfl) : PG X (.Tuple es k pos) (gTup K n t) := by
  subst hK
  exact pg_tup hc h hn hst
theorem pe_fldK {e : Expr} {f : Str} {pos : Pos} {ta : TE} {K : PySem.W.Frag} (he : PE X e ta) (hK : X.K = K := by rfl) (hb : attributeBase e f X.env (eval e X.env) = eval e X.env := by rfl) : PE X (.Attribute e f pos) (tFld K ta f) := by
  subst hK
  exact pe_fld he hb
theorem ps_fldK {o value : Expr} {f : Str} {pos pos' : Pos} {ta tv : TE} {K : PySem.W.Frag} (ha : PE X o ta) (hv : PE X value tv) (hK : X.K = K := by rfl) (hs : swapsWith value (some (.Attribute o f pos')) pos.line X.env = pure false := by rfl) : PS X (.Assign [.Attribute o f pos'] value pos) (sFld K ta tv f) := by
  subst hK
  exact ps_fld ha hv hs
/-! ### names of the module, calls with defaults -/
theorem pe_globE {x : Str} {v : V} {pos : Pos} (hg : Gl X x) (hm : ∃ u, X.mg x = some u ∧ RelV v u) (hd : (x == ("__debug__" : Str)) = false := by decide) : PE X (.Name x pos) (tC v) := by
  obtain ⟨u, hm, r⟩ := hm
  exact pe_glob hg hm r hd
theorem pe_callD {CX : CXT} {k : Nat} {f : Addr} {fd : FuncData} {ps : List Str} {sp : Sp} {dvs : List V} {E : XK} {x : Str} {p pos : Pos} {e : Expr} {es : List Expr} {t : TA}
    (F : FnOk X.prog X.w X.K X.mg X.base CX k f fd ps sp) (hr : Room k X.A) (hg : Gl X x) (hm : X.mg x = some (.ref f)) (hk : PySem.W.keepIn X.K (.ref f) = true) (hb : ∃ ds, Vals dvs ds ∧ Binds X.K fd ps ds) (hx : Passes CX X E)
    (ha : PA X (e :: es) t) (hdb : (x == ("__debug__" : Str)) = false := by decide) (he : starEach (e :: es) X.env = (false, eval e X.env) :: starEach es X.env := by rfl) (hpl : (backTo pos (starEach es X.env)).any (·.1) = false := by rfl) :
    PE X (.Call (.Name x p) (e :: es) [] pos) (tCall sp dvs E t) := by
  obtain ⟨ds, hd, hb⟩ := hb
  exact pe_call F hr hg hm hk hb hd hx ha hdb he hpl
theorem pe_callNE {CX : CXT} {k n : Nat} {f : Addr} {fd : FuncData} {ps ks : List Str} {sp : Sp} {E : XK} {x : Str} {p pos : Pos} {e : Expr} {es : List Expr} {kws : List Keyword} {t tk : TA} {gV : List V → List V → List V}
    (F : FnOk X.prog X.w X.K X.mg X.base CX k f fd ps sp) (hr : Room k X.A) (hg : Gl X x) (hm : X.mg x = some (.ref f)) (hk : PySem.W.keepIn X.K (.ref f) = true) (hb : ∃ g, KBn X.K fd ps n ks g gV) (hx : Passes CX X E)
    (ha : PA X (e :: es) t) (hkw : PK X kws tk) (hall : (backToKw pos (keywordEach kws X.env)).all (·.1.isSome) = true := by rfl) (hks : (backToKw pos (keywordEach kws X.env)).filterMap (·.1) = ks := by rfl)
    (hdb : (x == ("__debug__" : Str)) = false := by decide) (he : starEach (e :: es) X.env = (false, eval e X.env) :: starEach es X.env := by rfl)
    (hpl : ((backTo pos (starEach (e :: es) X.env)).any (·.1) || (backToKw pos (keywordEach kws X.env)).any (·.1.isNone)) = false := by rfl) :
    PE X (.Call (.Name x p) (e :: es) kws pos) (tCallN n ks.length sp gV E t tk) := by
  obtain ⟨g, hb⟩ := hb
  exact pe_callN F hr hg hm hk hb hx ha hkw hall hks hdb he hpl
end
/-! ### what the top has left -/
theorem fund_mk {K : PySem.W.Frag} {x qual : Str} {st : Stmt} {f : Addr} {dvs : List V} {oc dV : Value} {od an : Option Addr} {osl : Array (Option Value)} {kV doc pm cdv ct : Value}
    (l : K.lookup f = some ⟨oc, od, .func (PySem.W.fnOf x qual (defArgs st) (defBody st) (defScope st) dV kV doc pm an cdv ct), osl⟩) (c : PySem.W.codeIn K cdv qual = true) (k : PySem.W.keepIn K (.ref f) = true) (d : DflV K dV dvs) :
    FunD K x qual (defArgs st) (defBody st) (defScope st) dvs [] f (PySem.W.fnOf x qual (defArgs st) (defBody st) (defScope st) dV kV doc pm an cdv ct) :=
  ⟨⟨oc, od, dV, kV, doc, pm, an, cdv, ct, osl, rfl, l, c, d, .inl rfl⟩, k⟩
theorem dfl_mk {K : PySem.W.Frag} {dV : Value} {T : Addr} {o : Obj} {its : List Value} {n : Nat} {dvs : List V} (e : dV = .ref T) (l : K.lookup T = some o) (hd : o.data = .seq its.toArray n) (r : Vals dvs its) (hn : dvs ≠ []) : DflV K dV dvs := .inr ⟨hn, T, o, its, n, e, l, hd, r⟩
section
variable {K : PySem.W.Frag} {x qual : Str} {st : Stmt} {dvs : List V} {f : Addr} {fd : FuncData} {ps : List Str}
/-- all parameters are written, no defaults stand -/
theorem fund_all0 (F : FunD K x qual (defArgs st) (defBody st) (defScope st) [] [] f fd)
    (h : ∀ (kV doc pm : Value) (an : Option Addr) (cdv ct : Value) (us : List Value), us.length = ps.length → bindArgs (PySem.W.fnOf x qual (defArgs st) (defBody st) (defScope st) .none kV doc pm an cdv ct) ⟨us, []⟩ = pure (ps.zip us)) : Binds K fd ps [] := F.bindsN h
/-- all parameters are written, and defaults stand -/
theorem fund_allD (F : FunD K x qual (defArgs st) (defBody st) (defScope st) dvs [] f fd) (hd : dvs ≠ [])
    (h : ∀ (T : Addr) (kV doc pm : Value) (an : Option Addr) (cdv ct : Value) (us its : List Value), us.length = ps.length → its.length = dvs.length →
      ∃ k, bindArgs (PySem.W.fnOf x qual (defArgs st) (defBody st) (defScope st) (.ref T) kV doc pm an cdv ct) ⟨us, []⟩ = seqItems? (.ref T) >>= k ∧ k (some its.toArray) = pure (ps.zip us)) : Binds K fd ps [] := by
  obtain ⟨ds, r, b⟩ := F.binds1 (ps := ps) ps.length dvs.length hd (by omega) (fun T kV doc pm an cdv ct us its h1 h2 => by
    obtain ⟨k, e1, e2⟩ := h T kV doc pm an cdv ct us its h1 h2
    refine ⟨k, e1, ?_⟩
    rw [e2, List.drop_eq_nil_of_le (Nat.le_of_eq h2), List.append_nil])
  have e : ds = [] := by
    have := r.length
    rw [List.drop_length] at this
    exact List.eq_nil_of_length_eq_zero this.symm
  rw [e] at b
  exact b
theorem Vals.pick {xs : List V} {us : List Value} (r : Vals xs us) : ∀ ix : List Nat, Vals (ix.filterMap fun i => xs[i]?) (ix.filterMap fun i => us[i]?)
  | [] => .nil
  | i :: ix => by
    rw [List.filterMap_cons, List.filterMap_cons]
    cases e : xs[i]? with
    | none =>
      rw [Vals.none_of r e]
      exact Vals.pick r ix
    | some y =>
      obtain ⟨u, e2, r2⟩ := Vals.get r e
      rw [e2]
      exact .cons r2 (Vals.pick r ix)
/-- keywords: the parameters picked from the written values, the keywords' values, the defaults -/
theorem fund_kw (F : FunD K x qual (defArgs st) (defBody st) (defScope st) dvs [] f fd) (n : Nat) (ks : List Str) (ix : List Nat) (hd : dvs ≠ [])
    (h : ∀ (T : Addr) (kV doc pm : Value) (an : Option Addr) (cdv ct : Value) (us ws its : List Value), us.length = n → ws.length = ks.length → its.length = dvs.length →
      ∃ k, bindArgs (PySem.W.fnOf x qual (defArgs st) (defBody st) (defScope st) (.ref T) kV doc pm an cdv ct) ⟨us, ks.zip ws⟩ = seqItems? (.ref T) >>= k ∧ k (some its.toArray) = pure (ps.zip (ix.filterMap fun i => (us ++ (ws ++ its))[i]?))) :
    ∃ g, KBn K fd ps n ks g (fun vs zs => ix.filterMap fun i => (vs ++ (zs ++ dvs))[i]?) := by
  obtain ⟨oc, od, dV, kV, doc, pm, an, cdv, ct, osl, rfl, lk, hcd, hD, hK⟩ := F.ex
  rcases hD with ⟨e, _⟩ | ⟨_, T, o, its, m, rfl, lT, oT, rT⟩
  · exact absurd e hd
  · refine ⟨fun us ws => ix.filterMap fun i => (us ++ (ws ++ its))[i]?, ⟨fun s us ws X l1 l2 => ?_, fun r1 r2 => Vals.pick (r1.append (r2.append rT)) ix⟩⟩
    obtain ⟨k, e1, e2⟩ := h T kV doc pm an cdv ct us ws its l1 l2 rT.length.symm
    refine BindsTo.of_looks fun M => ?_
    rw [e1]
    exact looks_items X lT oT (.of_pure e2)
theorem fund_kw0 (F : FunD K x qual (defArgs st) (defBody st) (defScope st) [] [] f fd) (n : Nat) (ks : List Str) (ix : List Nat)
    (h : ∀ (kV doc pm : Value) (an : Option Addr) (cdv ct : Value) (us ws : List Value), us.length = n → ws.length = ks.length →
      bindArgs (PySem.W.fnOf x qual (defArgs st) (defBody st) (defScope st) .none kV doc pm an cdv ct) ⟨us, ks.zip ws⟩ = pure (ps.zip (ix.filterMap fun i => (us ++ ws)[i]?))) :
    ∃ g, KBn K fd ps n ks g (fun vs zs => ix.filterMap fun i => (vs ++ zs)[i]?) := by
  obtain ⟨oc, od, dV, kV, doc, pm, an, cdv, ct, osl, rfl, lk, hcd, hD, hK⟩ := F.ex
  rcases hD with ⟨_, rfl⟩ | ⟨e, _⟩
  · refine ⟨fun us ws => ix.filterMap fun i => (us ++ ws)[i]?, ⟨fun s us ws X l1 l2 => ?_, fun r1 r2 => Vals.pick (r1.append r2) ix⟩⟩
    exact .of_eq (h kV doc pm an cdv ct us ws l1 l2)
  · exact absurd rfl e
end
/-! ### the heap -/
theorem get_upd {H : Hp} {a p : Addr} {o u : HO} (hp : H p = none) (h : H a = some o) : upd H p u a = some o := by
  rw [upd_ne (ne_of_none h hp)]
  exact h
theorem get_same {H H' : Hp} {a : Addr} {o : HO} (s : Same H H') (h : H a = some o) : H' a = some o := s a o h
theorem same_upd {H H' : Hp} {p : Addr} {u : HO} (s : Same H H') (hp : H' p = none) : Same H (upd H' p u) := fun _ _ e => get_upd hp (s _ _ e)
/-! ### comprehensions whose element gives a value of the item alone (none: it is left out) -/
theorem take_succ_get {α : Type} {xs : List α} {i : Nat} {x : α} (h : xs[i]? = some x) : xs.take (i + 1) = xs.take i ++ [x] := by
  rw [List.take_succ, h]
  rfl
theorem lc_fm {J : It} {G : Hp → Prop} {g : TG} {tt : TT} {te : TE} {vs : List Nat} {σ : St} {H1 : Hp} {D : Addr} {Qd : Hp → Prop} (xs : List V) (f : V → Option V) (w : Walk J xs.length G (YAt xs)) (hl : xs.length < sizeLine)
    (hG : ∀ H, Same H1 H → G H) (hD : H1 D = none)
    (hs : ∀ x ∈ xs, ∀ H (Q : VK) (R : Hp → Prop), Same H1 H → (∀ H', Same H H' → match f x with | some y => Q y H' | none => R H') → g x (wipe σ vs) H fun σ2 H2 => wipe σ2 vs = wipe σ vs ∧ tt σ2 H2 fun b H3 => if b = true then te σ2 H3 Q else R H3)
    (hd : ∀ H, Same H1 H → H D = some (.lst (xs.filterMap f)) → Qd H) :
    ∃ W : Nat → Nat → Hp → Prop, (∃ m, W 0 m (upd H1 D (.lst []))) ∧ ∀ i m H, W i m H →
      (J.stop i H ∧ Qd H) ∨ (J.go i H ∧ ∃ Nx : Hp → Prop, (∀ H', Nx H' → ∃ m', m' < m ∧ W (i + 1) m' H') ∧ ∀ x H', J.yld i H x H' → g x (wipe σ vs) H' fun σ2 H2 => wipe σ2 vs = wipe σ vs ∧ tt σ2 H2 fun b H3 =>
        if b = true then te σ2 H3 fun y H4 => ∃ acc, H4 D = some (.lst acc) ∧ acc.length < sizeLine ∧ Nx (upd H4 D (.lst (acc ++ [y]))) else Nx H3) := by
  refine lc_it w (fun i H => Same H1 H ∧ H D = some (.lst ((xs.take i).filterMap f))) ⟨same_upd (Same.refl H1) hD, upd_same⟩ (fun i H _ h => hG H h.1) ?_ (fun H h => ?_)
  · rintro i x H H' hi ⟨s1, e1⟩ ⟨rfl, hx⟩
    refine hs x (List.mem_of_getElem? hx) H' _ _ s1 fun H4 s4 => ?_
    have e4 := s4 _ _ e1
    have s14 := s1.trans s4
    cases ef : f x with
    | none =>
      refine ⟨s14, ?_⟩
      rw [take_succ_get hx, List.filterMap_append, List.filterMap_cons, ef]
      simpa using e4
    | some y =>
      refine ⟨_, e4, ?_, fun b o hb => ?_, ?_⟩
      · refine Nat.lt_of_le_of_lt (List.length_filterMap_le _ _) (Nat.lt_of_le_of_lt ?_ hl)
        rw [List.length_take]
        exact Nat.min_le_right _ _
      · rw [upd_ne (ne_of_none hb hD)]
        exact s14 _ _ hb
      · rw [upd_same, take_succ_get hx, List.filterMap_append, List.filterMap_cons, ef]
        rfl
  · rw [List.take_length] at h
    exact hd H h.1 h.2
theorem lc_map {J : It} {G : Hp → Prop} {g : TG} {tt : TT} {te : TE} {vs : List Nat} {σ : St} {H1 : Hp} {D : Addr} {Qd : Hp → Prop} (xs : List V) (f : V → V) (w : Walk J xs.length G (YAt xs)) (hl : xs.length < sizeLine)
    (hG : ∀ H, Same H1 H → G H) (hD : H1 D = none)
    (hs : ∀ x ∈ xs, ∀ H (Q : VK) (R : Hp → Prop), Same H1 H → (∀ H', Same H H' → Q (f x) H') → g x (wipe σ vs) H fun σ2 H2 => wipe σ2 vs = wipe σ vs ∧ tt σ2 H2 fun b H3 => if b = true then te σ2 H3 Q else R H3)
    (hd : ∀ H, Same H1 H → H D = some (.lst (xs.map f)) → Qd H) :
    ∃ W : Nat → Nat → Hp → Prop, (∃ m, W 0 m (upd H1 D (.lst []))) ∧ ∀ i m H, W i m H →
      (J.stop i H ∧ Qd H) ∨ (J.go i H ∧ ∃ Nx : Hp → Prop, (∀ H', Nx H' → ∃ m', m' < m ∧ W (i + 1) m' H') ∧ ∀ x H', J.yld i H x H' → g x (wipe σ vs) H' fun σ2 H2 => wipe σ2 vs = wipe σ vs ∧ tt σ2 H2 fun b H3 =>
        if b = true then te σ2 H3 fun y H4 => ∃ acc, H4 D = some (.lst acc) ∧ acc.length < sizeLine ∧ Nx (upd H4 D (.lst (acc ++ [y]))) else Nx H3) :=
  lc_fm xs (fun x => some (f x)) w hl hG hD (fun x hx H Q R s h => hs x hx H Q R s h) (fun H s e => hd H s (by rw [e, List.filterMap_eq_map']))
/-- the signs of a text as texts of one sign -/
def signs (z : Str) : List V := z.cps.toList.map fun c => .str ⟨#[c]⟩
theorem walk_signs {z : Str} : Walk (Its z) (signs z).length (fun _ => True) (YAt (signs z)) := by
  have e : (signs z).length = z.cps.size := by
    unfold signs
    rw [List.length_map]
    rfl
  rw [e]
  refine walk_str.mono (fun _ h => h) fun i H x H' _ _ ⟨h1, c, h2, h3⟩ => ⟨h1, ?_⟩
  unfold signs
  rw [List.getElem?_map, Array.getElem?_toList, h2, h3]
  rfl
/-- a for, item by item -/
def forW (G : Hp → Prop) (g : TG) (tb : TS) (D : Ends) : List V → St → Hp → Prop
  | [], σ, H => G H ∧ D.nx σ H
  | x :: xs, σ, H => G H ∧ g x σ H fun σ2 H2 => tb { D with nx := forW G g tb D xs, ct := forW G g tb D xs, bk := D.nx } σ2 H2
theorem forW_G {G : Hp → Prop} {g : TG} {tb : TS} {D : Ends} : ∀ {xs : List V} {σ : St} {H : Hp}, forW G g tb D xs σ H → G H
  | [], _, _, h => h.1
  | _ :: _, _, _, h => h.1
theorem for_W {J : It} {G : Hp → Prop} {g : TG} {tb : TS} {D : Ends} {σ : St} {H : Hp} (xs : List V) (w : Walk J xs.length G (YAt xs)) (h : forW G g tb D xs σ H) :
    ∃ W : Nat → Nat → St → Hp → Prop, (∃ m, W 0 m σ H) ∧ ∀ i m σ H, W i m σ H →
      (J.stop i H ∧ D.nx σ H) ∨ (J.go i H ∧ ∃ N : St → Hp → Prop, (∀ σ' H', N σ' H' → ∃ m', m' < m ∧ W (i + 1) m' σ' H') ∧ ∀ x H', J.yld i H x H' → g x σ H' fun σ2 H2 => tb { D with nx := N, ct := N, bk := D.nx } σ2 H2) := by
  refine ⟨fun i m σ H => i ≤ xs.length ∧ m = xs.length - i ∧ forW G g tb D (xs.drop i) σ H, ⟨_, Nat.zero_le _, rfl, h⟩, ?_⟩
  rintro i m σ H ⟨hi, rfl, h⟩
  by_cases c : i = xs.length
  · subst c
    rw [List.drop_length] at h
    exact .inl ⟨w.stops H h.1, h.2⟩
  · have hi' : i < xs.length := by omega
    refine .inr ⟨w.goes i H hi' (forW_G h), forW G g tb D (xs.drop (i + 1)), fun σ' H' q => ⟨xs.length - (i + 1), by omega, by omega, rfl, q⟩, fun x H' hy => ?_⟩
    obtain ⟨rfl, hx⟩ := w.yields i H x H' hi' (forW_G h) hy
    rw [List.drop_eq_getElem_cons hi'] at h
    obtain ⟨_, rfl⟩ := List.getElem?_eq_some_iff.mp hx
    exact h.2
/-! ### a def of which nothing raised leaves -/
theorem fund_ok0 {P : Program} {w : World} {K : PySem.W.Frag} {mg : Str → Option Value} {base : Heap} {x qual : Str} {params : Arguments} {body : List Stmt} {scope : Scope} {dvs : List V} {f : Addr} {fd : FuncData} {N ps : List Str} {k : Nat} {sp : Sp}
    (F : FunD K x qual params body scope dvs [] f fd) (S : FnScope N ps scope) (len : ∀ vs H Q E, sp vs H Q E → vs.length = ps.length)
    (hbody : ∀ (cdv : Value) (A : Around) (outer : List Env) (s : Shared) (H : Hp) (vs : List V) (Q : VK) (E : XK), Room k (A.deeper (PyProof.Rows.envOfC qual scope s.heap.objs.size f cdv)) → sp vs H Q E →
      ∃ t, PSs (cxOf CX0 P w K mg base N qual scope f cdv A outer s H E).nox body t ∧ t { nx := fun _ H' => Q .non H', rt := Q } (start N vs) H) : FnOk P w K mg base CX0 (k + 1) f fd ps sp :=
  F.ok S len fun cdv A outer s H vs Q E hr h => let ⟨t, h1, h2⟩ := hbody cdv A outer s H vs Q E hr h; ⟨t, h1.nox, h2⟩
/-! ### one step of a reading -/
section
variable {D : Ends} {σ : St} {H : Hp} {Q : VK} {K : PySem.W.Frag} {t u : TS} {ta tb te to tl : TE} {tc td : TT} {TQ : Bool → Hp → Prop} {A : TA} {AQ : List V → Hp → Prop} {g : TG} {gs : TGs} {GQ : St → Hp → Prop} {r r' : R2} {v x y : V} {i : Nat}
theorem i_seq (h : t { D with nx := u D } σ H) : tSeq t u D σ H := h
theorem i_ifS (h : tc σ H fun b H1 => if b = true then t D σ H1 else u D σ H1) : tIfS tc t u D σ H := h
theorem i_ret (h : te σ H D.rt) : tRet te D σ H := h
theorem i_retN (h : D.rt .non H) : tRetN D σ H := h
theorem i_next (h : D.nx σ H) : tNext D σ H := h
theorem i_brk (h : D.bk σ H) : tBreak D σ H := h
theorem i_cont (h : D.ct σ H) : tCont D σ H := h
theorem i_asg (h : te σ H fun x H1 => g x σ H1 D.nx) : tAsg te g D σ H := h
theorem i_drop (h : te σ H fun _ H1 => D.nx σ H1) : tDrop te D σ H := h
theorem i_name (h : GQ (σ.set i (some v)) H) : gName i v σ H GQ := h
theorem i_sub {ti : TE} {ts : TSet} (h : to σ H fun o H1 => ti σ H1 fun i H2 => ts o i v H2 fun H3 => GQ σ H3) : gSub to ti ts v σ H GQ := h
theorem i_tupT {n : Nat} {a : Addr} {xs : List V} (h1 : SqT K H a xs) (h2 : xs.length = n) (h3 : gs xs σ H GQ) : gTup K n gs (.ref a) σ H GQ := ⟨a, xs, rfl, h1, h2, h3⟩
theorem i_gnil (h : GQ σ H) : gNil [] σ H GQ := ⟨rfl, h⟩
theorem i_gcons {vs : List V} (h : g v σ H fun σ' H' => gs vs σ' H' GQ) : gCons g gs (v :: vs) σ H GQ := ⟨v, vs, rfl, h⟩
theorem i_setL {p : Addr} {xs : List V} {k : Int} {j : Nat} {HQ : Hp → Prop} (h1 : H p = some (.lst xs)) (h2 : ixN xs.length k = some j) (h3 : HQ (upd H p (.lst (xs.set j v)))) : rSetL (.ref p) (.int k) v H HQ := ⟨p, xs, k, j, rfl, rfl, h1, h2, h3⟩
theorem i_test (h : te σ H fun x H' => ∃ k, x = .bl k ∧ TQ k H') : tTest te σ H TQ := h
theorem i_tB (h : te σ H fun x H' => ∃ k, x = .bl k ∧ TQ k H') : tB te σ H TQ := h
theorem i_bl {b : Bool} {R : Bool → Prop} (h : R b) : ∃ k, V.bl b = .bl k ∧ R k := ⟨b, rfl, h⟩
theorem i_not (h : tc σ H fun c H1 => TQ (!c) H1) : tNot tc σ H TQ := h
theorem i_and (h : tc σ H fun c H1 => if c = true then td σ H1 TQ else TQ false H1) : tAnd tc td σ H TQ := h
theorem i_or (h : tc σ H fun c H1 => if c = true then TQ true H1 else td σ H1 TQ) : tOr tc td σ H TQ := h
theorem i_andV (h : ta σ H fun x H1 => ∃ c, x = .bl c ∧ if c = true then tb σ H1 Q else Q (.bl false) H1) : tAndV ta tb σ H Q := h
theorem i_orV (h : ta σ H fun x H1 => ∃ c, x = .bl c ∧ if c = true then Q (.bl true) H1 else tb σ H1 Q) : tOrV ta tb σ H Q := h
theorem i_notV (h : ta σ H fun x H1 => ∃ c, x = .bl c ∧ Q (.bl (!c)) H1) : tNotV ta σ H Q := h
theorem i_if (h : tc σ H fun c H1 => if c = true then ta σ H1 Q else tb σ H1 Q) : tIf tc ta tb σ H Q := h
theorem i_var (h1 : σ[i]? = some (some v)) (h2 : Q v H) : tVar i σ H Q := ⟨v, h1, h2⟩
theorem i_c (h : Q v H) : tC v σ H Q := h
theorem i_op (h : ta σ H fun x H1 => tb σ H1 fun y H2 => r x y H2 Q) : tOp r ta tb σ H Q := h
theorem i_un {r1 : V → Hp → VK → Prop} (h : ta σ H fun x H1 => r1 x H1 Q) : tUn r1 ta σ H Q := h
theorem i_rU {f : Int → V} {n : Int} (h : Q (f n) H) : rU f (.int n) H Q := ⟨n, rfl, h⟩
theorem i_rI {C : Int → Int → Prop} {f : Int → Int → V} {n m : Int} (h1 : C n m) (h2 : Q (f n m) H) : rI C f (.int n) (.int m) H Q := ⟨n, m, rfl, rfl, h1, h2⟩
theorem i_rI0 {f : Int → Int → V} {n m : Int} (h2 : Q (f n m) H) : rI0 f (.int n) (.int m) H Q := ⟨n, m, rfl, rfl, h2⟩
theorem i_chain (h : ta σ H fun x H1 => tb σ H1 fun y H2 => r x y H2 fun z H3 => ∃ k, z = .bl k ∧ (if k = true then te σ H3 fun w' H4 => r' y w' H4 Q else Q (.bl false) H3)) : tChain r r' ta tb te σ H Q := h
theorem i_addI {n m : Int} (h : Q (.int (n + m)) H) : rAddU K (.int n) (.int m) H Q := h
theorem i_addS {n m : Str} (h1 : n.length + m.length ≤ sizeLine) (h : Q (.str (n ++ m)) H) : rAddU K (.str n) (.str m) H Q := ⟨h1, h⟩
theorem i_addL {p q : Addr} {xs ys : List V} (h1 : H p = some (.lst xs)) (h2 : H q = some (.lst ys)) (h3 : xs.length + ys.length ≤ sizeLine) (h : ∀ b, H b = none → Q (.ref b) (upd H b (.lst (xs ++ ys)))) : rAddU K (.ref p) (.ref q) H Q := .inl ⟨xs, ys, h1, h2, h3, h⟩
theorem i_addT {p q : Addr} {xs ys : List V} (h1 : SqT K H p xs) (h2 : SqT K H q ys) (h0 : xs ≠ []) (h3 : xs.length + ys.length ≤ sizeLine) (e : ys = [] → Q (.ref p) H) (h : ys ≠ [] → ∀ b, H b = none → Q (.ref b) (upd H b (.tup (xs ++ ys)))) : rAddU K (.ref p) (.ref q) H Q :=
  .inr ⟨p, q, xs, ys, rfl, rfl, h1, h2, h0, h3, e, h⟩
theorem i_mulI {n m : Int} (h1 : CMulW n m) (h : Q (.int (n * m)) H) : rMulU (.int n) (.int m) H Q := ⟨h1, h⟩
theorem i_eqS {b : Bool} (h1 : eqS x y = some b) (h : Q (.bl b) H) : rEqU K x y H Q := by
  unfold rEqU
  rw [h1]
  exact h
theorem i_neS {b : Bool} (h1 : eqS x y = some b) (h : Q (.bl (!b)) H) : rNeU K x y H Q := by
  unfold rNeU
  rw [h1]
  exact h
theorem i_eqD {a' b' : PyData} (h0 : eqS x y = none) (h1 : Dp K H x a') (h2 : Dp K H y b') (h3 : SeqAt.shaped a' = true) (h4 : SeqAt.shaped b' = true) (h : Q (.bl (PyData.eqv a' b')) H) : rEqU K x y H Q := by
  unfold rEqU
  rw [h0]
  exact .inl ⟨a', b', h1, h2, h3, h4, h⟩
theorem i_eqG {p q : Addr} {xs ys : List V} {n : Nat} {b : Bool} (h1 : (SqL K H p xs ∧ SqL K H q ys) ∨ (SqT K H p xs ∧ SqT K H q ys)) (hn : n < 60) (t : EqVs K H n xs ys b) (h : Q (.bl b) H) : rEqU K (.ref p) (.ref q) H Q := .inr ⟨p, q, xs, ys, n, b, rfl, rfl, h1, hn, t, h⟩
theorem i_neG {p q : Addr} {xs ys : List V} {n : Nat} {b : Bool} (h1 : (SqL K H p xs ∧ SqL K H q ys) ∨ (SqT K H p xs ∧ SqT K H q ys)) (hn : n < 60) (t : EqVs K H n xs ys b) (h : Q (.bl (!b)) H) : rNeU K (.ref p) (.ref q) H Q := .inr ⟨p, q, xs, ys, n, b, rfl, rfl, h1, hn, t, h⟩
theorem i_neD {a' b' : PyData} (h0 : eqS x y = none) (h1 : Dp K H x a') (h2 : Dp K H y b') (h3 : SeqAt.shaped a' = true) (h4 : SeqAt.shaped b' = true) (h : Q (.bl (!PyData.eqv a' b')) H) : rNeU K x y H Q := by
  unfold rNeU
  rw [h0]
  exact .inl ⟨a', b', h1, h2, h3, h4, h⟩
theorem i_isB {a' b' : Bool} (h : Q (.bl (decide (a' = b'))) H) : rIsU (.bl a') (.bl b') H Q := h
theorem i_isN (h : Q (.bl (decide (x = .non))) H) : rIsU x .non H Q := by cases x <;> exact h
theorem i_isnB {a' b' : Bool} (h : Q (.bl (!decide (a' = b'))) H) : rIsnU (.bl a') (.bl b') H Q := h
theorem i_isnN (h : Q (.bl (!decide (x = .non))) H) : rIsnU x .non H Q := by cases x <;> exact h
theorem i_inS {c : Nat} {z : Str} (h : Q (.bl (decide (c ∈ z.cps.toList))) H) : rInU K (.str ⟨#[c]⟩) (.str z) H Q := ⟨c, rfl, h⟩
theorem i_ixL {p : Addr} {xs : List V} {n : Int} {w' : V} (h1 : SqL K H p xs) (h2 : atI xs n = some w') (h : Q w' H) : rIxU K (.ref p) (.int n) H Q := ⟨xs, w', .inl h1, h2, h⟩
theorem i_ixT {p : Addr} {xs : List V} {n : Int} {w' : V} (h1 : SqT K H p xs) (h2 : atI xs n = some w') (h : Q w' H) : rIxU K (.ref p) (.int n) H Q := ⟨xs, w', .inr h1, h2, h⟩
theorem i_ixS {z : Str} {n : Int} {c : Nat} (h0 : z.length ≤ sizeLine) (h2 : atI z.cps.toList n = some c) (h : Q (.str ⟨#[c]⟩) H) : rIxU K (.str z) (.int n) H Q := ⟨h0, c, h2, h⟩
theorem i_sl {rs : V → Option Int → Option Int → Hp → VK → Prop} {tl th : TO} (h : te σ H fun x H1 => tl σ H1 fun l H2 => th σ H2 fun u H3 => rs x l u H3 Q) : tSl rs te tl th σ H Q := h
theorem i_slS {z : Str} {lo hi : Option Int} (h0 : z.length ≤ sizeLine) (h : Q (.str (cutS z lo hi)) H) : rSlU K (.str z) lo hi H Q := ⟨h0, h⟩
theorem i_slL {p : Addr} {xs : List V} {lo hi : Option Int} (h0 : SqL K H p xs) (h : ∀ b, H b = none → Q (.ref b) (upd H b (.lst (cutV xs lo hi)))) : rSlU K (.ref p) lo hi H Q := .inl ⟨p, xs, rfl, h0, h⟩
theorem i_po0 {OQ : Option Int → Hp → Prop} (h : OQ none H) : tNoPart σ H OQ := h
theorem i_po1 {OQ : Option Int → Hp → Prop} (h : te σ H fun x H1 => ∃ i, x = .int i ∧ OQ (some i) H1) : tPart te σ H OQ := h
theorem i_poI {R : Int → Prop} {n : Int} (h : R n) : ∃ i, V.int n = .int i ∧ R i := ⟨n, rfl, h⟩
theorem i_lst (h : A σ H fun xs H1 => xs.length ≤ sizeLine ∧ ∀ p, H1 p = none → Q (.ref p) (upd H1 p (.lst xs))) : tLst A σ H Q := h
theorem i_tup (h : A σ H fun xs H1 => xs.length ≤ sizeLine ∧ ∀ p, H1 p = none → Q (.ref p) (upd H1 p (.tup xs))) : tTup A σ H Q := h
theorem i_new {n : Nat} {R : Addr → Prop} (h1 : n ≤ 1000) (h : ∀ p, H p = none → R p) : n ≤ sizeLine ∧ ∀ p, H p = none → R p := ⟨Nat.le_of_lt (small1000 h1), h⟩
theorem i_nil (h : AQ [] H) : tNil σ H AQ := h
theorem i_cons (h : te σ H fun x H1 => A σ H1 fun xs H2 => AQ (x :: xs) H2) : tCons te A σ H AQ := h
theorem i_cB {rb : List V → Hp → VK → Prop} (h : A σ H fun vs H1 => rb vs H1 Q) : tCB rb A σ H Q := h
theorem i_call {sp : Sp} {dvs : List V} {E : XK} (h : A σ H fun vs H1 => sp (vs ++ dvs) H1 Q E) : tCall sp dvs E A σ H Q := h
theorem i_callN {n m : Nat} {sp : Sp} {gV : List V → List V → List V} {E : XK} {B : TA} (h : A σ H fun vs H1 => B σ H1 fun zs H2 => vs.length = n ∧ zs.length = m ∧ sp (gV vs zs) H2 Q E) : tCallN n m sp gV E A B σ H Q := h
theorem i_lenS {z : Str} (h0 : z.length ≤ sizeLine) (h : Q (.int z.length) H) : rLenU K [.str z] H Q := ⟨_, _, rfl, ⟨h0, rfl⟩, h⟩
theorem i_lenL {p : Addr} {xs : List V} (h0 : SqL K H p xs) (h : Q (.int xs.length) H) : rLenU K [.ref p] H Q := ⟨_, _, rfl, .inl ⟨xs, h0, rfl⟩, h⟩
theorem i_lenT {p : Addr} {xs : List V} (h0 : SqT K H p xs) (h : Q (.int xs.length) H) : rLenU K [.ref p] H Q := ⟨_, _, rfl, .inr ⟨xs, h0, rfl⟩, h⟩
theorem i_isiB {d : Kd} (h1 : y = .ty d.name) (h : isO K x H fun f _ => Q (.bl (f d)) H) : rIsiB d K [x, y] H Q := ⟨x, by rw [h1], h⟩
theorem i_isiBs {ds : List Kd} {p : Addr} (h0 : H p = some (.tup (ds.map fun d => .ty d.name))) (h : isO K x H fun f _ => Q (.bl (ds.any f)) H) : rIsiBs ds K [x, .ref p] H Q := ⟨x, p, rfl, h0, h⟩
theorem i_all {p : Addr} {bs : List Bool} (h0 : SqL K H p (bs.map V.bl)) (h : Q (.bl (bs.all id)) H) : rAll K [.ref p] H Q := ⟨p, bs, rfl, h0, h⟩
theorem i_isoN {R : (Kd → Bool) → Option Addr → Prop} (h : R (fun _ => false) none) : isO K .non H R := h
theorem i_isoB {R : (Kd → Bool) → Option Addr → Prop} {b : Bool} (h : R (fun d => d == .int || d == .bl) none) : isO K (.bl b) H R := h
theorem i_isoI {R : (Kd → Bool) → Option Addr → Prop} {n : Int} (h : R (fun d => d == .int) none) : isO K (.int n) H R := h
theorem i_isoS {R : (Kd → Bool) → Option Addr → Prop} {z : Str} (h : R (fun d => d == .str) none) : isO K (.str z) H R := h
theorem i_isoL {R : (Kd → Bool) → Option Addr → Prop} {p : Addr} {xs : List V} (h0 : SqL K H p xs) (h : R (fun d => d == .lst) none) : isO K (.ref p) H R := ⟨.lst xs, h0, h⟩
theorem i_isoT {R : (Kd → Bool) → Option Addr → Prop} {p : Addr} {xs : List V} (h0 : SqT K H p xs) (h : R (fun d => d == .tup) none) : isO K (.ref p) H R := ⟨.tup xs, h0, h⟩
/-- of an object: it is none of int, bool, str -/
theorem i_isoR {R : (Kd → Bool) → Option Addr → Prop} {p : Addr} (kn : Kn K H (.ref p)) (h : ∀ f c, f .int = false → f .bl = false → f .str = false → R f c) : isO K (.ref p) H R := by
  obtain ⟨o, ho, k⟩ := kn
  refine ⟨o, ho, ?_⟩
  cases o <;> first | exact h _ _ rfl rfl rfl | exact ⟨k.1, k.2, h _ _ rfl rfl rfl⟩ | exact k.elim
theorem i_dec {p : Prop} [Decidable p] {A' B' : Prop} (h1 : p → A') (h2 : ¬ p → B') : if decide p = true then A' else B' := by
  by_cases h : p
  · rw [if_pos (decide_eq_true h)]
    exact h1 h
  · rw [if_neg (by rw [decide_eq_false h]; exact Bool.false_ne_true)]
    exact h2 h
theorem i_decT {p : Prop} [Decidable p] {A' B' : Prop} (h : p) (h1 : A') : if decide p = true then A' else B' := i_dec (fun _ => h1) (fun z => absurd h z)
theorem i_decF {p : Prop} [Decidable p] {A' B' : Prop} (h : ¬ p) (h1 : B') : if decide p = true then A' else B' := i_dec (fun z => absurd z h) (fun _ => h1)
theorem i_ifN {b : Bool} {A' B' : Prop} (h : if b = true then B' else A') : if (!b) = true then A' else B' := by cases b <;> exact h
theorem i_ifAnd {b c : Bool} {A' B' : Prop} (h : if b = true then (if c = true then A' else B') else B') : if (b && c) = true then A' else B' := by cases b <;> exact h
theorem i_isIf {c A' B' : Prop} [Decidable c] (h : if c then A' else B') : if c then A' else B' := h
theorem i_tT {b : Bool} {A' B' : Prop} (h : b = true) (h1 : A') : if b = true then A' else B' := by rw [h]; exact h1
theorem i_tF {b : Bool} {A' B' : Prop} (h : b = false) (h1 : B') : if b = true then A' else B' := by rw [h]; exact h1
theorem i_boo {b : Bool} {A' B' : Prop} (h1 : b = true → A') (h2 : b = false → B') : if b = true then A' else B' := by cases b <;> first | exact h1 rfl | exact h2 rfl
end
/-! ### loops and comprehensions, up to the loop's own question -/
section
variable {D : Ends} {σ : St} {H : Hp} {Q : VK} {K : PySem.W.Frag} {tb : TS} {te : TE} {wi : TI} {g : TG} {A : TA} {R : It → Hp → Prop}
theorem i_for (h : wi σ H fun J H1 => ∃ W : Nat → Nat → St → Hp → Prop, (∃ m, W 0 m σ H1) ∧ ∀ i m σ H, W i m σ H →
  (J.stop i H ∧ D.nx σ H) ∨ (J.go i H ∧ ∃ N : St → Hp → Prop, (∀ σ' H', N σ' H' → ∃ m', m' < m ∧ W (i + 1) m' σ' H') ∧ ∀ x H', J.yld i H x H' → g x σ H' fun σ2 H2 => tb { D with nx := N, ct := N, bk := D.nx } σ2 H2)) : tFor wi g tb D σ H := h
theorem i_lc {tt : TT} {vs : List Nat} (h : wi σ H fun J H1 => ∀ D, H1 D = none → ∃ W : Nat → Nat → Hp → Prop, (∃ m, W 0 m (upd H1 D (.lst []))) ∧ ∀ i m H, W i m H →
  (J.stop i H ∧ Q (.ref D) H) ∨ (J.go i H ∧ ∃ Nx : Hp → Prop, (∀ H', Nx H' → ∃ m', m' < m ∧ W (i + 1) m' H') ∧ ∀ x H', J.yld i H x H' → g x (wipe σ vs) H' fun σ2 H2 => wipe σ2 vs = wipe σ vs ∧ tt σ2 H2 fun b H3 =>
    if b = true then te σ2 H3 fun y H4 => ∃ acc, H4 D = some (.lst acc) ∧ acc.length < sizeLine ∧ Nx (upd H4 D (.lst (acc ++ [y]))) else Nx H3)) : tLc wi g tt te vs σ H Q := h
theorem i_iStr (h : te σ H fun v H1 => ∃ x, v = .str x ∧ R (Its x) H1) : iStr te σ H R := h
theorem i_itS {z : Str} {R : Str → Prop} (h : R z) : ∃ x, V.str z = .str x ∧ R x := ⟨z, rfl, h⟩
theorem i_iList (h : te σ H fun x H1 => ∃ a, x = .ref a ∧ (∃ xs, SqL K H1 a xs) ∧ R (Itl K a) H1) : iList K te σ H R := h
theorem i_iTup (h : te σ H fun x H1 => ∃ a, x = .ref a ∧ (∃ xs, SqT K H1 a xs) ∧ R (Itt K a) H1) : iTup K te σ H R := h
theorem i_itL {a : Addr} {xs : List V} {R : Addr → Prop} (h0 : SqL K H a xs) (h : R a) : ∃ b, V.ref a = .ref b ∧ (∃ xs, SqL K H b xs) ∧ R b := ⟨a, rfl, ⟨xs, h0⟩, h⟩
theorem i_itT {a : Addr} {xs : List V} {R : Addr → Prop} (h0 : SqT K H a xs) (h : R a) : ∃ b, V.ref a = .ref b ∧ (∃ xs, SqT K H b xs) ∧ R b := ⟨a, rfl, ⟨xs, h0⟩, h⟩
theorem i_iR1 (h : A σ H fun vs H1 => ∃ j : Int, vs = [.int j] ∧ -(2 ^ 62) ≤ j ∧ j < 2 ^ 62 ∧ R (Itr 0 j.toNat) H1) : iRng1 A σ H R := h
theorem i_r1 {j : Int} {R : Int → Prop} (h0 : -(2 ^ 62) ≤ j ∧ j < 2 ^ 62) (h : R j) : ∃ i, [V.int j] = [.int i] ∧ -(2 ^ 62) ≤ i ∧ i < 2 ^ 62 ∧ R i := ⟨j, rfl, h0.1, h0.2, h⟩
theorem i_forC {G : Hp → Prop} {x : V} {xs : List V} (h1 : G H) (h2 : g x σ H fun σ2 H2 => tb { D with nx := forW G g tb D xs, ct := forW G g tb D xs, bk := D.nx } σ2 H2) : forW G g tb D (x :: xs) σ H := ⟨h1, h2⟩
theorem i_forN {G : Hp → Prop} (h1 : G H) (h2 : D.nx σ H) : forW G g tb D [] σ H := ⟨h1, h2⟩
end
theorem cast_bl {Q : VK} {H : Hp} {b c : Bool} (k : Q (.bl b) H) (e : b = c) : Q (.bl c) H := e ▸ k
theorem cast_v {Q : VK} {H : Hp} {b c : V} (k : Q b H) (e : b = c) : Q c H := e ▸ k
theorem atI_in {α : Type} {xs : List α} {r : Int} (h0 : 0 ≤ r) (h1 : r < xs.length) : ∃ v, v ∈ xs ∧ xs[r.toNat]? = some v ∧ atI xs r = some v := by
  obtain ⟨n, rfl⟩ : ∃ n : Nat, r = n := ⟨r.toNat, by omega⟩
  have h : n < xs.length := by omega
  exact ⟨xs[n], List.getElem_mem h, by simp [h], atI_nat (by simp [h])⟩
/-- an object's class stays known -/
theorem Rd.same {H H' : Hp} {a : Addr} {u : HO} (s : Same H H') (r : Rd H a u) : Rd H' a u := by
  rcases r with h | ⟨o, h⟩
  · exact .inl (s _ _ h)
  · exact .inr ⟨o, s _ _ h⟩
theorem SqT.same {K : PySem.W.Frag} {H H' : Hp} {a : Addr} {xs : List V} (s : Same H H') (h : SqT K H a xs) : SqT K H' a xs := by
  rcases h with h | h
  · exact .inl (Rd.same s h)
  · exact .inr h
theorem Obs.same {K : PySem.W.Frag} {H H' : Hp} {a : Addr} {o : HO} (s : Same H H') (h : Obs K H a o) : Obs K H' a o := by
  cases o with
  | lst xs => exact Same.seq s h
  | tup xs => exact SqT.same s h
  | _ => exact s _ _ h
theorem Kn.same {K : PySem.W.Frag} {H H' : Hp} {x : V} (s : Same H H') (h : Kn K H x) : Kn K H' x := by
  cases x <;> first | exact h | skip
  obtain ⟨o, ho, k⟩ := h
  exact ⟨o, ho.same s, k⟩
theorem Kn.of {K : PySem.W.Frag} {H : Hp} {a : Addr} {o : HO} (h : H a = some o) (k : KnO K o) : Kn K H (.ref a) := ⟨o, .of h, k⟩
theorem i_yes {σ : St} {H : Hp} {TQ : Bool → Hp → Prop} (h : TQ true H) : tYes σ H TQ := h
theorem i_wipe {σ σ' : St} {vs : List Nat} {R : Prop} (h1 : wipe σ vs = wipe σ' vs) (h : R) : wipe σ vs = wipe σ' vs ∧ R := ⟨h1, h⟩
/-- is x one sign of z -/
def sgIn (z : Str) : V → Bool
  | .str y => match y.cps.toList with
    | [c] => decide (c ∈ z.cps.toList)
    | _ => false
  | _ => false
theorem signs_all (z u : Str) : ((signs u).map fun x => sgIn z x).all id = u.cps.toList.all fun c => decide (c ∈ z.cps.toList) := by
  unfold signs
  rw [List.map_map, List.all_map]
  rfl
theorem mulW {i j : Int} (hi : i.natAbs < 2 ^ 400) (hj : j.natAbs < 2 ^ 400) : CMulW i j := wide_mul hi hj (by decide) (by decide) (by decide)
theorem mulW64 {i j : Int} (hi : i.natAbs < 18446744073709551616) (hj : j.natAbs < 18446744073709551616) : CMulW i j := wide_mul (a := 64) (b := 64) hi hj (by decide) (by decide) (by decide)
theorem cpow {i j : Int} (h0 : 0 ≤ j) (h1 : j ≤ 1000000) (hi : i.natAbs < 18446744073709551616) : CPow i j := ⟨h0, h1, hi⟩
/-- all but what stands at p is kept -/
def SameBut (p : Addr) (H H' : Hp) : Prop := ∀ b o, b ≠ p → H b = some o → H' b = some o
theorem SameBut.refl (p : Addr) (H : Hp) : SameBut p H H := fun _ _ _ h => h
theorem SameBut.trans {p : Addr} {H H1 H2 : Hp} (a : SameBut p H H1) (b : SameBut p H1 H2) : SameBut p H H2 := fun c o n h => b c o n (a c o n h)
theorem SameBut.of {p : Addr} {H H' : Hp} (s : Same H H') : SameBut p H H' := fun b o _ h => s b o h
theorem SameBut.upd (p : Addr) (H : Hp) (o : HO) : SameBut p H (upd H p o) := fun b u n h => by
  rw [upd_ne n]
  exact h
theorem SameBut.new {p q : Addr} {H H' : Hp} {o : HO} (s : SameBut p H H') (h : H' q = none) : SameBut p H (L2.upd H' q o) := fun b u n e => get_upd h (s b u n e)
theorem SameBut.at {p : Addr} {H H' : Hp} {o : HO} (s : SameBut p H H') : SameBut p H (L2.upd H' p o) := s.trans (SameBut.upd p H' o)
/-- what was new ahead is not lost -/
theorem SameBut.same {p : Addr} {H H' : Hp} (s : SameBut p H H') (h : H p = none) : Same H H' := fun b o e => s b o (ne_of_none e h) e
theorem get_but {p : Addr} {H H' : Hp} {a : Addr} {o : HO} (s : SameBut p H H') (n : a ≠ p) (h : H a = some o) : H' a = some o := s a o n h
theorem get_ne {H : Hp} {a p : Addr} {o u : HO} (n : a ≠ p) (h : H a = some o) : upd H p u a = some o := by
  rw [upd_ne n]
  exact h
theorem str_pos {t : Str} (h : ¬ t = "") : 0 < t.length := by
  rcases Nat.eq_zero_or_pos t.length with e | e
  · refine absurd ?_ h
    cases t with
    | mk c =>
      have : c = #[] := Array.eq_empty_of_size_eq_zero e
      rw [this]
      rfl
  · exact e
theorem str_len (t : Str) : t.cps.toList.length = t.length := rfl
theorem len_app (a b : Str) : (a ++ b).length = a.length + b.length := by
  show (a.cps ++ b.cps).size = _
  rw [Array.size_append]
  rfl
theorem line_le {n : Nat} (h : n ≤ 1000) : n ≤ sizeLine := Nat.le_of_lt (small1000 h)
theorem pool_next (z X : Int) (q : Nat) (h0 : 0 ≤ z) (h1 : z.natAbs < q) : 0 ≤ z * 2147483629 + X % 2147483629 ∧ (z * 2147483629 + X % 2147483629).natAbs < q * 2147483648 := by omega
theorem i_maxU {m n : Int} {H : Hp} {Q : VK} (h : Q (.int (maxP m n)) H) : rMaxU [.int m, .int n] H Q := ⟨m, n, rfl, h⟩
theorem i_minU {m n : Int} {H : Hp} {Q : VK} (h : Q (.int (minP m n)) H) : rMinU [.int m, .int n] H Q := ⟨m, n, rfl, h⟩
theorem bT {b : Bool} (e : b = true) : ¬ b = false := by rw [e]; decide
theorem bF {b : Bool} (e : ¬ b = true) : b = false := by cases b <;> first | rfl | exact absurd rfl e
theorem i_lens {m n k l : Nat} {R : Prop} (h1 : m = n) (h2 : k = l) (h : R) : m = n ∧ k = l ∧ R := ⟨h1, h2, h⟩
theorem i_eqDv {K : PySem.W.Frag} {H : Hp} {Q : VK} {x y : V} {a' b' : PyData} {c : Bool} (h0 : eqS x y = none) (h1 : Dp K H x a') (h2 : Dp K H y b') (h3 : SeqAt.shaped a' = true) (h4 : SeqAt.shaped b' = true) (hv : PyData.eqv a' b' = c) (h : Q (.bl c) H) : rEqU K x y H Q := i_eqD h0 h1 h2 h3 h4 (by rw [hv]; exact h)
theorem i_neDv {K : PySem.W.Frag} {H : Hp} {Q : VK} {x y : V} {a' b' : PyData} {c : Bool} (h0 : eqS x y = none) (h1 : Dp K H x a') (h2 : Dp K H y b') (h3 : SeqAt.shaped a' = true) (h4 : SeqAt.shaped b' = true) (hv : PyData.eqv a' b' = c) (h : Q (.bl (!c)) H) : rNeU K x y H Q := i_neD h0 h1 h2 h3 h4 (by rw [hv]; exact h)
/-! ### == of lists and tuples of numbers, truths, None -/
def isNB : V → Bool
  | .non => true
  | .bl _ => true
  | .int _ => true
  | _ => false
def datNB : V → PyData
  | .bl b => .bool b
  | .int i => .int i
  | _ => .none
def eqNB : V → V → Bool
  | .bl a, .bl b => a == b
  | .bl a, .int j => (if a then 1 else 0) == j
  | .int i, .bl b => i == (if b then 1 else 0)
  | .int i, .int j => i == j
  | .non, .non => true
  | _, _ => false
def eqLF : List V → List V → Bool
  | [], [] => true
  | x :: xs, y :: ys => eqNB x y && eqLF xs ys
  | _, _ => false
theorem dp_NB {K : PySem.W.Frag} {H : Hp} {x : V} (f : isNB x = true) : Dp K H x (datNB x) := by
  cases x with
  | non => exact .non
  | bl b => exact .bl b
  | int i => exact .int i
  | _ => cases f
theorem dps_NB {K : PySem.W.Frag} {H : Hp} : ∀ {xs : List V}, xs.all isNB = true → DpAll K H xs (xs.map datNB)
  | [], _ => .nil
  | x :: xs, f => by
    rw [List.all_cons, Bool.and_eq_true] at f
    exact .cons (dp_NB f.1) (dps_NB f.2)
theorem eqv_NB {x y : V} (f : isNB x = true) (g : isNB y = true) : PyData.eqv (datNB x) (datNB y) = eqNB x y := by
  cases x <;> first | (cases f; done) | skip
  all_goals cases y <;> first | (cases g; done) | rfl
theorem eqv_NBs : ∀ {xs ys : List V}, xs.all isNB = true → ys.all isNB = true → PyData.eqvAll (xs.map datNB) (ys.map datNB) = eqLF xs ys
  | [], [], _, _ => rfl
  | [], _ :: _, _, _ => rfl
  | _ :: _, [], _, _ => rfl
  | x :: xs, y :: ys, f, g => by
    rw [List.all_cons, Bool.and_eq_true] at f g
    show (PyData.eqv (datNB x) (datNB y) && PyData.eqvAll (xs.map datNB) (ys.map datNB)) = _
    rw [eqv_NB f.1 g.1, eqv_NBs f.2 g.2]
    rfl
theorem lay_NBs : ∀ {xs : List V}, PyData.canLayAll0 (xs.map datNB) = true
  | [] => rfl
  | x :: xs => by
    show (PyData.canLay0 (datNB x) && PyData.canLayAll0 (xs.map datNB)) = true
    rw [lay_NBs (xs := xs), Bool.and_true]
    cases x <;> rfl
theorem dep_NBs : ∀ {xs : List V}, PyData.depthAll (xs.map datNB) ≤ 1
  | [] => Nat.zero_le _
  | x :: xs => by
    have h := dep_NBs (xs := xs)
    show max (PyData.depth (datNB x)) (PyData.depthAll (xs.map datNB)) ≤ 1
    have : PyData.depth (datNB x) ≤ 1 := by cases x <;> exact Nat.zero_le 1
    omega
theorem shp_NBl {xs : List V} : SeqAt.shaped (.list (xs.map datNB)) = true := by
  show (PyData.canLayAll0 (xs.map datNB) && decide (PyData.depth (.list (xs.map datNB)) ≤ 64)) = true
  rw [lay_NBs, Bool.true_and]
  have h := dep_NBs (xs := xs)
  refine decide_eq_true ?_
  show PyData.depthAll (xs.map datNB) + 1 ≤ 64
  omega
theorem shp_NBt {xs : List V} : SeqAt.shaped (.tuple (xs.map datNB)) = true := by
  show (PyData.canLayAll0 (xs.map datNB) && decide (PyData.depth (.tuple (xs.map datNB)) ≤ 64)) = true
  rw [lay_NBs, Bool.true_and]
  have h := dep_NBs (xs := xs)
  refine decide_eq_true ?_
  show PyData.depthAll (xs.map datNB) + 1 ≤ 64
  omega
section
variable {K : PySem.W.Frag} {H : Hp} {Q : VK} {p q : Addr} {xs ys : List V}
theorem i_eqLF (h1 : SqL K H p xs) (h2 : SqL K H q ys) (f1 : xs.all isNB = true) (f2 : ys.all isNB = true) (h : Q (.bl (eqLF xs ys)) H) : rEqU K (.ref p) (.ref q) H Q :=
  i_eqDv rfl (.lst h1 (dps_NB f1)) (.lst h2 (dps_NB f2)) shp_NBl shp_NBl (eqv_NBs f1 f2) h
theorem i_neLF (h1 : SqL K H p xs) (h2 : SqL K H q ys) (f1 : xs.all isNB = true) (f2 : ys.all isNB = true) (h : Q (.bl (!eqLF xs ys)) H) : rNeU K (.ref p) (.ref q) H Q :=
  i_neDv rfl (.lst h1 (dps_NB f1)) (.lst h2 (dps_NB f2)) shp_NBl shp_NBl (eqv_NBs f1 f2) h
theorem i_eqTF (h1 : SqT K H p xs) (h2 : SqT K H q ys) (f1 : xs.all isNB = true) (f2 : ys.all isNB = true) (h : Q (.bl (eqLF xs ys)) H) : rEqU K (.ref p) (.ref q) H Q :=
  i_eqDv rfl (.tup h1 (dps_NB f1)) (.tup h2 (dps_NB f2)) shp_NBt shp_NBt (eqv_NBs f1 f2) h
theorem i_neTF (h1 : SqT K H p xs) (h2 : SqT K H q ys) (f1 : xs.all isNB = true) (f2 : ys.all isNB = true) (h : Q (.bl (!eqLF xs ys)) H) : rNeU K (.ref p) (.ref q) H Q :=
  i_neDv rfl (.tup h1 (dps_NB f1)) (.tup h2 (dps_NB f2)) shp_NBt shp_NBt (eqv_NBs f1 f2) h
end
theorem lc_mapL {K : PySem.W.Frag} {a : Addr} {xs : List V} {g : TG} {tt : TT} {te : TE} {vs : List Nat} {σ : St} {H1 : Hp} {D : Addr} {Qd : Hp → Prop} (f : V → V) (h0 : SqL K H1 a xs) (hD : H1 D = none) (hl : xs.length ≤ 1000)
    (hs : ∀ x ∈ xs, ∀ H (Q : VK) (R : Hp → Prop), Same H1 H → (∀ H', Same H H' → Q (f x) H') → g x (wipe σ vs) H fun σ2 H2 => wipe σ2 vs = wipe σ vs ∧ tt σ2 H2 fun b H3 => if b = true then te σ2 H3 Q else R H3)
    (hd : ∀ H, Same H1 H → H D = some (.lst (xs.map f)) → Qd H) :
    ∃ W : Nat → Nat → Hp → Prop, (∃ m, W 0 m (upd H1 D (.lst []))) ∧ ∀ i m H, W i m H →
      ((Itl K a).stop i H ∧ Qd H) ∨ ((Itl K a).go i H ∧ ∃ Nx : Hp → Prop, (∀ H', Nx H' → ∃ m', m' < m ∧ W (i + 1) m' H') ∧ ∀ x H', (Itl K a).yld i H x H' → g x (wipe σ vs) H' fun σ2 H2 => wipe σ2 vs = wipe σ vs ∧ tt σ2 H2 fun b H3 =>
        if b = true then te σ2 H3 fun y H4 => ∃ acc, H4 D = some (.lst acc) ∧ acc.length < sizeLine ∧ Nx (upd H4 D (.lst (acc ++ [y]))) else Nx H3) :=
  lc_map xs f walk_list (small1000 hl) (fun _ s => Same.seq s h0) hD hs hd
theorem lc_mapT {K : PySem.W.Frag} {a : Addr} {xs : List V} {g : TG} {tt : TT} {te : TE} {vs : List Nat} {σ : St} {H1 : Hp} {D : Addr} {Qd : Hp → Prop} (f : V → V) (h0 : SqT K H1 a xs) (hD : H1 D = none) (hl : xs.length ≤ 1000)
    (hs : ∀ x ∈ xs, ∀ H (Q : VK) (R : Hp → Prop), Same H1 H → (∀ H', Same H H' → Q (f x) H') → g x (wipe σ vs) H fun σ2 H2 => wipe σ2 vs = wipe σ vs ∧ tt σ2 H2 fun b H3 => if b = true then te σ2 H3 Q else R H3)
    (hd : ∀ H, Same H1 H → H D = some (.lst (xs.map f)) → Qd H) :
    ∃ W : Nat → Nat → Hp → Prop, (∃ m, W 0 m (upd H1 D (.lst []))) ∧ ∀ i m H, W i m H →
      ((Itt K a).stop i H ∧ Qd H) ∨ ((Itt K a).go i H ∧ ∃ Nx : Hp → Prop, (∀ H', Nx H' → ∃ m', m' < m ∧ W (i + 1) m' H') ∧ ∀ x H', (Itt K a).yld i H x H' → g x (wipe σ vs) H' fun σ2 H2 => wipe σ2 vs = wipe σ vs ∧ tt σ2 H2 fun b H3 =>
        if b = true then te σ2 H3 fun y H4 => ∃ acc, H4 D = some (.lst acc) ∧ acc.length < sizeLine ∧ Nx (upd H4 D (.lst (acc ++ [y]))) else Nx H3) :=
  lc_map xs f walk_tup (small1000 hl) (fun _ s => SqT.same s h0) hD hs hd
/-! ### a list or a tuple walked -/
def iSeq (K : PySem.W.Frag) (tl : TE) : TI := fun σ H R => tl σ H fun x H1 => ∃ a, x = .ref a ∧ (((∃ xs, SqL K H1 a xs) ∧ R (Itl K a) H1) ∨ ((∃ xs, SqT K H1 a xs) ∧ R (Itt K a) H1))
theorem pi_seqK {X : Cx} {tg l : Expr} {tl : TE} {K : PySem.W.Frag} (hl : PE X l tl) (hK : X.K = K := by rfl) : PI X tg l (iSeq K tl) := by
  subst hK
  refine ⟨fun pins s σ H R I h => thn (hl.run pins s σ H _ I h) fun v s1 ⟨x, H1, I1, r1, a, ea, q1⟩ => ?_⟩
  subst ea
  cases r1
  rcases q1 with ⟨⟨xs, hq⟩, q⟩ | ⟨⟨xs, hq⟩, q⟩
  · obtain ⟨its, _, pl, _⟩ := I1.list hq
    exact wpAny_pyIter_list pl.isList (pi_one (tk := s1.toks) I1 _ (turn_list a _) ⟨_, Heap.get?_push_size _ rfl, rfl, rfl⟩ q)
  · obtain ⟨its, _, pt, _⟩ := I1.tuple hq
    exact wpAny_pyIter_tuple (show s1.heap.IsTuple a its.toArray from pt) (pi_one (tk := s1.toks) I1 _ (turn_tuple a _) ⟨_, Heap.get?_push_size _ rfl, rfl, rfl⟩ q)
section
variable {D : Ends} {σ : St} {H : Hp} {Q : VK} {K : PySem.W.Frag} {te : TE} {A : TA} {R : It → Hp → Prop}
theorem i_iSeq (h : te σ H fun x H1 => ∃ a, x = .ref a ∧ (((∃ xs, SqL K H1 a xs) ∧ R (Itl K a) H1) ∨ ((∃ xs, SqT K H1 a xs) ∧ R (Itt K a) H1))) : iSeq K te σ H R := h
theorem i_sqL {a : Addr} {xs : List V} {R R' : Addr → Prop} {L : Addr → Prop} (h0 : SqL K H a xs) (h : R a) : ∃ b, V.ref a = .ref b ∧ (((∃ xs, SqL K H b xs) ∧ R b) ∨ (L b ∧ R' b)) := ⟨a, rfl, .inl ⟨⟨xs, h0⟩, h⟩⟩
theorem i_sqT {a : Addr} {xs : List V} {R R' : Addr → Prop} {L : Addr → Prop} (h0 : SqT K H a xs) (h : R' a) : ∃ b, V.ref a = .ref b ∧ ((L b ∧ R b) ∨ ((∃ xs, SqT K H b xs) ∧ R' b)) := ⟨a, rfl, .inr ⟨⟨xs, h0⟩, h⟩⟩
theorem i_fld {f : Str} (h : te σ H fun x H1 => ∃ a C dx fs v, x = .ref a ∧ H1 a = some (.ins C dx fs) ∧ Cls K C ∧ NoAttr K C f ∧ fs.lookup f = some v ∧ Q v H1) : tFld K te f σ H Q := h
theorem i_sfld {tv : TE} {f : Str} (h : tv σ H fun y H1 => te σ H1 fun x H2 => ∃ a C dx fs, x = .ref a ∧ H2 a = some (.ins C dx fs) ∧ Cls K C ∧ NoAttr K C f ∧ fs.length < 1000 ∧ D.nx σ (upd H2 a (.ins C dx (putF f y fs)))) : sFld K te tv f D σ H := h
theorem i_fldR {a C dx : Addr} {fs : List (Str × V)} {f : Str} {v : V} {R : V → Prop} (h1 : H a = some (.ins C dx fs)) (h2 : Cls K C) (h3 : NoAttr K C f) (h4 : fs.lookup f = some v) (h : R v) :
    ∃ b C dx fs v, V.ref a = .ref b ∧ H b = some (.ins C dx fs) ∧ Cls K C ∧ NoAttr K C f ∧ fs.lookup f = some v ∧ R v := ⟨a, C, dx, fs, v, rfl, h1, h2, h3, h4, h⟩
theorem i_sfldR {a C dx : Addr} {fs : List (Str × V)} {f : Str} {R : Addr → Addr → Addr → List (Str × V) → Prop} (h1 : H a = some (.ins C dx fs)) (h2 : Cls K C) (h3 : NoAttr K C f) (h4 : fs.length < 1000) (h : R a C dx fs) :
    ∃ b C dx fs, V.ref a = .ref b ∧ H b = some (.ins C dx fs) ∧ Cls K C ∧ NoAttr K C f ∧ fs.length < 1000 ∧ R b C dx fs := ⟨a, C, dx, fs, rfl, h1, h2, h3, h4, h⟩
theorem i_make {C : Addr} {sp : Sp} {dvs : List V} {E : XK} (h : A σ H fun vs H1 => ∀ x dx, H1 x = none → H1 dx = none → dx ≠ x → sp (.ref x :: (vs ++ dvs)) (upd (upd H1 dx (.own x)) x (.ins C dx [])) (fun v H2 => v = .non ∧ Q (.ref x) H2) E) : tMake C sp dvs E A σ H Q := h
theorem i_meth {C : Addr} {m : Str} {sp : Sp} {dvs : List V} {E : XK} (h : te σ H fun x H1 => ∃ a dx fs, x = .ref a ∧ H1 a = some (.ins C dx fs) ∧ fs.lookup m = none ∧ A σ H1 fun vs H2 => sp (x :: (vs ++ dvs)) H2 Q E) : tMeth C m sp dvs E te A σ H Q := h
theorem i_methR {a C dx : Addr} {fs : List (Str × V)} {m : Str} {R : Prop} (h1 : H a = some (.ins C dx fs)) (h2 : fs.lookup m = none) (h : R) : ∃ b dx fs, V.ref a = .ref b ∧ H b = some (.ins C dx fs) ∧ fs.lookup m = none ∧ R := ⟨a, dx, fs, rfl, h1, h2, h⟩
end
def rTupOf (K : PySem.W.Frag) : List V → Hp → VK → Prop := fun xs H Q => ∃ p ys, xs = [.ref p] ∧ ((SqL K H p ys ∧ ∀ l, H l = none → Q (.ref l) (upd H l (.tup ys))) ∨ (SqT K H p ys ∧ Q (.ref p) H))
def rLstOf (K : PySem.W.Frag) : List V → Hp → VK → Prop := fun xs H Q => ∃ p ys, xs = [.ref p] ∧ (SqL K H p ys ∨ SqT K H p ys) ∧ ∀ l, H l = none → Q (.ref l) (upd H l (.lst ys))
theorem call_tupOf {X : Cx} {K : PySem.W.Frag} (hK : X.K = K := by rfl) : CallR X (.type "tuple") (rTupOf K) := by
  subst hK
  exact call_tuple_of
theorem call_lstOf {X : Cx} {K : PySem.W.Frag} (hK : X.K = K := by rfl) : CallR X (.type "list") (rLstOf K) := by
  subst hK
  exact call_list_of
section
variable {H : Hp} {Q : VK} {K : PySem.W.Frag} {p : Addr} {xs : List V}
theorem i_tupOfL (h0 : SqL K H p xs) (h : ∀ l, H l = none → Q (.ref l) (upd H l (.tup xs))) : rTupOf K [.ref p] H Q := ⟨p, xs, rfl, .inl ⟨h0, h⟩⟩
theorem i_tupOfT (h0 : SqT K H p xs) (h : Q (.ref p) H) : rTupOf K [.ref p] H Q := ⟨p, xs, rfl, .inr ⟨h0, h⟩⟩
theorem i_lstOfL (h0 : SqL K H p xs) (h : ∀ l, H l = none → Q (.ref l) (upd H l (.lst xs))) : rLstOf K [.ref p] H Q := ⟨p, xs, rfl, .inl h0, h⟩
theorem i_lstOfT (h0 : SqT K H p xs) (h : ∀ l, H l = none → Q (.ref l) (upd H l (.lst xs))) : rLstOf K [.ref p] H Q := ⟨p, xs, rfl, .inr h0, h⟩
end
section
variable {σ : St} {H : Hp} {Q : VK} {K : PySem.W.Frag}
theorem i_dnew (h : ∀ p, H p = none → Q (.ref p) (upd H p (.dK []))) : tDNewK σ H Q := h
theorem i_dnewT (h : ∀ p, H p = none → Q (.ref p) (upd H p (.dT []))) : tDNewT σ H Q := h
theorem i_all1 {R : Addr → Prop} (h : ∀ p, H p = none → R p) : ∀ p, H p = none → R p := h
theorem i_disp {trs : List (TE × TE)} (h : ∀ p, H p = none → tPairs trs σ (upd H p (.dK [])) fun ps H2 => H2 p = some (.dK []) ∧ ∃ kvs : List (Key × V), ps = kvs.map (fun kv => (kV kv.1, kv.2)) ∧ kvs.length ≤ 15 ∧ Q (.ref p) (upd H2 p (.dK (mergeK [] kvs)))) : tDisp trs σ H Q := h
end
theorem upd_same' {H : Hp} {a : Addr} {o o' : HO} (e : o = o') : upd H a o a = some o' := by rw [← e]; exact upd_same
theorem SqL.up {K : PySem.W.Frag} {H : Hp} {p q : Addr} {o : HO} {xs : List V} (hq : H q = none) (h : SqL K H p xs) : SqL K (upd H q o) p xs := Same.seq (same_upd (Same.refl _) hq) h
theorem SqT.up {K : PySem.W.Frag} {H : Hp} {p q : Addr} {o : HO} {xs : List V} (hq : H q = none) (h : SqT K H p xs) : SqT K (upd H q o) p xs := SqT.same (same_upd (Same.refl _) hq) h
theorem Rd.ne {H : Hp} {p q : Addr} {o u : HO} (n : p ≠ q) (h : Rd H p u) : Rd (upd H q o) p u := by
  rcases h with h | ⟨b, h⟩
  · exact .inl (get_ne n h)
  · exact .inr ⟨b, get_ne n h⟩
theorem SqL.un {K : PySem.W.Frag} {H : Hp} {p q : Addr} {o : HO} {xs : List V} (n : p ≠ q) (h : SqL K H p xs) : SqL K (upd H q o) p xs := by
  rcases h with h | h
  · exact .inl (Rd.ne n h)
  · exact .inr h
theorem SqT.un {K : PySem.W.Frag} {H : Hp} {p q : Addr} {o : HO} {xs : List V} (n : p ≠ q) (h : SqT K H p xs) : SqT K (upd H q o) p xs := by
  rcases h with h | h
  · exact .inl (Rd.ne n h)
  · exact .inr h
theorem Rd.but {H H' : Hp} {p q : Addr} {u : HO} (s : SameBut q H H') (n : p ≠ q) (h : Rd H p u) : Rd H' p u := by
  rcases h with h | ⟨b, h⟩
  · exact .inl (s _ _ n h)
  · exact .inr ⟨b, s _ _ n h⟩
theorem SqL.but {K : PySem.W.Frag} {H H' : Hp} {p q : Addr} {xs : List V} (s : SameBut q H H') (n : p ≠ q) (h : SqL K H p xs) : SqL K H' p xs := by
  rcases h with h | h
  · exact .inl (Rd.but s n h)
  · exact .inr h
theorem SqT.but {K : PySem.W.Frag} {H H' : Hp} {p q : Addr} {xs : List V} (s : SameBut q H H') (n : p ≠ q) (h : SqT K H p xs) : SqT K H' p xs := by
  rcases h with h | h
  · exact .inl (Rd.but s n h)
  · exact .inr h
theorem SqL.sm {K : PySem.W.Frag} {H H' : Hp} {p : Addr} {xs : List V} (s : Same H H') (h : SqL K H p xs) : SqL K H' p xs := Same.seq s h
theorem Kn.up {K : PySem.W.Frag} {H : Hp} {x : V} {q : Addr} {o : HO} (hq : H q = none) (h : Kn K H x) : Kn K (upd H q o) x := h.same (same_upd (Same.refl _) hq)
theorem i_tp0 {σ : St} {H : Hp} {R : List (V × V) → Hp → Prop} (h : R [] H) : tPairs [] σ H R := h
theorem i_tp1 {σ : St} {H : Hp} {R : List (V × V) → Hp → Prop} {tk tv : TE} {r : List (TE × TE)} (h : tk σ H fun x H1 => tv σ H1 fun y H2 => tPairs r σ H2 fun ps H3 => R ((x, y) :: ps) H3) : tPairs ((tk, tv) :: r) σ H R := h
theorem i_call0 {sp : Sp} {σ : St} {H : Hp} {Q : VK} {E : XK} {A : TA} (h : A σ H fun vs H1 => sp vs H1 Q E) : tCall sp [] E A σ H Q := by
  unfold tCall
  simp only [List.append_nil]
  exact h
theorem i_mk {H : Hp} {R : Addr → Addr → Prop} (h : ∀ x dx, H dx = none → upd H dx (.own x) x = none → H x = none → dx ≠ x → R x dx) : ∀ x dx, H x = none → H dx = none → dx ≠ x → R x dx := fun x dx h1 h2 n =>
  h x dx h2 (by rw [upd_ne (Ne.symm n)]; exact h1) h1 n
theorem Rd.uk {H : Hp} {p q : Addr} {o u v : HO} (hq : H q = some v) (h1 : v ≠ u) (h2 : ∀ b, v ≠ .frz b u) (h : Rd H p u) : Rd (upd H q o) p u := by
  rcases h with h | ⟨b, h⟩
  · exact .inl (get_ne (ne_of h hq (Ne.symm h1)) h)
  · exact .inr ⟨b, get_ne (ne_of h hq (Ne.symm (h2 b))) h⟩
theorem SqT.uk {K : PySem.W.Frag} {H : Hp} {p q : Addr} {o v : HO} {xs : List V} (hq : H q = some v) (h1 : ∀ ys, v ≠ .tup ys) (h2 : ∀ b u, v ≠ .frz b u) (h : SqT K H p xs) : SqT K (upd H q o) p xs := by
  rcases h with h | h
  · exact .inl (Rd.uk hq (h1 _) (fun b => h2 b _) h)
  · exact .inr h
theorem SqL.uk {K : PySem.W.Frag} {H : Hp} {p q : Addr} {o v : HO} {xs : List V} (hq : H q = some v) (h1 : ∀ ys, v ≠ .lst ys) (h2 : ∀ b u, v ≠ .frz b u) (h : SqL K H p xs) : SqL K (upd H q o) p xs := by
  rcases h with h | h
  · exact .inl (Rd.uk hq (h1 _) (fun b => h2 b _) h)
  · exact .inr h
/-! ### one look for all kinds -/
theorem get_o {H : Hp} {a : Addr} {o o' : HO} (h : H a = some o) (e : o = o') : H a = some o' := by rw [← e]; exact h
def seqOf : HO → Option (List V)
  | .lst xs => some xs
  | .tup xs => some xs
  | _ => none
theorem seqOf_sq {K : PySem.W.Frag} {H : Hp} {a : Addr} {o : HO} {xs : List V} (h : H a = some o) (e : seqOf o = some xs) : SqL K H a xs ∨ SqT K H a xs := by
  cases o <;> first | (cases e; done) | skip
  · cases Option.some.inj e
    exact .inl (.of h)
  · cases Option.some.inj e
    exact .inr (.of h)
section
variable {H : Hp} {Q : VK} {K : PySem.W.Frag} {p : Addr} {o : HO} {xs : List V}
theorem i_ixG {n : Int} {w' : V} (h : H p = some o) (e : seqOf o = some xs) (h2 : atI xs n = some w') (q : Q w' H) : rIxU K (.ref p) (.int n) H Q := ⟨xs, w', seqOf_sq h e, h2, q⟩
theorem i_lenG (h : H p = some o) (e : seqOf o = some xs) (q : Q (.int xs.length) H) : rLenU K [.ref p] H Q := by
  rcases seqOf_sq (K := K) h e with h | h
  · exact i_lenL h q
  · exact i_lenT h q
theorem i_isoG {R : (Kd → Bool) → Option Addr → Prop} {f : Kd → Bool} (h : H p = some o) (e : (match o with | .lst _ => some fun d => d == Kd.lst | .tup _ => some fun d => d == Kd.tup | .dK _ => some fun d => d == Kd.dct | .dT _ => some fun d => d == Kd.dct | _ => none) = some f) (q : R f none) : isO K (.ref p) H R := by
  refine ⟨o, .of h, ?_⟩
  cases o <;> first | (cases e; done) | (cases Option.some.inj e; exact q)
theorem i_isoC {R : (Kd → Bool) → Option Addr → Prop} {C dx : Addr} {fs : List (Str × V)} (h : H p = some (.ins C dx fs)) (c : Cls K C) (i : IsC K C) (q : R (fun _ => false) (some C)) : isO K (.ref p) H R := ⟨_, .of h, c, i, q⟩
theorem SqL.of' (h : H p = some o) (e : o = .lst xs) : SqL K H p xs := .of (get_o h e)
theorem SqT.of' (h : H p = some o) (e : o = .tup xs) : SqT K H p xs := .of (get_o h e)
end
/-- a for over a list whose body changes nothing that stood ahead of the loop -/
theorem for_pred {K : PySem.W.Frag} {a : Addr} {xs : List V} {g : TG} {tb : TS} {D : Ends} {σ : St} {H : Hp} (S : St → Prop) (Pr : Hp → V → Prop) (hL : SqL K H a xs) (hp : ∀ y ∈ xs, Pr H y) (h0 : S σ)
    (hs : ∀ y σ H', Pr H y → S σ → Same H H' → g y σ H' fun σ2 H2 => tb { D with nx := fun σ H' => S σ ∧ Same H H', ct := fun σ H' => S σ ∧ Same H H', bk := D.nx } σ2 H2) (hd : ∀ σ H', S σ → Same H H' → D.nx σ H') :
    ∃ W : Nat → Nat → St → Hp → Prop, (∃ m, W 0 m σ H) ∧ ∀ i m σ H, W i m σ H →
      ((Itl K a).stop i H ∧ D.nx σ H) ∨ ((Itl K a).go i H ∧ ∃ N : St → Hp → Prop, (∀ σ' H', N σ' H' → ∃ m', m' < m ∧ W (i + 1) m' σ' H') ∧ ∀ x H', (Itl K a).yld i H x H' → g x σ H' fun σ2 H2 => tb { D with nx := N, ct := N, bk := D.nx } σ2 H2) :=
  for_list (xs := xs) (fun _ σ H' => S σ ∧ Same H H') ⟨h0, Same.refl _⟩ (fun _ _ _ _ h => Same.seq h.2 hL) (fun _ y σ H' hi h => hs y σ H' (hp y (List.mem_of_getElem? hi)) h.1 h.2) (fun σ H' h => hd σ H' h.1 h.2)
theorem Kn.ofG {K : PySem.W.Frag} {H : Hp} {a : Addr} {o : HO} (h : H a = some o) (k : KnO K o) : Kn K H (.ref a) := .of h k
end My
/-! try: body / except clauses of one class or of a tuple of classes, with a name or without / else. -/
namespace My
open PySem PySem.Spec L2
open PyProof.Rows hiding St
/-- what a clause asks for: a class, or a tuple of two to four classes -/
inductive ClT (X : Cx) : Expr → List Value → Prop
  | one {x : Str} {p : Pos} {c : Value} (h : Names X x c) : ClT X (.Name x p) [c]
  | two {x1 x2 : Str} {p1 p2 p : Pos} {c1 c2 : Value} {k : Nat} (h1 : Names X x1 c1) (h2 : Names X x2 c2) : ClT X (.Tuple [.Name x1 p1, .Name x2 p2] k p) [c1, c2]
  | three {x1 x2 x3 : Str} {p1 p2 p3 p : Pos} {c1 c2 c3 : Value} {k : Nat} (h1 : Names X x1 c1) (h2 : Names X x2 c2) (h3 : Names X x3 c3) : ClT X (.Tuple [.Name x1 p1, .Name x2 p2, .Name x3 p3] k p) [c1, c2, c3]
  | four {x1 x2 x3 x4 : Str} {p1 p2 p3 p4 p : Pos} {c1 c2 c3 c4 : Value} {k : Nat} (h1 : Names X x1 c1) (h2 : Names X x2 c2) (h3 : Names X x3 c3) (h4 : Names X x4 c4) :
      ClT X (.Tuple [.Name x1 p1, .Name x2 p2, .Name x3 p3, .Name x4 p4] k p) [c1, c2, c3, c4]
/-- one clause: its classes, the slot of its name, its suite -/
structure Clause where
  cs : List Value
  nm : Option Nat
  ts : Addr → Value → Option Addr → TS
def unD (i : Nat) (D : Ends) : Ends := { nx := fun σ' H' => D.nx (σ'.set i none) H', rt := D.rt, bk := fun σ' H' => D.bk (σ'.set i none) H', ct := fun σ' H' => D.ct (σ'.set i none) H' }
def Clause.go (q : Clause) (a : Addr) (cls : Value) (d : Option Addr) : TS := fun D σ H => match q.nm with
  | none => q.ts a cls d D σ H
  | some i => q.ts a cls d (unD i D) (σ.set i (some (.ref a))) H
/-- what the clauses wish of an exception of the body, one behind the other -/
def wCl (K : PySem.W.Frag) (Wout : WX) (D : Ends) : List Clause → WX
  | [] => Wout
  | q :: r => fun cls d σ H => ∃ b, PySem.W.exmAny K cls q.cs = some b ∧ (b = true → ∀ a, H a = none → q.go a cls d D σ H) ∧ (b = false → wCl K Wout D r cls d σ H)
abbrev SuOk (X : Cx) (su : List Stmt) (ts : Addr → Value → Option Addr → TS) : Prop :=
  ∀ (a : Addr) (oe : Obj) (cls : Value) (d : Option Addr) (pn : List (Addr × Obj)), Zc cls d oe → (∃ vs, oe.data = .fields vs) → PSs (X.suite a ((a, oe) :: pn)) su (ts a cls d)
inductive ClsOk (X : Cx) : List ExceptHandler → List Clause → Prop
  | nil : ClsOk X [] []
  | bare {e : Expr} {cs : List Value} {ts : Addr → Value → Option Addr → TS} {b₀ : Stmt} {su : List Stmt} {p : Pos} {hd : List ExceptHandler} {l : List Clause} (hc : ClT X e cs) (hs : SuOk X (b₀ :: su) ts) (r : ClsOk X hd l) :
      ClsOk X (.ExceptHandler (some e) none (b₀ :: su) p :: hd) (⟨cs, none, ts⟩ :: l)
  | named {e : Expr} {cs : List Value} {ts : Addr → Value → Option Addr → TS} {b₀ : Stmt} {su : List Stmt} {p : Pos} {hd : List ExceptHandler} {l : List Clause} {i : Nat} {n : Str} (hi : X.N[i]? = some n) (hl : X.env.kindOf n = some .local) (hc : ClT X e cs) (hs : SuOk X (b₀ :: su) ts) (r : ClsOk X hd l) :
      ClsOk X (.ExceptHandler (some e) (some n) (b₀ :: su) p :: hd) (⟨cs, some i, ts⟩ :: l)
theorem exm1 {K : PySem.W.Frag} {cls c : Value} {b : Bool} (h : PySem.W.exmAny K cls [c] = some b) : PySem.W.exmOne K cls c = some b := by
  obtain ⟨b1, d1, x1, y1, z1⟩ := PySem.W.exmAny_cons h
  cases (show some false = some d1 from y1)
  rw [z1, x1, Bool.or_false]
section
variable {X : Cx}
theorem names_ld {pins : List (Addr × Obj)} {σ : St} {H : Hp} {s : Shared} {x : Str} {c : Value} {p : Pos} {a : Addr} {pn : List (Addr × Obj)} {Q : Value → Shared → Prop} {E : Value → Shared → Prop} (h : Names X x c) (I : Inv (X.suite a pn) pins σ H s) (q : Q c s) :
    wpAny (model X.prog X.w) (X.A.mark (some (.ref a))) (eval (.Name x p) X.env) Q E s := by
  obtain ⟨g, nd, hm | ⟨hm, hv, nn⟩⟩ := h
  · exact ld_glob (X := X.suite a pn) I g hm q nd
  · exact ld_blt (X := X.suite a pn) I g hm hv q nn nd
theorem ClT.test {e : Expr} {cs : List Value} {pins : List (Addr × Obj)} {σ : St} {H : Hp} {s : Shared} {a : Addr} {pn : List (Addr × Obj)} {cls : Value} {b : Bool} {Q : Bool → Shared → Prop} {E : Value → Shared → Prop} (h : ClT X e cs)
    (I : Inv (X.suite a pn) pins σ H s) (L : PySem.W.Looks (model X.prog X.w) s.heap (typeOf (.ref a)) cls) (hb : PySem.W.exmAny X.K cls cs = some b) (q : ∀ h', (∀ y o, s.heap.get? y = some o → h'.get? y = some o) → Q b { s with heap := h' }) :
    wpAny (model X.prog X.w) (X.A.mark (some (.ref a))) (eval e X.env) (fun c s1 => wpAny (model X.prog X.w) (X.A.mark (some (.ref a))) (excMatches (.ref a) c) Q E s1) E s := by
  have kp : ∀ (o : Obj) y z, s.heap.get? y = some z → (s.heap.push o).get? y = some z := fun o _ _ z => Heap.get?_push_of_some _ z
  have kI : X.K.In s.heap := I.kIn
  cases h with
  | one n => exact names_ld n I ((PySem.W.exm_one kI L (exm1 hb)).here (q _ fun _ _ z => z))
  | two n1 n2 =>
    refine wpAny_Tuple (wpAny_items_cons (names_ld n1 I (wpAny_items_cons (names_ld n2 I (wpAny_items_nil ⟨by size_fits, ?_⟩)))))
    exact (PySem.W.exm_tup2 (kI.keeps (kp _)) (L.keeps (kp _)) (Heap.get?_push_size s.heap rfl) hb).here (q _ (kp _))
  | three n1 n2 n3 =>
    refine wpAny_Tuple (wpAny_items_cons (names_ld n1 I (wpAny_items_cons (names_ld n2 I (wpAny_items_cons (names_ld n3 I (wpAny_items_nil ⟨by size_fits, ?_⟩)))))))
    exact (PySem.W.exm_tup3 (kI.keeps (kp _)) (L.keeps (kp _)) (Heap.get?_push_size s.heap rfl) hb).here (q _ (kp _))
  | four n1 n2 n3 n4 =>
    refine wpAny_Tuple (wpAny_items_cons (names_ld n1 I (wpAny_items_cons (names_ld n2 I (wpAny_items_cons (names_ld n3 I (wpAny_items_cons (names_ld n4 I (wpAny_items_nil ⟨by size_fits, ?_⟩)))))))))
    exact (PySem.W.exm_tup4 (kI.keeps (kp _)) (L.keeps (kp _)) (Heap.get?_push_size s.heap rfl) hb).here (q _ (kp _))
theorem fly_keeps {B h h' : Heap} {l : List Env} {a : Addr} {Z : Obj → Prop} (f : HandSPX.FlyingZ B l a Z h) (k : ∀ y o, h.get? y = some o → h'.get? y = some o) : HandSPX.FlyingZ B l a Z h' := by
  obtain ⟨f1, f2, f3, oe, vs, T, oT, ts, he, hz, hd, h1, hn, hne, hT, hdT, h3⟩ := f
  exact ⟨fun y o q => k _ _ (f1 y o q), f2, f3.of_keeps fun y o q _ => ⟨o, k _ _ q, rfl⟩, oe, vs, T, oT, ts, k _ _ he, hz, hd, h1, hn, hne, k _ _ hT, hdT, h3⟩
theorem fly_out {B h : Heap} {l : List Env} {a : Addr} {Z : Obj → Prop} (f : HandSPX.FlyingZ B l a Z h) : a ∉ frs l := fun m => by
  obtain ⟨oe, vs, e1, _, e2⟩ := f.there
  obtain ⟨_, o, e3, no⟩ := f.2.2.1.mem m
  rw [e1] at e3
  cases e3
  exact no _ e2
variable {body orelse : List Stmt} {h₀ : ExceptHandler} {hds : List ExceptHandler} {l : List Clause} {pos : Pos} {tb : WX → TS} {u : TS} {Wout : WX}
theorem handle_cl {pins : List (Addr × Obj)} {σ : St} {H : Hp} {sI s : Shared} {B : Heap} {a : Addr} {cls : Value} {d : Option Addr} {D : Ends} {hs : List ExceptHandler} {l : List Clause} (hst : X.stack = X.env :: X.outer) (hf : X.env.frame = some X.env.locals) (hN : X.N.Nodup) (tk : Takes X Wout)
    (hk : ClsOk X hs l) (J : Inv X pins σ H sI) (nb : ∀ b o, sI.heap.get? b = some o → b ∉ frs X.stack → B.get? b = some o) (os : s.os = sI.os) (ag : AllBare s.gens) (na : H a = none) :
    ∀ h, HandSPX.FlyingZ B (X.env :: X.outer) a (Zc cls d) h → sI.heap.UpToSlots h → wCl X.K Wout D l cls d σ H → wpAny (model X.prog X.w) X.A (handleBy (.ref a) X.env hs) (SP X pins D) X.xe { s with heap := h } := by
  have ok := J.ok
  have nLF : ∀ {h}, HandSPX.FlyingZ B (X.env :: X.outer) a (Zc cls d) h → a ≠ X.env.locals ∧ a ∉ X.fs := fun f => by
    have nf := fly_out f
    refine ⟨fun z => nf (List.mem_filterMap.mpr ⟨X.env, List.mem_cons_self, by rw [hf, z]⟩), fun m => ?_⟩
    obtain ⟨e, he, q⟩ := List.mem_filterMap.mp m
    exact nf (List.mem_filterMap.mpr ⟨e, List.mem_cons_of_mem _ he, q⟩)
  have su : ∀ {h}, HandSPX.FlyingZ B (X.env :: X.outer) a (Zc cls d) h → sI.heap.UpToSlots h → ∃ oe, Zc cls d oe ∧ (∃ vs, oe.data = .fields vs) ∧ h.get? a = some oe ∧ ∀ t, Inv (X.suite a ((a, oe) :: (X.pn ++ pins))) [] σ H { s with heap := h, toks := t } := fun {h} f up => by
    obtain ⟨oe, vs, e1, e2, e3⟩ := f.there
    exact ⟨oe, e2, ⟨vs, e3⟩, e1, fun t => ((J.landed (s' := { s with heap := h, toks := t }) nb f.1 up os ag).suite e1 e3 na (nLF f).1 (nLF f).2)⟩
  induction hk with
  | nil =>
    intro h f up w
    refine wpAny_handleBy_nil ?_
    obtain ⟨-, -, -, oe, vs, T, -, -, he, -, hd, h1, -⟩ := id f
    unfold PySem.passOn
    refine wpAny_bind (wpAny_field he hd h1 ?_)
    rw [if_neg (show ¬ ((Value.ref T == Value.none) = true) from by simp)]
    have fin : wpAny (model X.prog X.w) X.A (setFlight (.ref a) X.env.frame) (fun _ s4 => wpAny (model X.prog X.w) X.A (throw (.ref a) : Sem Flow) (SP X pins D) X.xe s4) X.xe { s with heap := h } := by
      rw [hf]
      refine HandSPX.setFlight_upZ f fun h4 f4 up4 => wpAny_throw (tk _ _ ⟨a, B, sI, pins, σ, H, cls, d, rfl, J, nb, up.trans up4, .inr (.inr ?_), na, os, ag, w⟩)
      rw [hst]
      exact f4
    first
      | exact wpAny_bind (wpAny_pure (wpAny_bind fin))
      | exact wpAny_bind fin
  | @bare e cs ts b₀ su' p hd l hc hs r ih =>
    intro h f up w
    obtain ⟨b, hb, hy, hn⟩ := w
    obtain ⟨oe, z1, z2, z3, S⟩ := su f up
    refine wpAny_handleBy_cons (codeAny_handlers_test (hc.test (S s.toks) (fun A Q E s k q => wpAny_typeOf_ref (k _ _ z3) (by rw [z1.1]; exact q)) hb fun h2 k => ?_)) (fun q => by cases q)
    have f2 := fly_keeps f k
    have up2 := up.trans (Heap.UpToSlots.of_keeps k)
    cases b with
    | true =>
      refine codeAny_handlers_suite (HandSPX.lands_againZ f2 fun h4 f4 up4 => ?_)
      obtain ⟨oe4, y1, y2, y3, S4⟩ := su f4 (up2.trans up4)
      refine wpAny_mono ((hs a oe4 cls d _ y1 y2).run [] _ _ H _ (S4 s.toks) (hy rfl a na)) (fun fl s6 hq => ?_) (fun _ _ z => False.elim z)
      cases fl with
      | next => exact hq.imp fun _ q => q.imp fun _ q => ⟨q.1.unsuite ok, q.2⟩
      | brk => exact hq.imp fun _ q => q.imp fun _ q => ⟨q.1.unsuite ok, q.2⟩
      | cont => exact hq.imp fun _ q => q.imp fun _ q => ⟨q.1.unsuite ok, q.2⟩
      | ret v => exact hq.imp fun _ q => q.imp fun _ q => q.imp fun _ q => ⟨q.1.unsuite ok, q.2⟩
    | false => exact ih h2 f2 up2 (hn rfl)
  | @named e cs ts b₀ su' p hd l i n hi hl hc hs r ih =>
    intro h f up w
    obtain ⟨b, hb, hy, hn⟩ := w
    obtain ⟨oe, z1, z2, z3, S⟩ := su f up
    refine wpAny_handleBy_cons (codeAny_handlers_test (hc.test (S s.toks) (fun A Q E s k q => wpAny_typeOf_ref (k _ _ z3) (by rw [z1.1]; exact q)) hb fun h2 k => ?_)) (fun q => by cases q)
    have f2 := fly_keeps f k
    have up2 := up.trans (Heap.UpToSlots.of_keeps k)
    cases b with
    | true =>
      refine codeAny_handlers_suite_as (HandSPX.lands_againZ f2 fun h4 f4 up4 => ?_)
      obtain ⟨oe4, y1, y2, y3, S4⟩ := su f4 (up2.trans up4)
      refine store_ok (X := X.suite a ((a, oe4) :: (X.pn ++ pins))) (v := .ref a) (S4 s.toks) hN hi (.inl hl) rfl (fun s5 S5 => ?_) (.inr hl)
      refine wpAny_mono ((hs a oe4 cls d _ y1 y2).run [] s5 _ H _ S5 (hy rfl a na)) (fun fl s6 hq => ?_) (fun _ _ z => False.elim z)
      cases fl with
      | next =>
        obtain ⟨σ6, H6, S6, q6⟩ := hq
        exact gone_ok (S6.unsuite ok) hN hi hl fun s7 J7 => ⟨_, _, J7, q6⟩
      | brk =>
        obtain ⟨σ6, H6, S6, q6⟩ := hq
        exact gone_ok (S6.unsuite ok) hN hi hl fun s7 J7 => ⟨_, _, J7, q6⟩
      | cont =>
        obtain ⟨σ6, H6, S6, q6⟩ := hq
        exact gone_ok (S6.unsuite ok) hN hi hl fun s7 J7 => ⟨_, _, J7, q6⟩
      | ret v =>
        obtain ⟨v6, σ6, H6, S6, r6, q6⟩ := hq
        exact gone_ok (S6.unsuite ok) hN hi hl fun s7 J7 => ⟨_, _, _, J7, r6, q6⟩
    | false => exact ih h2 f2 up2 (hn rfl)
theorem ps_tryC (hst : X.stack = X.env :: X.outer) (hf : X.env.frame = some X.env.locals) (hN : X.N.Nodup) (tk : Takes X Wout)
    (hb : ∀ (W : WX) (pn : List (Addr × Obj)) (xe : Value → Shared → Prop), Takes (X.tr pn xe) W → PassesOwn (model X.prog X.w) X.A X.env xe → PSs (X.tr pn xe) body (tb W))
    (hh : ClsOk X (h₀ :: hds) l) (ho : PSs X orelse u) : PS X (.Try body (h₀ :: hds) orelse [] pos) (fun D σ H => tb (wCl X.K Wout D l) { D with nx := u D } σ H) := by
  refine ⟨fun pins s σ H D I h => wpAny_Try_except ?_⟩
  have ok := I.ok
  refine wpAny_mono ((hb (wCl X.K Wout D l) (X.pn ++ pins) _ (fun v s' xx => ?_) PassesOwn.looking).run [] s σ H { D with nx := u D } (I.toTry _) h) (fun f s1 hq => ?_) (fun e s1 he => he)
  · obtain ⟨a, B, sI, pins', σ', H', cls, d, rfl, J, nb, up, sky, na, os, ag, w⟩ := xx
    refine Sky.land Zc.steady (by rw [ok.frames, hst]) hf (by rw [← hst]; exact sky) fun h3 f3 up3 => ?_
    exact handle_cl hst hf hN tk hh (J.ofTry ok) nb os ag na h3 f3 (up.trans up3) w
  · cases f with
    | next =>
      obtain ⟨σ', H', J, q⟩ := hq
      exact ho.run pins s1 σ' H' D (J.ofTry ok) q
    | brk => exact hq.imp fun _ q => q.imp fun _ q => ⟨q.1.ofTry ok, q.2⟩
    | cont => exact hq.imp fun _ q => q.imp fun _ q => ⟨q.1.ofTry ok, q.2⟩
    | ret v => exact hq.imp fun _ q => q.imp fun _ q => q.imp fun _ q => ⟨q.1.ofTry ok, q.2⟩
end
end My
/-! Errors of the text: made, raised, caught. -/
namespace My
open PySem L2
section
variable {X : Cx} {CX : CXT} {k : Nat} {f C : Addr} {fd : FuncData} {ps : List Str} {sp : Sp} {dvs : List V} {ds : List Value} {E : St → XK} {x m : Str} {p pos apos : Pos} {e o : Expr} {es : List Expr} {ta : TE} {t : TA}
/-- o.m(e, ..), what is raised wished for at the caller's slots -/
def tMethS (C : Addr) (m : Str) (sp : Sp) (dvs : List V) (E : St → XK) (ta : TE) (t : TA) : TE := fun σ H Q => ta σ H fun x H1 => ∃ a dx fs, x = .ref a ∧ H1 a = some (.ins C dx fs) ∧ fs.lookup m = none ∧ t σ H1 fun vs H2 => sp (x :: (vs ++ dvs)) H2 Q (E σ)
theorem pe_methS {pl : Sem Bool} (he : PE X o ta) (c : Cls X.K C) (hm : Meth X.K C m f) (F : FnOk X.prog X.w X.K X.mg X.base CX k f fd ps sp) (hr : Room k X.A) (hb : Binds X.K fd ps ds) (hd : Vals dvs ds) (hx : ∀ σ, PassesAt CX X σ (E σ)) (ha : PA X (e :: es) t)
    (hst : starEach (e :: es) X.env = (false, eval e X.env) :: starEach es X.env := by rfl) (hpl : (backTo pos (starEach es X.env)).any (·.1) = false := by rfl)
    (ht : eval (.Call (.Attribute o m apos) (e :: es) [] pos) X.env = (do let ov ← eval o X.env; standAt apos.atName; let (f, first) ← holding [ov] (getMethod ov m pl); callWith pos f first (backTo pos (starEach (e :: es) X.env)) (backToKw pos (keywordEach [] X.env))) := by rfl) : PE X (.Call (.Attribute o m apos) (e :: es) [] pos) (tMethS C m sp dvs E ta t) := by
  refine ⟨fun pins s σ H Q I h => PySem.W.methodCall_KW (pl := pl) (thn (he.run pins s σ H _ I h) fun u s1 ⟨y, H1, I1, ry, a, dx, fs, ey, ea, l, q⟩ => ?_) ht⟩
  subst ey
  cases (show u = Value.ref a from ry)
  refine getmeth_ok I1 ea c hm l (PySem.W.callWith_K (first := [.ref a]) (h₀ := X.base) I.ok.mod.kin hm.kp (thn (ha.run pos pins s1 σ H1 _ I1 q) fun us s2 ⟨vs, H2, I2, r, q2⟩ => ⟨I2.kIn, ?_⟩) hst hpl)
  exact run_fnSD (us := .ref a :: us) (vs := .ref a :: vs) F hr hb hd (hx σ) I2 (.cons rfl r) q2
theorem pe_meth0S {pl : Sem Bool} (he : PE X o ta) (c : Cls X.K C) (hm : Meth X.K C m f) (F : FnOk X.prog X.w X.K X.mg X.base CX k f fd ps sp) (hr : Room k X.A) (hb : Binds X.K fd ps ds) (hd : Vals dvs ds) (hx : ∀ σ, PassesAt CX X σ (E σ))
    (ht : eval (.Call (.Attribute o m apos) [] [] pos) X.env = (do let ov ← eval o X.env; standAt apos.atName; let (f, first) ← holding [ov] (getMethod ov m pl); callWith pos f first (backTo pos (starEach [] X.env)) (backToKw pos (keywordEach [] X.env))) := by rfl) : PE X (.Call (.Attribute o m apos) [] [] pos) (tMethS C m sp dvs E ta tNil) := by
  refine ⟨fun pins s σ H Q I h => PySem.W.methodCall_KW (pl := pl) (thn (he.run pins s σ H _ I h) fun u s1 ⟨y, H1, I1, ry, a, dx, fs, ey, ea, l, q⟩ => ?_) ht⟩
  subst ey
  cases (show u = Value.ref a from ry)
  refine getmeth_ok I1 ea c hm l (PySem.W.callWith_K0 (first := [.ref a]) I1.kIn hm.kp ?_)
  exact run_fnSD (us := [.ref a]) (vs := [.ref a]) F hr hb hd (hx σ) I1 (.cons rfl .nil) q
def tMakeS (C : Addr) (sp : Sp) (dvs : List V) (E : St → XK) (t : TA) : TE := fun σ H Q => t σ H fun vs H1 => ∀ x dx, H1 x = none → H1 dx = none → dx ≠ x →
  sp (.ref x :: (vs ++ dvs)) (upd (upd H1 dx (.own x)) x (.ins C dx [])) (fun v H2 => v = .non ∧ Q (.ref x) H2) (E σ)
theorem run_makeS {pins : List (Addr × Obj)} {σ : St} {H : Hp} {s : Shared} {Q : VK} {us : List Value} {vs : List V} (M : Mk X.K C f) (F : FnOk X.prog X.w X.K X.mg X.base CX k f fd ps sp) (hr : Room (k + 1) X.A) (hb : Binds X.K fd ps ds) (hd : Vals dvs ds) (hx : PassesAt CX X σ (E σ))
    (I : Inv X pins σ H s) (rv : Vals vs us) (h : ∀ x dx, H x = none → H dx = none → dx ≠ x → sp (.ref x :: (vs ++ dvs)) (upd (upd H dx (.own x)) x (.ins C dx [])) (fun v H2 => v = .non ∧ Q (.ref x) H2) (E σ)) : wpAny (model X.prog X.w) X.A (call (.ref C) us) (EP X pins σ Q) X.xe s := by
  have q0 := h (s.heap.objs.size + 1) s.heap.objs.size (I.hok.fresh (Nat.le_succ _)) (I.hok.fresh (Nat.le_refl _)) (Nat.ne_of_lt (Nat.lt_succ_self _))
  have J := Inv.made (C := C) I
  have rr : Vals (V.ref (s.heap.objs.size + 1) :: (vs ++ dvs)) (Value.ref (s.heap.objs.size + 1) :: (us ++ ds)) := .cons rfl (rv.append hd)
  have len : (Value.ref (s.heap.objs.size + 1) :: us ++ ds).length = ps.length := (rr.length.symm.trans (F.len _ _ _ _ q0))
  have run := F.run _ X.stack _ _ ⟨Value.ref (s.heap.objs.size + 1) :: us, []⟩ (Value.ref (s.heap.objs.size + 1) :: (us ++ ds)) _ _ (E σ) (hr.make C us []) (J.env0.make C us []) (hb _ (Value.ref (s.heap.objs.size + 1) :: us) J.kIn len) rr q0
  refine wpAny_call (make_map (f := f) I.kIn M.makes M.init (beq_iff_eq.mp M.fn) (codeAny_mono run fun r s' z => ?_))
  match r, z with
  | .error e, z => exact hx pins _ _ e s' J z
  | .ok (.ret u), z =>
    obtain ⟨v, H', J', r', rfl, q'⟩ := J.after z
    exact ⟨r', ⟨V.ref (s.heap.objs.size + 1), H', J', rfl, q'⟩⟩
  | .ok .next, z => exact z.elim
  | .ok .brk, z => exact z.elim
  | .ok .cont, z => exact z.elim
/-- C(e, ..), C's own __init__ may raise -/
theorem pe_makeS (M : Mk X.K C f) (F : FnOk X.prog X.w X.K X.mg X.base CX k f fd ps sp) (hr : Room (k + 1) X.A) (hg : Gl X x) (hm : X.mg x = some (.ref C)) (hb : Binds X.K fd ps ds) (hd : Vals dvs ds) (hx : ∀ σ, PassesAt CX X σ (E σ)) (ha : PA X (e :: es) t)
    (hdb : (x == ("__debug__" : Str)) = false := by decide) (he : starEach (e :: es) X.env = (false, eval e X.env) :: starEach es X.env := by rfl) (hpl : (backTo pos (starEach es X.env)).any (·.1) = false := by rfl) : PE X (.Call (.Name x p) (e :: es) [] pos) (tMakeS C sp dvs E t) :=
  ⟨fun pins s σ H Q I h => wpAny_Call_Name_kw (ld_glob I hg hm (PySem.W.callWith_K (h₀ := X.base) I.ok.mod.kin M.kp (thn (ha.run pos pins s σ H _ I h) fun us s1 ⟨vs, H1, I1, rv, q⟩ => ⟨I1.kIn, run_makeS M F hr hb hd (hx _) I1 rv q⟩) he hpl) hdb)⟩
/-- an argument list's reading by what follows it -/
def taM (t : TA) : TA := fun σ H Q => ∃ R : List V → Hp → Prop, t σ H R ∧ ∀ vs H1, R vs H1 → Q vs H1
theorem pa_M (h : PA X es t) : PA X es (taM t) := ⟨fun pos pins s σ H Q I ⟨R, h1, h2⟩ => thn (h.run pos pins s σ H R I h1) fun us s1 ⟨vs, H1, I1, r, q⟩ => ⟨vs, H1, I1, r, h2 vs H1 q⟩⟩
/-! ### an error class of the text: class C(HallError): def __init__(self, f): HallError.__init__(self, '..'); self.f = f -/
/-- what its __init__ does -/
def spExI (C : Addr) (f : Str) : Sp := fun vs H Q _ => ∃ (a : Addr) (v : V), vs = [.ref a, v] ∧ H a = some (exo a C none) ∧ ∀ d, H d = none → d ≠ a → Q .non (upd (upd H d (exd d [(f, v)])) a (exo a C (some d)))
def tExc (C : Addr) (f : Str) (t : TA) : St → Hp → XK → Prop := fun σ H Q => t σ H fun vs H1 => ∃ v, vs = [v] ∧ ∀ d, H1 d = none → Q (.ref C) (some d) (upd H1 d (.xd [(f, v)]))
theorem pmk_exc {fI : Addr} {fl : Str} (T : OexC X.K C) (iC : PySem.W.findIn X.K (.ref C) "__init__" = some (some (.ref fI))) (tI : PySem.W.typeIn X.K (.ref fI) = some (.type "function"))
    (F1 : FnOk X.prog X.w X.K X.mg X.base CX0 k fI fd ps (spExI C fl)) (hr : Room (k + 1) X.A) (hb : Binds X.K fd ps []) (hg : Gl X x) (hm : X.mg x = some (.ref C)) (ha : PA X (e :: es) t)
    (hdb : (x == ("__debug__" : Str)) = false := by decide) (he : starEach (e :: es) X.env = (false, eval e X.env) :: starEach es X.env := by rfl) (hpl : (backTo pos (starEach es X.env)).any (·.1) = false := by rfl) : PMk X (.Call (.Name x p) (e :: es) [] pos) (tExc C fl t) := by
  intro pins s σ H Q I h
  refine pmk_oex T iC tI F1 hr hb .nil (fun _ _ _ _ _ _ _ z => z.elim) hg hm (pa_M ha) hdb he hpl pins s σ H Q I ⟨_, h, fun vs H1 hv => ?_⟩
  obtain ⟨v, rfl, hq⟩ := hv
  refine ⟨(by show 1 ≤ 1000; decide), fun a na => ⟨a, v, rfl, upd_same, fun d hd nd => ⟨rfl, d, [(fl, v)], upd_same, ?_, ?_, ?_⟩⟩⟩
  · rw [upd_ne nd, upd_same]
  · rw [upd_ne nd] at hd
    exact hd
  · have hd' : H1 d = none := by
      rw [upd_ne nd] at hd
      exact hd
    have e1 : upd (del (upd (upd (upd H1 a (exo a C none)) d (exd d [(fl, v)])) a (exo a C (some d))) a) d (.xd [(fl, v)]) = upd H1 d (.xd [(fl, v)]) := by
      funext b
      by_cases h1 : b = d
      · rw [h1, upd_same, upd_same]
      · rw [upd_ne h1, upd_ne h1]
        by_cases h2 : b = a
        · rw [h2, del_same, na]
        · rw [del_ne h2, upd_ne h2, upd_ne h1, upd_ne h2]
    rw [e1]
    exact hq d hd'
/-- HallError.__init__(self, '..'), HallError a class of the text over ValueError -/
theorem pe_hinit {H0 : Addr} {pl : Sem Bool} {p1 p2 : Pos} (hg : Gl X x) (hm : X.mg x = some (.ref H0)) (hs : PySem.W.specialIn X.K (.ref H0) "__getattribute__" = some (some (.builtin "type.__getattribute__"))) (hrd : PySem.W.readsIn X.K H0 (.type "type") = true)
    (hf : PySem.W.findCls X.K (.ref H0) (.type "type") "__init__" = some (.val (.builtin "ValueError.__init__"))) (ha : PA X (e :: es) t) (hdb : (x == ("__debug__" : Str)) = false := by decide)
    (hc : eval (.Call (.Attribute (.Name x p1) "__init__" p2) (e :: es) [] pos) X.env = (do let ov ← eval (.Name x p1) X.env; standAt p2.atName; let (f, first) ← holding [ov] (getMethod ov "__init__" pl); callWith pos f first (backTo pos (starEach (e :: es) X.env)) (backToKw pos (keywordEach [] X.env))) := by rfl)
    (he : starEach (e :: es) X.env = (false, eval e X.env) :: starEach es X.env := by rfl) (hpl : (backTo pos (starEach es X.env)).any (·.1) = false := by rfl) : PE X (.Call (.Attribute (.Name x p1) "__init__" p2) (e :: es) [] pos) (tVeI X.K t) := by
  refine ⟨fun pins s σ H Q I h => PySem.W.methodCall_KW (ld_glob I hg hm ?_ hdb) hc⟩
  refine PySem.W.method_cls I.kIn hs (PySem.W.cls_value I.kIn hrd hf (by decide +kernel) ?_)
  show wpAny _ _ (callWith pos (Value.builtin "ValueError.__init__") [] (backTo pos (starEach (e :: es) X.env)) []) _ _ _
  refine PyProof.Rows.callWith_method1 (thn (ha.run pos pins _ σ H _ (I.tok _) h) fun us s1 ⟨vs, H1, I1, r1, a, C, ws, ev, hl, T, ea, q⟩ => ?_) he hpl
  subst ev
  cases r1 with
  | @cons _ u0 _ ur ra rw' =>
    cases (show u0 = Value.ref a from ra)
    refine oinit_ok T I1 ea ?_ fun s' J => ⟨.non, H1, J, rfl, q⟩
    rw [← Paired.length rw']
    exact line_le hl
/-! ### in an except suite: e.f, isinstance(e, C), isinstance(e, (C, D)) -/
end
/-- what the text says of an error class -/
structure XcC (K : PySem.W.Frag) (D : Addr) : Prop where
  ga : PySem.W.findIn K (.ref D) "__getattribute__" = some (some (.builtin "BaseException.__getattribute__"))
  gg : PySem.W.findIn K (.ref D) "__getattr__" = some none
  ex : PySem.W.subIn K (.ref D) (.type "BaseException") = some true
  hd : PySem.W.hasDictIn K D = true
  ha : PySem.W.findIn K (.ref D) "__class__" = some (some (.builtin "object.__class__"))
  hn : PySem.W.specialIn K (.builtin "object.__class__") "__get__" = some (some (.builtin "getset_descriptor.__get__"))
  ht : PySem.W.takesIn K (.builtin "object.__class__") = some true
  hm : PySem.W.mroIn K D (.type "object") = some true
  ty : PySem.W.typeIn K (.ref D) = some (.type "type")
/-- the own dict of the caught one -/
def XdAt (H : Hp) (d : Option Addr) : Prop := d = none ∨ ∃ dd fs, d = some dd ∧ H dd = some (.xd fs)
/-- e.f, e the caught error -/
def tXfA (K : PySem.W.Frag) (a : Addr) (cls : Value) (d : Option Addr) (f : Str) (te : TE) : TE := fun σ H Q => te σ H fun x H1 => x = .ref a ∧ ∃ (C dd : Addr) (fs : List (Str × V)) (v : V), cls = .ref C ∧ XcC K C ∧ PySem.W.findIn K (.ref C) f = some none ∧ d = some dd ∧ H1 dd = some (.xd fs) ∧ fs.lookup f = some v ∧ Q v H1
section
variable {X : Cx} {a : Addr} {oe : Obj} {cls : Value} {d : Option Addr} {pn : List (Addr × Obj)}
theorem pe_xfA {e : Expr} {te : TE} {pos : Pos} {n : Str} {K : PySem.W.Frag} (hz : Zc cls d oe) (hf : ∃ vs, oe.data = .fields vs) (he : PE (X.suite a ((a, oe) :: pn)) e te) (hb : attributeBase e n X.env (eval e X.env) = eval e X.env := by rfl) (hK : X.K = K := by rfl) :
    PE (X.suite a ((a, oe) :: pn)) (.Attribute e n pos) (tXfA K a cls d n te) := by
  subst hK
  refine ⟨fun pins s σ H Q I h => attr_of hb (thn (he.run pins s σ H _ I h) fun u s1 hh => ?_)⟩
  obtain ⟨x, H1, I1, rx, rfl, C, dd, fs, v, rfl, T, no, rfl, xa, l, q⟩ := hh
  obtain rfl : u = Value.ref a := rx
  obtain ⟨pa, _⟩ := I1.pin (a, oe) (List.mem_append_left _ List.mem_cons_self)
  obtain ⟨vs, hv⟩ := hf
  obtain ⟨mA, ns, rl⟩ := (show ObjOk X.prog X.w H1 s1.heap dd (.xd fs) from I1.hok dd _ xa)
  obtain ⟨od, ho, hl⟩ := lookIn_ns ns
  obtain ⟨u, hu, ru⟩ := RelO.some_of (v := v) (o := mA n) (by rw [← l]; exact rl n)
  exact HandSPX.exc_get I1.kIn (od := some od) ⟨pa, hz.1, by unfold PySem.W.notCls; rw [hv] <;> rfl, by rw [hz.2]; exact ho⟩ T.ga T.gg T.ex (PySem.W.findObj_own T.hd no rfl (by rw [hl, hu])) (handed_of ru) ⟨v, H1, I1.tok _, ru, q⟩
/-- isinstance(e, C) -/
def rIsX (K : PySem.W.Frag) (a : Addr) (cls : Value) (d : Option Addr) : List V → Hp → VK → Prop := fun xs H Q => ∃ (D : Addr) (c : V) (cv : Value) (b : Bool), xs = [.ref a, c] ∧ cls = .ref D ∧ XcC K D ∧ XdAt H d ∧ ClsV c cv ∧ PySem.W.kitOne K (.ref D) cv = some b ∧ Q (.bl b) H
/-- isinstance(e, (C, D)), the tuple just laid -/
def rIsXs (K : PySem.W.Frag) (a : Addr) (cls : Value) (d : Option Addr) : List V → Hp → VK → Prop := fun xs H Q => ∃ (D tp : Addr) (cs : List V) (cvs : List Value) (b : Bool), xs = [.ref a, .ref tp] ∧ H tp = some (.tup cs) ∧ cls = .ref D ∧ XcC K D ∧ XdAt H d ∧ Paired ClsV cs cvs ∧ PySem.W.kitAny K (.ref D) cvs = some b ∧ Q (.bl b) H
theorem xc_kit {K : PySem.W.Frag} {D x : Addr} {ox : Obj} {od : Option Obj} (T : XcC K D) : PySem.W.KitX K (.ref x) (.ref D) (fun h => PySem.W.InstAt h x ox D od) := by
  have hc : (PySem.W.clsIn K D).isSome = true := by
    obtain ⟨cd, hc, _⟩ := PySem.W.any_some T.hd
    rw [hc]
    rfl
  exact PySem.W.kitx_exc hc T.ga T.gg T.ex T.ha T.hn T.ht T.hm
theorem xc_at {pins : List (Addr × Obj)} {σ : St} {H : Hp} {s : Shared} {D : Addr} (hz : Zc (.ref D) d oe) (hf : ∃ vs, oe.data = .fields vs) (I : Inv (X.suite a ((a, oe) :: pn)) pins σ H s) (xd : XdAt H d) : ∃ od, PySem.W.InstAt s.heap a oe D od := by
  obtain ⟨pa, _⟩ := I.pin (a, oe) (List.mem_append_left _ List.mem_cons_self)
  obtain ⟨vs, hv⟩ := hf
  have nc : PySem.W.notCls oe = true := by unfold PySem.W.notCls; rw [hv] <;> rfl
  rcases xd with rfl | ⟨dd, fs, rfl, xa⟩
  · exact ⟨none, pa, hz.1, nc, by rw [hz.2]; trivial⟩
  · obtain ⟨mA, ns, rl⟩ := (show ObjOk X.prog X.w H s.heap dd (.xd fs) from I.hok dd _ xa)
    obtain ⟨od, ho, hl⟩ := lookIn_ns ns
    exact ⟨some od, pa, hz.1, nc, by rw [hz.2]; exact ho⟩
theorem call_isX {K : PySem.W.Frag} (hz : Zc cls d oe) (hf : ∃ vs, oe.data = .fields vs) (hK : X.K = K := by rfl) : CallR (X.suite a ((a, oe) :: pn)) (.builtin "isinstance") (rIsX K a cls d) := by
  subst hK
  intro pins s σ H xs us Q I r h
  obtain ⟨D, c, cv, b, rfl, rfl, T, xd, k, e, q⟩ := h
  obtain ⟨u1, u2, rfl, r1, r2⟩ := vals2 r
  cases (show u1 = Value.ref a from r1)
  cases k.eq r2
  obtain ⟨od, J⟩ := xc_at hz hf I xd
  exact PySem.W.kia_one (xc_kit T) I.kIn J e (fun z => nomatch z) fun tk => ⟨.bl b, H, I.tok tk, rfl, q⟩
theorem call_isXs {K : PySem.W.Frag} (hz : Zc cls d oe) (hf : ∃ vs, oe.data = .fields vs) (hK : X.K = K := by rfl) : CallR (X.suite a ((a, oe) :: pn)) (.builtin "isinstance") (rIsXs K a cls d) := by
  subst hK
  intro pins s σ H xs us Q I r h
  obtain ⟨D, tp, cs, cvs, b, rfl, ht, rfl, T, xd, k, e, q⟩ := h
  obtain ⟨u1, u2, rfl, r1, r2⟩ := vals2 r
  cases (show u1 = Value.ref a from r1)
  cases (show u2 = Value.ref tp from r2)
  obtain ⟨od, J⟩ := xc_at hz hf I xd
  obtain ⟨_, its, rv, ⟨oc, odd, dt, sl⟩, h1, h2, n, h3⟩ := (show ObjOk X.prog X.w H s.heap tp (.tup cs) from I.hok tp _ ht)
  cases ClsV.all k rv
  simp only at h2 h3
  subst h2 h3
  exact PySem.W.kia_tup (xc_kit T) I.kIn J h1 e (fun z => nomatch z) fun tk => ⟨.bl b, H, I.tok tk, rfl, q⟩
end
theorem kit_self {K : PySem.W.Frag} {C : Addr} : PySem.W.kitOne K (.ref C) (.ref C) = some true := by
  unfold PySem.W.kitOne
  rw [if_pos (by simp)]
/-- does the class cls lie under D, an own error class -/
theorem exm_own {K : PySem.W.Frag} {C D : Addr} {b : Bool} (T : XcC K D) (h : PySem.W.subIn K (.ref C) (.ref D) = some b) : PySem.W.exmOne K (.ref C) (.ref D) = some b := PySem.W.exm_ref T.ex T.hd T.ty h
theorem any_nil {K : PySem.W.Frag} {c : Value} : PySem.W.exmAny K c [] = some false := rfl
theorem any_cons {K : PySem.W.Frag} {c e : Value} {r : List Value} {b1 b2 : Bool} (h1 : PySem.W.exmOne K c e = some b1) (h2 : PySem.W.exmAny K c r = some b2) : PySem.W.exmAny K c (e :: r) = some (b1 || b2) := by
  unfold PySem.W.exmAny
  rw [h1, h2]
theorem kany_nil {K : PySem.W.Frag} {c : Value} : PySem.W.kitAny K c [] = some false := rfl
theorem kany_cons {K : PySem.W.Frag} {c e : Value} {r : List Value} {b1 b2 : Bool} (h1 : PySem.W.kitOne K c e = some b1) (h2 : PySem.W.kitAny K c r = some b2) : PySem.W.kitAny K c (e :: r) = some (b1 || b2) := by
  unfold PySem.W.kitAny
  rw [h1]
  cases b1
  · exact h2
  · rfl
/-! ### statements, in the forms that the printed texts use -/
def tRaise (t : St → Hp → XK → Prop) (W : WX) : TS := fun _ σ H => t σ H fun cls d H' => W cls d σ H'
def tTry (K : PySem.W.Frag) (tb : WX → TS) (Wout : WX) (l : List Clause) (u : TS) : TS := fun D σ H => tb (wCl K Wout D l) { D with nx := u D } σ H
section
variable {X : Cx}
theorem ps_raiseM {W : WX} {e : Expr} {t : St → Hp → XK → Prop} {pos : Pos} (hc : X.calm = true) (tk : Takes X W) (he : PMk X e t) : PS X (.Raise (some e) none pos) (tRaise t W) := ps_raise hc tk he
theorem ps_tryM {body orelse : List Stmt} {h₀ : ExceptHandler} {hds : List ExceptHandler} {l : List Clause} {pos : Pos} {tb : WX → TS} {u : TS} {Wout : WX} (hst : X.stack = X.env :: X.outer) (hf : X.env.frame = some X.env.locals) (hN : X.N.Nodup) (tk : Takes X Wout)
    (hb : ∀ (W : WX) (pn : List (Addr × Obj)) (xe : Value → Shared → Prop), Takes (X.tr pn xe) W → PassesOwn (model X.prog X.w) X.A X.env xe → PSs (X.tr pn xe) body (tb W)) (hh : ClsOk X (h₀ :: hds) l) (ho : PSs X orelse u) : PS X (.Try body (h₀ :: hds) orelse [] pos) (tTry X.K tb Wout l u) :=
  ps_tryC hst hf hN tk hb hh ho
end
/-- a def that may raise -/
theorem fund_okX {P : Program} {w : World} {K : PySem.W.Frag} {mg : Str → Option Value} {base : Heap} {x qual : Str} {params : Arguments} {body : List Stmt} {scope : Scope} {dvs : List V} {f : Addr} {fd : FuncData} {N ps : List Str} {k : Nat} {sp : Sp}
    (F : FunD K x qual params body scope dvs [] f fd) (S : FnScope N ps scope) (len : ∀ vs H Q E, sp vs H Q E → vs.length = ps.length)
    (hbody : ∀ (cdv : Value) (A : Around) (outer : List Env) (s : Shared) (H : Hp) (vs : List V) (Q : VK) (E : XK), Room k (A.deeper (PyProof.Rows.envOfC qual scope s.heap.objs.size f cdv)) →
      Takes (cxOf (L2.CX P w) P w K mg base N qual scope f cdv A outer s H E) (fun cls d _ H' => E cls d H') →
      PassesOwn (model P w) (cxOf (L2.CX P w) P w K mg base N qual scope f cdv A outer s H E).A (cxOf (L2.CX P w) P w K mg base N qual scope f cdv A outer s H E).env (cxOf (L2.CX P w) P w K mg base N qual scope f cdv A outer s H E).xe → sp vs H Q E →
      ∃ t, PSs (cxOf (L2.CX P w) P w K mg base N qual scope f cdv A outer s H E) body t ∧ t { nx := fun _ H' => Q .non H', rt := Q } (start N vs) H) : FnOk P w K mg base (L2.CX P w) (k + 1) f fd ps sp :=
  F.ok S len fun cdv A outer s H vs Q E hr h => hbody cdv A outer s H vs Q E hr (takes_of rfl rfl rfl rfl) (passes_of rfl) h
section
variable {D : Ends} {σ : St} {H : Hp} {Q : VK} {K : PySem.W.Frag} {A : TA} {te ta : TE} {C : Addr} {m f : Str} {sp : Sp} {dvs : List V} {E : St → XK}
theorem i_raise {t : St → Hp → XK → Prop} {W : WX} (h : t σ H fun cls d H' => W cls d σ H') : tRaise t W D σ H := h
theorem i_exc {XQ : XK} (h : A σ H fun vs H1 => ∃ v, vs = [v] ∧ ∀ d, H1 d = none → XQ (.ref C) (some d) (upd H1 d (.xd [(f, v)]))) : tExc C f A σ H XQ := h
theorem i_excV {v : V} {R : V → Prop} (h : R v) : ∃ x, [v] = [x] ∧ R x := ⟨v, rfl, h⟩
theorem i_try {tb : WX → TS} {Wout : WX} {l : List Clause} {u : TS} (h : tb (wCl K Wout D l) { D with nx := u D } σ H) : tTry K tb Wout l u D σ H := h
theorem i_methS (h : te σ H fun x H1 => ∃ a dx fs, x = .ref a ∧ H1 a = some (.ins C dx fs) ∧ fs.lookup m = none ∧ A σ H1 fun vs H2 => sp (x :: (vs ++ dvs)) H2 Q (E σ)) : tMethS C m sp dvs E te A σ H Q := h
theorem i_callS (h : A σ H fun vs H1 => sp (vs ++ dvs) H1 Q (E σ)) : tCallSD sp dvs E A σ H Q := h
theorem i_makeS (h : A σ H fun vs H1 => ∀ x dx, H1 x = none → H1 dx = none → dx ≠ x → sp (.ref x :: (vs ++ dvs)) (upd (upd H1 dx (.own x)) x (.ins C dx [])) (fun v H2 => v = .non ∧ Q (.ref x) H2) (E σ)) : tMakeS C sp dvs E A σ H Q := h
/-- the clause takes it -/
theorem i_clT {Wout : WX} {q : Clause} {r : List Clause} {cls : Value} {d : Option Addr} (hb : PySem.W.exmAny K cls q.cs = some true) (h : ∀ ea, H ea = none → q.go ea cls d D σ H) : wCl K Wout D (q :: r) cls d σ H := ⟨true, hb, fun _ => h, fun z => by cases z⟩
/-- it doesn't -/
theorem i_clF {Wout : WX} {q : Clause} {r : List Clause} {cls : Value} {d : Option Addr} (hb : PySem.W.exmAny K cls q.cs = some false) (h : wCl K Wout D r cls d σ H) : wCl K Wout D (q :: r) cls d σ H := ⟨false, hb, (fun z => by cases z), fun _ => h⟩
theorem i_goN {cs : List Value} {i : Nat} {ts : Addr → Value → Option Addr → TS} {a : Addr} {cls : Value} {d : Option Addr} (h : ts a cls d (unD i D) (σ.set i (some (.ref a))) H) : Clause.go ⟨cs, some i, ts⟩ a cls d D σ H := h
theorem i_go0 {cs : List Value} {ts : Addr → Value → Option Addr → TS} {a : Addr} {cls : Value} {d : Option Addr} (h : ts a cls d D σ H) : Clause.go ⟨cs, none, ts⟩ a cls d D σ H := h
theorem i_xf {a dd : Addr} {fs : List (Str × V)} {v : V} {R : V → Prop} {C' : Addr} (T : XcC K C') (no : PySem.W.findIn K (.ref C') f = some none) (h1 : H dd = some (.xd fs)) (h2 : fs.lookup f = some v) (h : R v) :
    V.ref a = .ref a ∧ ∃ (C e : Addr) (fs : List (Str × V)) (v : V), Value.ref C' = .ref C ∧ XcC K C ∧ PySem.W.findIn K (.ref C) f = some none ∧ some dd = some e ∧ H e = some (.xd fs) ∧ fs.lookup f = some v ∧ R v := ⟨rfl, C', dd, fs, v, rfl, T, no, rfl, h1, h2, h⟩
theorem i_xfA {a : Addr} {d : Option Addr} {cls : Value} (h : te σ H fun x H1 => x = .ref a ∧ ∃ (C dd : Addr) (fs : List (Str × V)) (v : V), cls = .ref C ∧ XcC K C ∧ PySem.W.findIn K (.ref C) f = some none ∧ d = some dd ∧ H1 dd = some (.xd fs) ∧ fs.lookup f = some v ∧ Q v H1) : tXfA K a cls d f te σ H Q := h
theorem i_isX {a D' : Addr} {c : V} {cv cls : Value} {d : Option Addr} {b : Bool} (hc : cls = .ref D') (T : XcC K D') (xd : XdAt H d) (k : ClsV c cv) (e : PySem.W.kitOne K (.ref D') cv = some b) (h : Q (.bl b) H) : rIsX K a cls d [.ref a, c] H Q := ⟨D', c, cv, b, rfl, hc, T, xd, k, e, h⟩
theorem i_isXs {a D' tp : Addr} {cs : List V} {cvs : List Value} {cls : Value} {d : Option Addr} {b : Bool} (ht : H tp = some (.tup cs)) (hc : cls = .ref D') (T : XcC K D') (xd : XdAt H d) (k : Paired ClsV cs cvs) (e : PySem.W.kitAny K (.ref D') cvs = some b) (h : Q (.bl b) H) : rIsXs K a cls d [.ref a, .ref tp] H Q :=
  ⟨D', tp, cs, cvs, b, rfl, ht, hc, T, xd, k, e, h⟩
end
/-- an own error class's __init__, read -/
theorem exc_read {K : PySem.W.Frag} {C : Addr} {f : Str} {vs : List V} {H : Hp} {Q : VK} {E : XK} {N : List Str} {z : Str} (hN : N.length = 2) (T : OexC K C) (no : PySem.W.findIn K (.ref C) f = some none) (h : spExI C f vs H Q E) :
    tSeq (tDrop (tVeI K (tCons (tVar 0) (tCons (tC (.str z)) tNil)))) (tOst K f (tVar 0) (tVar 1)) { nx := fun _ H' => Q .non H', rt := Q } (start N vs) H := by
  obtain ⟨a, v, rfl, ha, k⟩ := h
  refine i_seq (i_drop ?_)
  show tVeI K _ _ _ _
  refine ⟨_, rfl, ?_⟩
  refine i_c (i_nil ⟨a, C, [.str z], rfl, Nat.le_of_ble_eq_true rfl, T, ha, ?_⟩)
  exact ⟨v, rfl, .ref a, rfl, a, C, rfl, T, no, .inl ⟨ha, fun d hd nd => k d hd nd⟩⟩
/-! ### isinstance(x, C), C of the text -/
section
variable {K : PySem.W.Frag} {H : Hp} {Q : VK} {x : V} {C : Addr}
theorem i_isiC (h : isO K x H fun _ c => match c with | none => Q (.bl false) H | some D => ∃ b, PySem.W.kitOne K (.ref D) (.ref C) = some b ∧ Q (.bl b) H) : rIsiC C K [x, .ref C] H Q := ⟨x, rfl, h⟩
theorem i_kit {c d : Value} {b : Bool} {R : Bool → Prop} (h1 : PySem.W.kitOne K c d = some b) (h : R b) : ∃ b, PySem.W.kitOne K c d = some b ∧ R b := ⟨b, h1, h⟩
end
end My
/-! comprehensions over zip -/
namespace My
open PySem L2 RZ
theorem walk_zipT {K : PySem.W.Frag} {a b : Addr} {xs ys : List V} {n : Nat} (hn : n = min xs.length ys.length) : Walk (ItzT K a b) n (fun H => SqT K H a xs ∧ SqT K H b ys) (YPair (fun i => xs[i]?) (fun i => ys[i]?)) := by
  subst hn
  refine ⟨fun i _ hi q => ?_, fun _ q => ⟨xs, ys, q.1, q.2, by omega⟩, fun i H v H' _ q ⟨T, x, z, y1, y2, y3, y4, y5⟩ => ⟨T, x, z, y1, y2, y3, y4 xs q.1, y5 ys q.2⟩⟩
  have l1 : i < xs.length := by omega
  have l2 : i < ys.length := by omega
  exact ⟨xs, ys, xs[i], ys[i], q.1, q.2, List.getElem?_eq_getElem l1, List.getElem?_eq_getElem l2⟩
theorem zw_take {α β γ : Type} (f : α → β → γ) {xs : List α} {ys : List β} {i : Nat} {x : α} {y : β} (hx : xs[i]? = some x) (hy : ys[i]? = some y) : (List.zipWith f xs ys).take (i + 1) = (List.zipWith f xs ys).take i ++ [f x y] := by
  rw [List.take_succ, List.getElem?_zipWith, hx, hy]
  rfl
/-- [.. for x, y in zip(xs, ys)] -/
theorem lc_zip {J : It} {G : Hp → Prop} {g : TG} {tt : TT} {te : TE} {vs : List Nat} {σ : St} {H1 : Hp} {D : Addr} {Qd : Hp → Prop} {n : Nat} (xs ys : List V) (f : V → V → V) (w : Walk J n G (YPair (fun i => xs[i]?) (fun i => ys[i]?))) (hn : n = min xs.length ys.length) (hl : n ≤ 1000)
    (hG : ∀ H, Same H1 H → G H) (hD : H1 D = none)
    (hs : ∀ (i : Nat) x y, xs[i]? = some x → ys[i]? = some y → ∀ H T (Q : VK) (R : Hp → Prop), Same H1 H → H T = some (.tup [x, y]) → (∀ H', Same H H' → Q (f x y) H') → g (.ref T) (wipe σ vs) H fun σ2 H2 => wipe σ2 vs = wipe σ vs ∧ tt σ2 H2 fun b H3 => if b = true then te σ2 H3 Q else R H3)
    (hd : ∀ H, Same H1 H → H D = some (.lst (List.zipWith f xs ys)) → Qd H) :
    ∃ W : Nat → Nat → Hp → Prop, (∃ m, W 0 m (upd H1 D (.lst []))) ∧ ∀ i m H, W i m H →
      (J.stop i H ∧ Qd H) ∨ (J.go i H ∧ ∃ Nx : Hp → Prop, (∀ H', Nx H' → ∃ m', m' < m ∧ W (i + 1) m' H') ∧ ∀ x H', J.yld i H x H' → g x (wipe σ vs) H' fun σ2 H2 => wipe σ2 vs = wipe σ vs ∧ tt σ2 H2 fun b H3 =>
        if b = true then te σ2 H3 fun y H4 => ∃ acc, H4 D = some (.lst acc) ∧ acc.length < sizeLine ∧ Nx (upd H4 D (.lst (acc ++ [y]))) else Nx H3) := by
  refine lc_it w (fun i H => Same H1 H ∧ H D = some (.lst ((List.zipWith f xs ys).take i))) ⟨same_upd (Same.refl H1) hD, upd_same⟩ (fun i H _ h => hG H h.1) ?_ (fun H h => hd H h.1 (h.2.trans ?_))
  · rintro i v H H' hi ⟨s1, e1⟩ ⟨T, x, y, rfl, nT, rfl, hx, hy⟩
    have s2 : Same H (upd H T (.tup [x, y])) := same_upd (Same.refl H) nT
    refine hs i x y hx hy _ T _ _ (s1.trans s2) upd_same fun H4 s4 => ?_
    have e4 := s4 _ _ (s2 _ _ e1)
    refine ⟨_, e4, ?_, fun b o q => ?_, ?_⟩
    · refine small1000 ?_
      rw [List.length_take]
      omega
    · by_cases z : b = D
      · subst z
        rw [hD] at q
        cases q
      · rw [upd_ne z]
        exact s4 _ _ (s2 _ _ (s1 _ _ q))
    · rw [upd_same, zw_take f hx hy]
  · rw [List.take_of_length_le (by rw [List.length_zipWith, hn]; exact Nat.le_refl _)]
theorem lc_zipT {K : PySem.W.Frag} {a b : Addr} {xs ys : List V} {g : TG} {tt : TT} {te : TE} {vs : List Nat} {σ : St} {H1 : Hp} {D : Addr} {Qd : Hp → Prop} (f : V → V → V) (h1 : SqT K H1 a xs) (h2 : SqT K H1 b ys) (hD : H1 D = none) (hl : min xs.length ys.length ≤ 1000)
    (hs : ∀ (i : Nat) x y, xs[i]? = some x → ys[i]? = some y → ∀ H T (Q : VK) (R : Hp → Prop), Same H1 H → H T = some (.tup [x, y]) → (∀ H', Same H H' → Q (f x y) H') → g (.ref T) (wipe σ vs) H fun σ2 H2 => wipe σ2 vs = wipe σ vs ∧ tt σ2 H2 fun b H3 => if b = true then te σ2 H3 Q else R H3)
    (hd : ∀ H, Same H1 H → H D = some (.lst (List.zipWith f xs ys)) → Qd H) :
    ∃ W : Nat → Nat → Hp → Prop, (∃ m, W 0 m (upd H1 D (.lst []))) ∧ ∀ i m H, W i m H →
      ((ItzT K a b).stop i H ∧ Qd H) ∨ ((ItzT K a b).go i H ∧ ∃ Nx : Hp → Prop, (∀ H', Nx H' → ∃ m', m' < m ∧ W (i + 1) m' H') ∧ ∀ x H', (ItzT K a b).yld i H x H' → g x (wipe σ vs) H' fun σ2 H2 => wipe σ2 vs = wipe σ vs ∧ tt σ2 H2 fun b H3 =>
        if b = true then te σ2 H3 fun y H4 => ∃ acc, H4 D = some (.lst acc) ∧ acc.length < sizeLine ∧ Nx (upd H4 D (.lst (acc ++ [y]))) else Nx H3) :=
  lc_zip xs ys f (walk_zipT rfl) rfl hl (fun _ s => ⟨SqT.same s h1, SqT.same s h2⟩) hD hs hd
theorem i_zipT {K : PySem.W.Frag} {σ : St} {H : Hp} {A : TA} {R : It → Hp → Prop} (h : A σ H fun vs H1 => ∃ a b xs ys, vs = [.ref a, .ref b] ∧ ((SqL K H1 a xs ∧ SqL K H1 b ys ∧ R (Itz K a b) H1) ∨ (SqT K H1 a xs ∧ SqT K H1 b ys ∧ R (ItzT K a b) H1))) : iZipA K A σ H R := h
theorem i_zipTT {K : PySem.W.Frag} {H : Hp} {a b : Addr} {xs ys : List V} {R1 R2 : Addr → Addr → Prop} (h1 : SqT K H a xs) (h2 : SqT K H b ys) (h : R2 a b) : ∃ a' b' xs ys, [V.ref a, V.ref b] = [.ref a', .ref b'] ∧ ((SqL K H a' xs ∧ SqL K H b' ys ∧ R1 a' b') ∨ (SqT K H a' xs ∧ SqT K H b' ys ∧ R2 a' b')) :=
  ⟨a, b, xs, ys, rfl, .inr ⟨h1, h2, h⟩⟩
theorem i_zipLL {K : PySem.W.Frag} {H : Hp} {a b : Addr} {xs ys : List V} {R1 R2 : Addr → Addr → Prop} (h1 : SqL K H a xs) (h2 : SqL K H b ys) (h : R1 a b) : ∃ a' b' xs ys, [V.ref a, V.ref b] = [.ref a', .ref b'] ∧ ((SqL K H a' xs ∧ SqL K H b' ys ∧ R1 a' b') ∨ (SqT K H a' xs ∧ SqT K H b' ys ∧ R2 a' b')) :=
  ⟨a, b, xs, ys, rfl, .inl ⟨h1, h2, h⟩⟩
theorem pi_zipK {X : Cx} {e e2 : Expr} {ta : TA} {p pos tpos : Pos} {elts : List Expr} {kk : Nat} {K : PySem.W.Frag} (hg : Gl X "zip") (hm : X.mg "zip" = none) (ha : PA X [e, e2] ta)
    (hs : starEach [e, e2] X.env = (false, eval e X.env) :: starEach [e2] X.env := by rfl) (hpl : (backTo pos (starEach [e2] X.env)).any (·.1) = false := by rfl) (hK : X.K = K := by rfl) :
    PI X (.Tuple elts kk tpos) (.Call (.Name "zip" p) [e, e2] [] pos) (iZipA K ta) := by
  subst hK
  exact pi_zipA hg hm ha hs hpl
def vI : V → Int
  | .int i => i
  | _ => 0
theorem zw_int (f : Int → Int → Int) (ns ms : List Int) : List.zipWith (fun x y => V.int (f (vI x) (vI y))) (ns.map V.int) (ms.map V.int) = (List.zipWith f ns ms).map V.int := by
  induction ns generalizing ms with
  | nil => rfl
  | cons n ns ih => cases ms with
    | nil => rfl
    | cons m ms => exact congrArg _ (ih ms)
theorem zw_bl (f : Int → Int → Bool) (ns ms : List Int) : List.zipWith (fun x y => V.bl (f (vI x) (vI y))) (ns.map V.int) (ms.map V.int) = (List.zipWith f ns ms).map V.bl := by
  induction ns generalizing ms with
  | nil => rfl
  | cons n ns ih => cases ms with
    | nil => rfl
    | cons m ms => exact congrArg _ (ih ms)
theorem map_int_at {ns : List Int} {i : Nat} {x : V} (h : (ns.map V.int)[i]? = some x) : ∃ n, n ∈ ns ∧ x = .int n ∧ ns[i]? = some n := by
  rw [List.getElem?_map, Option.map_eq_some_iff] at h
  obtain ⟨n, h1, rfl⟩ := h
  exact ⟨n, List.mem_of_getElem? h1, rfl, h1⟩
/-- [.. for k in range(n)], each item drawn of the pool at p -/
theorem lc_pool {J : It} {G : Hp → Prop} {g : TG} {tt : TT} {te : TE} {vs : List Nat} {σ : St} {H1 : Hp} {D p : Addr} {m0 : Int} {Qd : Hp → Prop} {n : Nat} {f : Nat → V} (Pr : V → Prop) (w : Walk J n G (YFn f)) (hl : n ≤ 1000) (hG : ∀ H, G H) (hp : H1 p = some (.lst [.int m0])) (hD : H1 D = none)
    (hs : ∀ i, i < n → ∀ H m (Q : VK) (R : Hp → Prop), SameBut p H1 H → H p = some (.lst [.int m]) → (∀ y H' m', SameBut p H H' → H' p = some (.lst [.int m']) → Pr y → Q y H') → g (f i) (wipe σ vs) H fun σ2 H2 => wipe σ2 vs = wipe σ vs ∧ tt σ2 H2 fun b H3 => if b = true then te σ2 H3 Q else R H3)
    (hd : ∀ H m ys, SameBut p H1 H → H p = some (.lst [.int m]) → H D = some (.lst ys) → ys.length = n → (∀ y ∈ ys, Pr y) → Qd H) :
    ∃ W : Nat → Nat → Hp → Prop, (∃ m, W 0 m (upd H1 D (.lst []))) ∧ ∀ i m H, W i m H →
      (J.stop i H ∧ Qd H) ∨ (J.go i H ∧ ∃ Nx : Hp → Prop, (∀ H', Nx H' → ∃ m', m' < m ∧ W (i + 1) m' H') ∧ ∀ x H', J.yld i H x H' → g x (wipe σ vs) H' fun σ2 H2 => wipe σ2 vs = wipe σ vs ∧ tt σ2 H2 fun b H3 =>
        if b = true then te σ2 H3 fun y H4 => ∃ acc, H4 D = some (.lst acc) ∧ acc.length < sizeLine ∧ Nx (upd H4 D (.lst (acc ++ [y]))) else Nx H3) := by
  have np : p ≠ D := ne_of_none hp hD
  have sb : ∀ {H o}, SameBut p H1 H → SameBut p H1 (upd H D o) := fun {H o} s b u nb e => by
    rw [upd_ne (ne_of_none e hD)]
    exact s b u nb e
  refine lc_it w (fun i H => SameBut p H1 H ∧ (∃ m, H p = some (.lst [.int m])) ∧ ∃ ys, H D = some (.lst ys) ∧ ys.length = i ∧ ∀ y ∈ ys, Pr y) ⟨sb (SameBut.refl p H1), ⟨m0, by rw [upd_ne np]; exact hp⟩, [], upd_same, rfl, fun _ h => nomatch h⟩ (fun i H _ _ => hG H) ?_ ?_
  · rintro i v H H' hi ⟨s1, ⟨m, e1⟩, ys, e2, e3, e4⟩ ⟨rfl, rfl⟩
    refine hs i hi H' m _ _ s1 e1 fun y H4 m' s2 e5 hy => ⟨ys, s2 _ _ (Ne.symm np) e2, small1000 (by omega), sb (s1.trans s2), ⟨m', by rw [upd_ne np]; exact e5⟩, ys ++ [y], upd_same, by rw [List.length_append, e3]; rfl, fun z hz => ?_⟩
    rcases List.mem_append.mp hz with h | h
    · exact e4 z h
    · rw [List.mem_singleton.mp h]
      exact hy
  · rintro H ⟨s1, ⟨m, e1⟩, ys, e2, e3, e4⟩
    exact hd H m ys s1 e1 e2 e3 e4
/-! ### xs.append(y) -/
def tApp (K : PySem.W.Frag) (to : TE) (A : TA) : TE := tBM K "list" rAppend to A
theorem pe_appK {X : Cx} {K : PySem.W.Frag} {e : Expr} {to : TE} {t : TA} (h : PE X e (tBM X.K "list" rAppend to t)) (hK : X.K = K := by rfl) : PE X e (tApp K to t) := by
  subst hK
  exact h
section
variable {K : PySem.W.Frag} {σ : St} {H : Hp} {Q : VK} {to : TE} {A : TA} {l : Addr} {xs : List V} {y : V}
theorem i_app (h : to σ H fun x H1 => tyV K "list" x H1 ∧ A σ H1 fun vs H2 => rAppend x vs H2 Q) : tApp K to A σ H Q := h
theorem i_tyL {R : Prop} (h0 : SqL K H l xs) (h : R) : tyV K "list" (.ref l) H ∧ R := ⟨.inl ⟨rfl, xs, h0⟩, h⟩
theorem i_rapp (h1 : H l = some (.lst xs)) (h2 : xs.length < sizeLine) (h : Q .non (upd H l (.lst (xs ++ [y])))) : rAppend (.ref l) [y] H Q := ⟨l, xs, y, rfl, rfl, h1, h2, h⟩
end
/-- [.. for k in range(n)], nothing older changed -/
theorem lc_rng {g : TG} {tt : TT} {te : TE} {vs : List Nat} {σ : St} {H1 : Hp} {D : Addr} {Qd : Hp → Prop} {n : Nat} (f : Nat → V) (hl : n ≤ 1000) (hD : H1 D = none)
    (hs : ∀ i, i < n → ∀ H (Q : VK) (R : Hp → Prop), Same H1 H → (∀ H', Same H H' → Q (f i) H') → g (.int (0 + i)) (wipe σ vs) H fun σ2 H2 => wipe σ2 vs = wipe σ vs ∧ tt σ2 H2 fun b H3 => if b = true then te σ2 H3 Q else R H3)
    (hd : ∀ H, Same H1 H → H D = some (.lst ((List.range n).map f)) → Qd H) :
    ∃ W : Nat → Nat → Hp → Prop, (∃ m, W 0 m (upd H1 D (.lst []))) ∧ ∀ i m H, W i m H →
      ((Itr 0 n).stop i H ∧ Qd H) ∨ ((Itr 0 n).go i H ∧ ∃ Nx : Hp → Prop, (∀ H', Nx H' → ∃ m', m' < m ∧ W (i + 1) m' H') ∧ ∀ x H', (Itr 0 n).yld i H x H' → g x (wipe σ vs) H' fun σ2 H2 => wipe σ2 vs = wipe σ vs ∧ tt σ2 H2 fun b H3 =>
        if b = true then te σ2 H3 fun y H4 => ∃ acc, H4 D = some (.lst acc) ∧ acc.length < sizeLine ∧ Nx (upd H4 D (.lst (acc ++ [y]))) else Nx H3) := by
  refine lc_it walk_range (fun i H => Same H1 H ∧ H D = some (.lst ((List.range i).map f))) ⟨same_upd (Same.refl H1) hD, upd_same⟩ (fun i H _ _ => trivial) ?_ (fun H h => hd H h.1 h.2)
  rintro i v H H' hi ⟨s1, e1⟩ ⟨rfl, rfl⟩
  refine hs i hi H' _ _ s1 fun H4 s4 => ⟨_, s4 _ _ e1, small1000 (by rw [List.length_map, List.length_range]; omega), fun b o q => ?_, ?_⟩
  · rw [upd_ne (ne_of_none q hD)]
    exact s4 _ _ (s1 _ _ q)
  · rw [upd_same, List.range_succ, List.map_append]
    rfl
theorem atI_D {ns : List Int} {i : Nat} (h : i < ns.length) : atI (ns.map V.int) (0 + (i : Int)) = some (.int (ns.getD i 0)) := by
  rw [Int.zero_add]
  refine atI_nat ?_
  rw [List.getElem?_map, List.getD_eq_getElem?_getD, List.getElem?_eq_getElem h]
  rfl
theorem rng_zip {α : Type} (f : Int → Int → α) {ns ms : List Int} (e : ms.length = ns.length) : (List.range ns.length).map (fun i => f (ns.getD i 0) (ms.getD i 0)) = List.zipWith f ns ms := by
  refine List.ext_getElem (by simp [e]) fun i h1 h2 => ?_
  simp only [List.length_map, List.length_range] at h1
  simp [List.getD_eq_getElem?_getD, List.getElem?_eq_getElem h1, List.getElem?_eq_getElem (show i < ms.length by omega)]
theorem i_intB {H : Hp} {Q : VK} {k : Bool} (h : Q (.int (if k then 1 else 0)) H) : rIntU [.bl k] H Q := h
theorem i_intI {H : Hp} {Q : VK} {i : Int} (h : Q (.int i) H) : rIntU [.int i] H Q := h
/-! ### comprehensions whose items are told by a word that holds of later heaps, too -/
theorem Rd.butO {H H' : Hp} {p D : Addr} {o u : HO} (hD : H D = some o) (n1 : o ≠ u) (n2 : ∀ b, o ≠ .frz b u) (s : SameBut D H H') (h : Rd H p u) : Rd H' p u := by
  rcases h with h | ⟨b, h⟩
  · exact .inl (s _ _ (ne_of h hD (Ne.symm n1)) h)
  · exact .inr ⟨b, s _ _ (ne_of h hD (Ne.symm (n2 b))) h⟩
theorem SqT.butL {K : PySem.W.Frag} {H H' : Hp} {p D : Addr} {acc xs : List V} (hD : H D = some (.lst acc)) (s : SameBut D H H') (h : SqT K H p xs) : SqT K H' p xs := by
  rcases h with h | h
  · exact .inl (Rd.butO hD (by intro z; cases z) (by intro b z; cases z) s h)
  · exact .inr h
/-- [.. for x in xs if ..]: each item keeps Pr, whatever is done later at the list itself -/
theorem lc_pr {J : It} {G : Hp → Prop} {g : TG} {tt : TT} {te : TE} {vs : List Nat} {σ : St} {H1 : Hp} {D : Addr} {Qd : Hp → Prop} {n : Nat} (at_ : Nat → V → Prop) (Pr : Hp → V → Prop) (w : Walk J n G fun i H x H' => H' = H ∧ at_ i x) (hl : n < sizeLine)
    (mono : ∀ H H' y, (∀ acc, H D = some (.lst acc) → SameBut D H H' → Pr H y → Pr H' y)) (hG : ∀ H, Same H1 H → G H) (hD : H1 D = none)
    (hs : ∀ i x, i < n → at_ i x → ∀ H (Q : VK) (R : Hp → Prop), Same H1 H → (∃ acc, H D = some (.lst acc)) → (∀ y H', Same H H' → Pr H' y → Q y H') → (∀ H', Same H H' → R H') → g x (wipe σ vs) H fun σ2 H2 => wipe σ2 vs = wipe σ vs ∧ tt σ2 H2 fun b H3 => if b = true then te σ2 H3 Q else R H3)
    (hd : ∀ H ys, Same H1 H → H D = some (.lst ys) → ys.length ≤ n → (∀ y ∈ ys, Pr H y) → Qd H) :
    ∃ W : Nat → Nat → Hp → Prop, (∃ m, W 0 m (upd H1 D (.lst []))) ∧ ∀ i m H, W i m H →
      (J.stop i H ∧ Qd H) ∨ (J.go i H ∧ ∃ Nx : Hp → Prop, (∀ H', Nx H' → ∃ m', m' < m ∧ W (i + 1) m' H') ∧ ∀ x H', J.yld i H x H' → g x (wipe σ vs) H' fun σ2 H2 => wipe σ2 vs = wipe σ vs ∧ tt σ2 H2 fun b H3 =>
        if b = true then te σ2 H3 fun y H4 => ∃ acc, H4 D = some (.lst acc) ∧ acc.length < sizeLine ∧ Nx (upd H4 D (.lst (acc ++ [y]))) else Nx H3) := by
  have sb : ∀ {H o}, Same H1 H → Same H1 (upd H D o) := fun {H o} s b u e => by
    rw [upd_ne (ne_of_none e hD)]
    exact s b u e
  refine lc_it w (fun i H => Same H1 H ∧ ∃ ys, H D = some (.lst ys) ∧ ys.length ≤ i ∧ ∀ y ∈ ys, Pr H y) ⟨sb (Same.refl H1), [], upd_same, Nat.le_refl _, fun _ h => nomatch h⟩ (fun i H _ h => hG H h.1) ?_ ?_
  · rintro i v H H' hi ⟨s1, ys, e2, e3, e4⟩ ⟨rfl, hx⟩
    refine hs i v hi hx H' _ _ s1 ⟨ys, e2⟩ (fun y H4 s4 hy => ?_) (fun H4 s4 => ?_)
    · have e5 := s4 _ _ e2
      have sD : SameBut D H4 (upd H4 D (.lst (ys ++ [y]))) := SameBut.upd _ _ _
      refine ⟨ys, e5, Nat.lt_of_le_of_lt (by omega) hl, sb (s1.trans s4), _, upd_same, by rw [List.length_append]; show ys.length + 1 ≤ i + 1; omega, fun z hz => ?_⟩
      rcases List.mem_append.mp hz with h | h
      · exact mono _ _ _ _ e5 sD (mono _ _ _ _ e2 (SameBut.of s4) (e4 z h))
      · rw [List.mem_singleton.mp h]
        exact mono _ _ _ _ e5 sD hy
    · exact ⟨s1.trans s4, ys, s4 _ _ e2, by omega, fun z hz => mono _ _ _ _ e2 (SameBut.of s4) (e4 z hz)⟩
  · rintro H ⟨s1, ys, e2, e3, e4⟩
    exact hd H ys s1 e2 e3 e4
/-- [.. for x in xs]: of each item the one at its place -/
theorem lc_rel {J : It} {G : Hp → Prop} {g : TG} {tt : TT} {te : TE} {vs : List Nat} {σ : St} {H1 : Hp} {D : Addr} {Qd : Hp → Prop} {n : Nat} (at_ : Nat → V → Prop) (Rl : Nat → Hp → V → Prop) (w : Walk J n G fun i H x H' => H' = H ∧ at_ i x) (hl : n < sizeLine)
    (mono : ∀ i H H' y, (∀ acc, H D = some (.lst acc) → SameBut D H H' → Rl i H y → Rl i H' y)) (hG : ∀ H, Same H1 H → G H) (hD : H1 D = none)
    (hs : ∀ i x, i < n → at_ i x → ∀ H (Q : VK) (R : Hp → Prop), Same H1 H → (∃ acc, H D = some (.lst acc)) → (∀ y H', Same H H' → Rl i H' y → Q y H') → g x (wipe σ vs) H fun σ2 H2 => wipe σ2 vs = wipe σ vs ∧ tt σ2 H2 fun b H3 => if b = true then te σ2 H3 Q else R H3)
    (hd : ∀ H (ys : List V), Same H1 H → H D = some (.lst ys) → ys.length = n → (∀ (i : Nat) (y : V), ys[i]? = some y → Rl i H y) → Qd H) :
    ∃ W : Nat → Nat → Hp → Prop, (∃ m, W 0 m (upd H1 D (.lst []))) ∧ ∀ i m H, W i m H →
      (J.stop i H ∧ Qd H) ∨ (J.go i H ∧ ∃ Nx : Hp → Prop, (∀ H', Nx H' → ∃ m', m' < m ∧ W (i + 1) m' H') ∧ ∀ x H', J.yld i H x H' → g x (wipe σ vs) H' fun σ2 H2 => wipe σ2 vs = wipe σ vs ∧ tt σ2 H2 fun b H3 =>
        if b = true then te σ2 H3 fun y H4 => ∃ acc, H4 D = some (.lst acc) ∧ acc.length < sizeLine ∧ Nx (upd H4 D (.lst (acc ++ [y]))) else Nx H3) := by
  have sb : ∀ {H o}, Same H1 H → Same H1 (upd H D o) := fun {H o} s b u e => by
    rw [upd_ne (ne_of_none e hD)]
    exact s b u e
  refine lc_it w (fun i H => Same H1 H ∧ ∃ ys, H D = some (.lst ys) ∧ ys.length = i ∧ ∀ j y, ys[j]? = some y → Rl j H y) ⟨sb (Same.refl H1), [], upd_same, rfl, fun j y h => by simp at h⟩ (fun i H _ h => hG H h.1) ?_ ?_
  · rintro i v H H' hi ⟨s1, ys, e2, e3, e4⟩ ⟨rfl, hx⟩
    refine hs i v hi hx H' _ _ s1 ⟨ys, e2⟩ (fun y H4 s4 hy => ?_)
    have e5 := s4 _ _ e2
    have sD : SameBut D H4 (upd H4 D (.lst (ys ++ [y]))) := SameBut.upd _ _ _
    refine ⟨ys, e5, Nat.lt_of_le_of_lt (by omega) hl, sb (s1.trans s4), _, upd_same, by rw [List.length_append, e3]; rfl, fun j z hz => ?_⟩
    by_cases c : j < ys.length
    · rw [List.getElem?_append_left c] at hz
      exact mono _ _ _ _ _ e5 sD (mono _ _ _ _ _ e2 (SameBut.of s4) (e4 j z hz))
    · rw [List.getElem?_append_right (by omega)] at hz
      have hj : j - ys.length = 0 := by
        have := (List.getElem?_eq_some_iff.mp hz).1
        simp at this
        omega
      rw [hj] at hz
      obtain rfl := Option.some.inj hz
      have : j = i := by omega
      subst this
      exact mono _ _ _ _ _ e5 sD hy
  · rintro H ⟨s1, ys, e2, e3, e4⟩
    exact hd H ys s1 e2 e3 e4
theorem EqV.selfI {K : PySem.W.Frag} {x : V} {H : Hp} {R : (Kd → Bool) → Option Addr → Prop} {n : Nat} (h : isO K x H R) : EqV K H n x x true := by
  cases x with
  | non => exact .flat rfl
  | bl b => exact .flat (by simp [eqF])
  | int i => exact .flat (by simp [eqF])
  | str z => exact .flat (by simp [eqF])
  | ref p => exact .one
  | _ => exact h.elim
theorem lc_prL {K : PySem.W.Frag} {a : Addr} {xs : List V} {g : TG} {tt : TT} {te : TE} {vs : List Nat} {σ : St} {H1 : Hp} {D : Addr} {Qd : Hp → Prop} (Pr : Hp → V → Prop) (h0 : SqL K H1 a xs) (hD : H1 D = none) (hl : xs.length ≤ 1000)
    (mono : ∀ H H' y, (∀ acc, H D = some (.lst acc) → SameBut D H H' → Pr H y → Pr H' y))
    (hs : ∀ x ∈ xs, ∀ H (Q : VK) (R : Hp → Prop), Same H1 H → (∃ acc, H D = some (.lst acc)) → (∀ y H', Same H H' → Pr H' y → Q y H') → (∀ H', Same H H' → R H') → g x (wipe σ vs) H fun σ2 H2 => wipe σ2 vs = wipe σ vs ∧ tt σ2 H2 fun b H3 => if b = true then te σ2 H3 Q else R H3)
    (hd : ∀ H ys, Same H1 H → H D = some (.lst ys) → ys.length ≤ xs.length → (∀ y ∈ ys, Pr H y) → Qd H) :
    ∃ W : Nat → Nat → Hp → Prop, (∃ m, W 0 m (upd H1 D (.lst []))) ∧ ∀ i m H, W i m H →
      ((Itl K a).stop i H ∧ Qd H) ∨ ((Itl K a).go i H ∧ ∃ Nx : Hp → Prop, (∀ H', Nx H' → ∃ m', m' < m ∧ W (i + 1) m' H') ∧ ∀ x H', (Itl K a).yld i H x H' → g x (wipe σ vs) H' fun σ2 H2 => wipe σ2 vs = wipe σ vs ∧ tt σ2 H2 fun b H3 =>
        if b = true then te σ2 H3 fun y H4 => ∃ acc, H4 D = some (.lst acc) ∧ acc.length < sizeLine ∧ Nx (upd H4 D (.lst (acc ++ [y]))) else Nx H3) :=
  lc_pr (fun i x => xs[i]? = some x) Pr walk_list (small1000 hl) mono (fun _ s => Same.seq s h0) hD (fun _ x _ hx => hs x (List.mem_of_getElem? hx)) hd
theorem lc_relL {K : PySem.W.Frag} {a : Addr} {xs : List V} {g : TG} {tt : TT} {te : TE} {vs : List Nat} {σ : St} {H1 : Hp} {D : Addr} {Qd : Hp → Prop} (Rl : Hp → V → V → Prop) (h0 : SqL K H1 a xs) (hD : H1 D = none) (hl : xs.length ≤ 1000)
    (mono : ∀ x H H' y, (∀ acc, H D = some (.lst acc) → SameBut D H H' → Rl H x y → Rl H' x y))
    (hs : ∀ x ∈ xs, ∀ H (Q : VK) (R : Hp → Prop), Same H1 H → (∃ acc, H D = some (.lst acc)) → (∀ y H', Same H H' → Rl H' x y → Q y H') → g x (wipe σ vs) H fun σ2 H2 => wipe σ2 vs = wipe σ vs ∧ tt σ2 H2 fun b H3 => if b = true then te σ2 H3 Q else R H3)
    (hd : ∀ H (ys : List V), Same H1 H → H D = some (.lst ys) → ys.length = xs.length → (∀ (i : Nat) (x y : V), xs[i]? = some x → ys[i]? = some y → Rl H x y) → Qd H) :
    ∃ W : Nat → Nat → Hp → Prop, (∃ m, W 0 m (upd H1 D (.lst []))) ∧ ∀ i m H, W i m H →
      ((Itl K a).stop i H ∧ Qd H) ∨ ((Itl K a).go i H ∧ ∃ Nx : Hp → Prop, (∀ H', Nx H' → ∃ m', m' < m ∧ W (i + 1) m' H') ∧ ∀ x H', (Itl K a).yld i H x H' → g x (wipe σ vs) H' fun σ2 H2 => wipe σ2 vs = wipe σ vs ∧ tt σ2 H2 fun b H3 =>
        if b = true then te σ2 H3 fun y H4 => ∃ acc, H4 D = some (.lst acc) ∧ acc.length < sizeLine ∧ Nx (upd H4 D (.lst (acc ++ [y]))) else Nx H3) :=
  lc_rel (fun i x => xs[i]? = some x) (fun i H y => ∀ x, xs[i]? = some x → Rl H x y) walk_list (small1000 hl) (fun i H H' y acc e s h x hx => mono x H H' y acc e s (h x hx)) (fun _ s => Same.seq s h0) hD
    (fun i x _ hx H Q R s e k => hs x (List.mem_of_getElem? hx) H Q R s e fun y H' s' r => k y H' s' fun x' hx' => by rw [hx] at hx'; cases hx'; exact r) (fun H ys s e l h => hd H ys s e l fun i x y hx hy => h i y hy x hx)
/-- for k in range(n): nothing older than the loop is changed -/
theorem for_rngS {n : Nat} {g : TG} {tb : TS} {D : Ends} {σ : St} {H : Hp} (S : St → Prop) (h0 : S σ)
    (hs : ∀ (i : Nat) σ H', i < n → S σ → Same H H' → g (.int (0 + i)) σ H' fun σ2 H2 => tb { D with nx := fun σ H' => S σ ∧ Same H H', ct := fun σ H' => S σ ∧ Same H H', bk := D.nx } σ2 H2) (hd : ∀ σ H', S σ → Same H H' → D.nx σ H') :
    ∃ W : Nat → Nat → St → Hp → Prop, (∃ m, W 0 m σ H) ∧ ∀ i m σ H, W i m σ H →
      ((Itr 0 n).stop i H ∧ D.nx σ H) ∨ ((Itr 0 n).go i H ∧ ∃ N : St → Hp → Prop, (∀ σ' H', N σ' H' → ∃ m', m' < m ∧ W (i + 1) m' σ' H') ∧ ∀ x H', (Itr 0 n).yld i H x H' → g x σ H' fun σ2 H2 => tb { D with nx := N, ct := N, bk := D.nx } σ2 H2) :=
  for_range (lo := 0) (fun _ σ H' => S σ ∧ Same H H') ⟨h0, Same.refl _⟩ (fun i σ H' hi h => hs i σ H' hi h.1 h.2) (fun σ H' h => hd σ H' h.1 h.2)
theorem i_rep1 {H : Hp} {Q : VK} {p : Addr} {z m : Int} (h1 : H p = some (.lst [.int z])) (h2 : -1000 ≤ m ∧ m ≤ 1000) (h : ∀ q, H q = none → Q (.ref q) (upd H q (.lst ((List.replicate m.toNat z).map V.int)))) : rMulU (.ref p) (.int m) H Q := by
  refine ⟨p, m, _, rfl, rfl, h1, by omega, by omega, line_le (by simp only [List.length_cons, List.length_nil]; omega), fun q hq => ?_⟩
  have e : (List.replicate m.toNat [V.int z]).flatten = (List.replicate m.toNat z).map V.int := by
    generalize m.toNat = k
    induction k with
    | zero => rfl
    | succ k ih => rw [List.replicate_succ, List.flatten_cons, ih]; rfl
  rw [e]
  exact h q hq
theorem nn_rep {z : Int} {k : Nat} (h : 0 ≤ z) : ∀ n ∈ List.replicate k z, 0 ≤ n := fun n hn => by rw [List.eq_of_mem_replicate hn]; exact h
theorem lc_rel2L {K : PySem.W.Frag} {a : Addr} {xs : List V} {g : TG} {tt : TT} {te : TE} {vs : List Nat} {σ : St} {H1 : Hp} {D : Addr} {Qd : Hp → Prop} (Rl : Nat → Hp → V → Prop) (h0 : SqL K H1 a xs) (hD : H1 D = none) (hl : xs.length ≤ 1000)
    (mono : ∀ i H H' y, (∀ acc, H D = some (.lst acc) → SameBut D H H' → Rl i H y → Rl i H' y))
    (hs : ∀ i x, xs[i]? = some x → ∀ H (Q : VK) (R : Hp → Prop), Same H1 H → (∃ acc, H D = some (.lst acc)) → (∀ y H', Same H H' → Rl i H' y → Q y H') → g x (wipe σ vs) H fun σ2 H2 => wipe σ2 vs = wipe σ vs ∧ tt σ2 H2 fun b H3 => if b = true then te σ2 H3 Q else R H3)
    (hd : ∀ H (ys : List V), Same H1 H → H D = some (.lst ys) → ys.length = xs.length → (∀ (i : Nat) (y : V), ys[i]? = some y → Rl i H y) → Qd H) :
    ∃ W : Nat → Nat → Hp → Prop, (∃ m, W 0 m (upd H1 D (.lst []))) ∧ ∀ i m H, W i m H →
      ((Itl K a).stop i H ∧ Qd H) ∨ ((Itl K a).go i H ∧ ∃ Nx : Hp → Prop, (∀ H', Nx H' → ∃ m', m' < m ∧ W (i + 1) m' H') ∧ ∀ x H', (Itl K a).yld i H x H' → g x (wipe σ vs) H' fun σ2 H2 => wipe σ2 vs = wipe σ vs ∧ tt σ2 H2 fun b H3 =>
        if b = true then te σ2 H3 fun y H4 => ∃ acc, H4 D = some (.lst acc) ∧ acc.length < sizeLine ∧ Nx (upd H4 D (.lst (acc ++ [y]))) else Nx H3) :=
  lc_rel (fun i x => xs[i]? = some x) Rl walk_list (small1000 hl) mono (fun _ s => Same.seq s h0) hD (fun i x _ hx => hs i x hx) hd
theorem lc_rel2T {K : PySem.W.Frag} {a : Addr} {xs : List V} {g : TG} {tt : TT} {te : TE} {vs : List Nat} {σ : St} {H1 : Hp} {D : Addr} {Qd : Hp → Prop} (Rl : Nat → Hp → V → Prop) (h0 : SqT K H1 a xs) (hD : H1 D = none) (hl : xs.length ≤ 1000)
    (mono : ∀ i H H' y, (∀ acc, H D = some (.lst acc) → SameBut D H H' → Rl i H y → Rl i H' y))
    (hs : ∀ i x, xs[i]? = some x → ∀ H (Q : VK) (R : Hp → Prop), Same H1 H → (∃ acc, H D = some (.lst acc)) → (∀ y H', Same H H' → Rl i H' y → Q y H') → g x (wipe σ vs) H fun σ2 H2 => wipe σ2 vs = wipe σ vs ∧ tt σ2 H2 fun b H3 => if b = true then te σ2 H3 Q else R H3)
    (hd : ∀ H (ys : List V), Same H1 H → H D = some (.lst ys) → ys.length = xs.length → (∀ (i : Nat) (y : V), ys[i]? = some y → Rl i H y) → Qd H) :
    ∃ W : Nat → Nat → Hp → Prop, (∃ m, W 0 m (upd H1 D (.lst []))) ∧ ∀ i m H, W i m H →
      ((Itt K a).stop i H ∧ Qd H) ∨ ((Itt K a).go i H ∧ ∃ Nx : Hp → Prop, (∀ H', Nx H' → ∃ m', m' < m ∧ W (i + 1) m' H') ∧ ∀ x H', (Itt K a).yld i H x H' → g x (wipe σ vs) H' fun σ2 H2 => wipe σ2 vs = wipe σ vs ∧ tt σ2 H2 fun b H3 =>
        if b = true then te σ2 H3 fun y H4 => ∃ acc, H4 D = some (.lst acc) ∧ acc.length < sizeLine ∧ Nx (upd H4 D (.lst (acc ++ [y]))) else Nx H3) :=
  lc_rel (fun i x => xs[i]? = some x) Rl walk_tup (small1000 hl) mono (fun _ s => SqT.same s h0) hD (fun i x _ hx => hs i x hx) hd
def flatV : V → Bool
  | .non => true
  | .bl _ => true
  | .int _ => true
  | .str _ => true
  | _ => false
theorem EqV.selfB {K : PySem.W.Frag} {x : V} {H : Hp} {n : Nat} (h : flatV x = true) : EqV K H n x x true := by
  cases x <;> first | (cases h; done) | exact .flat (by simp [eqF])
def plainO : HO → Bool
  | .lst _ => true
  | .tup _ => true
  | .dK _ => true
  | .dT _ => true
  | _ => false
theorem EqVs.selfs {K : PySem.W.Frag} {H : Hp} {n : Nat} : ∀ {xs : List V}, (∀ x ∈ xs, EqV K H n x x true) → EqVs K H n xs xs true
  | [], _ => .nil
  | x :: xs, h => .cons (b := true) (c := true) (h x List.mem_cons_self) (EqVs.selfs fun y hy => h y (List.mem_cons_of_mem _ hy))
theorem isO_mono {K : PySem.W.Frag} {x : V} {H : Hp} {R R' : (Kd → Bool) → Option Addr → Prop} (h : isO K x H R) (m : ∀ f c, R f c → R' f c) : isO K x H R' := by
  cases x with
  | ref a =>
    obtain ⟨o, ho, h⟩ := h
    refine ⟨o, ho, ?_⟩
    cases o <;> first | exact m _ _ h | exact h.elim | exact ⟨h.1, h.2.1, m _ _ h.2.2⟩
  | _ => first | exact m _ _ h | exact h.elim
/-- no instance of a class of the text -/
def NoC (K : PySem.W.Frag) (H : Hp) (x : V) : Prop := isO K x H fun _ c => c = none
def NoSeq (K : PySem.W.Frag) (H : Hp) (x : V) : Prop := isO K x H fun f _ => f .lst = false ∧ f .tup = false
theorem isO_same {K : PySem.W.Frag} {x : V} {H H' : Hp} {R : (Kd → Bool) → Option Addr → Prop} (s : Same H H') (h : isO K x H R) : isO K x H' R := by
  cases x with
  | ref a =>
    obtain ⟨o, ho, h⟩ := h
    exact ⟨o, ho.same s, h⟩
  | _ => exact h
theorem NoC.same {K : PySem.W.Frag} {H H' : Hp} {x : V} (s : Same H H') (h : NoC K H x) : NoC K H' x := isO_same s h
theorem NoC.ofG {K : PySem.W.Frag} {H : Hp} {p : Addr} {o : HO} (h : H p = some o) (e : plainO o = true) : NoC K H (.ref p) := by
  refine ⟨o, .of h, ?_⟩
  cases o <;> first | (cases e; done) | rfl
theorem NoC.non {K : PySem.W.Frag} {H : Hp} : NoC K H .non := rfl
theorem NoC.bl {K : PySem.W.Frag} {H : Hp} {b : Bool} : NoC K H (.bl b) := rfl
theorem NoC.int {K : PySem.W.Frag} {H : Hp} {b : Int} : NoC K H (.int b) := rfl
theorem NoC.str {K : PySem.W.Frag} {H : Hp} {b : Str} : NoC K H (.str b) := rfl
theorem EqV.noc {K : PySem.W.Frag} {x : V} {H : Hp} {n : Nat} (h : NoC K H x) : EqV K H n x x true := EqV.selfI h
/-! what is new later is new now -/
theorem none_upd {H : Hp} {p D : Addr} {o : HO} (h : upd H p o D = none) : H D = none := by
  by_cases e : D = p
  · subst e
    rw [upd_same] at h
    cases h
  · rw [upd_ne e] at h
    exact h
theorem none_same {H H' : Hp} {D : Addr} (s : Same H H') (h : H' D = none) : H D = none := by
  cases e : H D with
  | none => rfl
  | some o =>
    have := s _ _ e
    rw [h] at this
    cases this
theorem none_but {H H' : Hp} {p D : Addr} {o : HO} (s : SameBut p H H') (hp : H' p = some o) (h : H' D = none) : H D = none := by
  cases e : H D with
  | none => rfl
  | some o =>
    by_cases c : D = p
    · subst c
      rw [h] at hp
      cases hp
    · have := s _ _ c e
      rw [h] at this
      cases this
section
open PySem.Spec
open PyProof.Rows hiding St
/-! ### xs[::-1] -/
def tRev (K : PySem.W.Frag) (te : TE) (th : TO) : TE := fun σ H Q => te σ H fun x H1 => th σ H1 fun o H2 => o = some (-1) ∧ ∃ a xs, x = .ref a ∧ SqL K H2 a xs ∧ ∀ p, H2 p = none → Q (.ref p) (upd H2 p (.lst xs.reverse))
theorem pe_rev {X : Cx} {e : Expr} {st : Option Expr} {te : TE} {th : TO} {pos p2 : Pos} {K : PySem.W.Frag} (he : PE X e te) (hu : PO X st th) (hs : ∀ a sl : Addr, subscripted (.Slice none none st p2) false (.ref a) (.ref sl) = operate [.ref a, .ref sl] (getItem (.ref a) (.ref sl)) := by intro _ _; rfl) (hK : X.K = K := by rfl) : PE X (.Subscript e (.Slice none none st p2) pos) (tRev K te th) := by
  subst hK
  refine ⟨fun pins s σ H Q I h => ?_⟩
  refine Subscript_ (thn (he.run pins s σ H _ I h) fun v s1 ⟨x, H1, I1, r1, q1⟩ => ?_)
  refine wpAny_Slice ?_
  rw [evalPart_none]
  refine wpAny_pure ?_
  refine wpAny_pure ?_
  refine thn (hu.run pins s1 σ H1 _ I1 q1) fun vu s3 ⟨u, H3, I3, pu, eu, a, xs, ex, hx, q⟩ => ?_
  subst eu
  subst ex
  cases r1
  have I4 : Inv X pins σ H3 { s3 with heap := s3.heap.push { cls := .type "slice", data := .fields #[.none, .none, vu] } } := I3.kept (t' := s3.toks) fun b ob q => Heap.get?_push_of_some _ q
  obtain ⟨its, r, ht, hz⟩ := I4.list hx
  have hlen := r.length
  refine tail_any (ops := [.ref a, .ref s3.heap.objs.size]) ht.isList.typeIs slot_list_getitem.lookup ?_ (hs _ _)
  refine wpAny_getItem_list_slice ht.isList (Heap.IsSliceOf.new ..) .none .none pu (by decide) ?_ (by rw [List.size_toArray] <;> omega)
  rw [PySem.W.krv_pick]
  refine ⟨.ref _, _, I4.laid (t' := s3.toks) (o := .lst xs.reverse) (fun b ob q => Heap.get?_push_of_some _ q) (Nat.le_refl _) ?_, rfl, q _ (I4.hok.fresh (Nat.le_refl _))⟩
  exact ⟨by rw [List.length_reverse]; exact hz, _, 0, r.reverse, Heap.get?_push_size _ rfl⟩
end
theorem i_rev {K : PySem.W.Frag} {te : TE} {th : TO} {σ : St} {H : Hp} {Q : VK} (h : te σ H fun x H1 => th σ H1 fun o H2 => o = some (-1) ∧ ∃ a xs, x = .ref a ∧ SqL K H2 a xs ∧ ∀ p, H2 p = none → Q (.ref p) (upd H2 p (.lst xs.reverse))) : tRev K te th σ H Q := h
theorem i_revL {K : PySem.W.Frag} {H : Hp} {a : Addr} {xs : List V} {n : Int} {R : Addr → List V → Prop} (e : n = -1) (h1 : SqL K H a xs) (h : R a xs) : some n = some (-1) ∧ ∃ b xs, V.ref a = .ref b ∧ SqL K H b xs ∧ R b xs := ⟨by rw [e], a, xs, rfl, h1, h⟩
theorem NoSeq.same {K : PySem.W.Frag} {H H' : Hp} {x : V} (s : Same H H') (h : NoSeq K H x) : NoSeq K H' x := isO_same s h
theorem NoSeq.flat {K : PySem.W.Frag} {H : Hp} {x : V} (h : flatV x = true) : NoSeq K H x := by
  cases x <;> first | (cases h; done) | exact ⟨rfl, rfl⟩
theorem NoSeq.dict {K : PySem.W.Frag} {H : Hp} {p : Addr} {kvs : List (Key × V)} (h : H p = some (.dK kvs)) : NoSeq K H (.ref p) := ⟨_, .of h, rfl, rfl⟩
theorem NoSeq.inst {K : PySem.W.Frag} {H : Hp} {p C dx : Addr} {fs : List (Str × V)} (h : H p = some (.ins C dx fs)) (c : Cls K C) (i : IsC K C) : NoSeq K H (.ref p) := ⟨_, .of h, c, i, rfl, rfl⟩
theorem NoC.flat {K : PySem.W.Frag} {H : Hp} {x : V} (h : flatV x = true) : NoC K H x := by
  cases x <;> first | (cases h; done) | rfl
theorem NoC.sqL {K : PySem.W.Frag} {H : Hp} {p : Addr} {xs : List V} (h : SqL K H p xs) : NoC K H (.ref p) := ⟨.lst xs, h, rfl⟩
theorem NoC.sqT {K : PySem.W.Frag} {H : Hp} {p : Addr} {xs : List V} (h : SqT K H p xs) : NoC K H (.ref p) := ⟨.tup xs, h, rfl⟩
theorem i_isiBsN {K : PySem.W.Frag} {H : Hp} {Q : VK} {x : V} {p : Addr} (h0 : H p = some (.tup ([Kd.lst, Kd.tup].map fun d => .ty d.name))) (hn : NoSeq K H x) (h : Q (.bl false) H) : rIsiBs [.lst, .tup] K [x, .ref p] H Q := by
  refine ⟨x, p, rfl, h0, isO_mono hn fun f c e => ?_⟩
  have ea : [Kd.lst, Kd.tup].any f = false := by simp [e.1, e.2]
  rw [ea]
  exact h
theorem i_isiLN {K : PySem.W.Frag} {H : Hp} {Q : VK} {x : V} (hn : NoSeq K H x) (h : Q (.bl false) H) : rIsiB .lst K [x, .ty "list"] H Q := ⟨x, rfl, isO_mono hn fun f c e => by rw [e.1]; exact h⟩
theorem i_isiTN {K : PySem.W.Frag} {H : Hp} {Q : VK} {x : V} (hn : NoSeq K H x) (h : Q (.bl false) H) : rIsiB .tup K [x, .ty "tuple"] H Q := ⟨x, rfl, isO_mono hn fun f c e => by rw [e.2]; exact h⟩
theorem i_isiCN {K : PySem.W.Frag} {H : Hp} {Q : VK} {x : V} {C : Addr} (hn : NoC K H x) (h : Q (.bl false) H) : rIsiC C K [x, .ref C] H Q := ⟨x, rfl, isO_mono hn fun f c e => by subst e; exact h⟩
/-- for x in a tuple: nothing older than the loop is changed -/
theorem for_seqI {K : PySem.W.Frag} {a : Addr} {xs : List V} {g : TG} {tb : TS} {D : Ends} {σ : St} {H : Hp} (Pv : Nat → St → Hp → Prop) (hT : SqT K H a xs) (h0 : Pv 0 σ H)
    (hs : ∀ (i : Nat) x σ H', xs[i]? = some x → Same H H' → Pv i σ H' → g x σ H' fun σ2 H2 => tb { D with nx := fun σ H' => Same H H' ∧ Pv (i + 1) σ H', ct := fun σ H' => Same H H' ∧ Pv (i + 1) σ H', bk := D.nx } σ2 H2) (hd : ∀ σ H', Same H H' → Pv xs.length σ H' → D.nx σ H') :
    ∃ W : Nat → Nat → St → Hp → Prop, (∃ m, W 0 m σ H) ∧ ∀ i m σ H, W i m σ H →
      ((Itt K a).stop i H ∧ D.nx σ H) ∨ ((Itt K a).go i H ∧ ∃ N : St → Hp → Prop, (∀ σ' H', N σ' H' → ∃ m', m' < m ∧ W (i + 1) m' σ' H') ∧ ∀ x H', (Itt K a).yld i H x H' → g x σ H' fun σ2 H2 => tb { D with nx := N, ct := N, bk := D.nx } σ2 H2) :=
  for_tup (xs := xs) (fun i σ H' => Same H H' ∧ Pv i σ H') ⟨Same.refl _, h0⟩ (fun _ _ _ _ h => SqT.same h.1 hT) (fun i y σ H' hi h => hs i y σ H' hi h.1 h.2) (fun σ H' h => hd σ H' h.1 h.2)
theorem for_seqL {K : PySem.W.Frag} {a : Addr} {xs : List V} {g : TG} {tb : TS} {D : Ends} {σ : St} {H : Hp} (Pv : Nat → St → Hp → Prop) (hT : SqL K H a xs) (h0 : Pv 0 σ H)
    (hs : ∀ (i : Nat) x σ H', xs[i]? = some x → Same H H' → Pv i σ H' → g x σ H' fun σ2 H2 => tb { D with nx := fun σ H' => Same H H' ∧ Pv (i + 1) σ H', ct := fun σ H' => Same H H' ∧ Pv (i + 1) σ H', bk := D.nx } σ2 H2) (hd : ∀ σ H', Same H H' → Pv xs.length σ H' → D.nx σ H') :
    ∃ W : Nat → Nat → St → Hp → Prop, (∃ m, W 0 m σ H) ∧ ∀ i m σ H, W i m σ H →
      ((Itl K a).stop i H ∧ D.nx σ H) ∨ ((Itl K a).go i H ∧ ∃ N : St → Hp → Prop, (∀ σ' H', N σ' H' → ∃ m', m' < m ∧ W (i + 1) m' σ' H') ∧ ∀ x H', (Itl K a).yld i H x H' → g x σ H' fun σ2 H2 => tb { D with nx := N, ct := N, bk := D.nx } σ2 H2) :=
  for_list (xs := xs) (fun i σ H' => Same H H' ∧ Pv i σ H') ⟨Same.refl _, h0⟩ (fun _ _ _ _ h => Same.seq h.1 hT) (fun i y σ H' hi h => hs i y σ H' hi h.1 h.2) (fun σ H' h => hd σ H' h.1 h.2)
theorem i_nn {R : Prop} (h : R) : V.non = V.non ∧ R := ⟨rfl, h⟩
/-- a tuple of these ints -/
def TpAt (K : PySem.W.Frag) (H : Hp) (y : V) (ns : List Int) : Prop := ∃ t, y = .ref t ∧ SqT K H t (ns.map V.int)
theorem EqVs.ints {K : PySem.W.Frag} {H : Hp} {n : Nat} (ns : List Int) : EqVs K H n (ns.map V.int) (ns.map V.int) true := EqVs.selfs fun x hx => by
  obtain ⟨i, _, rfl⟩ := List.mem_map.mp hx
  exact .selfB rfl
theorem EqV.tp {K : PySem.W.Frag} {H : Hp} {n : Nat} {x y : V} {ns : List Int} (h1 : TpAt K H x ns) (h2 : TpAt K H y ns) : EqV K H (n + 1) x y true := by
  obtain ⟨t, rfl, h1⟩ := h1
  obtain ⟨u, rfl, h2⟩ := h2
  by_cases e : t = u
  · subst e
    exact .one
  · exact .tups e h1 h2 (.ints ns)
theorem EqVs.of_at {K : PySem.W.Frag} {H : Hp} {n : Nat} : ∀ {xs ys : List V}, xs.length = ys.length → (∀ (i : Nat) x y, xs[i]? = some x → ys[i]? = some y → EqV K H n x y true) → EqVs K H n xs ys true
  | [], [], _, _ => .nil
  | [], _ :: _, l, _ => by cases l
  | _ :: _, [], l, _ => by cases l
  | x :: xs, y :: ys, l, h => .cons (b := true) (c := true) (h 0 x y rfl rfl) (EqVs.of_at (Nat.succ.inj l) fun i u v h1 h2 => h (i + 1) u v h1 h2)
theorem line_lt {n : Nat} (h : n ≤ 16000000) : n < sizeLine := Nat.lt_of_le_of_lt h (by decide)
theorem EqV.selfA {K : PySem.W.Frag} {x : V} {H : Hp} {n : Nat} (h : Kn K H x) : EqV K H n x x true := by
  cases x <;> first | exact h.elim | exact .selfB rfl | exact .one
theorem lc_noneT {K : PySem.W.Frag} {a : Addr} {xs : List V} {g : TG} {tt : TT} {te : TE} {vs : List Nat} {σ : St} {H1 : Hp} {D : Addr} {Qd : Hp → Prop} (h0 : SqT K H1 a xs) (hl : xs.length ≤ 1000) (hD : H1 D = none)
    (hs : ∀ x ∈ xs, ∀ H (Q : VK) (R : Hp → Prop), Same H1 H → (∀ H', Same H H' → R H') → g x (wipe σ vs) H fun σ2 H2 => wipe σ2 vs = wipe σ vs ∧ tt σ2 H2 fun b H3 => if b = true then te σ2 H3 Q else R H3)
    (hd : ∀ H, Same H1 H → H D = some (.lst []) → Qd H) :
    ∃ W : Nat → Nat → Hp → Prop, (∃ m, W 0 m (upd H1 D (.lst []))) ∧ ∀ i m H, W i m H →
      ((Itt K a).stop i H ∧ Qd H) ∨ ((Itt K a).go i H ∧ ∃ Nx : Hp → Prop, (∀ H', Nx H' → ∃ m', m' < m ∧ W (i + 1) m' H') ∧ ∀ x H', (Itt K a).yld i H x H' → g x (wipe σ vs) H' fun σ2 H2 => wipe σ2 vs = wipe σ vs ∧ tt σ2 H2 fun b H3 =>
        if b = true then te σ2 H3 fun y H4 => ∃ acc, H4 D = some (.lst acc) ∧ acc.length < sizeLine ∧ Nx (upd H4 D (.lst (acc ++ [y]))) else Nx H3) :=
  lc_fm xs (fun _ => none) walk_tup (small1000 hl) (fun _ s => SqT.same s h0) hD hs (fun H s e => hd H s (by rw [e]; simp))
theorem for_predH {K : PySem.W.Frag} {a : Addr} {xs : List V} {g : TG} {tb : TS} {D : Ends} {σ : St} {H : Hp} (S : St → Hp → Prop) (Pr : Hp → V → Prop) (hL : SqL K H a xs) (hp : ∀ y ∈ xs, Pr H y) (h0 : S σ H)
    (hs : ∀ y σ H', Pr H y → S σ H' → Same H H' → g y σ H' fun σ2 H2 => tb { D with nx := fun σ H' => S σ H' ∧ Same H H', ct := fun σ H' => S σ H' ∧ Same H H', bk := D.nx } σ2 H2) (hd : ∀ σ H', S σ H' → Same H H' → D.nx σ H') :
    ∃ W : Nat → Nat → St → Hp → Prop, (∃ m, W 0 m σ H) ∧ ∀ i m σ H, W i m σ H →
      ((Itl K a).stop i H ∧ D.nx σ H) ∨ ((Itl K a).go i H ∧ ∃ N : St → Hp → Prop, (∀ σ' H', N σ' H' → ∃ m', m' < m ∧ W (i + 1) m' σ' H') ∧ ∀ x H', (Itl K a).yld i H x H' → g x σ H' fun σ2 H2 => tb { D with nx := N, ct := N, bk := D.nx } σ2 H2) :=
  for_list (xs := xs) (fun _ σ H' => S σ H' ∧ Same H H') ⟨h0, Same.refl _⟩ (fun _ _ _ _ h => Same.seq h.2 hL) (fun _ y σ H' hi h => hs y σ H' (hp y (List.mem_of_getElem? hi)) h.1 h.2) (fun σ H' h => hd σ H' h.1 h.2)
theorem EqV.nos {K : PySem.W.Frag} {x : V} {H : Hp} {n : Nat} (h : NoSeq K H x) : EqV K H n x x true := EqV.selfI h
theorem for_butL {K : PySem.W.Frag} {a p : Addr} {xs : List V} {g : TG} {tb : TS} {D : Ends} {σ : St} {H : Hp} (Pv : Nat → St → Hp → Prop) (hT : ∀ H', SameBut p H H' → SqL K H' a xs) (h0 : Pv 0 σ H)
    (hs : ∀ (i : Nat) x σ H', xs[i]? = some x → SameBut p H H' → Pv i σ H' → g x σ H' fun σ2 H2 => tb { D with nx := fun σ H' => SameBut p H H' ∧ Pv (i + 1) σ H', ct := fun σ H' => SameBut p H H' ∧ Pv (i + 1) σ H', bk := D.nx } σ2 H2) (hd : ∀ σ H', SameBut p H H' → Pv xs.length σ H' → D.nx σ H') :
    ∃ W : Nat → Nat → St → Hp → Prop, (∃ m, W 0 m σ H) ∧ ∀ i m σ H, W i m σ H →
      ((Itl K a).stop i H ∧ D.nx σ H) ∨ ((Itl K a).go i H ∧ ∃ N : St → Hp → Prop, (∀ σ' H', N σ' H' → ∃ m', m' < m ∧ W (i + 1) m' σ' H') ∧ ∀ x H', (Itl K a).yld i H x H' → g x σ H' fun σ2 H2 => tb { D with nx := N, ct := N, bk := D.nx } σ2 H2) :=
  for_list (xs := xs) (fun i σ H' => SameBut p H H' ∧ Pv i σ H') ⟨SameBut.refl _ _, h0⟩ (fun _ _ _ _ h => hT _ h.1) (fun i y σ H' hi h => hs i y σ H' hi h.1 h.2) (fun σ H' h => hd σ H' h.1 h.2)
theorem for_butT {K : PySem.W.Frag} {a p : Addr} {xs : List V} {g : TG} {tb : TS} {D : Ends} {σ : St} {H : Hp} (Pv : Nat → St → Hp → Prop) (hT : ∀ H', SameBut p H H' → SqT K H' a xs) (h0 : Pv 0 σ H)
    (hs : ∀ (i : Nat) x σ H', xs[i]? = some x → SameBut p H H' → Pv i σ H' → g x σ H' fun σ2 H2 => tb { D with nx := fun σ H' => SameBut p H H' ∧ Pv (i + 1) σ H', ct := fun σ H' => SameBut p H H' ∧ Pv (i + 1) σ H', bk := D.nx } σ2 H2) (hd : ∀ σ H', SameBut p H H' → Pv xs.length σ H' → D.nx σ H') :
    ∃ W : Nat → Nat → St → Hp → Prop, (∃ m, W 0 m σ H) ∧ ∀ i m σ H, W i m σ H →
      ((Itt K a).stop i H ∧ D.nx σ H) ∨ ((Itt K a).go i H ∧ ∃ N : St → Hp → Prop, (∀ σ' H', N σ' H' → ∃ m', m' < m ∧ W (i + 1) m' σ' H') ∧ ∀ x H', (Itt K a).yld i H x H' → g x σ H' fun σ2 H2 => tb { D with nx := N, ct := N, bk := D.nx } σ2 H2) :=
  for_tup (xs := xs) (fun i σ H' => SameBut p H H' ∧ Pv i σ H') ⟨SameBut.refl _ _, h0⟩ (fun _ _ _ _ h => hT _ h.1) (fun i y σ H' hi h => hs i y σ H' hi h.1 h.2) (fun σ H' h => hd σ H' h.1 h.2)
/-- no tuple -/
def NoTup (K : PySem.W.Frag) (H : Hp) (x : V) : Prop := isO K x H fun f _ => f .tup = false
theorem NoTup.same {K : PySem.W.Frag} {H H' : Hp} {x : V} (s : Same H H') (h : NoTup K H x) : NoTup K H' x := isO_same s h
theorem NoTup.seq {K : PySem.W.Frag} {H : Hp} {x : V} (h : NoSeq K H x) : NoTup K H x := isO_mono h fun _ _ e => e.2
theorem NoTup.lst {K : PySem.W.Frag} {H : Hp} {p : Addr} {xs : List V} (h : SqL K H p xs) : NoTup K H (.ref p) := ⟨.lst xs, h, rfl⟩
theorem i_isiTN2 {K : PySem.W.Frag} {H : Hp} {Q : VK} {x : V} (hn : NoTup K H x) (h : Q (.bl false) H) : rIsiB .tup K [x, .ty "tuple"] H Q := ⟨x, rfl, isO_mono hn fun f c e => by rw [e]; exact h⟩
/-- two lists, place by place -/
def All2 {α β : Type} (R : α → β → Prop) (xs : List α) (ys : List β) : Prop := xs.length = ys.length ∧ ∀ (i : Nat) x y, xs[i]? = some x → ys[i]? = some y → R x y
theorem All2.mono {α β : Type} {R R' : α → β → Prop} {xs : List α} {ys : List β} (h : All2 R xs ys) (m : ∀ x y, R x y → R' x y) : All2 R' xs ys := ⟨h.1, fun i x y h1 h2 => m x y (h.2 i x y h1 h2)⟩
theorem All2.get {α β : Type} {R : α → β → Prop} {xs : List α} {ys : List β} (h : All2 R xs ys) {i : Nat} {x : α} (e : xs[i]? = some x) : ∃ y, ys[i]? = some y ∧ R x y := by
  have hi := (List.getElem?_eq_some_iff.mp e).1
  have hj : i < ys.length := h.1 ▸ hi
  exact ⟨ys[i], List.getElem?_eq_getElem hj, h.2 i x _ e (List.getElem?_eq_getElem hj)⟩
theorem All2.swap {α β : Type} {R : α → β → Prop} {xs : List α} {ys : List β} (h : All2 R xs ys) : All2 (fun y x => R x y) ys xs := ⟨h.1.symm, fun i y x h1 h2 => h.2 i x y h2 h1⟩
theorem All2.nil {α β : Type} {R : α → β → Prop} : All2 R [] [] := ⟨rfl, fun i x y h => by simp at h⟩
theorem All2.cons {α β : Type} {R : α → β → Prop} {x : α} {y : β} {xs : List α} {ys : List β} (h : R x y) (t : All2 R xs ys) : All2 R (x :: xs) (y :: ys) := by
  refine ⟨by rw [List.length_cons, List.length_cons, t.1], fun i u v h1 h2 => ?_⟩
  cases i with
  | zero => cases h1; cases h2; exact h
  | succ i => exact t.2 i u v h1 h2
theorem All2.append {α β : Type} {R : α → β → Prop} {xs xs' : List α} {ys ys' : List β} (h : All2 R xs ys) (t : All2 R xs' ys') : All2 R (xs ++ xs') (ys ++ ys') := by
  refine ⟨by rw [List.length_append, List.length_append, h.1, t.1], fun i u v h1 h2 => ?_⟩
  by_cases c : i < xs.length
  · rw [List.getElem?_append_left c] at h1
    rw [List.getElem?_append_left (h.1 ▸ c)] at h2
    exact h.2 i u v h1 h2
  · rw [List.getElem?_append_right (by omega)] at h1
    rw [List.getElem?_append_right (by have := h.1; omega), ← h.1] at h2
    exact t.2 _ u v h1 h2
theorem All2.take {α β : Type} {R : α → β → Prop} {xs : List α} {ys : List β} (h : All2 R xs ys) (n : Nat) : All2 R (xs.take n) (ys.take n) := by
  refine ⟨by rw [List.length_take, List.length_take, h.1], fun i u v h1 h2 => ?_⟩
  rw [List.getElem?_take] at h1 h2
  split at h1
  · rename_i c
    rw [if_pos c] at h2
    exact h.2 i u v h1 h2
  · cases h1
theorem All2.drop {α β : Type} {R : α → β → Prop} {xs : List α} {ys : List β} (h : All2 R xs ys) (n : Nat) : All2 R (xs.drop n) (ys.drop n) := by
  refine ⟨by rw [List.length_drop, List.length_drop, h.1], fun i u v h1 h2 => ?_⟩
  rw [List.getElem?_drop] at h1 h2
  exact h.2 _ u v h1 h2
theorem All2.rev {α β : Type} {R : α → β → Prop} {xs : List α} {ys : List β} (h : All2 R xs ys) : All2 R xs.reverse ys.reverse := by
  refine ⟨by rw [List.length_reverse, List.length_reverse, h.1], fun i u v h1 h2 => ?_⟩
  have hi := (List.getElem?_eq_some_iff.mp h1).1
  rw [List.length_reverse] at hi
  have e := h.1
  rw [List.getElem?_reverse hi] at h1
  rw [List.getElem?_reverse (by omega), ← e] at h2
  exact h.2 _ u v h1 h2
end My
/-! own classes under the language's own words: len(x), str(x), repr(x), f"{x}", x == y, x != y. -/
namespace My
open PySem L2
section
variable {X : Cx} {CX : CXT} {n : Nat} {f C : Addr} {fd : FuncData} {ps : List Str} {sp : Sp} {E : XK}
/-- an own def run from within a word of the language -/
theorem run_own {A : Around} {pins : List (Addr × Obj)} {σ : St} {H : Hp} {s : Shared} {Q : VK} {vs : List V} {us : List Value} (F : FnOk X.prog X.w X.K X.mg X.base CX n f fd ps sp) (hb : Binds X.K fd ps []) (hx : Passes CX X E) (sb : Sub X n A) (I : Inv X pins σ H s)
    (rv : Vals vs us) (h : sp vs H Q E) : wpAny (model X.prog X.w) A (call (.ref f) us) (EP X pins σ Q) X.xe s := by
  have e0 : Env0 X.prog X.w X.K X.mg X.base A X.stack s H := by
    have e := I.env0
    exact ⟨by rw [sb.fr]; exact e.frames, e.mod, e.bs, e.bsz, e.funs, e.frf, e.hok, e.bare⟩
  have hl := F.len _ _ _ _ h
  refine wpAny_call (codeAny_mono (F.run A X.stack s H ⟨us, []⟩ us vs Q E sb.room e0 (by
    have := hb s us I.kIn (by rw [List.append_nil, ← rv.length]; exact hl)
    rw [List.append_nil] at this
    exact this) rv h) fun r s' hq => ?_)
  cases r with
  | error e => exact hx pins σ H s e s' I hq
  | ok fl =>
    cases fl with
    | ret w =>
      obtain ⟨z, H', I', rz, q⟩ := I.after hq
      exact ⟨z, H', I', rz, q⟩
    | next => exact False.elim hq
    | brk => exact False.elim hq
    | cont => exact False.elim hq
/-- len(x), str(x), repr(x): x of C, whose own word is sp -/
def rLenO (C : Addr) (sp : Sp) (E : XK) : List V → Hp → VK → Prop := fun xs H Q => ∃ a dx fs, xs = [.ref a] ∧ H a = some (.ins C dx fs) ∧ sp [.ref a] H (fun v H' => ∃ k : Int, v = .int k ∧ (0 ≤ k ∧ k < 2 ^ 63) ∧ Q (.int k) H') E
def rStrO (C : Addr) (sp : Sp) (E : XK) : List V → Hp → VK → Prop := fun xs H Q => ∃ a dx fs, xs = [.ref a] ∧ H a = some (.ins C dx fs) ∧ sp [.ref a] H (fun v H' => ∃ z : Str, v = .str z ∧ Q (.str z) H') E
theorem call_lenO (m : Meth X.K C "__len__" f) (F : FnOk X.prog X.w X.K X.mg X.base CX n f fd ps sp) (hr : Room (n + 1) X.A) (hb : Binds X.K fd ps []) (hx : Passes CX X E) : CallR X (.builtin "len") (rLenO C sp E) := by
  intro pins s σ H xs us Q I r h
  obtain ⟨a, dx, fs, rfl, ha, h⟩ := h
  obtain ⟨u, rfl, rx⟩ := vals1 r
  cases rx
  obtain ⟨mA, J, _⟩ := ins_get I.hok ha
  obtain ⟨od, J, _⟩ := J.look
  obtain ⟨mm, hF⟩ := I.fr
  refine PySem.W.len_K hF I.ok.mod.kin J m.at_ m.fn (wpAny_mono (run_own F hb hx ⟨hr.in1, rfl⟩ I (show Vals [V.ref a] [Value.ref a] from .cons rfl .nil) h) (fun v s' q => ?_) fun _ _ z => z)
  obtain ⟨x, H', I', rx, k, rfl, hk, q⟩ := q
  obtain ⟨t, rfl⟩ : ∃ t, v = Value.int k t := rx
  exact ⟨hk, .int k, H', I'.tok _, ⟨_, rfl⟩, q⟩
theorem call_strO (m : Meth X.K C "__str__" f) (F : FnOk X.prog X.w X.K X.mg X.base CX n f fd ps sp) (hr : Room (n + 2) X.A) (hb : Binds X.K fd ps []) (hx : Passes CX X E) : CallR X (.type "str") (rStrO C sp E) := by
  intro pins s σ H xs us Q I r h
  obtain ⟨a, dx, fs, rfl, ha, h⟩ := h
  obtain ⟨u, rfl, rx⟩ := vals1 r
  cases rx
  obtain ⟨mA, J, _⟩ := ins_get I.hok ha
  obtain ⟨od, J, _⟩ := J.look
  refine PySem.W.kso_call hr.in1.in1.units0 I.kIn J m.at_ m.fn (wpAny_mono (run_own F hb hx ⟨hr.in1.in1, rfl⟩ I (show Vals [V.ref a] [Value.ref a] from .cons rfl .nil) h) (fun v s' q => ?_) fun _ _ z => z)
  obtain ⟨x, H', I', rx, z, rfl, q⟩ := q
  obtain ⟨t, rfl⟩ : ∃ t, v = Value.str z t := rx
  exact ⟨.str z, H', I', ⟨_, rfl⟩, q⟩
theorem call_reprO (m : Meth X.K C "__repr__" f) (F : FnOk X.prog X.w X.K X.mg X.base CX n f fd ps sp) (hr : Room (n + 1) X.A) (hb : Binds X.K fd ps []) (hx : Passes CX X E) : CallR X (.builtin "repr") (rStrO C sp E) := by
  intro pins s σ H xs us Q I r h
  obtain ⟨a, dx, fs, rfl, ha, h⟩ := h
  obtain ⟨u, rfl, rx⟩ := vals1 r
  cases rx
  obtain ⟨mA, J, _⟩ := ins_get I.hok ha
  obtain ⟨od, J, _⟩ := J.look
  obtain ⟨mm, hF⟩ := I.fr
  refine PySem.W.repr_K hr.in1.units0 hF I.ok.mod.kin J m.at_ m.fn (wpAny_mono (run_own F hb hx ⟨hr.in1, rfl⟩ I (show Vals [V.ref a] [Value.ref a] from .cons rfl .nil) h) (fun v s' q => ?_) fun _ _ z => z)
  obtain ⟨x, H', I', rx, z, rfl, q⟩ := q
  obtain ⟨t, rfl⟩ : ∃ t, v = Value.str z t := rx
  exact ⟨.str z, H', I', ⟨_, rfl⟩, q⟩
end
section
open PySem.W Builtin PySem.Calls
open PyProof.Rows hiding St
variable {prog : Program} {w : World} {A : Around} {E : Value → Shared → Prop} {s : Shared} {K : Frag} {x C L f : Addr} {h₀ : Heap} {m : Str → Option Value} {ox : Obj} {od : Option Obj} {b tb : Value}
theorem ifBound_B {M : Model} {name : Str} {id : String} {args : List Value} {Q : Option Value → Shared → Prop} (X : K.In s.heap) (I : InstAt s.heap x ox C od) (hs : findIn K (.ref C) name = some (some (.builtin id))) (hb : ∀ self, bindSpecial (.builtin id) self = pure (.builtin id, [self]))
    (h : wpAny M A (call (.builtin id) (.ref x :: args)) (fun v => Q (some v)) E s) : wpAny M A (callSpecialIfBound? (.ref x) name args) Q E s := by
  simp only [callSpecialIfBound?, bindSpecialIfBound?]
  refine wpAny_holding (wpAny_bind (wpAny_bind (wpAny_bind (I.type.here ((looks_findIn X hs).here ?_)))))
  refine wpAny_bind (wpAny_askSetting (wpAny_ite ?_))
  have fin : wpAny M A (call (.builtin id) ([.ref x] ++ args) >>= fun v => pure (some v)) Q E s := wpAny_bind (wpAny_mono h (fun v s' h' => wpAny_pure h') fun _ _ h' => h')
  split
  · exact wpAny_bind ((Looks.of_pure (hb _)).here (wpAny_pure (by exact fin)))
  · exact wpAny_tryCatch (wpAny_bind ((Looks.of_pure (hb _)).here (wpAny_pure (by exact fin))))
/-- x != y by an own __eq__ -/
theorem ne_K {Q : Value → Shared → Prop} (hu : A.in1.units < cLine) (hu0 : A.units < cLine) (F : Fr h₀ L s.heap m) (X₀ : K.In h₀) (I : InstAt s.heap x ox C od) (hb : Looks (model prog w) s.heap (typeOf b) tb) (hn : notFirst K C tb = true)
    (hs : findIn K (.ref C) "__ne__" = some (some (.builtin "object.__ne__"))) (ho : mroIn K C (.type "object") = some true) (he : findIn K (.ref C) "__eq__" = some (some (.ref f))) (hf : isFn K (.ref f) = true)
    (h : wpAny (model prog w) A.in1 (call (.ref f) [.ref x, b]) (fun v s' => ∃ k, v = .bool k ∧ Q (.bool (!k)) s') E s) : wpAny (model prog w) A (richCompare .NotEq (.ref x) b) Q E s := by
  have X := X₀.keeps F.keep
  have body : wpAny (model prog w) A (call (.builtin "object.__ne__") [.ref x, b]) (fun v s' => v ≠ .notImplemented ∧ Q v s') E s := by
    refine wpAny_call (codeAny_call_builtin (by decide +kernel) PySem.F.cmpEntry_ne (check_slot (i := "object.__ne__") (owner := "object") (n := "__ne__") (by decide +kernel) (by decide +kernel) (I.type.andThen (looks_mroIn X ho)) (PySem.F.cmpArgs_ne _ _) ?_))
    unfold Builtin.«object.__ne__»
    refine wpAny_bind (m := slotArgs "__ne__" 1 _) (wpAny_pure ?_)
    refine wpAny_bind (m := cRoomFor _ _) (wpAny_cRoomFor hu ?_)
    refine wpAny_bind (m := callSpecialIfBound? (.ref x) (Str.ofString "__eq__") _) (ifBound_K X I he hf (wpAny_mono h (fun r s' hq => ?_) fun _ _ y => y))
    obtain ⟨k, rfl, hq⟩ := hq
    refine wpAny_bind (m := truthy (.bool _)) (wpAny_truthy_bool ?_)
    exact wpAny_pure ⟨(by intro z; cases z), hq⟩
  have one : wpAny (model prog w) A (tryCompare (.ref x) (cmpInfo .NotEq).2.1 b) (fun r s' => ∃ v, r = some v ∧ Q v s') E s := by
    unfold tryCompare
    refine wpAny_bind (ifBound_B X I hs PySem.F.cmp_object.ne.bind (wpAny_mono body (fun v s' hv => ?_) fun _ _ e => e))
    obtain ⟨hv, hq⟩ := hv
    cases v <;> first | exact absurd rfl hv | exact wpAny_pure ⟨_, rfl, hq⟩
  unfold richCompare
  simp only [oneThing_ref]
  refine wpAny_holding (wpAny_bind (wpAny_cRoomFor hu0 ?_))
  refine wpAny_bind (I.type.here (wpAny_bind (hb.here ?_)))
  split
  · rename_i q
    have e : subIn K tb (.ref C) = some false := by
      rcases Bool.or_eq_true_iff.mp hn with e | e
      · rw [beq_iff_eq.mp e] at q; simp at q
      · exact beq_iff_eq.mp e
    refine wpAny_bind ((looks_subIn X e).here ?_)
    simp only [Bool.false_eq_true, if_false]
    refine wpAny_bind (wpAny_mono one (fun r s' z => ?_) fun _ _ e => e)
    obtain ⟨v, rfl, hq⟩ := z
    exact wpAny_pure hq
  · refine wpAny_bind (wpAny_pure ?_)
    simp only [Bool.false_eq_true, if_false]
    refine wpAny_bind (wpAny_mono one (fun r s' z => ?_) fun _ _ e => e)
    obtain ⟨v, rfl, hq⟩ := z
    exact wpAny_pure hq
end
/-- the built-in classes stand not under C -/
def EqC (K : PySem.W.Frag) (C : Addr) : Prop := ∀ t : String, t ∈ ["NoneType", "int", "bool", "str", "list", "tuple", "dict"] → PySem.W.subIn K (.type t) (.ref C) = some false
/-- x == y, x != y: x of C, whose own == is sp -/
def rEqO (K : PySem.W.Frag) (C : Addr) (sp : Sp) (E : XK) (neg : Bool) : R2 := fun x y H Q => ∃ a dx fs, x = .ref a ∧ H a = some (.ins C dx fs) ∧ isO K y H (fun _ c => c = none ∨ c = some C) ∧ sp [x, y] H (fun v H' => ∃ b, v = .bl b ∧ Q (.bl (if neg then !b else b)) H') E
section
variable {X : Cx} {CX : CXT} {n : Nat} {f C : Addr} {fd : FuncData} {ps : List Str} {sp : Sp} {E : XK}
theorem ty_looks {pins : List (Addr × Obj)} {σ : St} {H : Hp} {s : Shared} {y : V} {u : Value} (q : EqC X.K C) (I : Inv X pins σ H s) (ry : RelV y u) (h : isO X.K y H (fun _ c => c = none ∨ c = some C)) :
    ∃ t, PySem.W.Looks (model X.prog X.w) s.heap (typeOf u) t ∧ PySem.W.notFirst X.K C t = true := by
  obtain ⟨t, f, c, ty, hc, _, e⟩ := isO_ty h
  obtain ⟨P, kx, hp, _⟩ := kit_of I ry ty
  refine ⟨t, kx.ty _ _ I.kIn hp, ?_⟩
  unfold PySem.W.notFirst
  rcases e with ⟨_, n, rfl, hn⟩ | ⟨D, rfl, rfl, _⟩
  · rw [q n hn]
    simp
  · rcases hc with hc | hc
    · cases hc
    · cases hc
      simp
theorem op_eqO {K : PySem.W.Frag} (m : Meth X.K C "__eq__" f) (F : FnOk X.prog X.w X.K X.mg X.base CX n f fd ps sp) (hr : Room (n + 1) X.A) (hb : Binds X.K fd ps []) (hx : Passes CX X E) (q : EqC X.K C) (hK : X.K = K := by rfl) : OpR X (compareOp .Eq) (rEqO K C sp E false) := by
  subst hK
  intro pins s σ H x y v u Q I rx ry h
  obtain ⟨a, dx, fs, rfl, ha, hy, h⟩ := h
  cases rx
  obtain ⟨mA, J, _⟩ := ins_get I.hok ha
  obtain ⟨od, J, _⟩ := J.look
  obtain ⟨mm, hF⟩ := I.fr
  obtain ⟨t, hl, hn⟩ := ty_looks q I ry hy
  show wpAny (model X.prog X.w) X.A (richCompare .Eq (.ref a) u) (EP X pins σ Q) X.xe s
  refine PySem.W.cmp_K (op := .Eq) hr.units0 hF I.ok.mod.kin J hl hn m.at_ m.fn (wpAny_mono (run_own F hb hx ⟨hr.mono (Nat.le_succ _), rfl⟩ I (show Vals [V.ref a, y] [Value.ref a, u] from .cons rfl (.cons ry .nil)) h) (fun v s' z => ?_) fun _ _ z => z)
  obtain ⟨x, H', I', rx, b, rfl, z⟩ := z
  obtain rfl : v = Value.bool b := rx
  exact ⟨.bl b, H', I', rfl, z⟩
theorem op_neO {K : PySem.W.Frag} (m : Meth X.K C "__eq__" f) (F : FnOk X.prog X.w X.K X.mg X.base CX n f fd ps sp) (hr : Room (n + 1) X.A) (hb : Binds X.K fd ps []) (hx : Passes CX X E) (q : EqC X.K C) (hs : PySem.W.findIn X.K (.ref C) "__ne__" = some (some (.builtin "object.__ne__"))) (ic : IsC X.K C) (hK : X.K = K := by rfl) : OpR X (compareOp .NotEq) (rEqO K C sp E true) := by
  subst hK
  intro pins s σ H x y v u Q I rx ry h
  obtain ⟨a, dx, fs, rfl, ha, hy, h⟩ := h
  cases rx
  obtain ⟨mA, J, _⟩ := ins_get I.hok ha
  obtain ⟨od, J, _⟩ := J.look
  obtain ⟨mm, hF⟩ := I.fr
  obtain ⟨t, hl, hn⟩ := ty_looks q I ry hy
  show wpAny (model X.prog X.w) X.A (richCompare .NotEq (.ref a) u) (EP X pins σ Q) X.xe s
  refine ne_K hr.in1.units0 hr.units0 hF I.ok.mod.kin J hl hn hs ic.hm m.at_ m.fn (wpAny_mono (run_own F hb hx ⟨hr.in1, rfl⟩ I (show Vals [V.ref a, y] [Value.ref a, u] from .cons rfl (.cons ry .nil)) h) (fun v s' z => ?_) fun _ _ z => z)
  obtain ⟨x, H', I', rx, b, rfl, z⟩ := z
  obtain rfl : v = Value.bool b := rx
  exact ⟨b, rfl, .bl (!b), H', I', rfl, z⟩
end
/-! ### o.m(e, .., k=v): what is raised wished for at the caller's slots -/
def tMethSN (C : Addr) (m : Str) (n nk : Nat) (sp : Sp) (gV : List V → List V → List V) (E : St → XK) (ta : TE) (t tk : TA) : TE := fun σ H Q => ta σ H fun x H1 => ∃ a dx fs, x = .ref a ∧ H1 a = some (.ins C dx fs) ∧ fs.lookup m = none ∧ t σ H1 fun vs H2 => tk σ H2 fun zs H3 => vs.length = n ∧ zs.length = nk ∧ sp (gV (x :: vs) zs) H3 Q (E σ)
section
variable {X : Cx} {CX : CXT} {k n : Nat} {f C : Addr} {fd : FuncData} {ps ks : List Str} {sp : Sp} {gV : List V → List V → List V} {E : St → XK} {m : Str} {pos apos : Pos} {e o : Expr} {es : List Expr} {kws : List Keyword} {ta : TE} {t tk : TA}
theorem run_fnSN {pins : List (Addr × Obj)} {σ : St} {H : Hp} {s : Shared} {Q : VK} {us ws : List Value} {vs zs : List V} {g : List Value → List Value → List Value} (F : FnOk X.prog X.w X.K X.mg X.base CX k f fd ps sp) (hr : Room k X.A) (hb : KBn X.K fd ps n ks g gV) (hx : PassesAt CX X σ (E σ)) (I : Inv X pins σ H s)
    (rv : Vals vs us) (rz : Vals zs ws) (l1 : vs.length = n) (l2 : zs.length = ks.length) (h : sp (gV vs zs) H Q (E σ)) : wpAny (model X.prog X.w) X.A (call (.ref f) us (ks.zip ws)) (EP X pins σ Q) X.xe s := by
  refine wpAny_call (codeAny_mono (F.run X.A X.stack s H ⟨us, ks.zip ws⟩ (g us ws) (gV vs zs) Q (E σ) hr I.env0 (hb.to s us ws I.kIn (by rw [← rv.length]; exact l1) (by rw [← rz.length]; exact l2)) (hb.rel rv rz) h) fun r s' hq => ?_)
  cases r with
  | error e => exact hx pins H s e s' I hq
  | ok fl =>
    cases fl with
    | ret w =>
      obtain ⟨z, H', I', rz, q⟩ := I.after hq
      exact ⟨z, H', I', rz, q⟩
    | next => exact False.elim hq
    | brk => exact False.elim hq
    | cont => exact False.elim hq
theorem pe_methSN {pl : Sem Bool} (he : PE X o ta) (c : Cls X.K C) (hm : Meth X.K C m f) (F : FnOk X.prog X.w X.K X.mg X.base CX k f fd ps sp) (hr : Room k X.A) (hb : ∃ g, KBn X.K fd ps (n + 1) ks g gV) (hx : ∀ σ, PassesAt CX X σ (E σ)) (ha : PA X (e :: es) t) (hkw : PK X kws tk)
    (hall : (backToKw pos (keywordEach kws X.env)).all (·.1.isSome) = true := by rfl) (hks : (backToKw pos (keywordEach kws X.env)).filterMap (·.1) = ks := by rfl)
    (hst : starEach (e :: es) X.env = (false, eval e X.env) :: starEach es X.env := by rfl) (hpl : ((backTo pos (starEach (e :: es) X.env)).any (·.1) || (backToKw pos (keywordEach kws X.env)).any (·.1.isNone)) = false := by rfl)
    (ht : eval (.Call (.Attribute o m apos) (e :: es) kws pos) X.env = (do let ov ← eval o X.env; standAt apos.atName; let (f, first) ← holding [ov] (getMethod ov m pl); callWith pos f first (backTo pos (starEach (e :: es) X.env)) (backToKw pos (keywordEach kws X.env))) := by rfl) :
    PE X (.Call (.Attribute o m apos) (e :: es) kws pos) (tMethSN C m n ks.length sp gV E ta t tk) := by
  obtain ⟨g, hb⟩ := hb
  refine ⟨fun pins s σ H Q I h => PySem.W.methodCall_KW (pl := pl) (thn (he.run pins s σ H _ I h) fun u s1 ⟨y, H1, I1, ry, a, dx, fs, ey, ea, l, q⟩ => ?_) ht⟩
  subst ey
  cases (show u = Value.ref a from ry)
  refine getmeth_ok I1 ea c hm l (PySem.W.callWith_KW (first := [.ref a]) (h₀ := X.base) I.ok.mod.kin hm.kp hall (thn (ha.run pos pins s1 σ H1 _ I1 q) fun us s2 ⟨vs, H2, I2, r, q2⟩ => ?_) hpl hst)
  refine thn (hkw.run pos pins s2 σ H2 _ I2 q2) fun ws s3 ⟨zs, H3, I3, rz, l1, l2, q3⟩ => ⟨I3.kIn, ?_⟩
  rw [hks]
  exact run_fnSN (us := .ref a :: us) (vs := .ref a :: vs) F hr hb (hx σ) I3 (.cons rfl r) rz (by rw [List.length_cons, l1]) l2 q3
/-- o.m(e, ..), the last parameters by their defaults -/
theorem pe_methSD {dvs : List V} {pl : Sem Bool} (he : PE X o ta) (c : Cls X.K C) (hm : Meth X.K C m f) (F : FnOk X.prog X.w X.K X.mg X.base CX k f fd ps sp) (hr : Room k X.A) (hb : ∃ ds, Vals dvs ds ∧ Binds X.K fd ps ds) (hx : ∀ σ, PassesAt CX X σ (E σ)) (ha : PA X (e :: es) t)
    (hst : starEach (e :: es) X.env = (false, eval e X.env) :: starEach es X.env := by rfl) (hpl : (backTo pos (starEach es X.env)).any (·.1) = false := by rfl)
    (ht : eval (.Call (.Attribute o m apos) (e :: es) [] pos) X.env = (do let ov ← eval o X.env; standAt apos.atName; let (f, first) ← holding [ov] (getMethod ov m pl); callWith pos f first (backTo pos (starEach (e :: es) X.env)) (backToKw pos (keywordEach [] X.env))) := by rfl) : PE X (.Call (.Attribute o m apos) (e :: es) [] pos) (tMethS C m sp dvs E ta t) := by
  obtain ⟨ds, hd, hb⟩ := hb
  exact pe_methS he c hm F hr hb hd hx ha hst hpl ht
end
/-! ### o[i] of a list, by values -/
def rGetL (K : PySem.W.Frag) : V → V → Hp → VK → Prop := fun x y H Q => ∃ p xs i z, x = .ref p ∧ y = .int i ∧ SqL K H p xs ∧ atI xs i = some z ∧ Q z H
theorem get_list {X : Cx} {K : PySem.W.Frag} (hK : X.K = K := by rfl) : PGet X (rGetL K) := by
  subst hK
  intro pins s σ H x y v u Q I rx ry h
  obtain ⟨p, xs, i, z, rfl, rfl, hq, he, q⟩ := h
  cases rx
  obtain ⟨t, rfl⟩ := ry
  obtain ⟨its, r, pl, hz⟩ := I.list hq
  obtain ⟨j, h1, h2, h3, h4, h5⟩ := atI_get he
  obtain ⟨w, ew, rw'⟩ := r.get h2
  have hl := r.length
  have hn := line63
  have fin : EP X pins σ Q w s := ⟨z, H, I, rw', q⟩
  by_cases h0 : 0 ≤ i
  · have hj : i.toNat = j := by
      rw [seqIndex_of h0 h5] at h1
      exact Option.some.inj h1
    exact wpAny_getItem_list pl.isList h0 (by omega) (by rw [hj]; simpa using ew) fin
  · have hj : (i + (its.toArray.size : Int)).toNat = j := by
      rw [seqIndex_neg (by omega) h4] at h1
      rw [List.size_toArray, ← hl]
      exact Option.some.inj h1
    exact wpAny_getItem_list_neg pl.isList (by omega) (by rw [List.size_toArray] <;> omega) (by omega) (by rw [hj]; simpa using ew) fin
theorem unit1 {k : Nat} {A : Around} (r : Room k A) : A.units + 1 < cLine := by have := r.units; omega
/-! ### steps -/
section
variable {K : PySem.W.Frag} {D : Ends} {σ : St} {H : Hp} {Q : VK} {C : Addr} {m : Str} {n nk : Nat} {sp : Sp} {gV : List V → List V → List V} {E : St → XK} {E0 : XK} {ta te to ti td ty : TE} {t tk : TA} {x y v : V}
theorem i_methSN (h : ta σ H fun x H1 => ∃ a dx fs, x = .ref a ∧ H1 a = some (.ins C dx fs) ∧ fs.lookup m = none ∧ t σ H1 fun vs H2 => tk σ H2 fun zs H3 => vs.length = n ∧ zs.length = nk ∧ sp (gV (x :: vs) zs) H3 Q (E σ)) : tMethSN C m n nk sp gV E ta t tk σ H Q := h
theorem i_augS {tget : V → V → Hp → VK → Prop} {tip : TIp} {tset : TSet} (h : to σ H fun o H1 => ti σ H1 fun i H2 => tget o i H2 fun x H3 => te σ H3 fun y H4 => tip x y H4 fun z H5 => tset o i z H5 fun H6 => D.nx σ H6) : tAugS to ti te tget tip tset D σ H := h
theorem i_getL {p : Addr} {xs : List V} {i : Int} {z : V} (h1 : SqL K H p xs) (h2 : atI xs i = some z) (h : Q z H) : rGetL K (.ref p) (.int i) H Q := ⟨p, xs, i, z, rfl, rfl, h1, h2, h⟩
theorem i_ipI {f : Int → Int → Int} {i j : Int} (h : Q (.int (f i j)) H) : ipI f (.int i) (.int j) H Q := ⟨i, j, rfl, rfl, h⟩
theorem i_din (h : ty σ H fun y H1 => td σ H1 fun x H2 => ∃ a o, x = .ref a ∧ DGet H2 a y o ∧ Q (.bl o.isSome) H2) : tDIn ty td σ H Q := h
theorem i_dnotin (h : ty σ H fun y H1 => td σ H1 fun x H2 => ∃ a o, x = .ref a ∧ DGet H2 a y o ∧ Q (.bl (!o.isSome)) H2) : tDNotIn ty td σ H Q := h
theorem i_dgk {p : Addr} {kvs : List (Key × V)} {k : Key} {R : Option V → Prop} (e : y = kV k) (h1 : H p = some (.dK kvs)) (h : R (valV kvs k)) : ∃ a o, V.ref p = .ref a ∧ DGet H a y o ∧ R o := ⟨p, _, rfl, e ▸ .k h1, h⟩
theorem i_dgkI {p : Addr} {kvs : List (Key × V)} {i : Int} {R : Option V → Prop} (h1 : H p = some (.dK kvs)) (h : R (valV kvs (.inl i))) : ∃ a o, V.ref p = .ref a ∧ DGet H a (.int i) o ∧ R o := ⟨p, _, rfl, .k (k := .inl i) h1, h⟩
theorem i_setDkI {p : Addr} {kvs : List (Key × V)} {i : Int} {HQ : Hp → Prop} (h1 : H p = some (.dK kvs)) (hl : kvs.length < sizeLine) (h : HQ (upd H p (.dK (putK kvs (.inl i) v)))) : rSetD (.ref p) (.int i) v H HQ := ⟨p, _, rfl, .k (k := .inl i) h1 hl, h⟩
theorem i_dgt {p b : Addr} {kvs : List (List Key × V)} {k : List Key} {R : Option V → Prop} (h1 : H p = some (.dT kvs)) (h2 : H b = some (.tup (k.map kV))) (h : R (valV kvs k)) : ∃ a o, V.ref p = .ref a ∧ DGet H a (.ref b) o ∧ R o := ⟨p, _, rfl, .t h1 h2, h⟩
theorem i_setDk {p : Addr} {kvs : List (Key × V)} {k : Key} {HQ : Hp → Prop} (e : x = kV k) (h1 : H p = some (.dK kvs)) (hl : kvs.length < sizeLine) (h : HQ (upd H p (.dK (putK kvs k v)))) : rSetD (.ref p) x v H HQ := ⟨p, _, rfl, e ▸ .k h1 hl, h⟩
theorem i_eqO {neg : Bool} {a dx : Addr} {fs : List (Str × V)} (ha : H a = some (.ins C dx fs)) (hy : isO K y H (fun _ c => c = none ∨ c = some C)) (h : sp [.ref a, y] H (fun v H' => ∃ b, v = .bl b ∧ Q (.bl (if neg then !b else b)) H') E0) : rEqO K C sp E0 neg (.ref a) y H Q := ⟨a, dx, fs, rfl, ha, hy, h⟩
theorem i_lenO {a dx : Addr} {fs : List (Str × V)} (ha : H a = some (.ins C dx fs)) (h : sp [.ref a] H (fun v H' => ∃ k : Int, v = .int k ∧ (0 ≤ k ∧ k < 2 ^ 63) ∧ Q (.int k) H') E0) : rLenO C sp E0 [.ref a] H Q := ⟨a, dx, fs, rfl, ha, h⟩
end
end My
/-! enumerate over a tuple; max, min, sum of a tuple of ints -/
namespace My
open PySem L2
section
open PySem.Spec PySem.Calls
open PyProof.Rows hiding St
set_option maxHeartbeats 4000000 in
theorem meets_enum1 {v : Value} {o : Obj} {H : Heap → Prop} (B : Begins v o H) :
    Meets (Builtin.«enumerate.__new__» ⟨[.type "enumerate", v], []⟩) (fun _ R s => H s.heap ∧
      R (.ok (.ret (.ref (s.heap.push o).objs.size))) { s with heap := (s.heap.push o).push { cls := .type "enumerate", data := .fields #[.none, .bool false, .ref s.heap.objs.size, rawInt 0, .none, .none] } }) :=
  .of_wp fun prog w A R s h => by
    obtain ⟨hp, g, d, tk, os⟩ := s; obtain ⟨h1, h⟩ := h
    have hsub := sub_enumerate
    have q1 : ∀ {A' : Around} {E : Value → Shared → Prop} {Q : Value → Shared → Prop}, Q (.ref hp.objs.size) ⟨hp.push o, g, d, tk, os⟩ → wpAny (model prog w) A' (pyIter v) Q E ⟨hp, g, d, tk, os⟩ :=
      fun q => B.iter prog w _ _ ⟨hp, g, d, tk, os⟩ _ h1 q
    wp_walk using q1
    refine wpAny_stack_any fun st => wpAny_pure ?_
    split
    · rename_i c _ _ _ _ _
      cases (c == Value.type "enumerate")
      · wp_walk using q1
        exact ⟨_, rfl, h⟩
      · wp_walk using q1
        exact ⟨_, rfl, h⟩
    · wp_walk using q1
      exact ⟨_, rfl, h⟩
theorem call_enum1 {prog : Program} {w : World} {A : Around} {E : Value → Shared → Prop} {s : Shared} {v : Value} {o : Obj} {H : Heap → Prop} {Q : Value → Shared → Prop} (B : Begins v o H) (h1 : H s.heap)
    (h : ∀ h', IsEnum h' (s.heap.objs.size + 1) s.heap.objs.size 0 .none → h'.get? s.heap.objs.size = some o → h'.objs.size = s.heap.objs.size + 2 →
      (∀ b o, s.heap.get? b = some o → h'.get? b = some o) → Q (.ref (s.heap.objs.size + 1)) { s with heap := h' }) :
    wpAny (model prog w) A (call (.type "enumerate") [v]) Q E s := by
  refine callType_new F.called_enumerate (by decide) (F.typeCall_enumerate_1 _) (F.newCall_enumerate_1 _) (fun obj => F.args_object_init_2 obj _) F.entry_enumerate_new
    (meets_enum1 B) ⟨h1, ?_⟩
  have hz : (s.heap.push o).objs.size = s.heap.objs.size + 1 := Heap.size_push ..
  show _ ∧ _
  rw [hz]
  have he : IsEnum ((s.heap.push o).push { cls := .type "enumerate", data := .fields #[.none, .bool false, .ref s.heap.objs.size, rawInt 0, .none, .none] }) (s.heap.objs.size + 1) s.heap.objs.size 0 .none := by
    have := Heap.get?_push_size (s.heap.push o) (o := { cls := .type "enumerate", data := .fields #[.none, .bool false, .ref s.heap.objs.size, rawInt 0, .none, .none] }) rfl
    rw [hz] at this; exact this
  refine ⟨⟨_, he, rfl⟩, h _ he (Heap.get?_push_of_some _ (Heap.get?_push_size _ B.free)) (by rw [Heap.size_push, hz]) fun b o x => Heap.get?_push_of_some _ (Heap.get?_push_of_some _ x)⟩
end
/-- the tuple at a as it stands at each turn, the items in new pairs with their places -/
def Itet (K : PySem.W.Frag) (a : Addr) : It :=
  ⟨fun i H => ∃ (xs : List V) (x : V), SqT K H a xs ∧ xs[i]? = some x, fun i H v H' => ∃ T x, v = .ref T ∧ H T = none ∧ H' = upd H T (.tup [.int (i : Nat), x]) ∧ ∀ xs, SqT K H a xs → xs[i]? = some x, fun i H => ∃ xs : List V, SqT K H a xs ∧ xs.length = i⟩
section
open PySem.Spec
open PyProof.Rows hiding St
theorem turn_enumT {P : Program} {w : World} {K : PySem.W.Frag} {elts : List Expr} {kk : Nat} {tpos : Pos} (a e it : Addr) :
    Turn P w K (.Tuple elts kk tpos) (Itet K a) [e, it] e (fun i h => (∃ old, IsEnum h e it ((i : Nat) : Int) old) ∧ h.IsTupleIter it a i ∧ e ≠ it) where
  mem := by simp
  obj := fun i h st b hb => by
    obtain ⟨⟨old, he⟩, ⟨o, ho, hc, hd⟩, _⟩ := st
    have e' : b = e ∨ b = it := by simpa using hb
    rcases e' with z | z
    · rw [z]; exact ⟨_, he, fun v q => nomatch q⟩
    · rw [z]; exact ⟨o, ho, fun v q => by rw [hd] at q; cases q⟩
  keep := fun i h h' st k => let ⟨⟨old, he⟩, hi, hne⟩ := st; ⟨⟨old, k e (by simp) _ he⟩, hi.at fun o q => k it (by simp) o q, hne⟩
  item := by
    intro X hP hw hK hc i pins s σ H E I hf st hg
    subst hP hw hK
    obtain ⟨⟨old, he⟩, hit, hne⟩ := st
    obtain ⟨xs, x, hq, hx⟩ := hg
    obtain ⟨its, rv, p, hz⟩ := I.tuple hq
    obtain ⟨u, hu, ru⟩ := rv.get hx
    have hel : e < s.heap.objs.size := Heap.lt_size he
    have hil : it < s.heap.objs.size := by obtain ⟨_, q, _⟩ := hit; exact Heap.lt_size q
    have pT : s.heap.IsTuple a its.toArray := p
    have hat : a ≠ it := fun z => by
      obtain ⟨o1, g1, c1, _⟩ := pT
      obtain ⟨o2, g2, c2, _⟩ := hit
      rw [z] at g1
      rw [g1] at g2
      cases g2
      rw [c1] at c2
      exact absurd c2 (by decide)
    have hea : e ≠ a := fun z => by
      obtain ⟨o1, g1, c1, _⟩ := pT
      have he' : s.heap.get? e = some _ := he
      rw [← z] at g1
      rw [g1] at he'
      cases he'
      have c1 : Value.type "enumerate" = Value.type "tuple" := c1
      exact absurd c1 (by decide)
    have hlt : i < its.toArray.size := by
      have := (List.getElem?_eq_some_iff.mp hu).1
      simpa using this
    refine wpAny_pyNext_enum_itemD (Draws.tuple (A := X.A.in1) (I.ok.hd hc) it a hat its.toArray) he ⟨hit, pT⟩ hlt hne (by simp [hne, hea]) fun x' h' tk hx' ho st' hT hsz hk => ?_
    obtain rfl : x' = u := by
      have : its[i]? = some x' := by simpa using hx'
      rw [hu] at this
      exact (Option.some.inj this).symm
    refine ⟨_, rfl, wpAny_letOwnedTupleGo_enum (s := { s with heap := h', toks := tk + 1 }) ho fun h'' he' sb => ?_⟩
    have hT2 : h''.get? s.heap.objs.size = some { cls := .type "tuple", data := .seq #[.int i tk, x'] } := (sb.2 _ (Nat.ne_of_gt hel)).trans hT
    have new : ObjOk X.prog X.w (upd H s.heap.objs.size (.tup [.int (i : Nat), x])) h'' s.heap.objs.size (.tup [.int (i : Nat), x]) :=
      ⟨by show 2 ≤ sizeLine; decide, [.int i tk, x'], .cons ⟨_, rfl⟩ (.cons ru .nil), ⟨_, hT2, rfl, _, rfl⟩⟩
    have I1 : Inv X pins σ (upd H s.heap.objs.size (.tup [.int (i : Nat), x])) { s with heap := h'', toks := tk + 1 } :=
      I.turnedNew (ch := [e, it]) (fun b ob hb q => (sb.2 b (fun z => hb (by simp [z]))).trans (hk b ob (fun z => hb (by simp [z])) (fun z => hb (by simp [z])) q)) hf (Nat.le_refl _) new
    refine ⟨.ref s.heap.objs.size, _, I1, rfl, ⟨_, x, rfl, I.hok.fresh (Nat.le_refl _), rfl, fun ys hy => by rw [I.tuple_inj hy hq]; exact hx⟩, ⟨⟨x', ?_⟩, st'.1.at fun o q => (sb.2 it (Ne.symm hne)).trans q, hne⟩, fun b hb => ?_⟩
    · have e1 : ((i + 1 : Nat) : Int) = (i : Int) + 1 := by omega
      rw [e1]; exact he'
    · have hb' : b < s.heap.objs.size := by
        have e' : b = e ∨ b = it := by simpa using hb
        rcases e' with z | z
        · rw [z]; exact hel
        · rw [z]; exact hil
      rw [upd_ne (Nat.ne_of_lt hb')]
      exact (hf b hb).1
  done := by
    intro X hP hw hK hc i pins s σ H E I hf st hg
    subst hP hw hK
    obtain ⟨⟨old, he⟩, hit, hne⟩ := st
    obtain ⟨xs, hq, hx⟩ := hg
    obtain ⟨its, rv, p, hz⟩ := I.tuple hq
    have pT : s.heap.IsTuple a its.toArray := p
    obtain ⟨f0, f1, f2, f3, f4, f5⟩ := hf it (by simp)
    have hl := rv.length
    have hat : a ≠ it := fun z => by
      obtain ⟨o1, g1, c1, _⟩ := pT
      obtain ⟨o2, g2, c2, _⟩ := hit
      rw [z] at g1
      rw [g1] at g2
      cases g2
      rw [c1] at c2
      exact absurd c2 (by decide)
    have hn : i = its.toArray.size := by rw [List.size_toArray]; omega
    exact wpAny_pyNext_enum_endD (Draws.tuple (A := X.A.in1) (I.ok.hd hc) it a hat its.toArray) he ⟨hn ▸ hit, pT⟩ fun h' eb => ⟨rfl, I.turned (t' := s.toks) (fun b o hb q => eb b o hb q) f0 f1 f3 f4 f5⟩
  self := fun A i s Q E st h => let ⟨⟨_, he⟩, _⟩ := st; wpAny_pyIter_enum he h
def iEnumT (K : PySem.W.Frag) (ta : TA) : TI := fun σ H R => ta σ H fun vs H1 => ∃ a xs, vs = [.ref a] ∧ SqT K H1 a xs ∧ R (Itet K a) H1
theorem pi_enumT {X : Cx} {e : Expr} {ta : TA} {p pos tpos : Pos} {elts : List Expr} {kk : Nat} {K : PySem.W.Frag} (hg : Gl X "enumerate") (hm : X.mg "enumerate" = none) (ha : PA X [e] ta) (hs : starEach [e] X.env = [(false, eval e X.env)] := by rfl) (hK : X.K = K := by rfl) :
    PI X (.Tuple elts kk tpos) (.Call (.Name "enumerate" p) [e] [] pos) (iEnumT K ta) := by
  subst hK
  refine ⟨fun pins s σ H R I h => ?_⟩
  refine Call_ (ld_blt I hg hm boot_enumerate (PyProof.Rows.callWith_type1 (thn (ha.run pos pins s σ H _ I h) fun us s1 ⟨vs, H1, I1, r1, q1⟩ => ?_) hs rfl))
  obtain ⟨a, xs, ex, hq, q⟩ := q1
  subst ex
  cases r1 with
  | cons r rr =>
    cases rr
    cases r
    obtain ⟨its, rv, p', hz⟩ := I1.tuple hq
    refine call_enum1 (begins_tuple a its.toArray) p' fun h' he hit hsz hk => wpAny_pyIter_enum he ?_
    have I2 : Inv X pins σ H1 { s1 with heap := h' } := I1.kept (t' := s1.toks) hk
    refine ⟨s1.heap.objs.size + 1, [s1.heap.objs.size + 1, s1.heap.objs.size], _, _, H1, rfl, I2, turn_enumT a (s1.heap.objs.size + 1) s1.heap.objs.size, ⟨⟨.none, he⟩, ⟨_, hit, rfl, rfl⟩, Nat.succ_ne_self _⟩, fun b hb => ?_, q⟩
    have e' : b = s1.heap.objs.size + 1 ∨ b = s1.heap.objs.size := by simpa using hb
    have hle : s1.heap.objs.size ≤ b := by
      rcases e' with z | z
      · rw [z]; exact Nat.le_add_right _ _
      · rw [z]; exact Nat.le_refl _
    exact I1.fpOk hle (I1.hok.fresh hle)
theorem walk_enumT {K : PySem.W.Frag} {a : Addr} {xs : List V} : Walk (Itet K a) xs.length (fun H => SqT K H a xs) (YPair (fun i => some (.int (i : Nat))) (fun i => xs[i]?)) :=
  ⟨fun i H hi q => ⟨xs, xs[i], q, List.getElem?_eq_getElem hi⟩, fun H q => ⟨xs, q, rfl⟩, fun i H v H' hi q ⟨T, x, h1, h2, h3, h4⟩ => ⟨T, .int (i : Nat), x, h1, h2, h3, rfl, h4 xs q⟩⟩
/-! max, sum -/
section
variable {prog : Program} {w : World} {A : Around} {E : Value → Shared → Prop} {s : Shared} {l : Addr}
theorem iterT {items : Array Value} {Q : Value → Shared → Prop} (hl : s.heap.IsTuple l items)
    (h : ∀ s₂ : Shared, s₂ = { s with heap := s.heap.push { cls := .type "tuple_iterator", data := .fields #[.ref l, .int 0 0] } } →
      (s₂.heap.IsTupleIter s.heap.objs.size l 0 ∧ s₂.heap.IsTuple l items) → (∀ b ∈ [s.heap.objs.size, l], b < s₂.heap.objs.size) → l ≠ s.heap.objs.size → Q (.ref s.heap.objs.size) s₂) :
    wpAny (model prog w) A (pyIter (.ref l)) Q E s := by
  have hlt : l < s.heap.objs.size := by obtain ⟨_, e, _⟩ := hl; exact Heap.lt_size e
  refine wpAny_pyIter_tuple hl (h _ rfl ⟨⟨_, Heap.get?_push_size _ rfl, rfl, rfl⟩, hl.push _⟩ (fun b hb => ?_) (Nat.ne_of_lt hlt))
  show b < (s.heap.push _).objs.size
  rw [Heap.size_push]
  rcases List.mem_cons.mp hb with rfl | hb
  · exact Nat.lt_succ_self _
  · rcases List.mem_cons.mp hb with rfl | hb
    · exact Nat.lt_succ_of_lt hlt
    · cases hb
theorem oldT {h' : Heap} {o1 : Obj} (hk : ∀ b o, b ∉ [s.heap.objs.size] → (s.heap.push o1).get? b = some o → h'.get? b = some o) :
    ∀ b o, s.heap.get? b = some o → h'.get? b = some o := fun b o e => by
  refine hk b o (fun hm => ?_) (Heap.get?_push_of_some _ e)
  rcases List.mem_cons.mp hm with e1 | hm
  · exact absurd (e1 ▸ Heap.lt_size e) (Nat.lt_irrefl _)
  · cases hm
theorem max_rawT {its : List Value} {ns : List Int} {Q : Value → Shared → Prop} (hh : A.handled = none) (hl : s.heap.IsTuple l its.toArray) (hi : IntsAre its ns) (hne : 0 < ns.length)
    (h : ∀ h' tk M t', (∀ b o, s.heap.get? b = some o → h'.get? b = some o) → M ∈ ns → (∀ a, a ∈ ns → a ≤ M) → Q (.int M t') { s with heap := h', toks := tk }) : wpAny (model prog w) A (call (.builtin "max") [.ref l]) Q E s := by
  obtain ⟨xs, e⟩ := hi.allInts.items
  have hn : numsOf (intItems xs).toList = ns := by rw [← e]; exact hi.numsOf
  rw [nums_intItems] at hn
  subst hn
  rw [e] at hl
  have hsz : 0 < xs.size := by simpa using hne
  refine call_max_walk (iterT hl fun s₂ e st hfp hlI => ?_)
  subst e
  refine ⟨_, _, _, _, _, _, _, rfl, Walks.tuple (A := A.in1) hh _ l hlI (intItems xs), st, hfp, by simpa [intItems] using hsz, CmpOf.ints_gt (numAt xs) (fun _ _ => intItems_at), fun v h' tk hP hk => ?_⟩
  have hP : (intItems xs)[argBest (fun i j => decide (numAt xs i > numAt xs j)) (xs.size - 1)]? = some v := by simpa [intItems] using hP
  obtain ⟨t, rfl⟩ := intItems_at hP
  obtain ⟨h1, h2⟩ := argBest_gt (numAt xs) (xs.size - 1)
  refine h h' tk _ t (oldT hk) ?_ fun a ha => ?_
  · rw [numAt_eq]; exact PySem.getD_mem (by rw [List.length_map, Array.length_toList]; omega)
  · obtain ⟨j, hj, rfl⟩ := mem_getD ha
    rw [List.length_map, Array.length_toList] at hj
    rw [← numAt_eq]; exact h2 j (by omega)
theorem sum_rawT {its : List Value} {ns : List Int} {Q : Value → Shared → Prop} (hh : A.handled = none) (hl : s.heap.IsTuple l its.toArray) (hi : IntsAre its ns)
    (h : ∀ h' tk t', (∀ b o, s.heap.get? b = some o → h'.get? b = some o) → Q (.int ns.sum t') { s with heap := h', toks := tk }) : wpAny (model prog w) A (call (.builtin "sum") [.ref l]) Q E s := by
  obtain ⟨xs, e⟩ := hi.allInts.items
  have hn : numsOf (intItems xs).toList = ns := by rw [← e]; exact hi.numsOf
  rw [nums_intItems] at hn
  rw [e] at hl
  refine call_sum_walkG (iterT hl fun s₂ e st hfp hlI => ?_)
  subst e
  refine ⟨_, _, _, _, _, _, numAt xs, rfl, Walks.tuple (A := A.in1) hh _ l hlI (intItems xs), st, hfp, (fun _ _ => intItems_at), fun h' tk t' hk => ?_⟩
  have := h h' tk t' (oldT hk)
  rw [← hn] at this
  have e2 : preSum (numAt xs) (intItems xs).size = (xs.toList.map (·.1)).sum := by
    rw [show (intItems xs).size = xs.size by simp [intItems], preSum_eq, List.take_of_length_le (by simp)]
  rw [e2]
  exact this
end
def rMaxT (K : PySem.W.Frag) : List V → Hp → VK → Prop := fun vs H Q => ∃ (a : Addr) (ns : List Int), vs = [V.ref a] ∧ SqT K H a (ns.map V.int) ∧ 0 < ns.length ∧ ∀ m, m ∈ ns → (∀ y, y ∈ ns → y ≤ m) → Q (.int m) H
def rSumT (K : PySem.W.Frag) : List V → Hp → VK → Prop := fun vs H Q => ∃ (a : Addr) (ns : List Int), vs = [V.ref a] ∧ SqT K H a (ns.map V.int) ∧ Q (.int ns.sum) H
theorem cr_maxT {X : Cx} {K : PySem.W.Frag} (hc : X.calm = true) (hK : X.K = K := by rfl) : CallR X (.builtin "max") (rMaxT K) := by
  subst hK
  intro pins s σ H xs us Q I r h
  obtain ⟨a, ns, rfl, hq, hne, q⟩ := h
  obtain ⟨u, rfl, rx⟩ := vals1 r
  cases rx
  obtain ⟨its, rv, p, hz⟩ := I.tuple hq
  exact max_rawT (I.ok.hd hc) (show s.heap.IsTuple a its.toArray from p) rv.ints hne fun h' tk m t' hk h1 h2 => ⟨.int _, H, I.kept hk, ⟨_, rfl⟩, q m h1 h2⟩
theorem cr_sumT {X : Cx} {K : PySem.W.Frag} (hc : X.calm = true) (hK : X.K = K := by rfl) : CallR X (.builtin "sum") (rSumT K) := by
  subst hK
  intro pins s σ H xs us Q I r h
  obtain ⟨a, ns, rfl, hq, q⟩ := h
  obtain ⟨u, rfl, rx⟩ := vals1 r
  cases rx
  obtain ⟨its, rv, p, hz⟩ := I.tuple hq
  exact sum_rawT (I.ok.hd hc) (show s.heap.IsTuple a its.toArray from p) rv.ints fun h' tk t' hk => ⟨.int _, H, I.kept hk, ⟨_, rfl⟩, q⟩
/-- [.. for i, x in enumerate(xs) if ..], xs a tuple: of each place what f says, or nothing -/
theorem lc_enumF {α : Type} {K : PySem.W.Frag} {a : Addr} {xs : List V} {g : TG} {tt : TT} {te : TE} {vs : List Nat} {σ : L2.St} {H1 : Hp} {D : Addr} {Qd : Hp → Prop} (f : Nat → Option α) (R : Hp → V → α → Prop) (mono : ∀ H H' y c acc, H D = some (.lst acc) → SameBut D H H' → R H y c → R H' y c)
    (h0 : SqT K H1 a xs) (hD : H1 D = none) (hl : xs.length ≤ 1000)
    (hs : ∀ (i : Nat) x, xs[i]? = some x → ∀ H T (Q : VK) (Rr : Hp → Prop), Same H1 H → H T = some (.tup [.int i, x]) → (∃ acc, H D = some (.lst acc)) → (∀ c, f i = some c → ∀ y H', Same H H' → R H' y c → Q y H') → (f i = none → ∀ H', Same H H' → Rr H') →
      g (.ref T) (wipe σ vs) H fun σ2 H2 => wipe σ2 vs = wipe σ vs ∧ tt σ2 H2 fun b H3 => if b = true then te σ2 H3 Q else Rr H3)
    (hd : ∀ H (ys : List V), Same H1 H → H D = some (.lst ys) → All2 (R H) ys ((List.range xs.length).filterMap f) → Qd H) :
    ∃ W : Nat → Nat → Hp → Prop, (∃ m, W 0 m (upd H1 D (.lst []))) ∧ ∀ i m H, W i m H →
      ((Itet K a).stop i H ∧ Qd H) ∨ ((Itet K a).go i H ∧ ∃ Nx : Hp → Prop, (∀ H', Nx H' → ∃ m', m' < m ∧ W (i + 1) m' H') ∧ ∀ x H', (Itet K a).yld i H x H' → g x (wipe σ vs) H' fun σ2 H2 => wipe σ2 vs = wipe σ vs ∧ tt σ2 H2 fun b H3 =>
        if b = true then te σ2 H3 fun y H4 => ∃ acc, H4 D = some (.lst acc) ∧ acc.length < sizeLine ∧ Nx (upd H4 D (.lst (acc ++ [y]))) else Nx H3) := by
  have sb : ∀ {H o}, Same H1 H → Same H1 (upd H D o) := fun {H o} s b u e => by
    rw [upd_ne (ne_of_none e hD)]
    exact s b u e
  refine lc_it walk_enumT (fun i H => Same H1 H ∧ ∃ ys, H D = some (.lst ys) ∧ ys.length ≤ i ∧ All2 (R H) ys ((List.range i).filterMap f)) ⟨sb (Same.refl H1), [], upd_same, Nat.le_refl _, All2.nil⟩ (fun i H _ h => SqT.same h.1 h0) ?_ ?_
  · rintro i v H H' hi ⟨s1, ys, e2, e3, e4⟩ ⟨T, x, y, rfl, nT, rfl, hx, hy⟩
    have hx : x = .int (i : Nat) := (Option.some.inj hx).symm
    subst hx
    have s2 : Same H (upd H T (.tup [.int (i : Nat), y])) := same_upd (Same.refl H) nT
    have e2' := s2 _ _ e2
    refine hs i y hy _ T _ _ (s1.trans s2) upd_same ⟨ys, e2'⟩ (fun c hc z H4 s4 hz => ?_) (fun hn H4 s4 => ?_)
    · have e5 := s4 _ _ e2'
      have sD : SameBut D H4 (upd H4 D (.lst (ys ++ [z]))) := SameBut.upd _ _ _
      refine ⟨ys, e5, Nat.lt_of_le_of_lt (Nat.le_trans e3 (Nat.le_of_lt hi)) (small1000 hl), sb ((s1.trans s2).trans s4), _, upd_same, by rw [List.length_append]; show ys.length + 1 ≤ i + 1; omega, ?_⟩
      rw [List.range_succ, List.filterMap_append, List.filterMap_cons, hc]
      refine All2.append (e4.mono fun u w h => mono _ _ _ _ _ e5 sD (mono _ _ _ _ _ e2' (SameBut.of s4) (mono _ _ _ _ _ e2 (SameBut.of s2) h))) (All2.cons (mono _ _ _ _ _ e5 sD hz) All2.nil)
    · refine ⟨(s1.trans s2).trans s4, ys, s4 _ _ e2', by omega, ?_⟩
      rw [List.range_succ, List.filterMap_append, List.filterMap_cons, hn, List.filterMap_nil, List.append_nil]
      exact e4.mono fun u w h => mono _ _ _ _ _ e2' (SameBut.of s4) (mono _ _ _ _ _ e2 (SameBut.of s2) h)
  · rintro H ⟨s1, ys, e2, e3, e4⟩
    exact hd H ys s1 e2 e4
theorem i_enumT {K : PySem.W.Frag} {σ : L2.St} {H : Hp} {A : TA} {R : It → Hp → Prop} (h : A σ H fun vs H1 => ∃ a xs, vs = [.ref a] ∧ SqT K H1 a xs ∧ R (Itet K a) H1) : iEnumT K A σ H R := h
theorem i_enumA {K : PySem.W.Frag} {H : Hp} {a : Addr} {xs : List V} {R : Addr → Prop} (h1 : SqT K H a xs) (h : R a) : ∃ b xs, [V.ref a] = [.ref b] ∧ SqT K H b xs ∧ R b := ⟨a, xs, rfl, h1, h⟩
theorem i_maxT {K : PySem.W.Frag} {H : Hp} {Q : VK} {a : Addr} {ns : List Int} (h1 : SqT K H a (ns.map V.int)) (h2 : 0 < ns.length) (h : ∀ m, m ∈ ns → (∀ y, y ∈ ns → y ≤ m) → Q (.int m) H) : rMaxT K [.ref a] H Q := ⟨a, ns, rfl, h1, h2, h⟩
theorem i_sumT {K : PySem.W.Frag} {H : Hp} {Q : VK} {a : Addr} {ns : List Int} (h1 : SqT K H a (ns.map V.int)) (h : Q (.int ns.sum) H) : rSumT K [.ref a] H Q := ⟨a, ns, rfl, h1, h⟩
end
end My
/-! cuts of rows, xs.insert(i, y), data of all makes -/
namespace My
open PySem L2
theorem cut_take {xs : List V} {i : Nat} : cutV xs none (some (i : Int)) = xs.take i := by
  unfold cutV
  rw [HT.sIx_none, HT.sIx_nat, List.drop_zero, Nat.sub_zero, ← List.take_eq_take_min]
theorem cut_drop {xs : List V} {i : Nat} : cutV xs (some (i : Int)) none = xs.drop i := by
  unfold cutV
  rw [HT.sIx_none, HT.sIx_nat]
  by_cases h : i ≤ xs.length
  · rw [Nat.min_eq_left h, List.take_of_length_le (by rw [List.length_drop]; exact Nat.le_refl _)]
  · rw [Nat.min_eq_right (by omega), List.drop_length, List.drop_of_length_le (by omega)]
    simp
theorem cut_drop1 {xs : List V} {i : Nat} : cutV xs (some ((i : Int) + 1)) none = xs.drop (i + 1) := cut_drop
theorem cut_set {ns : List Int} {i : Nat} {z : Int} (h : i < ns.length) : cutV (ns.map V.int) none (some (i : Int)) ++ [V.int z] ++ cutV (ns.map V.int) (some ((i : Int) + 1)) none = (ns.set i z).map V.int := by
  rw [cut_take, cut_drop1, List.set_eq_take_append_cons_drop, if_pos h, List.map_append, List.map_cons, List.map_take, List.map_drop, List.append_assoc]
  rfl
theorem kn_flat {K : PySem.W.Frag} {H : Hp} {x : V} (h : flatV x = true) : Kn K H x := by
  cases x <;> first | exact trivial | (cases h; done)
theorem log2_le {n : Int} (h0 : 0 ≤ n) (h1 : n ≤ 1000) : n.natAbs.log2 < 9000 := Nat.lt_of_le_of_lt (Nat.log2_le_self _) (by omega)
/-- xs.insert(i, y) -/
def rIns : V → List V → Hp → VK → Prop := fun x vs H Q => ∃ (l : Addr) (xs : List V) (i : Int) (y : V), x = .ref l ∧ vs = [.int i, y] ∧ H l = some (.lst xs) ∧ xs.length < sizeLine ∧ 0 ≤ i ∧ i < 2 ^ 63 ∧ Q .non (upd H l (.lst (xs.take i.toNat ++ [y] ++ xs.drop i.toNat)))
def tIns (K : PySem.W.Frag) (to : TE) (A : TA) : TE := tBM K "list" rIns to A
theorem pe_insK {X : Cx} {K : PySem.W.Frag} {e : Expr} {to : TE} {t : TA} (h : PE X e (tBM X.K "list" rIns to t)) (hK : X.K = K := by rfl) : PE X e (tIns K to t) := by
  subst hK
  exact h
theorem i_ins {K : PySem.W.Frag} {σ : St} {H : Hp} {Q : VK} {to : TE} {A : TA} (h : to σ H fun x H1 => tyV K "list" x H1 ∧ A σ H1 fun vs H2 => rIns x vs H2 Q) : tIns K to A σ H Q := h
theorem i_rins {H : Hp} {Q : VK} {l : Addr} {xs : List V} {i : Int} {y : V} (h1 : H l = some (.lst xs)) (h2 : xs.length < sizeLine) (h3 : 0 ≤ i) (h4 : i < 2 ^ 63) (h : Q .non (upd H l (.lst (xs.take i.toNat ++ [y] ++ xs.drop i.toNat)))) : rIns (.ref l) [.int i, y] H Q := ⟨l, xs, i, y, rfl, rfl, h1, h2, h3, h4, h⟩
end My
/-! x in [l, x]: x of an own class with an own ==, l a list -/
namespace My
open PySem L2
section
open PySem.W Builtin PySem.Calls
open PyProof.Rows hiding St
variable {prog : Program} {w : World} {A : Around} {E : Value → Shared → Prop} {s : Shared} {K : Frag} {x l C L f : Addr} {h₀ : Heap} {m : Str → Option Value} {ox : Obj} {od : Option Obj} {its : Array Value} {n : Nat}
theorem leq_other {Q : Value → Shared → Prop} (X : K.In s.heap) (I : InstAt s.heap x ox C od) (hl : s.heap.IsList l its) (hs : subIn K (.ref C) (.type "list") = some false) (h : Q .notImplemented s) :
    wpAny (model prog w) A (call (.builtin "list.__eq__") [.ref l, .ref x]) Q E s := by
  obtain ⟨ol, el, cl, kl, dl⟩ := hl
  refine GQ.call_here F.slot_list_eq ⟨ol, el, cl⟩ F.entry_list_eq (F.args_list_eq_2 _ _) ?_
  unfold Builtin.«list.__eq__»
  show wpAny _ _ (do
    let (a, [b]) ← slotArgs "__eq__" 1 ⟨[.ref l, .ref x], []⟩ | unsupported "internal:list.compare"
    _) _ _ _
  refine wpAny_bind (m := slotArgs "__eq__" 1 _) (wpAny_pure ?_)
  refine wpAny_bind (m := isInstance _ _) ((show Looks (model prog w) s.heap (isInstance (.ref x) (.type "list")) false from I.type.andThen (looks_subIn X hs)).here ?_)
  exact wpAny_pure h
/-- l == x, l a list, x of an own class -/
theorem rc_lx {Q : Value → Shared → Prop} (hu : A.units < cLine) (Fh : Fr h₀ L s.heap m) (X₀ : K.In h₀) (I : InstAt s.heap x ox C od) (hl : s.heap.IsList l its) (hs : subIn K (.ref C) (.type "list") = some false)
    (he : findIn K (.ref C) "__eq__" = some (some (.ref f))) (hf : isFn K (.ref f) = true)
    (h : wpAny (model prog w) A (call (.ref f) [.ref x, .ref l]) (fun v s' => ∃ k, v = .bool k ∧ Q (.bool k) s') E s) : wpAny (model prog w) A (richCompare .Eq (.ref l) (.ref x)) Q E s := by
  have X := X₀.keeps Fh.keep
  have tl : s.TypeIs (.ref l) "list" := by
    obtain ⟨ol, el, cl, _⟩ := hl
    exact ⟨ol, el, cl⟩
  have one : wpAny (model prog w) A (tryCompare (.ref l) (cmpInfo .Eq).2.1 (.ref x)) (fun r s' => r = none ∧ s' = s) E s := by
    unfold tryCompare
    refine wpAny_bind (wpAny_callSpecialIfBound?_slot tl F.slot_list_eq (leq_other X I hl hs ?_))
    exact wpAny_pure ⟨rfl, rfl⟩
  have two : wpAny (model prog w) A (tryCompare (.ref x) (cmpInfo .Eq).2.2 (.ref l)) (fun r s' => ∃ k, r = some (.bool k) ∧ Q (.bool k) s') E s := by
    unfold tryCompare
    refine wpAny_bind (ifBound_K X I he hf (wpAny_mono h (fun v s' hv => ?_) fun _ _ e => e))
    obtain ⟨k, rfl, hq⟩ := hv
    exact wpAny_pure ⟨k, rfl, hq⟩
  unfold richCompare
  simp only [oneThing_ref]
  refine wpAny_holding (wpAny_bind (wpAny_cRoomFor hu ?_))
  refine wpAny_bind (wpAny_typeOf tl ?_)
  refine wpAny_bind (I.type.here ?_)
  split
  · refine wpAny_bind ((looks_subIn X hs).here ?_)
    simp only [Bool.false_eq_true, if_false]
    refine wpAny_bind (wpAny_mono one (fun r s' z => ?_) fun _ _ e => e)
    obtain ⟨rfl, rfl⟩ := z
    simp only [Bool.not_false, if_true]
    refine wpAny_bind (wpAny_mono two (fun r s' z => ?_) fun _ _ e => e)
    obtain ⟨k, rfl, hq⟩ := z
    exact wpAny_pure hq
  · rename_i q
    simp at q
/-- the loop of `in` over a list, when the second one is it -/
def Is2 (h : Heap) (p : Addr) (u v : Value) : Prop := ∃ (dd : Option Addr) (sl : Array (Option Value)) (k : Nat) (items : Array Value), h.get? p = some { cls := .type "list", dict := dd, data := .seq items k, slots := sl } ∧ items[0]? = some u ∧ items[1]? = some v
theorem loop1 {p : Addr} {u : Value} {R : Except Value Flow → Shared → Prop} (hp : Is2 s.heap p u (.ref x)) (h : R (.ok (.ret (.bool true))) s) :
    wpAny (model prog w) A.in1 (Builtin.«list.__contains__.loop» ⟨[.ref p, .ref x, rawInt 1], []⟩) (GQ.FinOf prog w A R) (fun e s' => R (.error e) s') s := by
  obtain ⟨dd, sl, k, items, hg, _, h1⟩ := hp
  have hb : wpAny (model prog w) A.in1 (eqBool (.ref x) (.ref x)) (fun r s' => r = true ∧ s' = s) (fun e s' => R (.error e) s') s := SeqAt.EqAt.same _ _ _ _ _ ⟨rfl, rfl⟩
  obtain ⟨hp0, g, d, tk, os⟩ := s
  wp_walk using AutoSeq1.wpAny_loadPart' hg
  have e1 : items[(1 : Int).toNat]? = some (.ref x) := h1
  rw [e1]
  refine wpAny_bind (wpAny_mono hb (fun r s' z => ?_) fun _ _ z => z)
  obtain ⟨rfl, rfl⟩ := z
  wp_walk
  exact h
theorem loop0 {p : Addr} {R : Except Value Flow → Shared → Prop} (nlx : l ≠ x) (hp : Is2 s.heap p (.ref l) (.ref x))
    (h : wpAny (model prog w) A.in1 (richCompare .Eq (.ref l) (.ref x)) (fun v s' => v = .bool false ∧ Is2 s'.heap p (.ref l) (.ref x) ∧ R (.ok (.ret (.bool true))) s') (fun e s' => R (.error e) s') s) :
    wpAny (model prog w) A.in1 (Builtin.«list.__contains__.loop» ⟨[.ref p, .ref x, rawInt 0], []⟩) (GQ.FinOf prog w A R) (fun e s' => R (.error e) s') s := by
  have hb : wpAny (model prog w) A.in1 (eqBool (.ref l) (.ref x)) (fun r s' => r = false ∧ Is2 s'.heap p (.ref l) (.ref x) ∧ R (.ok (.ret (.bool true))) s') (fun e s' => R (.error e) s') s :=
    GQ.eqBool_refG nlx (wpAny_mono h (fun v s' z => ⟨false, z.1, rfl, z.2⟩) fun _ _ z => z)
  obtain ⟨dd, sl, k, items, hg, h0, _⟩ := hp
  obtain ⟨hp0, g, d, tk, os⟩ := s
  wp_walk using AutoSeq1.wpAny_loadPart' hg
  have e1 : items[(0 : Int).toNat]? = some (.ref l) := h0
  rw [e1]
  refine wpAny_bind (wpAny_mono hb (fun r s' z => ?_) fun _ _ z => z)
  obtain ⟨rfl, e, q⟩ := z
  have hrec := loop1 (prog := prog) (w := w) (A := A) e q
  obtain ⟨hp2, g2, d2, tk2, os2⟩ := s'
  wp_walk
  exact ⟨plainId_quiet MeetsSeq.plain_contains_loop _, codeAny_builtin MeetsSeq.entry_contains_loop (by
    rw [Around.under_plainId MeetsSeq.plain_contains_loop _]
    exact hrec)⟩
theorem in_lx {p : Addr} {Q : Value → Shared → Prop} (nlx : l ≠ x) (hp : Is2 s.heap p (.ref l) (.ref x))
    (h : wpAny (model prog w) A.in1 (richCompare .Eq (.ref l) (.ref x)) (fun v s' => v = .bool false ∧ Is2 s'.heap p (.ref l) (.ref x) ∧ Q (.bool true) s') E s) : wpAny (model prog w) A (compareOp .In (.ref x) (.ref p)) Q E s := by
  have hT : s.TypeIs (.ref p) "list" := by
    obtain ⟨dd, sl, k, items, hg, _⟩ := hp
    exact ⟨_, hg, rfl⟩
  show wpAny _ _ (do return .bool (← contains (.ref p) (.ref x))) Q E s
  refine wpAny_bind (PySem.wpAny_contains_slot hT F.slot_list_contains (GQ.call_here F.slot_list_contains hT F.entry_list_contains (F.args_list_contains_2 _ _) ?_))
  unfold Builtin.«list.__contains__»
  refine wpAny_bind (m := slotArgs "__contains__" 1 _) (wpAny_pure ?_)
  refine wpAny_pure ⟨plainId_quiet MeetsSeq.plain_contains_loop _, codeAny_builtin MeetsSeq.entry_contains_loop ?_⟩
  rw [Around.under_plainId MeetsSeq.plain_contains_loop _]
  exact loop0 nlx hp (wpAny_mono h (fun v s' z => ⟨z.1, z.2.1, wpAny_truthy_bool (wpAny_pure z.2.2)⟩) fun _ _ z => z)
end
/-- x in [l, x]: x of an own class whose own == of x and the list l tells False -/
def rIn2 (K : PySem.W.Frag) (C : Addr) (sp : Sp) (E : XK) : R2 := fun x y H Q => ∃ a dx fs p l xs, x = .ref a ∧ H a = some (.ins C dx fs) ∧ y = .ref p ∧ H p = some (.lst [.ref l, .ref a]) ∧ SqL K H l xs ∧ l ≠ a ∧ sp [.ref a, .ref l] H (fun v H' => v = .bl false ∧ H' p = some (.lst [.ref l, .ref a]) ∧ Q (.bl true) H') E
section
variable {X : Cx} {CX : CXT} {n : Nat} {f C : Addr} {fd : FuncData} {ps : List Str} {sp : Sp} {E : XK}
theorem is2_of {P : Program} {w : World} {H : Hp} {h : Heap} {p l a : Addr} (hok : HOk P w H h) (e : H p = some (.lst [.ref l, .ref a])) : Is2 h p (.ref l) (.ref a) := by
  obtain ⟨_, its, k, r, g⟩ := (show ObjOk P w H h p (.lst [.ref l, .ref a]) from hok p _ e)
  cases r with
  | cons r1 r =>
    cases r with
    | cons r2 r =>
      cases r
      cases r1
      cases r2
      exact ⟨none, #[], k, _, g, rfl, rfl⟩
theorem op_in2 {K : PySem.W.Frag} (m : Meth X.K C "__eq__" f) (F : FnOk X.prog X.w X.K X.mg X.base CX n f fd ps sp) (hr : Room (n + 2) X.A) (hb : Binds X.K fd ps []) (hx : Passes CX X E) (hs : PySem.W.subIn X.K (.ref C) (.type "list") = some false) (hK : X.K = K := by rfl) : OpR X (compareOp .In) (rIn2 K C sp E) := by
  subst hK
  intro pins s σ H x y v u Q I rx ry h
  obtain ⟨a, dx, fs, p, l, xs, rfl, ha, rfl, hp, hl, nla, h⟩ := h
  cases rx
  cases ry
  obtain ⟨mA, J, _⟩ := ins_get I.hok ha
  obtain ⟨od, J, _⟩ := J.look
  obtain ⟨mm, hF⟩ := I.fr
  obtain ⟨us, r1, p1, _⟩ := I.list hl
  have h1 : Room (n + 1) X.A.in1 := hr.in1
  refine in_lx nla (is2_of I.hok hp) (rc_lx h1.units0 hF I.ok.mod.kin J p1.isList hs m.at_ m.fn (wpAny_mono (run_own F hb hx ⟨h1.mono (Nat.le_succ _), rfl⟩ I (show Vals [V.ref a, .ref l] [Value.ref a, .ref l] from .cons rfl (.cons rfl .nil)) h) (fun v s' z => ?_) fun _ _ z => z))
  obtain ⟨x, H', I', rx, rfl, hp', z⟩ := z
  obtain rfl : v = Value.bool false := rx
  exact ⟨false, rfl, rfl, is2_of I'.hok hp', .bl true, H', I', rfl, z⟩
end
end My
/-! an own == asked within an except suite -/
namespace My
open PySem L2
open L2H (RoomH PinOk cxH)
theorem _root_.L2H.RoomH.units {k : Nat} {A : Around} (r : RoomH k A) : A.units + 64 < cLine := by
  have := r.un
  omega
/-- what a def does where an exception is handled; it raises nothing -/
structure FnP (P : Program) (w : World) (K : PySem.W.Frag) (mg : Str → Option Value) (base : Heap) (k : Nat) (f : Addr) (fd : FuncData) (ps : List Str) (sp : Sp) : Prop where
  len : ∀ vs H Q E, sp vs H Q E → vs.length = ps.length
  run : ∀ (A : Around) (outer : List Env) (s : Shared) (H : Hp) (args : Args) (us : List Value) (vs : List V) (Q : VK) (E : XK) (p : Addr × Obj), RoomH k A → PinOk outer H s p → Env0 P w K mg base A outer s H → BindsTo s fd args (ps.zip us) → Vals vs us → sp vs H Q E →
    codeAny (model P w) A (.call (.ref f) args) (CR CX0 outer P w H s Q E) s
theorem fund_okP {P : Program} {w : World} {K : PySem.W.Frag} {mg : Str → Option Value} {base : Heap} {x qual : Str} {params : Arguments} {body : List Stmt} {scope : Scope} {dvs : List V} {f : Addr} {fd : FuncData} {N ps : List Str} {k : Nat} {sp : Sp}
    (F : FunD K x qual params body scope dvs [] f fd) (S : FnScope N ps scope) (len : ∀ vs H Q E, sp vs H Q E → vs.length = ps.length)
    (hbody : ∀ (cdv : Value) (A : Around) (outer : List Env) (s : Shared) (H : Hp) (vs : List V) (Q : VK) (E : XK) (p : Addr × Obj), RoomH k (A.deeper (PyProof.Rows.envOfC qual scope s.heap.objs.size f cdv)) → sp vs H Q E →
      ∃ t, PSs (cxH CX0 P w K mg base N qual scope f cdv A outer s H E p) body t ∧ t { nx := fun _ H' => Q .non H', rt := Q } (start N vs) H) : FnP P w K mg base (k + 1) f fd ps sp := by
  obtain ⟨oc, od, dV, kV, doc, pm, an, cdv, ct, osl, rfl, look, code, _, _⟩ := F.ex
  refine ⟨len, fun A outer s H args us vs Q E p room pin e1 bound rv wish => ?_⟩
  have eq1 := len _ _ _ _ wish
  have kin := e1.mod.kin.keeps fun b o z => (e1.bs b o z).1
  have nolim := e1.mod.nolimit.keeps fun b o z => (e1.bs b o z).1
  have kinds : ∀ y ∈ ps.zip us, scope.names.lookup y.1 = some .local ∨ (scope.names.lookup y.1 = some .cell ∧ ((cellsFrom (s.heap.objs.size + 1) scope.names []).lookup y.1).isSome = true) := by
    rintro ⟨n, v⟩ hm
    have hn := S.par n (List.of_mem_zip hm).1
    exact hn.imp id fun z => ⟨z, PySem.W.cellsFrom_some _ _ _ (.inl z)⟩
  refine codeAny_call_function room.depth (kin _ _ look) rfl S.co S.gen rfl (PySem.W.codeRec_of kin code) (bound _ _ _ _ ?_)
  refine wpAny_newFunctionEnv_cells S.kind kinds fun env ee s2 called => ?_
  cases ee
  obtain ⟨t, walk, ends⟩ := hbody cdv A outer s H vs Q E p (room.deeper _) wish
  have J0 := L2H.inv_startH (CX := CX0) (E := E) (qual := qual) S pin e1 eq1 rv called
  refine ⟨nolim.keeps called.toInCall.keep, codeAny_func (wpAny_mono (walk.run [] s2 (start N vs) H _ J0 ends) (fun fl s3 z => ?_) fun _ _ z => z)⟩
  match fl, z with
  | .ret u, ⟨v, σ', H', J, rv', q⟩ => exact ⟨v, H', J.os, J.bare, J.base, J.hok, rv', q⟩
  | .next, ⟨σ', H', J, q⟩ => exact ⟨V.non, H', J.os, J.bare, J.base, J.hok, rfl, q⟩
  | .brk, ⟨_, _, _, q⟩ => exact q.elim
  | .cont, ⟨_, _, _, q⟩ => exact q.elim
section
variable {X : Cx} {n : Nat} {f C : Addr} {fd : FuncData} {ps : List Str} {sp : Sp}
theorem run_ownP {p : Addr × Obj} {pins : List (Addr × Obj)} {σ : St} {H : Hp} {s : Shared} {Q : VK} {us : List Value} {vs : List V} (F : FnP X.prog X.w X.K X.mg X.base n f fd ps sp) (hr : RoomH n X.A) (hp : p ∈ X.pn) (hb : Binds X.K fd ps [])
    (I : Inv X pins σ H s) (rv : Vals vs us) (h : sp vs H Q (fun _ _ _ => False)) : wpAny (model X.prog X.w) X.A (call (.ref f) us) (EP X pins σ Q) X.xe s := by
  have lens : us.length = ps.length := rv.length.symm.trans (F.len _ _ _ _ h)
  have bound := hb s us I.kIn (by rw [List.append_nil]; exact lens)
  rw [List.append_nil] at bound
  obtain ⟨g1, g2, g3, g4, g5⟩ := I.pin p (List.mem_append_left _ hp)
  have pin : PinOk X.stack H s p := ⟨g1, g2, fun z => (List.mem_cons.mp (I.stkSub p.1 z)).elim g3 g4, g5⟩
  refine wpAny_call (codeAny_mono (F.run X.A X.stack s H ⟨us, []⟩ us vs Q (fun _ _ _ => False) p hr pin I.env0 bound rv h) fun r s2 z => ?_)
  match r, z with
  | .error e, z => exact (show Passes CX0 X (fun _ _ _ => False) from pass0) pins σ H s e s2 I z
  | .ok (.ret u), z => exact I.after z
  | .ok .next, z => exact z.elim
  | .ok .brk, z => exact z.elim
  | .ok .cont, z => exact z.elim
/-- x == y within a suite: x of C, whose own == is sp -/
theorem op_eqP {p : Addr × Obj} {K : PySem.W.Frag} (m : Meth X.K C "__eq__" f) (F : FnP X.prog X.w X.K X.mg X.base n f fd ps sp) (hr : RoomH n X.A) (hp : p ∈ X.pn) (hb : Binds X.K fd ps []) (q : EqC X.K C) (hK : X.K = K := by rfl) : OpR X (compareOp .Eq) (rEqO K C sp (fun _ _ _ => False) false) := by
  subst hK
  intro pins s σ H x y v u Q I rx ry h
  obtain ⟨a, dx, fs, rfl, ha, hy, h⟩ := h
  cases rx
  obtain ⟨mA, J, _⟩ := ins_get I.hok ha
  obtain ⟨od, J, _⟩ := J.look
  obtain ⟨mm, hF⟩ := I.fr
  obtain ⟨t, hl, hn⟩ := ty_looks q I ry hy
  show wpAny (model X.prog X.w) X.A (richCompare .Eq (.ref a) u) (EP X pins σ Q) X.xe s
  refine PySem.W.cmp_K (op := .Eq) (by have := hr.un; omega) hF I.ok.mod.kin J hl hn m.at_ m.fn (wpAny_mono (run_ownP F hr hp hb I (show Vals [V.ref a, y] [Value.ref a, u] from .cons rfl (.cons ry .nil)) h) (fun v s' z => ?_) fun _ _ z => z)
  obtain ⟨x, H', I', rx, b, rfl, z⟩ := z
  obtain rfl : v = Value.bool b := rx
  exact ⟨.bl b, H', I', rfl, z⟩
theorem roomH_suite {k : Nat} {a : Addr} {pn : List (Addr × Obj)} {X : Cx} (r : Room k X.A) : RoomH k (X.suite a pn).A := ⟨r.dp, r.un⟩
end
end My
/-! texts of numbers: str(n), sep.join(row), f"..{x}.." -/
namespace My
open PySem L2
/-- a number's text -/
def numT (n : Int) : Str := Str.ofString (toString n)
def rStrI : List V → Hp → VK → Prop := fun xs H Q => ∃ i : Int, xs = [.int i] ∧ i.natAbs.log2 < 1920 ∧ Q (.str (numT i)) H
theorem call_strI {X : Cx} : CallR X (.type "str") rStrI := call_str_int
theorem i_strI {i : Int} {H : Hp} {Q : VK} (h1 : i.natAbs.log2 < 1920) (h : Q (.str (numT i)) H) : rStrI [.int i] H Q := ⟨i, rfl, h1, h⟩
def tJoinK (K : PySem.W.Frag) (to te : TE) : TE := fun σ H Q => to σ H fun x H1 => (∃ a, x = .str a) ∧ te σ H1 fun y H2 => ∃ (a : Str) (p : Addr) (ys : List Str), x = .str a ∧ [y] = [.ref p] ∧ (SqL K H2 p (ys.map V.str) ∨ SqT K H2 p (ys.map V.str)) ∧ (ys.map (·.length)).sum + ys.length * a.length ≤ 16777216 ∧ Q (.str (Txt.join a ys)) H2
theorem pe_joinK {X : Cx} {K : PySem.W.Frag} {o e : Expr} {to te : TE} {apos pos : Pos} (ho : PE X o to) (he : PE X e te) (hK : X.K = K := by rfl)
    (hbase : attributeBase o "join" X.env (eval o X.env) = eval o X.env := by rfl) (hline : (apos.endLine == pos.line) = true := by rfl) (hst : starEach [e] X.env = [(false, eval e X.env)] := by rfl) : PE X (.Call (.Attribute o "join" apos) [e] [] pos) (tJoinK K to te) := by
  subst hK
  exact pe_join ho he (hs := hst) (hbase := hbase) (hline := hline)
theorem i_joinK {K : PySem.W.Frag} {to te : TE} {σ : St} {H : Hp} {Q : VK} (h : to σ H fun x H1 => (∃ a, x = .str a) ∧ te σ H1 fun y H2 => ∃ (a : Str) (p : Addr) (ys : List Str), x = .str a ∧ [y] = [.ref p] ∧ (SqL K H2 p (ys.map V.str) ∨ SqT K H2 p (ys.map V.str)) ∧ (ys.map (·.length)).sum + ys.length * a.length ≤ 16777216 ∧ Q (.str (Txt.join a ys)) H2) : tJoinK K to te σ H Q := h
theorem i_joinA {a : Str} {R : Prop} (h : R) : (∃ b, V.str a = .str b) ∧ R := ⟨⟨a, rfl⟩, h⟩
theorem i_joinR {K : PySem.W.Frag} {H : Hp} {R : Str → List Str → Prop} {a : Str} {p : Addr} {ys : List Str} (h1 : SqL K H p (ys.map V.str) ∨ SqT K H p (ys.map V.str)) (h2 : (ys.map (·.length)).sum + ys.length * a.length ≤ 16777216) (h : R a ys) :
    ∃ (b : Str) (q : Addr) (zs : List Str), V.str a = .str b ∧ [V.ref p] = [.ref q] ∧ (SqL K H q (zs.map V.str) ∨ SqT K H q (zs.map V.str)) ∧ (zs.map (·.length)).sum + zs.length * b.length ≤ 16777216 ∧ R b zs := ⟨a, p, ys, rfl, rfl, h1, h2, h⟩
def tFs (ts : List TE) : TE := fun σ H Q => tJs ts Str.empty σ H fun out H1 => Q (.str out) H1
theorem pe_fs {X : Cx} {v1 v2 : Expr} {rest : List Expr} {ts : List TE} {pos : Pos} (h : PJ X (v1 :: v2 :: rest) ts) : PE X (.JoinedStr (v1 :: v2 :: rest) pos) (tFs ts) := pe_joined h
section
variable {σ : St} {H : Hp} {Q : VK} {t te : TE} {ts : List TE} {acc z : Str} {R : Str → Hp → Prop}
theorem i_fs (h : tJs ts Str.empty σ H fun out H1 => Q (.str out) H1) : tFs ts σ H Q := h
theorem i_js0 (h : R acc H) : tJs [] acc σ H R := h
theorem i_js1 (h : t σ H fun x H1 => ∃ y : Str, x = .str y ∧ (acc ++ y).length ≤ sizeLine ∧ tJs ts (acc ++ y) σ H1 R) : tJs (t :: ts) acc σ H R := h
theorem i_jsS (h1 : (acc ++ z).length ≤ sizeLine) (h : tJs ts (acc ++ z) σ H R) : ∃ y : Str, V.str z = .str y ∧ (acc ++ y).length ≤ sizeLine ∧ tJs ts (acc ++ y) σ H R := ⟨z, rfl, h1, h⟩
theorem i_fmt (h : te σ H fun x H1 => (∃ y : Str, x = .str y ∧ y.length ≤ sizeLine ∧ Q (.str y) H1) ∨ ∃ i : Int, x = .int i ∧ i.natAbs.log2 < 1920 ∧ Q (.str (numT i)) H1) : tFmt te σ H Q := h
theorem i_fmtS {S : Str → Prop} {L : Prop} (h1 : z.length ≤ sizeLine) (h : S z) : (∃ y : Str, V.str z = .str y ∧ y.length ≤ sizeLine ∧ S y) ∨ L := .inl ⟨z, rfl, h1, h⟩
end
theorem numT_len {n : Int} (h0 : 0 ≤ n) (h : n < 10 ^ 40) : (numT n).length ≤ 40 := PyProof.Rows.toString_length_le h0 (by decide) h
theorem num_log {n : Int} (h0 : 0 ≤ n) (h : n < 10 ^ 40) : n.natAbs.log2 < 1920 := by
  have h1 : n.natAbs < 2 ^ 140 := by
    have : (10 : Int) ^ 40 < 2 ^ 140 := by decide
    omega
  have : n.natAbs.log2 < 140 := by
    by_cases hz : n.natAbs = 0
    · rw [hz]; decide
    · exact (Nat.log2_lt hz).mpr h1
  omega
/-- the texts of a row of numbers -/
def numsT (ns : List Int) : List Str := ns.map numT
theorem numsT_sum : ∀ {ns : List Int}, (∀ n ∈ ns, 0 ≤ n ∧ n < 10 ^ 40) → ((numsT ns).map (·.length)).sum ≤ ns.length * 40
  | [], _ => Nat.le_refl _
  | n :: ns, h => by
    have h1 := numT_len (h n List.mem_cons_self).1 (h n List.mem_cons_self).2
    have h2 := numsT_sum (ns := ns) fun x hx => h x (List.mem_cons_of_mem _ hx)
    show (numT n).length + ((numsT ns).map (·.length)).sum ≤ (ns.length + 1) * 40
    omega
theorem joinT_len {ns : List Int} {sep : Str} (h : ∀ n ∈ ns, 0 ≤ n ∧ n < 10 ^ 40) (hl : ns.length ≤ 5) (hs : sep.length ≤ 2) : (Txt.join sep (numsT ns)).length ≤ 300 := by
  rw [show Txt.join sep (numsT ns) = Str.join sep (numsT ns) from StrLaws.glued_eq_join sep _]
  have h1 := StrLaws.join_length_le sep (numsT ns)
  have h2 := numsT_sum h
  have h3 : (numsT ns).length = ns.length := List.length_map ..
  rw [h3] at h1
  have h4 : ns.length * sep.length ≤ 5 * 2 := Nat.mul_le_mul hl hs
  omega
theorem joinT_ok {ns : List Int} {sep : Str} (h : ∀ n ∈ ns, 0 ≤ n ∧ n < 10 ^ 40) (hl : ns.length ≤ 5) (hs : sep.length ≤ 2) : ((numsT ns).map (·.length)).sum + (numsT ns).length * sep.length ≤ 16777216 := by
  have h2 := numsT_sum h
  have h3 : (numsT ns).length = ns.length := List.length_map ..
  rw [h3]
  have h4 : ns.length * sep.length ≤ 5 * 2 := Nat.mul_le_mul hl hs
  omega
/-- two readings of one operator -/
def r2or (r1 r2 : R2) : R2 := fun x y H Q => r1 x y H Q ∨ r2 x y H Q
theorem opr_or {X : Cx} {o : Value → Value → Sem Value} {r1 r2 : R2} (h1 : OpR X o r1) (h2 : OpR X o r2) : OpR X o (r2or r1 r2) := by
  intro pins s σ H x y v u Q I rx ry h
  rcases h with h | h
  · exact h1 pins s σ H x y v u Q I rx ry h
  · exact h2 pins s σ H x y v u Q I rx ry h
theorem i_or1 {r1 r2 : R2} {x y : V} {H : Hp} {Q : VK} (h : r1 x y H Q) : r2or r1 r2 x y H Q := .inl h
theorem i_or2 {r1 r2 : R2} {x y : V} {H : Hp} {Q : VK} (h : r2 x y H Q) : r2or r1 r2 x y H Q := .inr h
end My
/-! a dict of the module with text keys; a call of a def that a name or an item holds -/
namespace My
open PySem L2
def KDc (K : PySem.W.Frag) (w : World) (a : Addr) (x : Str) (v : V) : Prop := KDct K w a x v ∧ (a == sysModules) = false
def rInKd (K : PySem.W.Frag) (w : World) : R2 := fun x y H Q => ∃ p z v, x = .str z ∧ y = .ref p ∧ KDc K w p z v ∧ Q (.bl true) H
def rNotInKd (K : PySem.W.Frag) (w : World) : R2 := fun x y H Q => ∃ p z v, x = .str z ∧ y = .ref p ∧ KDc K w p z v ∧ Q (.bl false) H
def rIxKd (K : PySem.W.Frag) (w : World) : R2 := fun x y H Q => ∃ p z v, x = .ref p ∧ y = .str z ∧ KDc K w p z v ∧ Q v H
section
variable {X : Cx} {K : PySem.W.Frag}
theorem op_inKd {w : World} (hK : X.K = K := by rfl) (hW : X.w = w := by rfl) : OpR X (compareOp .In) (rInKd K w) := by
  subst hK hW
  intro pins s σ H x y v u Q I rx ry h
  obtain ⟨p, z, r, rfl, rfl, ⟨⟨es, n, u0, hl, hk, e, ru⟩, hd⟩, q⟩ := h
  exact op_in_kd ⟨hl, hk, hd⟩ pins s σ H _ _ v u Q I rx ry ⟨z, _, rfl, rfl, e, q⟩
theorem op_notInKd {w : World} (hK : X.K = K := by rfl) (hW : X.w = w := by rfl) : OpR X (compareOp .NotIn) (rNotInKd K w) := by
  subst hK hW
  intro pins s σ H x y v u Q I rx ry h
  obtain ⟨p, z, r, rfl, rfl, ⟨⟨es, n, u0, hl, hk, e, ru⟩, hd⟩, q⟩ := h
  exact op_notIn_kd ⟨hl, hk, hd⟩ pins s σ H _ _ v u Q I rx ry ⟨z, _, rfl, rfl, e, q⟩
theorem ix_Kd {w : World} (hK : X.K = K := by rfl) (hW : X.w = w := by rfl) : IxR X (rIxKd K w) := by
  subst hK hW
  intro value slice pins s σ H x y v u Q I rx ry h hs
  obtain ⟨p, z, r, rfl, rfl, D, q⟩ := h
  exact ix_kdict value slice pins s σ H _ _ v u Q I rx ry ⟨p, z, r, rfl, rfl, D.1, q⟩ hs
theorem i_inKd {w : World} {H : Hp} {Q : VK} {p : Addr} {z : Str} {v : V} (h1 : KDc K w p z v) (h : Q (.bl true) H) : rInKd K w (.str z) (.ref p) H Q := ⟨p, z, v, rfl, rfl, h1, h⟩
theorem i_notInKd {w : World} {H : Hp} {Q : VK} {p : Addr} {z : Str} {v : V} (h1 : KDc K w p z v) (h : Q (.bl false) H) : rNotInKd K w (.str z) (.ref p) H Q := ⟨p, z, v, rfl, rfl, h1, h⟩
theorem i_ixKd {w : World} {H : Hp} {Q : VK} {p : Addr} {z : Str} {v : V} (h1 : KDc K w p z v) (h : Q v H) : rIxKd K w (.ref p) (.str z) H Q := ⟨p, z, v, rfl, rfl, h1, h⟩
/-- the i-th slot holds one of some defs -/
def tCallR (i : Nat) (S : Addr → Sp → Prop) (t : TA) : TE := fun σ H Q => ∃ f sp, σ[i]? = some (some (.ref f)) ∧ S f sp ∧ t σ H fun vs H1 => sp vs H1 Q (fun _ _ _ => False)
theorem pe_callR {k i : Nat} {x : Str} {p pos : Pos} {e : Expr} {es : List Expr} {t : TA} {S : Addr → Sp → Prop} (A : ∀ f sp, S f sp → Held X.prog X.w X.K X.mg X.base k f sp) (hr : Room k X.A) (hN : X.N[i]? = some x) (hv : Vis X.env.scope x) (ha : PA X (e :: es) t)
    (hdb : (x == ("__debug__" : Str)) = false := by decide) (hcd : (x == ("__classdict__" : Str)) = false := by decide)
    (he : starEach (e :: es) X.env = (false, eval e X.env) :: starEach es X.env := by rfl) (hpl : (backTo pos (starEach es X.env)).any (·.1) = false := by rfl) : PE X (.Call (.Name x p) (e :: es) [] pos) (tCallR i S t) := by
  refine ⟨fun pins s σ H Q I h => ?_⟩
  obtain ⟨f, sp, hs, hS, ht⟩ := h
  obtain ⟨fd, ps, F, hk, hb⟩ := (A f sp hS).ex
  refine (pe_callL (i := i) (f := f) (sp := sp) (dvs := []) (E := fun _ _ _ => False) F hr hN hv hk hb .nil (fun _ _ _ _ _ _ _ z => z.elim) ha hdb hcd he hpl).run pins s σ H Q I ⟨hs, ?_⟩
  have e0 : (fun (vs : List V) (H1 : Hp) => sp (vs ++ []) H1 Q (fun _ _ _ => False)) = fun vs H1 => sp vs H1 Q (fun _ _ _ => False) := by
    funext vs H1
    rw [List.append_nil]
  show t σ H (fun vs H1 => sp (vs ++ []) H1 Q (fun _ _ _ => False))
  rw [e0]
  exact ht
theorem i_callR {i : Nat} {S : Addr → Sp → Prop} {t : TA} {σ : St} {H : Hp} {Q : VK} {f : Addr} (sp : Sp) (h1 : σ[i]? = some (some (.ref f))) (h2 : S f sp) (h : t σ H fun vs H1 => sp vs H1 Q (fun _ _ _ => False)) : tCallR i S t σ H Q := ⟨f, sp, h1, h2, h⟩
end
end My
/-! [.. for x in xs if ..]: of each place what f says, or nothing -/
namespace My
open PySem L2
theorem lc_fil {α : Type} {J : It} {G : Hp → Prop} {g : TG} {tt : TT} {te : TE} {vs : List Nat} {σ : L2.St} {H1 : Hp} {D : Addr} {Qd : Hp → Prop} {n : Nat} (at_ : Nat → V → Prop) (f : Nat → Option α) (R : Hp → V → α → Prop) (mono : ∀ H H' y c acc, H D = some (.lst acc) → SameBut D H H' → R H y c → R H' y c)
    (w : Walk J n G fun i H x H' => H' = H ∧ at_ i x) (hl : n < sizeLine) (hG : ∀ H, Same H1 H → G H) (hD : H1 D = none)
    (hs : ∀ i x, i < n → at_ i x → ∀ H (Q : VK) (Rr : Hp → Prop), Same H1 H → (∃ acc, H D = some (.lst acc)) → (∀ c, f i = some c → ∀ y H', Same H H' → R H' y c → Q y H') → (f i = none → ∀ H', Same H H' → Rr H') →
      g x (wipe σ vs) H fun σ2 H2 => wipe σ2 vs = wipe σ vs ∧ tt σ2 H2 fun b H3 => if b = true then te σ2 H3 Q else Rr H3)
    (hd : ∀ H (ys : List V), Same H1 H → H D = some (.lst ys) → All2 (R H) ys ((List.range n).filterMap f) → Qd H) :
    ∃ W : Nat → Nat → Hp → Prop, (∃ m, W 0 m (upd H1 D (.lst []))) ∧ ∀ i m H, W i m H →
      (J.stop i H ∧ Qd H) ∨ (J.go i H ∧ ∃ Nx : Hp → Prop, (∀ H', Nx H' → ∃ m', m' < m ∧ W (i + 1) m' H') ∧ ∀ x H', J.yld i H x H' → g x (wipe σ vs) H' fun σ2 H2 => wipe σ2 vs = wipe σ vs ∧ tt σ2 H2 fun b H3 =>
        if b = true then te σ2 H3 fun y H4 => ∃ acc, H4 D = some (.lst acc) ∧ acc.length < sizeLine ∧ Nx (upd H4 D (.lst (acc ++ [y]))) else Nx H3) := by
  have sb : ∀ {H o}, Same H1 H → Same H1 (upd H D o) := fun {H o} s b u e => by
    rw [upd_ne (ne_of_none e hD)]
    exact s b u e
  refine lc_it w (fun i H => Same H1 H ∧ ∃ ys, H D = some (.lst ys) ∧ ys.length ≤ i ∧ All2 (R H) ys ((List.range i).filterMap f)) ⟨sb (Same.refl H1), [], upd_same, Nat.le_refl _, All2.nil⟩ (fun i H _ h => hG H h.1) ?_ ?_
  · rintro i v H H' hi ⟨s1, ys, e2, e3, e4⟩ ⟨rfl, hx⟩
    refine hs i v hi hx H' _ _ s1 ⟨ys, e2⟩ (fun c hc z H4 s4 hz => ?_) (fun hn H4 s4 => ?_)
    · have e5 := s4 _ _ e2
      have sD : SameBut D H4 (upd H4 D (.lst (ys ++ [z]))) := SameBut.upd _ _ _
      refine ⟨ys, e5, Nat.lt_of_le_of_lt (Nat.le_trans e3 (Nat.le_of_lt hi)) hl, sb (s1.trans s4), _, upd_same, by rw [List.length_append]; show ys.length + 1 ≤ i + 1; omega, ?_⟩
      rw [List.range_succ, List.filterMap_append, List.filterMap_cons, hc]
      refine All2.append (e4.mono fun u w h => mono _ _ _ _ _ e5 sD (mono _ _ _ _ _ e2 (SameBut.of s4) h)) (All2.cons (mono _ _ _ _ _ e5 sD hz) All2.nil)
    · refine ⟨s1.trans s4, ys, s4 _ _ e2, by omega, ?_⟩
      rw [List.range_succ, List.filterMap_append, List.filterMap_cons, hn, List.filterMap_nil, List.append_nil]
      exact e4.mono fun u w h => mono _ _ _ _ _ e2 (SameBut.of s4) h
  · rintro H ⟨s1, ys, e2, e3, e4⟩
    exact hd H ys s1 e2 e4
theorem range_filter {α : Type} (P : α → Bool) (as : List α) : (List.range as.length).filterMap (fun i => (as[i]?).filter P) = as.filter P := by
  have key : ∀ (bs : List α), (List.range bs.length).filterMap (fun i => (bs[i]?).filter P) = bs.filter P := by
    intro bs
    induction bs with
    | nil => rfl
    | cons b bs ih =>
      rw [List.length_cons, List.range_succ_eq_map, List.filterMap_cons, List.filterMap_map]
      have e : (fun i => ((b :: bs)[i]?).filter P) ∘ Nat.succ = fun i => (bs[i]?).filter P := by
        funext i
        simp
      rw [e, ih]
      cases h : P b <;> simp [Option.filter, h]
  exact key as
/-- things that stay what they are -/
structure Stays {α : Type} (R : Hp → V → α → Prop) : Prop where
  but : ∀ {D H H' y c acc}, H D = some (.lst acc) → SameBut D H H' → R H y c → R H' y c
  same : ∀ {H H' y c}, Same H H' → R H y c → R H' y c
section
variable {α : Type} {K : PySem.W.Frag} {a : Addr} {xs : List V} {as : List α} {g : TG} {tt : TT} {te : TE} {vs : List Nat} {σ : L2.St} {H1 : Hp} {D : Addr} {Qd : Hp → Prop}
/-- [x for x in xs if ..] -/
theorem lc_filL (R : Hp → V → α → Prop) (P : α → Bool) (st : Stays R) (h0 : SqL K H1 a xs) (hx : All2 (R H1) xs as) (hD : H1 D = none) (hl : xs.length ≤ 1000)
    (hs : ∀ x c, c ∈ as → ∀ H (Q : VK) (Rr : Hp → Prop), Same H1 H → R H x c → (∃ acc, H D = some (.lst acc)) → (P c = true → ∀ H', Same H H' → Q x H') → (P c = false → ∀ H', Same H H' → Rr H') →
      g x (wipe σ vs) H fun σ2 H2 => wipe σ2 vs = wipe σ vs ∧ tt σ2 H2 fun b H3 => if b = true then te σ2 H3 Q else Rr H3)
    (hd : ∀ H (ys : List V), Same H1 H → H D = some (.lst ys) → All2 (R H) ys (as.filter P) → Qd H) :
    ∃ W : Nat → Nat → Hp → Prop, (∃ m, W 0 m (upd H1 D (.lst []))) ∧ ∀ i m H, W i m H →
      ((Itl K a).stop i H ∧ Qd H) ∨ ((Itl K a).go i H ∧ ∃ Nx : Hp → Prop, (∀ H', Nx H' → ∃ m', m' < m ∧ W (i + 1) m' H') ∧ ∀ x H', (Itl K a).yld i H x H' → g x (wipe σ vs) H' fun σ2 H2 => wipe σ2 vs = wipe σ vs ∧ tt σ2 H2 fun b H3 =>
        if b = true then te σ2 H3 fun y H4 => ∃ acc, H4 D = some (.lst acc) ∧ acc.length < sizeLine ∧ Nx (upd H4 D (.lst (acc ++ [y]))) else Nx H3) := by
  refine lc_fil (fun i x => xs[i]? = some x) (fun i => (as[i]?).filter P) R (fun H H' y c acc e s h => st.but e s h) walk_list (small1000 hl) (fun _ s => Same.seq s h0) hD (fun i x _ hi H Q Rr s1 hacc k1 k2 => ?_) (fun H ys s1 e1 e2 => hd H ys s1 e1 (by rw [hx.1, range_filter] at e2; exact e2))
  obtain ⟨c, hc, r⟩ := hx.get hi
  have r1 := st.same s1 r
  refine hs x c (List.mem_of_getElem? hc) H Q Rr s1 r1 hacc (fun p H' s' => k1 c (by show (as[i]?).filter P = some c; rw [hc]; simp [Option.filter, p]) x H' s' (st.same s' r1)) (fun p H' s' => k2 (by show (as[i]?).filter P = none; rw [hc]; simp [Option.filter, p]) H' s')
theorem lc_filT (R : Hp → V → α → Prop) (P : α → Bool) (st : Stays R) (h0 : SqT K H1 a xs) (hx : All2 (R H1) xs as) (hD : H1 D = none) (hl : xs.length ≤ 1000)
    (hs : ∀ x c, c ∈ as → ∀ H (Q : VK) (Rr : Hp → Prop), Same H1 H → R H x c → (∃ acc, H D = some (.lst acc)) → (P c = true → ∀ H', Same H H' → Q x H') → (P c = false → ∀ H', Same H H' → Rr H') →
      g x (wipe σ vs) H fun σ2 H2 => wipe σ2 vs = wipe σ vs ∧ tt σ2 H2 fun b H3 => if b = true then te σ2 H3 Q else Rr H3)
    (hd : ∀ H (ys : List V), Same H1 H → H D = some (.lst ys) → All2 (R H) ys (as.filter P) → Qd H) :
    ∃ W : Nat → Nat → Hp → Prop, (∃ m, W 0 m (upd H1 D (.lst []))) ∧ ∀ i m H, W i m H →
      ((Itt K a).stop i H ∧ Qd H) ∨ ((Itt K a).go i H ∧ ∃ Nx : Hp → Prop, (∀ H', Nx H' → ∃ m', m' < m ∧ W (i + 1) m' H') ∧ ∀ x H', (Itt K a).yld i H x H' → g x (wipe σ vs) H' fun σ2 H2 => wipe σ2 vs = wipe σ vs ∧ tt σ2 H2 fun b H3 =>
        if b = true then te σ2 H3 fun y H4 => ∃ acc, H4 D = some (.lst acc) ∧ acc.length < sizeLine ∧ Nx (upd H4 D (.lst (acc ++ [y]))) else Nx H3) := by
  refine lc_fil (fun i x => xs[i]? = some x) (fun i => (as[i]?).filter P) R (fun H H' y c acc e s h => st.but e s h) walk_tup (small1000 hl) (fun _ s => SqT.same s h0) hD (fun i x _ hi H Q Rr s1 hacc k1 k2 => ?_) (fun H ys s1 e1 e2 => hd H ys s1 e1 (by rw [hx.1, range_filter] at e2; exact e2))
  obtain ⟨c, hc, r⟩ := hx.get hi
  have r1 := st.same s1 r
  refine hs x c (List.mem_of_getElem? hc) H Q Rr s1 r1 hacc (fun p H' s' => k1 c (by show (as[i]?).filter P = some c; rw [hc]; simp [Option.filter, p]) x H' s' (st.same s' r1)) (fun p H' s' => k2 (by show (as[i]?).filter P = none; rw [hc]; simp [Option.filter, p]) H' s')
end
theorem all2_int : ∀ {ys : List V} {ks : List Nat}, All2 (fun y (k : Nat) => y = V.int k) ys ks → ys = ks.map fun k => V.int (k : Nat)
  | [], [], _ => rfl
  | y :: ys, k :: ks, h => by
    have e := h.2 0 y k rfl rfl
    have t := all2_int (ys := ys) (ks := ks) ⟨Nat.succ.inj h.1, fun i a b ha hb => h.2 (i + 1) a b ha hb⟩
    rw [List.map_cons, ← t, e]
  | [], _ :: _, h => nomatch h.1
  | _ :: _, [], h => nomatch h.1
theorem fm_if (P : Nat → Bool) : ∀ l : List Nat, l.filterMap (fun i => if P i = true then some i else none) = l.filter P
  | [] => rfl
  | x :: l => by
    rw [List.filterMap_cons, fm_if P l, List.filter_cons]
    cases h : P x <;> simp
/-- [k for k in range(n) if ..] -/
theorem lc_filR {g : TG} {tt : TT} {te : TE} {vs : List Nat} {σ : L2.St} {H1 : Hp} {D : Addr} {Qd : Hp → Prop} {n : Nat} (P : Nat → Bool) (hl : n ≤ 1000) (hD : H1 D = none)
    (hs : ∀ i, i < n → ∀ H (Q : VK) (Rr : Hp → Prop), Same H1 H → (∃ acc, H D = some (.lst acc)) → (P i = true → ∀ H', Same H H' → Q (.int (i : Nat)) H') → (P i = false → ∀ H', Same H H' → Rr H') →
      g (.int (0 + i)) (wipe σ vs) H fun σ2 H2 => wipe σ2 vs = wipe σ vs ∧ tt σ2 H2 fun b H3 => if b = true then te σ2 H3 Q else Rr H3)
    (hd : ∀ H, Same H1 H → H D = some (.lst (((List.range n).filter P).map fun k => V.int (k : Nat))) → Qd H) :
    ∃ W : Nat → Nat → Hp → Prop, (∃ m, W 0 m (upd H1 D (.lst []))) ∧ ∀ i m H, W i m H →
      ((Itr 0 n).stop i H ∧ Qd H) ∨ ((Itr 0 n).go i H ∧ ∃ Nx : Hp → Prop, (∀ H', Nx H' → ∃ m', m' < m ∧ W (i + 1) m' H') ∧ ∀ x H', (Itr 0 n).yld i H x H' → g x (wipe σ vs) H' fun σ2 H2 => wipe σ2 vs = wipe σ vs ∧ tt σ2 H2 fun b H3 =>
        if b = true then te σ2 H3 fun y H4 => ∃ acc, H4 D = some (.lst acc) ∧ acc.length < sizeLine ∧ Nx (upd H4 D (.lst (acc ++ [y]))) else Nx H3) := by
  refine lc_fil (fun i x => x = V.int (0 + i)) (fun i => if P i = true then some i else none) (fun _ y (k : Nat) => y = V.int k) (fun H H' y c acc e s h => h) walk_range (small1000 hl) (fun _ _ => trivial) hD (fun i x hi hx H Q Rr s1 hacc k1 k2 => ?_) (fun H ys s1 e1 e2 => hd H s1 (by rw [fm_if] at e2; rw [e1, all2_int e2]))
  subst hx
  refine hs i hi H Q Rr s1 hacc (fun p H' s' => k1 i (by rw [if_pos p]) _ H' s' rfl) (fun p H' s' => k2 (by rw [if_neg (by rw [p]; decide)]) H' s')
end My
/-! dicts with tuple keys, lists of ids, locks; the model of a history -/
namespace My
open PySem L2
section
variable {X : Cx} {K : PySem.W.Frag}
theorem unit65 {k : Nat} {A : Around} (r : Room k A) : A.units + 65 < cLine := by have := r.un; omega
theorem op_inDK (hu : X.A.units + 65 < cLine) (hK : X.K = K := by rfl) : OpR X (compareOp .In) (rInD K) := by
  subst hK
  exact op_inD hu
theorem op_notInDK (hu : X.A.units + 65 < cLine) (hK : X.K = K := by rfl) : OpR X (compareOp .NotIn) (rNotInD K) := by
  subst hK
  exact op_notInD hu
def tIdx (K : PySem.W.Frag) (to : TE) (A : TA) : TE := tBM K "list" (rIndexD K) to A
theorem pe_idxK {e : Expr} {to : TE} {t : TA} (h : PE X e (tBM X.K "list" (rIndexD X.K) to t)) (hK : X.K = K := by rfl) : PE X e (tIdx K to t) := by
  subst hK
  exact h
end
section
variable {K : PySem.W.Frag} {σ : St} {H : Hp} {Q : VK} {to td te : TE} {A : TA} {D : Ends}
theorem i_idx (h : to σ H fun x H1 => tyV K "list" x H1 ∧ A σ H1 fun vs H2 => rIndexD K x vs H2 Q) : tIdx K to A σ H Q := h
theorem i_lock {t : TS} {d : Addr} {u : HO} (h1 : H d = some u) (mu : Mut (some u)) (h : ∀ od HN, SameBut d H HN → HN d = some (.frz od u) → t ⟨fun σ' H' => H' d = some (.frz od u) ∧ D.nx σ' (upd H' d u), fun v H' => H' d = some (.frz od u) ∧ D.rt v (upd H' d u), fun σ' H' => H' d = some (.frz od u) ∧ D.bk σ' (upd H' d u), fun σ' H' => H' d = some (.frz od u) ∧ D.ct σ' (upd H' d u)⟩ σ HN) : tLock t D σ H :=
  ⟨d, u, h1, mu, fun od => h od _ (SameBut.upd _ _ _) upd_same⟩
theorem i_lockE {t : TE} {d : Addr} {u : HO} (h1 : H d = some u) (mu : Mut (some u)) (h : ∀ od HN, SameBut d H HN → HN d = some (.frz od u) → t σ HN fun v H' => H' d = some (.frz od u) ∧ Q v (upd H' d u)) : tLockE t σ H Q :=
  ⟨d, u, h1, mu, fun od => h od _ (SameBut.upd _ _ _) upd_same⟩
/-- what a lock leaves -/
theorem lock_same {HN H' : Hp} {d : Addr} {u : HO} (h1 : H d = some u) (s1 : SameBut d H HN) (s2 : Same HN H') : Same H (upd H' d u) := by
  intro b o e
  by_cases h : b = d
  · subst h
    rw [upd_same, ← h1, e]
  · rw [upd_ne h]
    exact s2 _ _ (s1 _ _ h e)
theorem i_keys {R : It → Hp → Prop} (h : td σ H fun x H1 => ∃ d o, x = .ref d ∧ ((∃ kvs, H1 d = some (.frz o (.dK kvs)) ∧ R (Itk d o kvs) H1) ∨ ∃ kvs, H1 d = some (.frz o (.dT kvs)) ∧ R (Itkt d o kvs) H1)) : iKeys td σ H R := h
theorem i_lenD {p : Addr} {kvs : List (List Key × V)} (h1 : H p = some (.dT kvs)) (h : Q (.int kvs.length) H) : rLenT [.ref p] H Q := ⟨p, kvs, rfl, h1, h⟩
theorem i_dget (h : td σ H fun x H1 => te σ H1 fun y H2 => ∃ a v, x = .ref a ∧ DGet H2 a y (some v) ∧ Q v H2) : tDGet td te σ H Q := h
theorem i_dgS {p : Addr} {kvs : List (Key × V)} {z : Str} {v : V} {R : V → Prop} (h1 : H p = some (.dK kvs)) (h2 : valV kvs (.inr z) = some v) (h : R v) : ∃ a v, V.ref p = .ref a ∧ DGet H a (.str z) (some v) ∧ R v := ⟨p, v, rfl, h2 ▸ .k (k := .inr z) h1, h⟩
section
variable {c w' g t : V}
theorem dg_causes : valV [((.inr "causes" : Key), c), (.inr "words", w'), (.inr "got", g), (.inr "told", t)] (.inr "causes") = some c := rfl
theorem dg_words : valV [((.inr "causes" : Key), c), (.inr "words", w'), (.inr "got", g), (.inr "told", t)] (.inr "words") = some w' := rfl
theorem dg_got : valV [((.inr "causes" : Key), c), (.inr "words", w'), (.inr "got", g), (.inr "told", t)] (.inr "got") = some g := rfl
theorem dg_told : valV [((.inr "causes" : Key), c), (.inr "words", w'), (.inr "got", g), (.inr "told", t)] (.inr "told") = some t := rfl
end
theorem i_dgT {p b : Addr} {kvs : List (List Key × V)} {k : List Key} {v : V} {R : V → Prop} (h1 : H p = some (.dT kvs)) (h2 : H b = some (.tup (k.map kV))) (h3 : valV kvs k = some v) (h : R v) : ∃ a v, V.ref p = .ref a ∧ DGet H a (.ref b) (some v) ∧ R v := ⟨p, v, rfl, h3 ▸ .t h1 h2, h⟩
theorem i_setDt {p b : Addr} {kvs : List (List Key × V)} {k : List Key} {v : V} {HQ : Hp → Prop} (h1 : H p = some (.dT kvs)) (h2 : H b = some (.tup (k.map kV))) (hl : kvs.length < sizeLine) (h : ∀ HN, SameBut p H HN → HN p = some (.dT (putK kvs k v)) → HQ HN) : rSetD (.ref p) (.ref b) v H HQ :=
  ⟨p, _, rfl, .t h1 h2 hl, h _ (SameBut.upd _ _ _) upd_same⟩
theorem i_lstRg {t : St → Hp → (Int → Int → Hp → Prop) → Prop} (h : t σ H fun a b H1 => RgOk a b ∧ ∀ q, H1 q = none → Q (.ref q) (upd H1 q (.lst (rgV a b)))) : tLstRg t σ H Q := h
theorem i_rg1 {Q : Int → Int → Hp → Prop} (h : te σ H fun x H1 => ∃ n, x = .int n ∧ Q 0 n H1) : tRg1 te σ H Q := h
theorem i_rg1n {R : Int → Prop} {n : Int} (h : R n) : ∃ m, V.int n = .int m ∧ R m := ⟨n, rfl, h⟩
end
theorem rgV_nats (n : Nat) : rgV 0 (n : Int) = (List.range n).map fun k => V.int (k : Nat) := by
  unfold rgV
  rw [Int.sub_zero, Int.toNat_natCast]
  refine List.map_congr_left fun k _ => ?_
  rw [Int.zero_add]
/-! ### ids -/
def idK (z : Int × Int) : List Key := [.inl z.1, .inl z.2]
def idD (z : Int × Int) : PyData := .tuple [.int z.1, .int z.2]
theorem idK_inj {y z : Int × Int} (h : idK y = idK z) : y = z := by
  obtain ⟨a, b⟩ := y
  obtain ⟨c, d⟩ := z
  simp only [idK, List.cons.injEq, Sum.inl.injEq, and_true] at h
  rw [h.1, h.2]
def IdAt (H : Hp) (x : V) (z : Int × Int) : Prop := ∃ q, x = .ref q ∧ H q = some (.tup [.int z.1, .int z.2])
theorem IdAt.keeps {H H' : Hp} {x : V} {z : Int × Int} (k : ∀ b xs, H b = some (.tup xs) → H' b = some (.tup xs)) (h : IdAt H x z) : IdAt H' x z := by
  obtain ⟨q, rfl, h⟩ := h
  exact ⟨q, rfl, k _ _ h⟩
theorem IdAt.same {H H' : Hp} {x : V} {z : Int × Int} (s : Same H H') (h : IdAt H x z) : IdAt H' x z := h.keeps fun _ _ => s _ _
theorem IdAt.dp {K : PySem.W.Frag} {H : Hp} {x : V} {z : Int × Int} (h : IdAt H x z) : Dp K H x (idD z) := by
  obtain ⟨q, rfl, h⟩ := h
  exact .tup (.of h) (.cons (.int _) (.cons (.int _) .nil))
theorem ids_dp {K : PySem.W.Frag} {H : Hp} : ∀ {xs : List V} {l : List (Int × Int)}, All2 (IdAt H) xs l → DpAll K H xs (l.map idD)
  | [], [], _ => .nil
  | x :: xs, z :: l, h => .cons (h.2 0 x z rfl rfl).dp (ids_dp ⟨Nat.succ.inj h.1, fun i a b ha hb => h.2 (i + 1) a b ha hb⟩)
  | [], _ :: _, h => nomatch h.1
  | _ :: _, [], h => nomatch h.1
theorem idD_eqv (y z : Int × Int) : PyData.eqv (idD y) (idD z) = decide (y = z) := by
  obtain ⟨a, b⟩ := y
  obtain ⟨c, d⟩ := z
  have e : PyData.eqv (idD (a, b)) (idD (c, d)) = ((a == c) && ((b == d) && true)) := by simp only [idD, PyData.eqv, PyData.eqvAll]
  rw [e, Bool.and_true, Bool.eq_iff_iff, Bool.and_eq_true, beq_iff_eq, beq_iff_eq, decide_eq_true_iff, Prod.mk.injEq]
theorem idD_shaped (z : Int × Int) : SeqAt.shaped (idD z) = true := by
  show ((idD z).canLay0 && decide ((idD z).depth ≤ 64)) = true
  rw [Bool.and_eq_true]
  exact ⟨by simp [idD, PyData.canLay0, PyData.canLayAll0], decide_eq_true (by simp [idD, PyData.depth, PyData.depthAll])⟩
theorem ids_lay : ∀ l : List (Int × Int), PyData.canLayAll0 (l.map idD) = true
  | [] => by simp [PyData.canLayAll0]
  | z :: l => by simp [PyData.canLayAll0, idD, PyData.canLay0, ids_lay l]
theorem ids_depth : ∀ l : List (Int × Int), PyData.depthAll (l.map idD) ≤ 1
  | [] => by simp [PyData.depthAll]
  | z :: l => by
    have h1 := ids_depth l
    have h2 : (idD z).depth = 1 := by simp [idD, PyData.depth, PyData.depthAll]
    simp only [List.map_cons, PyData.depthAll]
    omega
theorem ids_shaped (l : List (Int × Int)) : SeqAt.shaped (.list (l.map idD)) = true := by
  have h1 := ids_depth l
  show (PyData.canLay0 (.list (l.map idD)) && decide (PyData.depth (.list (l.map idD)) ≤ 64)) = true
  rw [Bool.and_eq_true]
  exact ⟨by simp only [PyData.canLay0]; exact ids_lay l, decide_eq_true (by simp only [PyData.depth]; omega)⟩
theorem ids_any (l : List (Int × Int)) (z : Int × Int) : ((l.map idD).any fun y => PyData.eqv y (idD z)) = decide (z ∈ l) := by
  rw [List.any_map, Bool.eq_iff_iff, List.any_eq_true, decide_eq_true_iff]
  constructor
  · rintro ⟨y, hy, e⟩
    rw [Function.comp_apply, idD_eqv, decide_eq_true_iff] at e
    exact e ▸ hy
  · exact fun h => ⟨z, h, by rw [Function.comp_apply, idD_eqv]; exact decide_eq_true rfl⟩
theorem first_at {α : Type} [DecidableEq α] {z : α} : ∀ {l : List α}, z ∈ l → ∃ j : Nat, l[j]? = some z ∧ ∀ (m : Nat) (y : α), m < j → l[m]? = some y → y ≠ z
  | x :: l, h => by
    by_cases c : x = z
    · exact ⟨0, by rw [c]; rfl, fun m y hm => absurd hm (Nat.not_lt_zero m)⟩
    · obtain ⟨j, h1, h2⟩ := first_at (z := z) (l := l) ((List.mem_cons.mp h).resolve_left fun e => c e.symm)
      refine ⟨j + 1, h1, fun m y hm hy => ?_⟩
      cases m with
      | zero => cases hy; exact c
      | succ m => exact h2 m y (by omega) hy
section
variable {K : PySem.W.Frag} {H : Hp} {Q : VK} {p : Addr} {x : V} {xs : List V} {l : List (Int × Int)} {z : Int × Int}
theorem i_inIds (h1 : SqL K H p xs) (h2 : All2 (IdAt H) xs l) (h3 : IdAt H x z) (h : Q (.bl (decide (z ∈ l))) H) : rInD K x (.ref p) H Q :=
  ⟨idD z, l.map idD, h3.dp, .lst h1 (ids_dp h2), idD_shaped z, ids_shaped l, by rw [ids_any]; exact h⟩
theorem i_ninIds (h1 : SqL K H p xs) (h2 : All2 (IdAt H) xs l) (h3 : IdAt H x z) (h : Q (.bl (!decide (z ∈ l))) H) : rNotInD K x (.ref p) H Q :=
  ⟨idD z, l.map idD, h3.dp, .lst h1 (ids_dp h2), idD_shaped z, ids_shaped l, by rw [ids_any]; exact h⟩
theorem i_idxIds (h1 : SqL K H p xs) (h2 : All2 (IdAt H) xs l) (h3 : IdAt H x z) (h4 : z ∈ l) (h : ∀ j : Nat, Q (.int j) H) : rIndexD K (.ref p) [x] H Q := by
  obtain ⟨j, e1, e2⟩ := first_at h4
  refine ⟨p, x, idD z, l.map idD, j, idD z, rfl, rfl, .lst h1 (ids_dp h2), h3.dp, ids_shaped l, idD_shaped z, by rw [List.getElem?_map, e1]; rfl, by rw [idD_eqv]; exact decide_eq_true rfl, fun m z' hm hz => ?_, h j⟩
  rw [List.getElem?_map, Option.map_eq_some_iff] at hz
  obtain ⟨y, hy, rfl⟩ := hz
  rw [idD_eqv]
  exact decide_eq_false (e2 m y hm hy)
end
/-! ### a dict whose keys are ids -/
theorem val_key {R : V → Prop} : ∀ {ck : List (List Key × V)} {ks : List (Int × Int)} {z : Int × Int}, All2 (fun p z => p.1 = idK z ∧ R p.2) ck ks → z ∈ ks → ∃ v, valV ck (idK z) = some v ∧ R v
  | p :: ck, y :: ks, z, h, hz => by
    obtain ⟨h1, h2⟩ := h.2 0 p y rfl rfl
    by_cases c : y = z
    · subst c
      exact ⟨p.2, by unfold valV; rw [List.find?_cons, decide_eq_true h1]; rfl, h2⟩
    · obtain ⟨v, e1, e2⟩ := val_key (R := R) (ck := ck) (ks := ks) (z := z) ⟨Nat.succ.inj h.1, fun i a b ha hb => h.2 (i + 1) a b ha hb⟩ ((List.mem_cons.mp hz).resolve_left fun e => c e.symm)
      refine ⟨v, ?_, e2⟩
      unfold valV
      rw [List.find?_cons, decide_eq_false (fun e => c (idK_inj (h1.symm.trans e)))]
      exact e1
  | [], _ :: _, _, h, _ => nomatch h.1
  | _ :: _, [], _, h, _ => nomatch h.1
theorem no_key {R : V → Prop} {ck : List (List Key × V)} {ks : List (Int × Int)} {z : Int × Int} (h : All2 (fun p z => p.1 = idK z ∧ R p.2) ck ks) (hz : z ∉ ks) : ∀ p ∈ ck, p.1 ≠ idK z := by
  intro p hp e
  obtain ⟨i, hi⟩ := List.mem_iff_getElem?.mp hp
  obtain ⟨y, hy, h1, _⟩ := h.get hi
  exact hz (idK_inj (h1.symm.trans e) ▸ List.mem_of_getElem? hy)
theorem val_none {R : V → Prop} {ck : List (List Key × V)} {ks : List (Int × Int)} {z : Int × Int} (h : All2 (fun p z => p.1 = idK z ∧ R p.2) ck ks) (hz : z ∉ ks) : valV ck (idK z) = none := by
  unfold valV
  rw [List.find?_eq_none.mpr fun p hp e => no_key h hz p hp (of_decide_eq_true e)]
  rfl
theorem val_some {R : V → Prop} {ck : List (List Key × V)} {ks : List (Int × Int)} {z : Int × Int} (h : All2 (fun p z => p.1 = idK z ∧ R p.2) ck ks) : (valV ck (idK z)).isSome = decide (z ∈ ks) := by
  by_cases c : z ∈ ks
  · obtain ⟨v, e, _⟩ := val_key h c
    rw [e, decide_eq_true c]
    rfl
  · rw [val_none h c, decide_eq_false c]
    rfl
theorem put_new {R : V → Prop} {ck : List (List Key × V)} {ks : List (Int × Int)} {z : Int × Int} {v : V} (h : All2 (fun p z => p.1 = idK z ∧ R p.2) ck ks) (hz : z ∉ ks) : putK ck (idK z) v = ck ++ [(idK z, v)] := by
  unfold putK
  rw [if_neg]
  intro e
  obtain ⟨p, hp, e⟩ := List.any_eq_true.mp e
  exact no_key h hz p hp (of_decide_eq_true e)
theorem put_len {κ : Type} [DecidableEq κ] (ck : List (κ × V)) (k : κ) (v : V) : (putK ck k v).length ≤ ck.length + 1 := by
  unfold putK
  split
  · rw [List.length_map]
    omega
  · rw [List.length_append]
    exact Nat.le_refl _
/-- how many ids have m -/
def cnt (ks : List (Int × Int)) (m : Int) : Nat := (ks.filter fun z => decide (z.1 = m)).length
theorem cnt_snoc {ks : List (Int × Int)} {z : Int × Int} {m : Int} : cnt (ks ++ [z]) m = cnt ks m + if z.1 = m then 1 else 0 := by
  unfold cnt
  rw [List.filter_append, List.length_append, List.filter_cons]
  by_cases c : z.1 = m
  · rw [if_pos (decide_eq_true c), if_pos c]
    rfl
  · rw [if_neg (by simp [c]), if_neg c]
    rfl
/-- the next id of a member -/
def nxt (ks : List (Int × Int)) (i : Int) : Int × Int := (i, 1 + ((cnt ks i : Nat) : Int))
/-! ### the model: causes, words, got, told -/
structure MdV where
  M : Nat
  F : Addr → Prop
  ks : List (Int × Int)
  n : Nat
  c : Addr
  wd : Addr
  g : Addr
  t : Addr
  ck : List (List Key × V)
  wk : List (List Key × V)
  gx : List V
  tx : List V
/-- a list of known ids -/
def LkI (H : Hp) (F : Addr → Prop) (ks : List (Int × Int)) (n : Nat) (x : V) : Prop := ∃ q xs l, x = .ref q ∧ F q ∧ H q = some (.lst xs) ∧ All2 (IdAt H) xs l ∧ (∀ z ∈ l, z ∈ ks) ∧ l.length ≤ n
structure Md (H : Hp) (o : Addr) (m : MdV) : Prop where
  ho : H o = some (.dK [(.inr "causes", .ref m.c), (.inr "words", .ref m.wd), (.inr "got", .ref m.g), (.inr "told", .ref m.t)])
  hc : H m.c = some (.dT m.ck)
  hw : H m.wd = some (.dT m.wk)
  hg : H m.g = some (.lst m.gx)
  ht : H m.t = some (.lst m.tx)
  cw : m.c ≠ m.wd
  fo : m.F o
  fc : m.F m.c
  fw : m.F m.wd
  fg : m.F m.g
  ft : m.F m.t
  fd : ∀ b, m.F b → H b ≠ none
  kc : All2 (fun p z => p.1 = idK z ∧ LkI H m.F m.ks m.n p.2) m.ck m.ks
  lg : m.gx.length = m.M
  kg : ∀ x ∈ m.gx, LkI H m.F m.ks m.n x
  lt : m.tx.length = m.M
  kt : ∀ x ∈ m.tx, LkI H m.F m.ks m.n x
  kw : m.wk.length ≤ m.ks.length
  kk : ∀ z ∈ m.ks, (0 ≤ z.1 ∧ z.1 ≤ (m.M : Int) - 1) ∧ 1 ≤ z.2 ∧ z.2 ≤ cnt m.ks z.1
  kn : m.ks.length ≤ 14
  nn : m.n ≤ 100
  M5 : 2 ≤ m.M ∧ m.M ≤ 5
/-- what stands in F, and all tuples, stay -/
def Kept (F : Addr → Prop) (H H' : Hp) : Prop := ∀ b u, (F b ∨ ∃ xs, u = .tup xs) → H b = some u → H' b = some u
theorem Kept.same {F : Addr → Prop} {H H' : Hp} (s : Same H H') : Kept F H H' := fun b u _ h => s b u h
theorem Kept.but {F : Addr → Prop} {H H' : Hp} {p : Addr} {ys : List V} (hp : H p = some (.lst ys)) (n : ¬ F p) (s : SameBut p H H') : Kept F H H' := by
  intro b u h e
  refine s b u (fun z => ?_) e
  subst z
  rcases h with h | ⟨xs, rfl⟩
  · exact n h
  · rw [hp] at e
    cases e
theorem LkI.kept {F : Addr → Prop} {H H' : Hp} {ks : List (Int × Int)} {n : Nat} {x : V} (k : Kept F H H') (h : LkI H F ks n x) : LkI H' F ks n x := by
  obtain ⟨q, xs, l, rfl, f, e, a, h1, h2⟩ := h
  exact ⟨q, xs, l, rfl, f, k _ _ (.inl f) e, a.mono fun _ _ => IdAt.keeps fun b xs => k _ _ (.inr ⟨xs, rfl⟩), h1, h2⟩
theorem LkI.mono {F F' : Addr → Prop} {H : Hp} {ks ks' : List (Int × Int)} {n n' : Nat} {x : V} (hF : ∀ b, F b → F' b) (hk : ∀ z ∈ ks, z ∈ ks') (hn : n ≤ n') (h : LkI H F ks n x) : LkI H F' ks' n' x := by
  obtain ⟨q, xs, l, rfl, f, e, a, h1, h2⟩ := h
  exact ⟨q, xs, l, rfl, hF _ f, e, a, fun z hz => hk z (h1 z hz), Nat.le_trans h2 hn⟩
section
variable {H H' : Hp} {o : Addr} {m : MdV}
theorem Md.kept (k : Kept m.F H H') (h : Md H o m) : Md H' o m where
  ho := k _ _ (.inl h.fo) h.ho
  hc := k _ _ (.inl h.fc) h.hc
  hw := k _ _ (.inl h.fw) h.hw
  hg := k _ _ (.inl h.fg) h.hg
  ht := k _ _ (.inl h.ft) h.ht
  cw := h.cw
  fo := h.fo
  fc := h.fc
  fw := h.fw
  fg := h.fg
  ft := h.ft
  fd := fun b f e => by
    cases c : H b with
    | none => exact h.fd b f c
    | some u => rw [k b u (.inl f) c] at e; cases e
  kc := h.kc.mono fun _ _ q => ⟨q.1, q.2.kept k⟩
  lg := h.lg
  kg := fun x hx => (h.kg x hx).kept k
  lt := h.lt
  kt := fun x hx => (h.kt x hx).kept k
  kw := h.kw
  kk := h.kk
  kn := h.kn
  nn := h.nn
  M5 := h.M5
theorem Md.same (s : Same H H') (h : Md H o m) : Md H' o m := h.kept (.same s)
theorem LkI.same {F : Addr → Prop} {ks : List (Int × Int)} {n : Nat} {x : V} (s : Same H H') (h : LkI H F ks n x) : LkI H' F ks n x := h.kept (.same s)
theorem Md.out {b : Addr} (h : Md H o m) (n : H b = none) : ¬ m.F b := fun f => h.fd b f n
theorem Md.got (h : Md H o m) {i : Int} (h0 : 0 ≤ i) (h1 : i ≤ (m.M : Int) - 1) : ∃ x, atI m.gx i = some x ∧ LkI H m.F m.ks m.n x := by
  obtain ⟨v, hv, _, e⟩ := atI_in (xs := m.gx) (r := i) h0 (by have := h.lg; omega)
  exact ⟨v, e, h.kg v hv⟩
theorem Md.told (h : Md H o m) {i : Int} (h0 : 0 ≤ i) (h1 : i ≤ (m.M : Int) - 1) : ∃ x, atI m.tx i = some x ∧ LkI H m.F m.ks m.n x := by
  obtain ⟨v, hv, _, e⟩ := atI_in (xs := m.tx) (r := i) h0 (by have := h.lt; omega)
  exact ⟨v, e, h.kt v hv⟩
/-- a list of lists is no list of ids -/
theorem no_row {F : Addr → Prop} {ks : List (Int × Int)} {n : Nat} {g q : Addr} {gx xs : List V} {l : List (Int × Int)} (hg : H g = some (.lst gx)) (hn : 0 < gx.length) (hx : ∀ x ∈ gx, LkI H F ks n x) (hq : H q = some (.lst xs)) (ha : All2 (IdAt H) xs l) : g ≠ q := by
  rintro rfl
  rw [hg] at hq
  cases hq
  obtain ⟨z, _, b, e1, e2⟩ := ha.get (List.getElem?_eq_getElem hn)
  obtain ⟨c, _, _, e3, _, e4, _⟩ := hx _ (List.getElem_mem hn)
  rw [e1] at e3
  cases e3
  rw [e2] at e4
  cases e4
/-- an id more in one of its rows -/
theorem Md.app {q : Addr} {xs : List V} {l : List (Int × Int)} {y : V} {z : Int × Int} (h : Md H o m) (hq : H q = some (.lst xs)) (ha : All2 (IdAt H) xs l) (hy : IdAt H y z) (hz : z ∈ m.ks) (hn : m.n < 100) (s : SameBut q H H') (hq' : H' q = some (.lst (xs ++ [y]))) : Md H' o { m with n := m.n + 1 } := by
  have tp : ∀ b xs, H b = some (.tup xs) → H' b = some (.tup xs) := fun b xs e => s b _ (fun c => by subst c; rw [hq] at e; cases e) e
  have lk : ∀ x, LkI H m.F m.ks m.n x → LkI H' m.F m.ks (m.n + 1) x := by
    rintro x ⟨r, ys, k, rfl, f, e, a, h1, h2⟩
    by_cases c : r = q
    · subst c
      rw [hq] at e
      cases e
      exact ⟨r, _, k ++ [z], rfl, f, hq', All2.append (a.mono fun _ _ => IdAt.keeps tp) (All2.cons (hy.keeps tp) All2.nil), fun w hw => (List.mem_append.mp hw).elim (h1 w) fun hw => by rw [List.mem_singleton.mp hw]; exact hz, by rw [List.length_append]; exact Nat.succ_le_succ h2⟩
    · exact ⟨r, ys, k, rfl, f, s _ _ c e, a.mono fun _ _ => IdAt.keeps tp, h1, Nat.le_succ_of_le h2⟩
  have ng := no_row h.hg (by rw [h.lg]; have := h.M5; omega) h.kg hq ha
  have nt := no_row h.ht (by rw [h.lt]; have := h.M5; omega) h.kt hq ha
  exact {
    ho := s _ _ (ne_of h.ho hq (by simp)) h.ho
    hc := s _ _ (ne_of h.hc hq (by simp)) h.hc
    hw := s _ _ (ne_of h.hw hq (by simp)) h.hw
    hg := s _ _ ng h.hg
    ht := s _ _ nt h.ht
    cw := h.cw
    fo := h.fo
    fc := h.fc
    fw := h.fw
    fg := h.fg
    ft := h.ft
    fd := fun b f e => by
      by_cases c : b = q
      · subst c
        rw [hq'] at e
        cases e
      · cases d : H b with
        | none => exact h.fd b f d
        | some u => rw [s b u c d] at e; cases e
    kc := h.kc.mono fun _ _ q => ⟨q.1, lk _ q.2⟩
    lg := h.lg
    kg := fun x hx => lk _ (h.kg x hx)
    lt := h.lt
    kt := fun x hx => lk _ (h.kt x hx)
    kw := h.kw
    kk := h.kk
    kn := h.kn
    nn := hn
    M5 := h.M5 }
/-- a key more: the next id of a member, its causes the new list at L -/
theorem Md.put {H1 H2 : Hp} {L : Addr} {xs : List V} {l : List (Int × Int)} {i : Int} {v : V} (h : Md H o m) (hL : H L = some (.lst xs)) (nL : ¬ m.F L) (ha : All2 (IdAt H) xs l) (hl : ∀ z ∈ l, z ∈ m.ks) (hn : l.length ≤ m.n) (h0 : 0 ≤ i) (h1 : i ≤ (m.M : Int) - 1) (hk : m.ks.length < 14)
    (s1 : SameBut m.c H H1) (e1 : H1 m.c = some (.dT (putK m.ck (idK (nxt m.ks i)) (.ref L)))) (s2 : SameBut m.wd H1 H2) (e2 : H2 m.wd = some (.dT (putK m.wk (idK (nxt m.ks i)) v))) :
    Md H2 o { m with F := fun b => m.F b ∨ b = L, ks := m.ks ++ [nxt m.ks i], ck := m.ck ++ [(idK (nxt m.ks i), .ref L)], wk := putK m.wk (idK (nxt m.ks i)) v } := by
  have fresh : (nxt m.ks i) ∉ m.ks := fun hz => by
    have := (h.kk _ hz).2.2
    simp only [nxt] at this
    omega
  have st : ∀ b u, b ≠ m.c → b ≠ m.wd → H b = some u → H2 b = some u := fun b u n1 n2 e => s2 b u n2 (s1 b u n1 e)
  have ls : ∀ b xs, H b = some (.lst xs) → H2 b = some (.lst xs) := fun b xs e => st b _ (ne_of e h.hc (by simp)) (ne_of e h.hw (by simp)) e
  have tp : ∀ b xs, H b = some (.tup xs) → H2 b = some (.tup xs) := fun b xs e => st b _ (ne_of e h.hc (by simp)) (ne_of e h.hw (by simp)) e
  have hc1 : H1 m.wd = some (.dT m.wk) := s1 _ _ (Ne.symm h.cw) h.hw
  have hc2 : H2 m.c = some (.dT (putK m.ck (idK (nxt m.ks i)) (.ref L))) := s2 _ _ h.cw e1
  have lk : ∀ x, LkI H m.F m.ks m.n x → LkI H2 (fun b => m.F b ∨ b = L) (m.ks ++ [nxt m.ks i]) m.n x := by
    rintro x ⟨r, ys, k, rfl, f, e, a, h1, h2⟩
    exact ⟨r, ys, k, rfl, .inl f, ls _ _ e, a.mono fun _ _ => IdAt.keeps tp, fun z hz => List.mem_append_left _ (h1 z hz), h2⟩
  exact {
    ho := st _ _ (ne_of h.ho h.hc (by simp)) (ne_of h.ho h.hw (by simp)) h.ho
    hc := by rw [← put_new h.kc fresh]; exact hc2
    hw := e2
    hg := ls _ _ h.hg
    ht := ls _ _ h.ht
    cw := h.cw
    fo := .inl h.fo
    fc := .inl h.fc
    fw := .inl h.fw
    fg := .inl h.fg
    ft := .inl h.ft
    fd := fun b f e => by
      by_cases c1 : b = m.wd
      · subst c1
        rw [e2] at e
        cases e
      by_cases c2 : b = m.c
      · subst c2
        rw [hc2] at e
        cases e
      rcases f with f | rfl
      · cases d : H b with
        | none => exact h.fd b f d
        | some u => rw [st b u c2 c1 d] at e; cases e
      · rw [ls _ _ hL] at e
        cases e
    kc := All2.append (h.kc.mono fun _ _ q => ⟨q.1, lk _ q.2⟩) (All2.cons ⟨rfl, L, xs, l, rfl, .inr rfl, ls _ _ hL, ha.mono fun _ _ => IdAt.keeps tp, fun z hz => List.mem_append_left _ (hl z hz), hn⟩ All2.nil)
    lg := h.lg
    kg := fun x hx => lk _ (h.kg x hx)
    lt := h.lt
    kt := fun x hx => lk _ (h.kt x hx)
    kw := by
      rw [List.length_append]
      exact Nat.le_trans (put_len _ _ _) (Nat.succ_le_succ h.kw)
    kk := fun z hz => by
      rcases List.mem_append.mp hz with hz | hz
      · obtain ⟨a1, a2, a3⟩ := h.kk z hz
        refine ⟨a1, a2, ?_⟩
        show z.2 ≤ ((cnt (m.ks ++ _) z.1 : Nat) : Int)
        rw [cnt_snoc]
        omega
      · rw [List.mem_singleton.mp hz]
        refine ⟨⟨h0, h1⟩, by show (1 : Int) ≤ 1 + _; omega, ?_⟩
        show 1 + ((cnt m.ks i : Nat) : Int) ≤ ((cnt (m.ks ++ _) i : Nat) : Int)
        rw [cnt_snoc, if_pos (show (nxt m.ks i).1 = i from rfl)]
        omega
    kn := by
      rw [List.length_append]
      exact hk
    nn := h.nn
    M5 := h.M5 }
end
/-! ### the keys of a locked dict walked -/
section
variable {R : V → Prop} {d D : Addr} {od : Obj} {kvs : List (List Key × V)} {ks : List (Int × Int)}
theorem key_at {H : Hp} {i : Nat} {x : V} (hk : All2 (fun p z => p.1 = idK z ∧ R p.2) kvs ks) (h : ∃ (k : List Key) (v : V) (q : Addr), kvs[i]? = some (k, v) ∧ x = .ref q ∧ H q = some (.tup (k.map kV))) : ∃ z, ks[i]? = some z ∧ IdAt H x z := by
  obtain ⟨k, v, q, e1, rfl, e2⟩ := h
  obtain ⟨z, hz, e3, _⟩ := hk.get e1
  simp only at e3
  subst e3
  exact ⟨z, hz, q, rfl, e2⟩
/-- [x for x in d if ..], by how many -/
theorem lc_keys {g : TG} {tt : TT} {te : TE} {vs : List Nat} {σ : L2.St} {H1 : Hp} {Qd : Hp → Prop} (P : Int × Int → Bool) (hk : All2 (fun p z => p.1 = idK z ∧ R p.2) kvs ks) (hc : H1 d = some (.frz od (.dT kvs))) (hD : H1 D = none) (hl : ks.length ≤ 1000)
    (hs : ∀ x z, z ∈ ks → ∀ H (Q : VK) (Rr : Hp → Prop), Same H1 H → IdAt H x z → (P z = true → ∀ H', Same H H' → Q x H') → (P z = false → ∀ H', Same H H' → Rr H') →
      g x (wipe σ vs) H fun σ2 H2 => wipe σ2 vs = wipe σ vs ∧ tt σ2 H2 fun b H3 => if b = true then te σ2 H3 Q else Rr H3)
    (hd : ∀ H (ys : List V), Same H1 H → H D = some (.lst ys) → ys.length = (ks.filter P).length → Qd H) :
    ∃ W : Nat → Nat → Hp → Prop, (∃ m, W 0 m (upd H1 D (.lst []))) ∧ ∀ i m H, W i m H →
      ((Itkt d od kvs).stop i H ∧ Qd H) ∨ ((Itkt d od kvs).go i H ∧ ∃ Nx : Hp → Prop, (∀ H', Nx H' → ∃ m', m' < m ∧ W (i + 1) m' H') ∧ ∀ x H', (Itkt d od kvs).yld i H x H' → g x (wipe σ vs) H' fun σ2 H2 => wipe σ2 vs = wipe σ vs ∧ tt σ2 H2 fun b H3 =>
        if b = true then te σ2 H3 fun y H4 => ∃ acc, H4 D = some (.lst acc) ∧ acc.length < sizeLine ∧ Nx (upd H4 D (.lst (acc ++ [y]))) else Nx H3) := by
  have lk : kvs.length = ks.length := hk.1
  have sb : ∀ {H o}, Same H1 H → Same H1 (upd H D o) := fun {H o} s b u e => by
    rw [upd_ne (ne_of_none e hD)]
    exact s b u e
  refine lc_it walk_keysT (fun i H => Same H1 H ∧ ∃ ys, H D = some (.lst ys) ∧ ys.length = ((ks.take i).filter P).length) ⟨sb (Same.refl H1), [], upd_same, rfl⟩ (fun i H _ h => h.1 _ _ hc) ?_ ?_
  · rintro i v H H' hi ⟨s1, ys, e2, e3⟩ ⟨rfl, hx⟩
    obtain ⟨z, hz, ha⟩ := key_at hk hx
    have e4 : (ks.take (i + 1)).filter P = (ks.take i).filter P ++ if P z = true then [z] else [] := by
      rw [List.take_add_one, hz, List.filter_append]
      congr 1
      cases c : P z <;> simp [List.filter_cons, c]
    have b4 : ((ks.take i).filter P).length ≤ i := Nat.le_trans (List.length_filter_le _ _) (List.length_take_le _ _)
    refine hs v z (List.mem_of_getElem? hz) H' _ _ s1 ha (fun hp H4 s4 => ?_) (fun hp H4 s4 => ?_)
    · refine ⟨ys, s4 _ _ e2, small1000 (by omega), sb (s1.trans s4), _, upd_same, ?_⟩
      rw [e4, if_pos hp, List.length_append, List.length_append, e3]
      rfl
    · refine ⟨s1.trans s4, ys, s4 _ _ e2, ?_⟩
      rw [e4, if_neg (by rw [hp]; decide), List.append_nil, e3]
  · rintro H ⟨s1, ys, e2, e3⟩
    exact hd H ys s1 e2 (by rw [e3, lk, List.take_length])
end
/-- [[] for k in range(n)]: new lists -/
theorem lc_new0 {g : TG} {tt : TT} {te : TE} {vs : List Nat} {σ : L2.St} {H1 : Hp} {D : Addr} {Qd : Hp → Prop} {n : Nat} (hl : n ≤ 1000) (hD : H1 D = none)
    (hs : ∀ i, i < n → ∀ H (Q : VK) (Rr : Hp → Prop), Same H1 H → (∀ q HN, H q = none → Same H HN → HN q = some (.lst []) → Q (.ref q) HN) →
      g (.int (0 + i)) (wipe σ vs) H fun σ2 H2 => wipe σ2 vs = wipe σ vs ∧ tt σ2 H2 fun b H3 => if b = true then te σ2 H3 Q else Rr H3)
    (hd : ∀ H (ys : List V), Same H1 H → H D = some (.lst ys) → ys.length = n → (∀ y ∈ ys, ∃ q, y = .ref q ∧ H1 q = none ∧ H q = some (.lst [])) → Qd H) :
    ∃ W : Nat → Nat → Hp → Prop, (∃ m, W 0 m (upd H1 D (.lst []))) ∧ ∀ i m H, W i m H →
      ((Itr 0 n).stop i H ∧ Qd H) ∨ ((Itr 0 n).go i H ∧ ∃ Nx : Hp → Prop, (∀ H', Nx H' → ∃ m', m' < m ∧ W (i + 1) m' H') ∧ ∀ x H', (Itr 0 n).yld i H x H' → g x (wipe σ vs) H' fun σ2 H2 => wipe σ2 vs = wipe σ vs ∧ tt σ2 H2 fun b H3 =>
        if b = true then te σ2 H3 fun y H4 => ∃ acc, H4 D = some (.lst acc) ∧ acc.length < sizeLine ∧ Nx (upd H4 D (.lst (acc ++ [y]))) else Nx H3) := by
  have sb : ∀ {H o}, Same H1 H → Same H1 (upd H D o) := fun {H o} s b u e => by
    rw [upd_ne (ne_of_none e hD)]
    exact s b u e
  refine lc_it walk_range (fun i H => Same H1 H ∧ ∃ ys, H D = some (.lst ys) ∧ ys.length = i ∧ ∀ y ∈ ys, ∃ q, y = .ref q ∧ q ≠ D ∧ H1 q = none ∧ H q = some (.lst [])) ⟨sb (Same.refl H1), [], upd_same, rfl, fun _ h => nomatch h⟩ (fun _ _ _ _ => trivial) ?_ ?_
  · rintro i v H H' hi ⟨s1, ys, e2, e3, e4⟩ ⟨rfl, rfl⟩
    refine hs i hi H' _ _ s1 (fun q HN hq sa hg => ?_)
    have nq : q ≠ D := fun c => by rw [c, e2] at hq; cases hq
    have nq1 : H1 q = none := by
      cases c : H1 q with
      | none => rfl
      | some u => rw [s1 _ _ c] at hq; cases hq
    refine ⟨ys, sa _ _ e2, small1000 (by omega), sb (s1.trans sa), _, upd_same, by rw [List.length_append, e3]; rfl, fun y hy => ?_⟩
    rcases List.mem_append.mp hy with hy | hy
    · obtain ⟨p, rfl, n1, n2, e⟩ := e4 y hy
      exact ⟨p, rfl, n1, n2, by rw [upd_ne n1]; exact sa _ _ e⟩
    · rw [List.mem_singleton.mp hy]
      exact ⟨q, rfl, nq, nq1, by rw [upd_ne nq]; exact hg⟩
  · rintro H ⟨s1, ys, e2, e3, e4⟩
    exact hd H ys s1 e2 e3 fun y hy => let ⟨q, a, _, b, c⟩ := e4 y hy; ⟨q, a, b, c⟩
/-- [x for x in xs if ..], whichever are kept -/
theorem lc_some {α : Type} {K : PySem.W.Frag} {a : Addr} {xs : List V} {as : List α} {g : TG} {tt : TT} {te : TE} {vs : List Nat} {σ : L2.St} {H1 : Hp} {D : Addr} {Qd : Hp → Prop} (R : Hp → V → α → Prop) (st : Stays R) (h0 : SqL K H1 a xs) (hx : All2 (R H1) xs as) (hD : H1 D = none) (hl : xs.length ≤ 1000)
    (hs : ∀ x c, c ∈ as → ∀ H (Q : VK) (Rr : Hp → Prop), Same H1 H → R H x c → (∀ H', Same H H' → Q x H') → (∀ H', Same H H' → Rr H') →
      g x (wipe σ vs) H fun σ2 H2 => wipe σ2 vs = wipe σ vs ∧ tt σ2 H2 fun b H3 => if b = true then te σ2 H3 Q else Rr H3)
    (hd : ∀ H (ys : List V) cs, Same H1 H → H D = some (.lst ys) → All2 (R H) ys cs → (∀ c ∈ cs, c ∈ as) → ys.length ≤ xs.length → Qd H) :
    ∃ W : Nat → Nat → Hp → Prop, (∃ m, W 0 m (upd H1 D (.lst []))) ∧ ∀ i m H, W i m H →
      ((Itl K a).stop i H ∧ Qd H) ∨ ((Itl K a).go i H ∧ ∃ Nx : Hp → Prop, (∀ H', Nx H' → ∃ m', m' < m ∧ W (i + 1) m' H') ∧ ∀ x H', (Itl K a).yld i H x H' → g x (wipe σ vs) H' fun σ2 H2 => wipe σ2 vs = wipe σ vs ∧ tt σ2 H2 fun b H3 =>
        if b = true then te σ2 H3 fun y H4 => ∃ acc, H4 D = some (.lst acc) ∧ acc.length < sizeLine ∧ Nx (upd H4 D (.lst (acc ++ [y]))) else Nx H3) := by
  have sb : ∀ {H o}, Same H1 H → Same H1 (upd H D o) := fun {H o} s b u e => by
    rw [upd_ne (ne_of_none e hD)]
    exact s b u e
  refine lc_it (walk_list (K := K) (a := a) (xs := xs)) (fun i H => Same H1 H ∧ ∃ ys cs, H D = some (.lst ys) ∧ All2 (R H) ys cs ∧ (∀ c ∈ cs, c ∈ as) ∧ ys.length ≤ i) ⟨sb (Same.refl H1), [], [], upd_same, All2.nil, (fun _ h => nomatch h), Nat.le_refl _⟩ (fun i H _ h => Same.seq h.1 h0) ?_ ?_
  · rintro i x H H' hi ⟨s1, ys, cs, e2, e3, e4, e5⟩ ⟨rfl, hxi⟩
    obtain ⟨c, hc, hr⟩ := hx.get hxi
    have hr1 := st.same s1 hr
    refine hs x c (List.mem_of_getElem? hc) H' _ _ s1 hr1 (fun H4 s4 => ?_) (fun H4 s4 => ?_)
    · have e6 := s4 _ _ e2
      have sD : SameBut D H4 (upd H4 D (.lst (ys ++ [x]))) := SameBut.upd _ _ _
      refine ⟨ys, e6, small1000 (by omega), sb (s1.trans s4), _, cs ++ [c], upd_same, All2.append (e3.mono fun _ _ h => st.but e6 sD (st.same s4 h)) (All2.cons (st.but e6 sD (st.same s4 hr1)) All2.nil), fun d hd => ?_, by rw [List.length_append]; exact Nat.succ_le_succ e5⟩
      rcases List.mem_append.mp hd with hd | hd
      · exact e4 d hd
      · rw [List.mem_singleton.mp hd]
        exact List.mem_of_getElem? hc
    · exact ⟨s1.trans s4, ys, cs, s4 _ _ e2, e3.mono fun _ _ h => st.same s4 h, e4, by omega⟩
  · rintro H ⟨s1, ys, cs, e2, e3, e4, e5⟩
    exact hd H ys cs s1 e2 e3 e4 e5
/-- xs[-1:] -/
theorem cut_last {α : Type} {R : V → α → Prop} {xs : List V} {as : List α} (h : All2 R xs as) (h0 : 0 < xs.length) : ∃ bs, All2 R (cutV xs (some (-1)) none) bs ∧ (∀ b ∈ bs, b ∈ as) ∧ (cutV xs (some (-1)) none).length = 1 := by
  have e : cutV xs (some (-1)) none = xs.drop (xs.length - 1) := by
    unfold cutV
    rw [HT.sIx_none, show HT.sIx xs.length 0 (some (-1)) = xs.length - 1 by
      show (if (-1 : Int) < 0 then (-1 + (xs.length : Int)).toNat else min (-1 : Int).toNat xs.length) = _
      rw [if_pos (by decide)]
      omega, List.take_of_length_le (by rw [List.length_drop]; exact Nat.le_refl _)]
  rw [e]
  exact ⟨as.drop (xs.length - 1), h.drop _, fun b hb => List.mem_of_mem_drop hb, by rw [List.length_drop]; omega⟩
theorem ne_F {F : Addr → Prop} {H : Hp} {b q : Addr} {u o : HO} (n : ¬ F b ∨ ∃ xs, u = .tup xs) (e : H b = some u) (f : F q) (hq : H q = some o) (ho : ∀ xs, o ≠ .tup xs) : b ≠ q := by
  rintro rfl
  rcases n with n | ⟨xs, rfl⟩
  · exact n f
  · rw [hq] at e
    exact ho xs (Option.some.inj e)
end My
/-! rows of a history -/
namespace My
open PySem L2
def isWord : V → Bool
  | .str z => decide (1 ≤ z.length) && (decide (z.length ≤ 8) && z.cps.toList.all fun c => decide (c ∈ ("abcdefghijklmnopqrstuvwxyz" : Str).cps.toList))
  | _ => false
/-- a row: a letter sent, one delivered, one told -/
inductive Rw where
  | sent (m : Int) (z : Str)
  | got (m s n : Int)
  | told (m p s n : Int)
deriving DecidableEq
def Rw.vs : Rw → List V
  | .sent m z => [.str "sent", .int m, .str z]
  | .got m s n => [.str "got", .int m, .int s, .int n]
  | .told m p s n => [.str "told", .int m, .int p, .int s, .int n]
def Rw.mem : Rw → Int
  | .sent m _ => m
  | .got m _ _ => m
  | .told m _ _ _ => m
def Rw.sentB : Rw → Bool
  | .sent _ _ => true
  | _ => false
def inR (M x : Int) : Bool := decide (0 ≤ x) && decide (x ≤ M - 1)
/-- can the row be one of so many members -/
def Rw.okB (M : Int) : Rw → Bool
  | .sent m z => inR M m && isWord (.str z)
  | .got m s n => inR M m && (inR M s && decide (1 ≤ n))
  | .told m p s n => inR M m && (decide (1 ≤ p) && (inR M s && decide (1 ≤ n)))
def Rw.sml : Rw → Prop
  | .sent _ z => z.length ≤ 1000
  | _ => True
def RwAt (H : Hp) (x : V) (r : Rw) : Prop := ∃ a, x = .ref a ∧ H a = some (.tup r.vs)
theorem RwAt.stays : Stays RwAt where
  but := by
    rintro D H H' y c acc e s ⟨a, rfl, h⟩
    exact ⟨a, rfl, s a _ (ne_of h e (by simp)) h⟩
  same := by
    rintro H H' y c s ⟨a, rfl, h⟩
    exact ⟨a, rfl, s _ _ h⟩
theorem RwAt.same {H H' : Hp} {x : V} {r : Rw} (s : Same H H') (h : RwAt H x r) : RwAt H' x r := RwAt.stays.same s h
def iS : V → Bool
  | .int _ => true
  | .str _ => true
  | _ => false
theorem EqV.iS {K : PySem.W.Frag} {H : Hp} {n : Nat} {x y : V} (hx : iS x = true) (hy : iS y = true) : EqV K H n x y (decide (x = y)) := by
  cases x <;> first | (cases hx; done) | skip
  all_goals cases y <;> first | (cases hy; done) | skip
  all_goals refine .flat (congrArg some ?_)
  all_goals first | exact (decide_eq_false (by simp)).symm | (simp only [V.int.injEq, V.str.injEq]; rw [Bool.eq_iff_iff, beq_iff_eq, decide_eq_true_iff])
theorem EqVs.iS {K : PySem.W.Frag} {H : Hp} {n : Nat} : ∀ {xs ys : List V}, xs.all My.iS = true → ys.all My.iS = true → EqVs K H n xs ys (decide (xs = ys))
  | [], [], _, _ => .nil
  | [], _ :: _, _, _ => .nilc
  | _ :: _, [], _, _ => .cnil
  | x :: xs, y :: ys, h1, h2 => by
    rw [List.all_cons, Bool.and_eq_true] at h1 h2
    have t := EqVs.cons (EqV.iS h1.1 h2.1) (EqVs.iS (K := K) (H := H) (n := n) h1.2 h2.2)
    have e : (decide (x = y) && decide (xs = ys)) = decide (x :: xs = y :: ys) := by
      rw [Bool.eq_iff_iff]
      simp
    rw [e] at t
    exact t
theorem Rw.iS (r : Rw) : r.vs.all My.iS = true := by cases r <;> rfl
theorem Rw.vs_inj {r q : Rw} (h : r.vs = q.vs) : r = q := by
  cases r <;> cases q <;> simp only [Rw.vs, List.cons.injEq, V.str.injEq, V.int.injEq, and_true] at h
  case sent.got => exact absurd h.1 (by decide)
  case sent.told => exact absurd h.1 (by decide)
  case got.sent => exact absurd h.1 (by decide)
  case got.told => exact absurd h.1 (by decide)
  case told.sent => exact absurd h.1 (by decide)
  case told.got => exact absurd h.1 (by decide)
  case sent.sent => rw [h.2.1, h.2.2]
  case got.got => rw [h.2.1, h.2.2.1, h.2.2.2]
  case told.told => rw [h.2.1, h.2.2.1, h.2.2.2.1, h.2.2.2.2]
theorem RwAt.eqv {K : PySem.W.Frag} {H : Hp} {x y : V} {r q : Rw} {n : Nat} (hx : RwAt H x r) (hy : RwAt H y q) : EqV K H (n + 1) x y (decide (r = q)) := by
  obtain ⟨p, rfl, hp⟩ := hx
  obtain ⟨p', rfl, hp'⟩ := hy
  by_cases d : p = p'
  · subst d
    have e : r = q := Rw.vs_inj (by
      rw [hp] at hp'
      exact HO.tup.inj (Option.some.inj hp'))
    rw [decide_eq_true e]
    exact .one
  · have t := EqVs.iS (K := K) (H := H) (n := n) r.iS q.iS
    have e : decide (r.vs = q.vs) = decide (r = q) := by
      rw [decide_eq_decide]
      exact ⟨Rw.vs_inj, fun h => by rw [h]⟩
    rw [e] at t
    exact .tups d (.of hp) (.of hp') t
theorem RwAt.eqvs {K : PySem.W.Frag} {H : Hp} {n : Nat} : ∀ {xs ys : List V} {rs qs : List Rw}, All2 (RwAt H) xs rs → All2 (RwAt H) ys qs → EqVs K H (n + 1) xs ys (decide (rs = qs))
  | [], [], [], [], _, _ => .nil
  | [], y :: ys, [], q :: qs, _, _ => .nilc
  | x :: xs, [], r :: rs, [], _, _ => .cnil
  | x :: xs, y :: ys, r :: rs, q :: qs, h1, h2 => by
    have t := EqVs.cons (RwAt.eqv (n := n) (h1.2 0 x r rfl rfl) (h2.2 0 y q rfl rfl)) (RwAt.eqvs (K := K) (n := n) (xs := xs) (ys := ys) (rs := rs) (qs := qs) ⟨Nat.succ.inj h1.1, fun i a b ha hb => h1.2 (i + 1) a b ha hb⟩ ⟨Nat.succ.inj h2.1, fun i a b ha hb => h2.2 (i + 1) a b ha hb⟩)
    have e : (decide (r = q) && decide (rs = qs)) = decide (r :: rs = q :: qs) := by
      rw [Bool.eq_iff_iff]
      simp
    rw [e] at t
    exact t
  | [], _, _ :: _, _, h, _ => nomatch h.1
  | _ :: _, _, [], _, h, _ => nomatch h.1
  | _, [], _, _ :: _, _, h => nomatch h.1
  | _, _ :: _, _, [], _, h => nomatch h.1
/-- is it a history of so many members -/
def histB (M : Int) (rs : List Rw) : Bool := rs.all (Rw.okB M) && decide ((rs.filter Rw.sentB).length ≤ 30)
theorem Rw.ok_mem {M : Int} {r : Rw} (h : r.okB M = true) : 0 ≤ r.mem ∧ r.mem ≤ M - 1 := by
  cases r <;> simp only [Rw.okB, inR, Rw.mem, Bool.and_eq_true, decide_eq_true_eq] at * <;> exact h.1
theorem i_slTn {K : PySem.W.Frag} {H : Hp} {Q : VK} {p : Addr} {xs : List V} {lo hi : Option Int} (h0 : SqT K H p xs) (h1 : ¬ (HT.sIx xs.length 0 lo = 0 ∧ HT.sIx xs.length xs.length hi = xs.length)) (h : ∀ b, H b = none → Q (.ref b) (upd H b (.tup (cutV xs lo hi)))) : rSlU K (.ref p) lo hi H Q := .inr ⟨p, xs, rfl, h0, h1, h⟩
end My
/-! histories: why a row can't be, and what it does (no program in sight) -/
namespace My
open PySem L2
abbrev Idn := Int × Int
/-- the ids of each sender are those from 1 on -/
def Num (l : List Idn) : Prop := ∀ s n : Int, (s, n) ∈ l ↔ 1 ≤ n ∧ n ≤ (cnt l s : Int)
theorem Num.nil : Num [] := fun s n => by
  simp only [List.not_mem_nil, false_iff, cnt, List.filter_nil, List.length_nil]
  omega
theorem Num.snoc {l : List Idn} {s n : Int} (h : Num l) (e : n = (cnt l s : Int) + 1) : Num (l ++ [(s, n)]) := by
  intro t k
  rw [List.mem_append, List.mem_singleton, h t k, cnt_snoc, Prod.mk.injEq]
  by_cases c : s = t
  · subst c
    rw [if_pos rfl]
    omega
  · rw [if_neg c]
    constructor
    · rintro (h | h)
      · omega
      · exact absurd h.1.symm c
    · intro h
      exact .inl (by omega)
theorem cnt_le {l : List Idn} {s : Int} : cnt l s ≤ l.length := List.length_filter_le _ _
theorem cnt_pos {l : List Idn} {s : Int} (h : 0 < cnt l s) : ∃ n, (s, n) ∈ l := by
  obtain ⟨z, hz⟩ := List.exists_mem_of_length_pos h
  rw [List.mem_filter, decide_eq_true_eq] at hz
  obtain ⟨a, b⟩ := z
  cases hz.2
  exact ⟨b, hz.1⟩
/-- has all of C -/
def hasB (C R : List Idn) : Bool := C.all fun z => decide (z ∈ R)
theorem has_num {C R : List Idn} (hC : Num C) (hR : Num R) : hasB C R = true ↔ ∀ s, cnt C s ≤ cnt R s := by
  rw [hasB, List.all_eq_true]
  constructor
  · intro h s
    by_cases c : cnt C s = 0
    · omega
    · have h1 := (hC s (cnt C s)).mpr ⟨by omega, Int.le_refl _⟩
      have h2 := of_decide_eq_true (h _ h1)
      have h3 := ((hR s (cnt C s)).mp h2).2
      omega
  · rintro h ⟨s, n⟩ hz
    have h1 := (hC s n).mp hz
    have h2 := h s
    exact decide_eq_true ((hR s n).mpr ⟨h1.1, by omega⟩)
/-- the counts of a row of ids, by members -/
def cnts (M : Nat) (l : List Idn) : List Int := (List.range M).map fun s => (cnt l (s : Nat) : Int)
theorem has_cnts {M : Nat} {C R : List Idn} (hC : Num C) (hR : Num R) (hr : ∀ z ∈ C, 0 ≤ z.1 ∧ z.1 ≤ (M : Int) - 1) : hasB C R = (List.range M).all fun s => decide (cnt C (s : Nat) ≤ cnt R (s : Nat)) := by
  rw [Bool.eq_iff_iff, has_num hC hR, List.all_eq_true]
  constructor
  · exact fun h s _ => decide_eq_true (h s)
  · intro h s
    by_cases c : cnt C s = 0
    · omega
    · obtain ⟨n, hn⟩ := cnt_pos (l := C) (s := s) (by omega)
      have b := hr _ hn
      simp only at b
      obtain ⟨k, rfl⟩ := Int.eq_ofNat_of_zero_le b.1
      exact of_decide_eq_true (h k (List.mem_range.mpr (by omega)))
structure Ms where
  cs : List (Idn × List Idn)
  got : List (List Idn)
  told : List (List Idn)
  lg : List Idn
  lt : List (Idn × List Idn × Str)
def Ms.keys (S : Ms) : List Idn := S.cs.map (·.1)
def rowOf (ls : List (List Idn)) (i : Int) : List Idn := ls.getD i.toNat []
def causesOf (cs : List (Idn × List Idn)) (z : Idn) : List Idn := ((cs.find? fun p => decide (p.1 = z)).map (·.2)).getD []
def otherB (lg : List Idn) (p : Int) (z : Idn) : Bool := if p ≤ lg.length then decide (lg[(p - 1).toNat]? ≠ some z) else decide (z ∈ lg)
def whyGot (S : Ms) (m : Int) (z : Idn) : Option Str :=
  if z.1 = m then some "own" else if z ∉ S.keys then some "unsent" else if z ∈ rowOf S.got m then some "again" else if hasB (causesOf S.cs z) (rowOf S.got m) = true then none else some "early"
def whyTold (S : Ms) (m p : Int) (z : Idn) : Option Str :=
  if p ≠ ((rowOf S.told m).length : Int) + 1 then some "place" else if z ∉ rowOf S.got m then some "not got" else if z ∈ rowOf S.told m then some "again" else if otherB S.lg p z = true then some "other" else if hasB (causesOf S.cs z) (rowOf S.told m) = true then none else some "causes"
def Ms.sent (S : Ms) (m : Int) (y : Str) : Ms := { S with cs := S.cs ++ [(nxt S.keys m, rowOf S.got m)], got := S.got.set m.toNat (rowOf S.got m ++ [nxt S.keys m]), lt := S.lt ++ [(nxt S.keys m, rowOf S.got m, y)] }
def Ms.goGot (S : Ms) (m : Int) (z : Idn) : Ms := { S with got := S.got.set m.toNat (rowOf S.got m ++ [z]) }
def Ms.goTold (S : Ms) (m : Int) (z : Idn) : Ms := { S with told := S.told.set m.toNat (rowOf S.told m ++ [z]), lg := if (rowOf S.told m).length + 1 > S.lg.length then S.lg ++ [z] else S.lg }
structure Inw (M : Nat) (S : Ms) : Prop where
  m5 : M ≤ 5
  lgot : S.got.length = M
  ltold : S.told.length = M
  kr : ∀ z ∈ S.keys, 0 ≤ z.1 ∧ z.1 ≤ (M : Int) - 1
  kn : Num S.keys
  cn : ∀ p ∈ S.cs, Num p.2 ∧ (∀ z ∈ p.2, z ∈ S.keys) ∧ (cnt p.2 p.1.1 : Int) = p.1.2 - 1
  gn : ∀ l ∈ S.got, Num l ∧ ∀ z ∈ l, z ∈ S.keys
  own : ∀ i : Nat, i < M → cnt (rowOf S.got (i : Nat)) (i : Nat) = cnt S.keys (i : Nat)
  tn : ∀ l ∈ S.told, Num l ∧ ∀ z ∈ l, z ∈ S.keys
  tp : ∀ l ∈ S.told, l <+: S.lg
  ln : S.lg.Nodup
  le : S.lg = [] ∨ S.lg ∈ S.told
  lc : S.lt.map (fun x => (x.1, x.2.1)) = S.cs
def Ms.new (M : Nat) : Ms := ⟨[], List.replicate M [], List.replicate M [], [], []⟩
theorem Inw.new {M : Nat} (hM : M ≤ 5) : Inw M (Ms.new M) where
  m5 := hM
  lgot := List.length_replicate
  ltold := List.length_replicate
  kr := fun _ h => nomatch h
  kn := Num.nil
  cn := fun _ h => nomatch h
  gn := fun l h => by
    rw [List.eq_of_mem_replicate h]
    exact ⟨Num.nil, fun _ h => nomatch h⟩
  own := fun i h => by
    have e : rowOf (Ms.new M).got (i : Nat) = [] := by
      unfold rowOf Ms.new
      rw [List.getD_eq_getElem?_getD, List.getElem?_replicate]
      split <;> rfl
    rw [e]
    rfl
  tn := fun l h => by
    rw [List.eq_of_mem_replicate h]
    exact ⟨Num.nil, fun _ h => nomatch h⟩
  tp := fun l h => by
    rw [List.eq_of_mem_replicate h]
    exact List.nil_prefix
  ln := List.nodup_nil
  le := .inl rfl
  lc := rfl
theorem row_mem {ls : List (List Idn)} {M : Nat} {i : Int} (hl : ls.length = M) (h : 0 ≤ i ∧ i ≤ (M : Int) - 1) : ∃ l, ls[i.toNat]? = some l ∧ rowOf ls i = l ∧ l ∈ ls := by
  have hi : i.toNat < ls.length := by omega
  refine ⟨ls[i.toNat], List.getElem?_eq_getElem hi, ?_, List.getElem_mem hi⟩
  unfold rowOf
  rw [List.getD_eq_getElem?_getD, List.getElem?_eq_getElem hi]
  rfl
theorem causes_mem {cs : List (Idn × List Idn)} {z : Idn} (h : z ∈ cs.map (·.1)) : (z, causesOf cs z) ∈ cs := by
  unfold causesOf
  cases e : cs.find? fun p => decide (p.1 = z) with
  | none =>
    obtain ⟨p, hp, rfl⟩ := List.mem_map.mp h
    have := List.find?_eq_none.mp e p hp
    simp at this
  | some p =>
    have h1 := List.mem_of_find?_eq_some e
    have h2 : p.1 = z := by
      have := List.find?_some e
      simpa using this
    subst h2
    exact h1
theorem mem_set {ls : List (List Idn)} {i : Nat} {l x : List Idn} (h : x ∈ ls.set i l) : x ∈ ls ∨ x = l := List.mem_or_eq_of_mem_set h
section
variable {M : Nat} {S : Ms}
theorem Inw.causes (h : Inw M S) {z : Idn} (hz : z ∈ S.keys) : Num (causesOf S.cs z) ∧ (∀ y ∈ causesOf S.cs z, y ∈ S.keys) ∧ (cnt (causesOf S.cs z) z.1 : Int) = z.2 - 1 := h.cn _ (causes_mem hz)
theorem Inw.gotR (h : Inw M S) {m : Int} (hm : 0 ≤ m ∧ m ≤ (M : Int) - 1) : Num (rowOf S.got m) ∧ ∀ z ∈ rowOf S.got m, z ∈ S.keys := by
  obtain ⟨l, _, e, hl⟩ := row_mem h.lgot hm
  rw [e]
  exact h.gn l hl
theorem Inw.toldR (h : Inw M S) {m : Int} (hm : 0 ≤ m ∧ m ≤ (M : Int) - 1) : Num (rowOf S.told m) ∧ (∀ z ∈ rowOf S.told m, z ∈ S.keys) ∧ rowOf S.told m <+: S.lg := by
  obtain ⟨l, _, e, hl⟩ := row_mem h.ltold hm
  rw [e]
  exact ⟨(h.tn l hl).1, (h.tn l hl).2, h.tp l hl⟩
/-- the next of a sender, if its causes are there -/
theorem Inw.next (h : Inw M S) {z : Idn} {R : List Idn} (hz : z ∈ S.keys) (hR : Num R) (n : z ∉ R) (c : hasB (causesOf S.cs z) R = true) : z.2 = (cnt R z.1 : Int) + 1 := by
  obtain ⟨c1, _, c3⟩ := h.causes hz
  have h1 := (has_num c1 hR).mp c z.1
  have h2 := ((h.kn z.1 z.2).mp hz).1
  have h3 : ¬ (1 ≤ z.2 ∧ z.2 ≤ (cnt R z.1 : Int)) := fun q => n ((hR z.1 z.2).mpr q)
  omega
theorem Inw.goGot (h : Inw M S) {m : Int} {z : Idn} (hm : 0 ≤ m ∧ m ≤ (M : Int) - 1) (w : whyGot S m z = none) : Inw M (S.goGot m z) := by
  unfold whyGot at w
  split at w
  · cases w
  split at w
  · cases w
  split at w
  · cases w
  split at w
  · rename_i c1 c2 c3 c4
    have hz : z ∈ S.keys := Classical.not_not.mp c2
    obtain ⟨g1, g2⟩ := h.gotR hm
    have e := h.next hz g1 c3 c4
    exact { h with
      lgot := by show (S.got.set _ _).length = M; rw [List.length_set]; exact h.lgot
      gn := fun l hl => by
        rcases mem_set hl with hl | rfl
        · exact h.gn l hl
        · refine ⟨?_, fun y hy => ?_⟩
          · obtain ⟨a, b⟩ := z
            exact g1.snoc e
          · rcases List.mem_append.mp hy with hy | hy
            · exact g2 y hy
            · rw [List.mem_singleton.mp hy]
              exact hz
      own := fun i hi => by
        show cnt (rowOf (S.got.set m.toNat (rowOf S.got m ++ [z])) (i : Nat)) (i : Nat) = cnt S.keys (i : Nat)
        rw [← h.own i hi]
        unfold rowOf
        rw [Int.toNat_natCast, List.getD_eq_getElem?_getD, List.getD_eq_getElem?_getD, List.getElem?_set]
        by_cases c : m.toNat = i
        · subst c
          rw [if_pos rfl, if_pos (by rw [h.lgot]; exact hi)]
          show cnt (S.got.getD m.toNat [] ++ [z]) _ = _
          rw [cnt_snoc, if_neg (by omega), List.getD_eq_getElem?_getD]
          rfl
        · rw [if_neg c, List.getD_eq_getElem?_getD] }
  · cases w
theorem Inw.sent (h : Inw M S) {m : Int} {y : Str} (hm : 0 ≤ m ∧ m ≤ (M : Int) - 1) : Inw M (S.sent m y) := by
  obtain ⟨g1, g2⟩ := h.gotR hm
  obtain ⟨i, rfl⟩ := Int.eq_ofNat_of_zero_le hm.1
  have hi : i < M := by omega
  have ho := h.own i hi
  have ek : (S.sent (i : Nat) y).keys = S.keys ++ [nxt S.keys (i : Nat)] := by
    unfold Ms.keys Ms.sent
    rw [List.map_append]
    rfl
  have sub : ∀ z, z ∈ S.keys → z ∈ (S.sent (i : Nat) y).keys := fun z hz => by rw [ek]; exact List.mem_append_left _ hz
  have nin : nxt S.keys (i : Nat) ∈ (S.sent (i : Nat) y).keys := by rw [ek]; exact List.mem_append_right _ (List.mem_singleton.mpr rfl)
  exact {
    m5 := h.m5
    lgot := by show (S.got.set _ _).length = M; rw [List.length_set]; exact h.lgot
    ltold := h.ltold
    kr := fun z hz => by
      rw [ek] at hz
      rcases List.mem_append.mp hz with hz | hz
      · exact h.kr z hz
      · rw [List.mem_singleton.mp hz]
        exact hm
    kn := by
      rw [ek]
      exact h.kn.snoc (Int.add_comm _ _)
    cn := fun p hp => by
      rcases List.mem_append.mp hp with hp | hp
      · obtain ⟨a, b, c⟩ := h.cn p hp
        exact ⟨a, fun z hz => sub z (b z hz), c⟩
      · rw [List.mem_singleton.mp hp]
        refine ⟨g1, fun z hz => sub z (g2 z hz), ?_⟩
        show ((cnt (rowOf S.got (i : Nat)) (i : Nat) : Nat) : Int) = 1 + ((cnt S.keys (i : Nat) : Nat) : Int) - 1
        rw [ho]
        omega
    gn := fun l hl => by
      rcases mem_set hl with hl | rfl
      · exact ⟨(h.gn l hl).1, fun z hz => sub z ((h.gn l hl).2 z hz)⟩
      · refine ⟨g1.snoc (by rw [ho, Int.add_comm]), fun y hy => ?_⟩
        rcases List.mem_append.mp hy with hy | hy
        · exact sub y (g2 y hy)
        · rw [List.mem_singleton.mp hy]
          exact nin
    own := fun j hj => by
      show cnt (rowOf (S.got.set _ (rowOf S.got (i : Nat) ++ [nxt S.keys (i : Nat)])) (j : Nat)) (j : Nat) = cnt (S.sent (i : Nat) y).keys (j : Nat)
      rw [ek, cnt_snoc, ← h.own j hj]
      unfold rowOf
      rw [Int.toNat_natCast, Int.toNat_natCast, List.getD_eq_getElem?_getD, List.getD_eq_getElem?_getD, List.getD_eq_getElem?_getD, List.getElem?_set]
      by_cases c : i = j
      · subst c
        rw [if_pos rfl, if_pos (by rw [h.lgot]; exact hi)]
        show cnt ((S.got[i]?.getD []) ++ [_]) _ = _
        rw [cnt_snoc]
      · rw [if_neg c, if_neg (show ¬ (nxt S.keys (i : Nat)).1 = (j : Nat) from fun e => c (by have : ((i : Nat) : Int) = (j : Nat) := e; omega))]
        rfl
    tn := fun l hl => ⟨(h.tn l hl).1, fun z hz => sub z ((h.tn l hl).2 z hz)⟩
    tp := h.tp
    ln := h.ln
    le := h.le
    lc := by
      show (S.lt ++ _).map _ = S.cs ++ _
      rw [List.map_append, h.lc]
      rfl }
/-- told: what follows of it -/
theorem told_other {m p : Int} {z : Idn} (h : Inw M S) (hm : 0 ≤ m ∧ m ≤ (M : Int) - 1) (hp : p = ((rowOf S.told m).length : Int) + 1) (hz : z ∉ rowOf S.told m) (o : otherB S.lg p z = false) :
    (∃ r, S.lg = rowOf S.told m ++ z :: r ∧ (S.goTold m z).lg = S.lg) ∨ (rowOf S.told m = S.lg ∧ (S.goTold m z).lg = S.lg ++ [z]) := by
  obtain ⟨_, _, r, e⟩ := h.toldR hm
  have el : S.lg.length = (rowOf S.told m).length + r.length := by rw [← e, List.length_append]
  have pn : (p - 1).toNat = (rowOf S.told m).length := by omega
  unfold otherB at o
  cases r with
  | nil =>
    rw [List.append_nil] at e
    refine .inr ⟨e, ?_⟩
    show (if _ then _ else _) = _
    rw [if_pos (by rw [el]; simp)]
  | cons y r =>
    rw [List.length_cons] at el
    rw [if_pos (by omega), pn, decide_eq_false_iff_not, Classical.not_not, ← e, List.getElem?_append_right (Nat.le_refl _), Nat.sub_self] at o
    cases o
    refine .inl ⟨r, e.symm, ?_⟩
    show (if _ then _ else _) = _
    rw [if_neg (by omega)]
theorem Inw.goTold (h : Inw M S) {m p : Int} {z : Idn} (hm : 0 ≤ m ∧ m ≤ (M : Int) - 1) (w : whyTold S m p z = none) : Inw M (S.goTold m z) := by
  unfold whyTold at w
  split at w
  · cases w
  split at w
  · cases w
  split at w
  · cases w
  split at w
  · cases w
  split at w
  · rename_i c1 c2 c3 c4 c5
    have hp : p = ((rowOf S.told m).length : Int) + 1 := Classical.not_not.mp c1
    have hg : z ∈ rowOf S.got m := Classical.not_not.mp c2
    have hz : z ∈ S.keys := (h.gotR hm).2 z hg
    obtain ⟨g1, g2, g3⟩ := h.toldR hm
    have e := h.next hz g1 c3 c5
    have o := told_other h hm hp c3 (Bool.eq_false_iff.mpr c4)
    have new : rowOf S.told m ++ [z] ∈ (S.goTold m z).told := by
      obtain ⟨l, e1, _, _⟩ := row_mem h.ltold hm
      exact List.mem_of_getElem? (i := m.toNat) (by show (S.told.set _ _)[_]? = _; rw [List.getElem?_set, if_pos rfl, if_pos (List.getElem?_eq_some_iff.mp e1).1])
    have pre : S.lg <+: (S.goTold m z).lg := by
      rcases o with ⟨r, _, e2⟩ | ⟨_, e2⟩
      · rw [e2]
        exact List.prefix_refl _
      · rw [e2]
        exact List.prefix_append _ _
    exact { h with
      ltold := by show (S.told.set _ _).length = M; rw [List.length_set]; exact h.ltold
      tn := fun l hl => by
        rcases mem_set hl with hl | rfl
        · exact h.tn l hl
        · refine ⟨?_, fun y hy => ?_⟩
          · obtain ⟨a, b⟩ := z
            exact g1.snoc e
          · rcases List.mem_append.mp hy with hy | hy
            · exact g2 y hy
            · rw [List.mem_singleton.mp hy]
              exact hz
      tp := fun l hl => by
        rcases mem_set hl with hl | rfl
        · exact (h.tp l hl).trans pre
        · rcases o with ⟨r, e1, e2⟩ | ⟨e1, e2⟩
          · rw [e2, e1]
            exact ⟨r, by simp⟩
          · rw [e2, e1]
            exact List.prefix_refl _
      ln := by
        rcases o with ⟨r, e1, e2⟩ | ⟨e1, e2⟩
        · rw [e2]
          exact h.ln
        · rw [e2, List.nodup_append]
          refine ⟨h.ln, List.pairwise_singleton _ _, fun a ha b hb c => ?_⟩
          rw [List.mem_singleton.mp hb] at c
          subst c
          exact c3 (e1 ▸ ha)
      le := by
        rcases o with ⟨r, e1, e2⟩ | ⟨e1, e2⟩
        · right
          rw [e2]
          rcases h.le with q | q
          · rw [q] at e1
            exact absurd e1 (by simp)
          · obtain ⟨j, hj⟩ := List.mem_iff_getElem?.mp q
            by_cases c : m.toNat = j
            · subst c
              obtain ⟨l, e3, e4, _⟩ := row_mem h.ltold hm
              rw [e3] at hj
              cases hj
              rw [e4] at e1
              have := congrArg List.length e1
              simp at this
            · exact List.mem_of_getElem? (i := j) (by show (S.told.set _ _)[_]? = _; rw [List.getElem?_set, if_neg c]; exact hj)
        · right
          rw [e2, ← e1]
          exact new }
  · cases w
end
section
variable {M : Nat} {S : Ms} {m p : Int} {z : Idn}
theorem pre_at {l r : List Idn} {j : Nat} {y : Idn} (h : l <+: r) (e : l[j]? = some y) : r[j]? = some y := by
  obtain ⟨t, rfl⟩ := h
  rw [List.getElem?_append_left (List.getElem?_eq_some_iff.mp e).1]
  exact e
theorem told_all (h : Inw M S) (hm : 0 ≤ m ∧ m ≤ (M : Int) - 1) (hp : p = ((rowOf S.told m).length : Int) + 1) (c : ¬ p ≤ S.lg.length) : rowOf S.told m = S.lg := by
  obtain ⟨_, _, r, e⟩ := h.toldR hm
  have el : S.lg.length = (rowOf S.told m).length + r.length := by rw [← e, List.length_append]
  have : r = [] := List.eq_nil_of_length_eq_zero (by omega)
  rw [this, List.append_nil] at e
  exact e
theorem other_true1 {l : List Idn} (h : Inw M S) (hl : l ∈ S.told) (h1 : 1 ≤ p) (h2 : p ≤ l.length) (h3 : l[(p - 1).toNat]? ≠ some z) : otherB S.lg p z = true := by
  have pr := h.tp l hl
  have le := pr.length_le
  unfold otherB
  rw [if_pos (by omega)]
  refine decide_eq_true fun e => h3 ?_
  have hlt : (p - 1).toNat < l.length := by omega
  rw [pre_at pr (List.getElem?_eq_getElem hlt)] at e
  rw [List.getElem?_eq_getElem hlt]
  exact e
theorem other_true2 {l : List Idn} {j : Nat} (h : Inw M S) (hm : 0 ≤ m ∧ m ≤ (M : Int) - 1) (hp : p = ((rowOf S.told m).length : Int) + 1) (hz : z ∉ rowOf S.told m) (hl : l ∈ S.told) (hj : l[j]? = some z) (n : (j : Int) ≠ p - 1) : otherB S.lg p z = true := by
  have e := pre_at (h.tp l hl) hj
  unfold otherB
  by_cases c : p ≤ S.lg.length
  · rw [if_pos c]
    refine decide_eq_true fun e2 => ?_
    have a1 := (List.getElem?_eq_some_iff.mp e).1
    have a2 := (List.getElem?_eq_some_iff.mp e2).1
    have := (List.getElem?_inj a1 h.ln).mp (e.trans e2.symm)
    omega
  · exact absurd (told_all h hm hp c ▸ List.mem_of_getElem? e) hz
theorem other_false (h : Inw M S) (hm : 0 ≤ m ∧ m ≤ (M : Int) - 1) (hp : p = ((rowOf S.told m).length : Int) + 1) (hz : z ∉ rowOf S.told m)
    (ha : ∀ (k : Nat) l, (k : Int) ≠ m → S.told[k]? = some l → p ≤ l.length → l[(p - 1).toNat]? = some z) : otherB S.lg p z = false := by
  unfold otherB
  by_cases c : p ≤ S.lg.length
  · rw [if_pos c]
    refine decide_eq_false (Classical.not_not.mpr ?_)
    rcases h.le with q | q
    · rw [q] at c
      simp only [List.length_nil] at c
      omega
    · obtain ⟨k, hk⟩ := List.mem_iff_getElem?.mp q
      refine ha k _ (fun e => ?_) hk c
      subst e
      obtain ⟨l, e1, e2, _⟩ := row_mem h.ltold hm
      rw [Int.toNat_natCast] at e1
      rw [hk] at e1
      cases e1
      rw [e2] at hp
      omega
  · rw [if_neg c]
    exact decide_eq_false (told_all h hm hp c ▸ hz)
/-- why a row can't be -/
def Ms.why (S : Ms) : Rw → Option Str
  | .sent _ _ => none
  | .got m s n => whyGot S m (s, n)
  | .told m p s n => whyTold S m p (s, n)
def Ms.go (S : Ms) : Rw → Ms
  | .sent m y => S.sent m y
  | .got m s n => S.goGot m (s, n)
  | .told m _ s n => S.goTold m (s, n)
theorem Inw.got_next {m s n : Int} (h : Inw M S) (hm : 0 ≤ m ∧ m ≤ (M : Int) - 1) (w : whyGot S m (s, n) = none) : n = (cnt (rowOf S.got m) s : Int) + 1 := by
  unfold whyGot at w
  split at w
  · cases w
  split at w
  · cases w
  split at w
  · cases w
  split at w
  · rename_i c1 c2 c3 c4
    exact h.next (Classical.not_not.mp c2) (h.gotR hm).1 c3 c4
  · cases w
theorem Inw.told_next {m p s n : Int} (h : Inw M S) (hm : 0 ≤ m ∧ m ≤ (M : Int) - 1) (w : whyTold S m p (s, n) = none) : n = (cnt (rowOf S.told m) s : Int) + 1 := by
  unfold whyTold at w
  split at w
  · cases w
  split at w
  · cases w
  split at w
  · cases w
  split at w
  · cases w
  split at w
  · rename_i c1 c2 c3 c4 c5
    exact h.next ((h.gotR hm).2 _ (Classical.not_not.mp c2)) (h.toldR hm).1 c3 c5
  · cases w
/-- a row that can be leaves all as it must be -/
theorem Inw.go {r : Rw} (h : Inw M S) (hok : r.okB M = true) (w : S.why r = none) : Inw M (S.go r) := by
  have hm := Rw.ok_mem hok
  cases r with
  | sent m z => exact h.sent hm
  | got m s n => exact h.goGot hm w
  | told m p s n => exact h.goTold hm w
theorem keys_go {r : Rw} : (S.go r).keys.length = S.keys.length + ([r].filter Rw.sentB).length := by
  cases r with
  | sent m z =>
    show (List.map _ (S.cs ++ _)).length = _
    rw [List.map_append, List.length_append]
    rfl
  | got m s n => rfl
  | told m p s n => rfl
/-- the first row that can't be, from the i-th on -/
def firstW (S : Ms) : List Rw → Nat → Option (Nat × Str)
  | [], _ => none
  | r :: rs, i => match S.why r with
    | some w => some (i, w)
    | none => firstW (S.go r) rs (i + 1)
end
end My
/-! histories: the law's model and the program's walk in the heap -/
namespace My
open PySem L2
/-- the list at q holds these ids -/
def IdL (H : Hp) (q : Addr) (l : List Idn) : Prop := ∃ xs, H q = some (.lst xs) ∧ All2 (IdAt H) xs l
theorem IdL.keeps {H H' : Hp} {q : Addr} {l : List Idn} (k : ∀ b xs, H b = some (.tup xs) → H' b = some (.tup xs)) (kq : ∀ u, H q = some u → H' q = some u) (h : IdL H q l) : IdL H' q l := by
  obtain ⟨xs, e, a⟩ := h
  exact ⟨xs, kq _ e, a.mono fun _ _ => IdAt.keeps k⟩
theorem IdL.same {H H' : Hp} {q : Addr} {l : List Idn} (s : Same H H') (h : IdL H q l) : IdL H' q l := h.keeps (fun _ _ => s _ _) (fun _ => s _ _)
theorem All2.setR {α β : Type} {R R' : α → β → Prop} {xs : List α} {ys : List β} {i : Nat} {x : α} {y : β} (h : All2 R xs ys) (hx : xs[i]? = some x) (nd : xs.Nodup) (k : ∀ u w, u ≠ x → R u w → R' u w) (r : R' x y) : All2 R' xs (ys.set i y) := by
  refine ⟨by rw [List.length_set]; exact h.1, fun j u w hu hw => ?_⟩
  by_cases c : i = j
  · subst c
    rw [hx] at hu
    cases hu
    rw [List.getElem?_set] at hw
    simp only [if_true] at hw
    split at hw
    · cases hw
      exact r
    · cases hw
  · rw [List.getElem?_set_ne c] at hw
    refine k u w (fun e => c ?_) (h.2 j u w hu hw)
    subst e
    exact (List.getElem?_inj (List.getElem?_eq_some_iff.mp hx).1 nd).mp (hx.trans hu.symm)
structure MdA where
  F : Addr → Prop
  n : Nat
  c : Addr
  wd : Addr
  g : Addr
  t : Addr
  ck : List (List Key × V)
  wk : List (List Key × V)
  gq : List Addr
  tq : List Addr
/-- the model: exactly -/
structure MdX (H : Hp) (o : Addr) (a : MdA) (S : Ms) : Prop where
  ho : H o = some (.dK [(.inr "causes", .ref a.c), (.inr "words", .ref a.wd), (.inr "got", .ref a.g), (.inr "told", .ref a.t)])
  hc : H a.c = some (.dT a.ck)
  hw : H a.wd = some (.dT a.wk)
  hg : H a.g = some (.lst (a.gq.map V.ref))
  ht : H a.t = some (.lst (a.tq.map V.ref))
  cw : a.c ≠ a.wd
  fo : a.F o
  fc : a.F a.c
  fw : a.F a.wd
  fg : a.F a.g
  ft : a.F a.t
  fd : ∀ b, a.F b → H b ≠ none
  kc : All2 (fun p z => p.1 = idK z.1 ∧ ∃ q, p.2 = .ref q ∧ IdL H q z.2 ∧ q ∉ a.gq ++ a.tq ∧ a.F q) a.ck S.cs
  kg : All2 (IdL H) a.gq S.got
  kt : All2 (IdL H) a.tq S.told
  nd : (a.gq ++ a.tq).Nodup
  fq : ∀ q ∈ a.gq ++ a.tq, a.F q
  gn : a.gq ≠ []
  tn : a.tq ≠ []
  kw : a.wk.length ≤ S.keys.length
  kl : S.keys.length ≤ a.n
  nl : ∀ l ∈ S.got ++ S.told, l.length ≤ a.n
  nn : a.n ≤ 450
  kww : All2 (fun p (y : Idn × List Idn × Str) => p.1 = idK y.1 ∧ p.2 = .str y.2.2) a.wk S.lt
  lc : S.lt.map (fun x => (x.1, x.2.1)) = S.cs
section
variable {H H' : Hp} {o : Addr} {a : MdA} {S : Ms}
theorem MdX.kept (k : Kept a.F H H') (h : MdX H o a S) : MdX H' o a S :=
  have tp : ∀ b xs, H b = some (.tup xs) → H' b = some (.tup xs) := fun b xs => k _ _ (.inr ⟨xs, rfl⟩)
  { h with
    ho := k _ _ (.inl h.fo) h.ho
    hc := k _ _ (.inl h.fc) h.hc
    hw := k _ _ (.inl h.fw) h.hw
    hg := k _ _ (.inl h.fg) h.hg
    ht := k _ _ (.inl h.ft) h.ht
    fd := fun b f e => by
      cases c : H b with
      | none => exact h.fd b f c
      | some u => rw [k b u (.inl f) c] at e; cases e
    kc := h.kc.mono fun _ _ ⟨e, q, e1, e2, e3, e4⟩ => ⟨e, q, e1, e2.keeps tp (fun _ => k _ _ (.inl e4)), e3, e4⟩
    kg := ⟨h.kg.1, fun i q l hq hl => (h.kg.2 i q l hq hl).keeps tp (fun _ => k _ _ (.inl (h.fq q (List.mem_append_left _ (List.mem_of_getElem? hq)))))⟩
    kt := ⟨h.kt.1, fun i q l hq hl => (h.kt.2 i q l hq hl).keeps tp (fun _ => k _ _ (.inl (h.fq q (List.mem_append_right _ (List.mem_of_getElem? hq)))))⟩ }
theorem MdX.same (s : Same H H') (h : MdX H o a S) : MdX H' o a S := h.kept (.same s)
theorem MdX.out {b : Addr} (h : MdX H o a S) (n : H b = none) : ¬ a.F b := fun f => h.fd b f n
/-- the keys of the dict -/
theorem MdX.keys (h : MdX H o a S) : All2 (fun p z => p.1 = idK z ∧ True) a.ck S.keys := by
  refine ⟨by rw [h.kc.1]; exact (List.length_map ..).symm, fun i p z hp hz => ?_⟩
  unfold Ms.keys at hz
  rw [List.getElem?_map, Option.map_eq_some_iff] at hz
  obtain ⟨y, hy, rfl⟩ := hz
  exact ⟨(h.kc.2 i p y hp hy).1, trivial⟩
theorem find_all2 {β : Type} {R : V → β → Prop} : ∀ {ck : List (List Key × V)} {cs : List (Idn × β)} {z : Idn}, All2 (fun p y => p.1 = idK y.1 ∧ R p.2 y.2) ck cs → z ∈ cs.map (·.1) → ∃ v y, valV ck (idK z) = some v ∧ cs.find? (fun p => decide (p.1 = z)) = some (z, y) ∧ R v y
  | p :: ck, y :: cs, z, h, hz => by
    obtain ⟨h1, h2⟩ := h.2 0 p y rfl rfl
    by_cases c : y.1 = z
    · subst c
      exact ⟨p.2, y.2, by unfold valV; rw [List.find?_cons, decide_eq_true h1]; rfl, by rw [List.find?_cons, decide_eq_true rfl], h2⟩
    · obtain ⟨v, w, e1, e2, e3⟩ := find_all2 (R := R) (ck := ck) (cs := cs) (z := z) ⟨Nat.succ.inj h.1, fun i a b ha hb => h.2 (i + 1) a b ha hb⟩ ((List.mem_cons.mp hz).resolve_left fun e => c e.symm)
      refine ⟨v, w, ?_, by rw [List.find?_cons, decide_eq_false c]; exact e2, e3⟩
      unfold valV
      rw [List.find?_cons, decide_eq_false (fun e => c (idK_inj (h1.symm.trans e)))]
      exact e1
  | [], _ :: _, _, h, _ => nomatch h.1
  | _ :: _, [], _, h, _ => nomatch h.1
theorem MdX.causes (h : MdX H o a S) {z : Idn} (hz : z ∈ S.keys) : ∃ q, valV a.ck (idK z) = some (.ref q) ∧ IdL H q (causesOf S.cs z) := by
  obtain ⟨v, y, e1, e2, q, rfl, e3, _⟩ := find_all2 (R := fun v (l : List Idn) => ∃ q, v = .ref q ∧ IdL H q l ∧ q ∉ a.gq ++ a.tq ∧ a.F q) h.kc hz
  refine ⟨q, e1, ?_⟩
  unfold causesOf
  rw [e2]
  exact e3
theorem atI_of {xs : List V} {j : Nat} {x : V} (h : xs[j]? = some x) : atI xs (j : Int) = some x := by
  have hl := (List.getElem?_eq_some_iff.mp h).1
  obtain ⟨v, _, e, f⟩ := atI_in (xs := xs) (Int.natCast_nonneg j) (by omega)
  rw [Int.toNat_natCast, h] at e
  cases e
  exact f
theorem at_ref {qs : List Addr} {q : Addr} {i : Int} (h0 : 0 ≤ i) (h : qs[i.toNat]? = some q) : atI (qs.map V.ref) i = some (.ref q) := by
  have e : (qs.map V.ref)[i.toNat]? = some (.ref q) := by rw [List.getElem?_map, h]; rfl
  have := atI_of e
  rw [Int.toNat_of_nonneg h0] at this
  exact this
theorem row_at {R : Addr → List Idn → Prop} {qs : List Addr} {ls : List (List Idn)} {M : Nat} {i : Int} (h : All2 R qs ls) (hl : ls.length = M) (hi : 0 ≤ i ∧ i ≤ (M : Int) - 1) : ∃ q, qs[i.toNat]? = some q ∧ atI (qs.map V.ref) i = some (.ref q) ∧ R q (rowOf ls i) ∧ q ∈ qs := by
  obtain ⟨l, e1, e2, _⟩ := row_mem hl hi
  have hq : i.toNat < qs.length := by rw [h.1, hl]; omega
  refine ⟨qs[i.toNat], List.getElem?_eq_getElem hq, at_ref hi.1 (List.getElem?_eq_getElem hq), ?_, List.getElem_mem hq⟩
  rw [e2]
  exact h.2 _ _ _ (List.getElem?_eq_getElem hq) e1
/-- a list of rows is no row -/
theorem MdX.noR (h : MdX H o a S) {q : Addr} {xs : List V} {l : List Idn} {g : Addr} {gq : List Addr} (hg : H g = some (.lst (gq.map V.ref))) (n : gq ≠ []) (hk : ∀ p ∈ gq, ∃ l, IdL H p l) (hq : H q = some (.lst xs)) (ha : All2 (IdAt H) xs l) : g ≠ q := by
  rintro rfl
  rw [hg] at hq
  cases hq
  obtain ⟨p, r, rfl⟩ := List.exists_cons_of_ne_nil n
  obtain ⟨z, _, b, e1, e2⟩ := ha.get (i := 0) rfl
  cases e1
  obtain ⟨_, _, e3, _⟩ := hk p (List.mem_cons_self ..)
  rw [e3] at e2
  cases e2
theorem all2_ex {R : Addr → List Idn → Prop} {qs : List Addr} {ls : List (List Idn)} (h : All2 R qs ls) : ∀ p ∈ qs, ∃ l, R p l := fun p hp => by
  obtain ⟨i, hi⟩ := List.mem_iff_getElem?.mp hp
  obtain ⟨l, _, r⟩ := h.get hi
  exact ⟨l, r⟩
theorem len_set {ls ms : List (List Idn)} {n i : Nat} {l : List Idn} (h : ∀ l ∈ ls ++ ms, l.length ≤ n) (hl : l.length ≤ n + 1) : ∀ x ∈ ls.set i l ++ ms, x.length ≤ n + 1 := fun x hx => by
  rcases List.mem_append.mp hx with hx | hx
  · rcases mem_set hx with hx | rfl
    · exact Nat.le_succ_of_le (h x (List.mem_append_left _ hx))
    · exact hl
  · exact Nat.le_succ_of_le (h x (List.mem_append_right _ hx))
theorem len_set2 {ls ms : List (List Idn)} {n i : Nat} {l : List Idn} (h : ∀ l ∈ ls ++ ms, l.length ≤ n) (hl : l.length ≤ n + 1) : ∀ x ∈ ls ++ ms.set i l, x.length ≤ n + 1 := fun x hx => by
  rcases List.mem_append.mp hx with hx | hx
  · exact Nat.le_succ_of_le (h x (List.mem_append_left _ hx))
  · rcases mem_set hx with hx | rfl
    · exact Nat.le_succ_of_le (h x (List.mem_append_right _ hx))
    · exact hl
theorem MdX.tp {q : Addr} {xs : List V} (hq : H q = some (.lst xs)) (s : SameBut q H H') : ∀ b xs, H b = some (.tup xs) → H' b = some (.tup xs) := fun b xs e => s b _ (fun c => by subst c; rw [hq] at e; cases e) e
theorem MdX.goGot {i : Nat} {q : Addr} {xs : List V} {y : V} {z : Idn} (h : MdX H o a S) (hi : a.gq[i]? = some q) (hq : H q = some (.lst xs)) (ha : All2 (IdAt H) xs (rowOf S.got (i : Nat))) (hy : IdAt H y z) (hn : a.n < 450) (s : SameBut q H H') (hq' : H' q = some (.lst (xs ++ [y]))) : MdX H' o { a with n := a.n + 1 } (S.goGot (i : Nat) z) := by
  have tp := MdX.tp hq s
  have qm : q ∈ a.gq ++ a.tq := List.mem_append_left _ (List.mem_of_getElem? hi)
  have ng := h.noR h.hg h.gn (all2_ex h.kg) hq ha
  have nt := h.noR h.ht h.tn (all2_ex h.kt) hq ha
  obtain ⟨n1, n2, n3⟩ := List.nodup_append.mp h.nd
  exact {
    ho := s _ _ (ne_of h.ho hq (by simp)) h.ho
    hc := s _ _ (ne_of h.hc hq (by simp)) h.hc
    hw := s _ _ (ne_of h.hw hq (by simp)) h.hw
    hg := s _ _ ng h.hg
    ht := s _ _ nt h.ht
    cw := h.cw
    fo := h.fo
    fc := h.fc
    fw := h.fw
    fg := h.fg
    ft := h.ft
    fd := fun b f e => by
      by_cases c : b = q
      · subst c
        rw [hq'] at e
        cases e
      · cases d : H b with
        | none => exact h.fd b f d
        | some u => rw [s b u c d] at e; cases e
    kc := h.kc.mono fun _ _ ⟨e, p, e1, e2, e3, e4⟩ => ⟨e, p, e1, e2.keeps tp (fun _ => s _ _ (fun c => e3 (c ▸ qm))), e3, e4⟩
    kg := by
      show All2 (IdL H') a.gq (S.got.set (Int.toNat (i : Nat)) _)
      rw [Int.toNat_natCast]
      exact h.kg.setR hi n1 (fun u w n r => r.keeps tp (fun _ => s _ _ n)) ⟨_, hq', All2.append (ha.mono fun _ _ => IdAt.keeps tp) (All2.cons (hy.keeps tp) All2.nil)⟩
    kt := ⟨h.kt.1, fun j p l hp hl => (h.kt.2 j p l hp hl).keeps tp (fun _ => s _ _ (fun c => n3 q (List.mem_of_getElem? hi) p (List.mem_of_getElem? hp) c.symm))⟩
    nd := h.nd
    fq := h.fq
    gn := h.gn
    tn := h.tn
    kw := h.kw
    kl := Nat.le_succ_of_le h.kl
    nl := len_set h.nl (by
      rw [List.length_append]
      refine Nat.succ_le_succ (h.nl _ (List.mem_append_left _ ?_))
      have hlt := (List.getElem?_eq_some_iff.mp hi).1
      rw [h.kg.1] at hlt
      unfold rowOf
      rw [Int.toNat_natCast, List.getD_eq_getElem?_getD, List.getElem?_eq_getElem hlt]
      exact List.getElem_mem hlt)
    nn := hn
    kww := h.kww
    lc := h.lc }
theorem MdX.goTold {i : Nat} {q : Addr} {xs : List V} {y : V} {z : Idn} (h : MdX H o a S) (hi : a.tq[i]? = some q) (hq : H q = some (.lst xs)) (ha : All2 (IdAt H) xs (rowOf S.told (i : Nat))) (hy : IdAt H y z) (hn : a.n < 450) (s : SameBut q H H') (hq' : H' q = some (.lst (xs ++ [y]))) : MdX H' o { a with n := a.n + 1 } (S.goTold (i : Nat) z) := by
  have tp := MdX.tp hq s
  have qm : q ∈ a.gq ++ a.tq := List.mem_append_right _ (List.mem_of_getElem? hi)
  have ng := h.noR h.hg h.gn (all2_ex h.kg) hq ha
  have nt := h.noR h.ht h.tn (all2_ex h.kt) hq ha
  obtain ⟨n1, n2, n3⟩ := List.nodup_append.mp h.nd
  exact {
    ho := s _ _ (ne_of h.ho hq (by simp)) h.ho
    hc := s _ _ (ne_of h.hc hq (by simp)) h.hc
    hw := s _ _ (ne_of h.hw hq (by simp)) h.hw
    hg := s _ _ ng h.hg
    ht := s _ _ nt h.ht
    cw := h.cw
    fo := h.fo
    fc := h.fc
    fw := h.fw
    fg := h.fg
    ft := h.ft
    fd := fun b f e => by
      by_cases c : b = q
      · subst c
        rw [hq'] at e
        cases e
      · cases d : H b with
        | none => exact h.fd b f d
        | some u => rw [s b u c d] at e; cases e
    kc := h.kc.mono fun _ _ ⟨e, p, e1, e2, e3, e4⟩ => ⟨e, p, e1, e2.keeps tp (fun _ => s _ _ (fun c => e3 (c ▸ qm))), e3, e4⟩
    kt := by
      show All2 (IdL H') a.tq (S.told.set (Int.toNat (i : Nat)) _)
      rw [Int.toNat_natCast]
      exact h.kt.setR hi n2 (fun u w n r => r.keeps tp (fun _ => s _ _ n)) ⟨_, hq', All2.append (ha.mono fun _ _ => IdAt.keeps tp) (All2.cons (hy.keeps tp) All2.nil)⟩
    kg := ⟨h.kg.1, fun j p l hp hl => (h.kg.2 j p l hp hl).keeps tp (fun _ => s _ _ (fun c => n3 p (List.mem_of_getElem? hp) q (List.mem_of_getElem? hi) c))⟩
    nd := h.nd
    fq := h.fq
    gn := h.gn
    tn := h.tn
    kw := h.kw
    kl := Nat.le_succ_of_le h.kl
    nl := len_set2 h.nl (by
      rw [List.length_append]
      refine Nat.succ_le_succ (h.nl _ (List.mem_append_right _ ?_))
      have hlt := (List.getElem?_eq_some_iff.mp hi).1
      rw [h.kt.1] at hlt
      unfold rowOf
      rw [Int.toNat_natCast, List.getD_eq_getElem?_getD, List.getElem?_eq_getElem hlt]
      exact List.getElem_mem hlt)
    nn := hn
    kww := h.kww
    lc := h.lc }
theorem lt_keys {S : Ms} (h : S.lt.map (fun x => (x.1, x.2.1)) = S.cs) : S.lt.map (·.1) = S.keys := by
  unfold Ms.keys
  rw [← h, List.map_map]
  rfl
theorem MdX.wkeys (h : MdX H o a S) : All2 (fun p z => p.1 = idK z ∧ True) a.wk S.keys := by
  rw [← lt_keys h.lc]
  refine ⟨by rw [h.kww.1]; exact (List.length_map ..).symm, fun i p z hp hz => ?_⟩
  rw [List.getElem?_map, Option.map_eq_some_iff] at hz
  obtain ⟨y, hy, rfl⟩ := hz
  exact ⟨(h.kww.2 i p y hp hy).1, trivial⟩
/-- a key more, its causes the new list at L -/
theorem MdX.put {H1 H2 : Hp} {L : Addr} {l : List Idn} {z : Idn} {y : Str} (h : MdX H o a S) (hL : IdL H L l) (nL : ¬ a.F L) (fresh : z ∉ S.keys)
    (s1 : SameBut a.c H H1) (e1 : H1 a.c = some (.dT (putK a.ck (idK z) (.ref L)))) (s2 : SameBut a.wd H1 H2) (e2 : H2 a.wd = some (.dT (putK a.wk (idK z) (.str y)))) (hn : a.n < 450) :
    MdX H2 o { a with F := fun b => a.F b ∨ b = L, ck := a.ck ++ [(idK z, .ref L)], wk := a.wk ++ [(idK z, .str y)], n := a.n + 1 } { S with cs := S.cs ++ [(z, l)], lt := S.lt ++ [(z, l, y)] } := by
  have st : ∀ b u, b ≠ a.c → b ≠ a.wd → H b = some u → H2 b = some u := fun b u n1 n2 e => s2 b u n2 (s1 b u n1 e)
  have ls : ∀ b xs, H b = some (.lst xs) → H2 b = some (.lst xs) := fun b xs e => st b _ (ne_of e h.hc (by simp)) (ne_of e h.hw (by simp)) e
  have tp : ∀ b xs, H b = some (.tup xs) → H2 b = some (.tup xs) := fun b xs e => st b _ (ne_of e h.hc (by simp)) (ne_of e h.hw (by simp)) e
  have hc2 : H2 a.c = some (.dT (putK a.ck (idK z) (.ref L))) := s2 _ _ h.cw e1
  have il : ∀ {q l}, IdL H q l → IdL H2 q l := fun ⟨xs, e, b⟩ => ⟨xs, ls _ _ e, b.mono fun _ _ => IdAt.keeps tp⟩
  have ek : ({ S with cs := S.cs ++ [(z, l)], lt := S.lt ++ [(z, l, y)] } : Ms).keys = S.keys ++ [z] := by
    unfold Ms.keys
    rw [List.map_append]
    rfl
  exact {
    ho := st _ _ (ne_of h.ho h.hc (by simp)) (ne_of h.ho h.hw (by simp)) h.ho
    hc := by rw [← put_new (R := fun _ => True) h.keys fresh]; exact hc2
    hw := by rw [← put_new (R := fun _ => True) h.wkeys fresh]; exact e2
    hg := ls _ _ h.hg
    ht := ls _ _ h.ht
    cw := h.cw
    fo := .inl h.fo
    fc := .inl h.fc
    fw := .inl h.fw
    fg := .inl h.fg
    ft := .inl h.ft
    fd := fun b f e => by
      by_cases c1 : b = a.wd
      · subst c1
        rw [e2] at e
        cases e
      by_cases c2 : b = a.c
      · subst c2
        rw [hc2] at e
        cases e
      rcases f with f | rfl
      · cases d : H b with
        | none => exact h.fd b f d
        | some u => rw [st b u c2 c1 d] at e; cases e
      · obtain ⟨_, e3, _⟩ := hL
        rw [ls _ _ e3] at e
        cases e
    kc := All2.append (h.kc.mono fun _ _ ⟨e, q, q1, q2, q3, q4⟩ => ⟨e, q, q1, il q2, q3, .inl q4⟩) (All2.cons ⟨rfl, L, rfl, il hL, fun c => nL (h.fq L c), .inr rfl⟩ All2.nil)
    kg := h.kg.mono fun _ _ => il
    kt := h.kt.mono fun _ _ => il
    nd := h.nd
    fq := fun q hq => .inl (h.fq q hq)
    gn := h.gn
    tn := h.tn
    kw := by
      rw [ek]
      show (a.wk ++ _).length ≤ _
      rw [List.length_append, List.length_append]
      exact Nat.succ_le_succ h.kw
    kl := by
      rw [ek, List.length_append]
      exact Nat.succ_le_succ h.kl
    nl := fun x hx => Nat.le_succ_of_le (h.nl x hx)
    nn := hn
    kww := All2.append h.kww (All2.cons ⟨rfl, rfl⟩ All2.nil)
    lc := by
      show (S.lt ++ _).map _ = S.cs ++ _
      rw [List.map_append, h.lc]
      rfl }
theorem nxt_fresh {M : Nat} {i : Int} (h : Inw M S) : nxt S.keys i ∉ S.keys := fun hz => by
  have := ((h.kn _ _).mp (show (i, 1 + ((cnt S.keys i : Nat) : Int)) ∈ S.keys from hz)).2
  omega
end
/-- [[] for k in range(n)]: new lists -/
theorem lc_newL {g : TG} {tt : TT} {te : TE} {vs : List Nat} {σ : L2.St} {H1 : Hp} {D : Addr} {Qd : Hp → Prop} {n : Nat} {xs : List V} (hl : n ≤ 1000) (hD : H1 D = none)
    (hs : ∀ i, i < n → ∀ H (Q : VK) (Rr : Hp → Prop), Same H1 H → (∀ q HN, H q = none → Same H HN → HN q = some (.lst xs) → Q (.ref q) HN) →
      g (.int (0 + i)) (wipe σ vs) H fun σ2 H2 => wipe σ2 vs = wipe σ vs ∧ tt σ2 H2 fun b H3 => if b = true then te σ2 H3 Q else Rr H3)
    (hd : ∀ H (qs : List Addr), Same H1 H → H D = some (.lst (qs.map V.ref)) → qs.length = n → (∀ q ∈ qs, H1 q = none ∧ q ≠ D ∧ H q = some (.lst xs)) → qs.Nodup → Qd H) :
    ∃ W : Nat → Nat → Hp → Prop, (∃ m, W 0 m (upd H1 D (.lst []))) ∧ ∀ i m H, W i m H →
      ((Itr 0 n).stop i H ∧ Qd H) ∨ ((Itr 0 n).go i H ∧ ∃ Nx : Hp → Prop, (∀ H', Nx H' → ∃ m', m' < m ∧ W (i + 1) m' H') ∧ ∀ x H', (Itr 0 n).yld i H x H' → g x (wipe σ vs) H' fun σ2 H2 => wipe σ2 vs = wipe σ vs ∧ tt σ2 H2 fun b H3 =>
        if b = true then te σ2 H3 fun y H4 => ∃ acc, H4 D = some (.lst acc) ∧ acc.length < sizeLine ∧ Nx (upd H4 D (.lst (acc ++ [y]))) else Nx H3) := by
  have sb : ∀ {H o}, Same H1 H → Same H1 (upd H D o) := fun {H o} s b u e => by
    rw [upd_ne (ne_of_none e hD)]
    exact s b u e
  refine lc_it walk_range (fun i H => Same H1 H ∧ ∃ qs : List Addr, H D = some (.lst (qs.map V.ref)) ∧ qs.length = i ∧ (∀ q ∈ qs, H1 q = none ∧ q ≠ D ∧ H q = some (.lst xs)) ∧ qs.Nodup) ⟨sb (Same.refl H1), [], upd_same, rfl, (fun _ h => nomatch h), List.nodup_nil⟩ (fun _ _ _ _ => trivial) ?_ ?_
  · rintro i v H H' hi ⟨s1, qs, e2, e3, e4, e5⟩ ⟨rfl, rfl⟩
    refine hs i hi H' _ _ s1 (fun q HN hq sa hg => ?_)
    have nq : q ≠ D := fun c => by rw [c, e2] at hq; cases hq
    refine ⟨_, sa _ _ e2, small1000 (by rw [List.length_map]; omega), sb (s1.trans sa), qs ++ [q], by rw [upd_same, List.map_append]; rfl, by rw [List.length_append, e3]; rfl, fun p hp => ?_, ?_⟩
    · rcases List.mem_append.mp hp with hp | hp
      · obtain ⟨n1, n2, e⟩ := e4 p hp
        exact ⟨n1, n2, by rw [upd_ne n2]; exact sa _ _ e⟩
      · rw [List.mem_singleton.mp hp]
        exact ⟨none_same s1 hq, nq, by rw [upd_ne nq]; exact hg⟩
    · rw [List.nodup_append]
      refine ⟨e5, List.pairwise_singleton _ _, fun p hp r hr c => ?_⟩
      rw [List.mem_singleton.mp hr] at c
      subst c
      have := (e4 p hp).2.2
      rw [hq] at this
      cases this
  · rintro H ⟨s1, qs, e2, e3, e4, e5⟩
    exact hd H qs s1 e2 e3 e4 e5
theorem all2_rep {R : Addr → List Idn → Prop} {qs : List Addr} {n : Nat} {l : List Idn} (h : qs.length = n) (r : ∀ p ∈ qs, R p l) : All2 R qs (List.replicate n l) := by
  refine ⟨by rw [h, List.length_replicate], fun i q k hq hk => ?_⟩
  rw [List.getElem?_replicate] at hk
  split at hk
  · cases hk
    exact r q (List.mem_of_getElem? hq)
  · cases hk
theorem cast_q {Q : VK} {H : Hp} {x y : V} (h : Q x H) (e : x = y) : Q y H := e ▸ h
theorem i_idxX {K : PySem.W.Frag} {H : Hp} {Q : VK} {p : Addr} {x : V} {xs : List V} {l : List Idn} {z : Idn} (h1 : SqL K H p xs) (h2 : All2 (IdAt H) xs l) (h3 : IdAt H x z) (h4 : z ∈ l) (h : ∀ j : Nat, l[j]? = some z → Q (.int j) H) : rIndexD K (.ref p) [x] H Q := by
  obtain ⟨j, e1, e2⟩ := first_at h4
  refine ⟨p, x, idD z, l.map idD, j, idD z, rfl, rfl, .lst h1 (ids_dp h2), h3.dp, ids_shaped l, idD_shaped z, by rw [List.getElem?_map, e1]; rfl, by rw [idD_eqv]; exact decide_eq_true rfl, fun m z' hm hz => ?_, h j e1⟩
  rw [List.getElem?_map, Option.map_eq_some_iff] at hz
  obtain ⟨y, hy, rfl⟩ := hz
  rw [idD_eqv]
  exact decide_eq_false (e2 m y hm hy)
def optV : Option Str → V
  | none => .non
  | some w => .str w
end My
/-! the program's walk through a history, in the heap -/
namespace My
open PySem L2
structure WkA where
  n : Nat
  dx : Addr
  kr : Addr
  kl : Addr
  gc : Addr
  gi : Addr
  ti : Addr
  tc : Addr
  lr : Addr
  kk : List (List Key × V)
  ls : List V
  gcq : List Addr
  giq : List Addr
  tiq : List Addr
  tcq : List Addr
def WkA.all (w : WkA) : List Addr := w.gcq ++ (w.giq ++ (w.tiq ++ (w.tcq ++ [w.lr, w.kl, w.gc, w.gi, w.ti, w.tc])))
/-- the list at q holds the counts of these ids -/
def CtL (M : Nat) (H : Hp) (q : Addr) (l : List Idn) : Prop := H q = some (.lst ((cnts M l).map V.int))
def WkF (w : WkA) : List (Str × V) := [("kept_rows", .ref w.kr), ("kept_letters", .ref w.kl), ("got_counts", .ref w.gc), ("got_ids", .ref w.gi), ("told_ids", .ref w.ti), ("told_counts", .ref w.tc), ("longest_row", .ref w.lr)]

/-- the letter v: its id, its causes, its word -/
def LtAt (K : PySem.W.Frag) (CL CC : Addr) (M : Nat) (H : Hp) (v : V) (z : Idn × List Idn × Str) : Prop := ∃ q dq c dc t, v = .ref q ∧ H q = some (.ins CL dq [("own_sender", .int z.1.1), ("own_number", .int z.1.2), ("own_word", .str z.2.2), ("own_causes", .ref c)]) ∧ H c = some (.ins CC dc [("kept_numbers", .ref t)]) ∧ SqT K H t ((cnts M z.2.1).map V.int)
theorem LtAt.keeps {K : PySem.W.Frag} {CL CC : Addr} {M : Nat} {H H' : Hp} {v : V} {z : Idn × List Idn × Str} (k : ∀ b u, (∀ ys, u ≠ .lst ys) → (∀ es, u ≠ .dT es) → H b = some u → H' b = some u) (h : LtAt K CL CC M H v z) : LtAt K CL CC M H' v z := by
  obtain ⟨q, dq, c, dc, t, rfl, h1, h2, h3⟩ := h
  exact ⟨q, dq, c, dc, t, rfl, k _ _ (by simp) (by simp) h1, k _ _ (by simp) (by simp) h2, h3.imp (fun r => r.imp (k _ _ (by simp) (by simp)) fun ⟨o, e⟩ => ⟨o, k _ _ (by simp) (by simp) e⟩) id⟩
theorem LtAt.same {K : PySem.W.Frag} {CL CC : Addr} {M : Nat} {H H' : Hp} {v : V} {z : Idn × List Idn × Str} (s : Same H H') (h : LtAt K CL CC M H v z) : LtAt K CL CC M H' v z := h.keeps (fun _ _ _ _ => s _ _)
structure Wk (K : PySem.W.Frag) (C CL CC : Addr) (M : Nat) (H0 H : Hp) (x : Addr) (w : WkA) (S : Ms) : Prop where
  hx : H x = some (.ins C w.dx (WkF w))
  hr : H w.kr = some (.dT w.kk)
  rk : All2 (fun p (z : Idn × List Idn) => p.1 = idK z.1 ∧ ∃ q, p.2 = .ref q ∧ H q = some (.tup ((cnts M z.2).map V.int))) w.kk S.cs
  hl : H w.kl = some (.lst w.ls)
  ll : w.ls.length ≤ S.keys.length
  hgc : H w.gc = some (.lst (w.gcq.map V.ref))
  hgi : H w.gi = some (.lst (w.giq.map V.ref))
  hti : H w.ti = some (.lst (w.tiq.map V.ref))
  htc : H w.tc = some (.lst (w.tcq.map V.ref))
  kgc : All2 (CtL M H) w.gcq S.got
  kgi : All2 (IdL H) w.giq S.got
  kti : All2 (IdL H) w.tiq S.told
  ktc : All2 (CtL M H) w.tcq S.told
  hlr : IdL H w.lr S.lg
  nd : w.all.Nodup
  s0 : Same H0 H
  fr : ∀ q ∈ w.all, H0 q = none
  fk : H0 w.kr = none
  kl : S.keys.length ≤ w.n
  nl : ∀ l ∈ S.got ++ S.told, l.length ≤ w.n
  ng : S.lg.length ≤ w.n
  nn : w.n ≤ 450
  lt : All2 (LtAt K CL CC M H) w.ls S.lt
theorem cnts_len {M : Nat} {l : List Idn} : (cnts M l).length = M := by unfold cnts; rw [List.length_map, List.length_range]
theorem cnts_at {M : Nat} {l : List Idn} {s : Int} (h : 0 ≤ s ∧ s ≤ (M : Int) - 1) : atI ((cnts M l).map V.int) s = some (.int (cnt l s)) := by
  obtain ⟨k, rfl⟩ := Int.eq_ofNat_of_zero_le h.1
  refine atI_of ?_
  unfold cnts
  rw [List.map_map, List.getElem?_map, List.getElem?_range (by omega)]
  rfl
theorem cnts_set {M : Nat} {l : List Idn} {z : Idn} (h : 0 ≤ z.1 ∧ z.1 ≤ (M : Int) - 1) (e : z.2 = (cnt l z.1 : Int) + 1) : ((cnts M l).map V.int).set z.1.toNat (.int z.2) = (cnts M (l ++ [z])).map V.int := by
  obtain ⟨s, n⟩ := z
  simp only at h e ⊢
  obtain ⟨k, rfl⟩ := Int.eq_ofNat_of_zero_le h.1
  subst e
  rw [Int.toNat_natCast]
  refine List.ext_getElem? fun i => ?_
  unfold cnts
  rw [List.getElem?_set, List.map_map, List.map_map, List.getElem?_map, List.getElem?_map, List.length_map, List.length_range]
  by_cases c : k = i
  · subst c
    have hk : k < M := by omega
    rw [if_pos rfl, if_pos hk, List.getElem?_range hk, Option.map_some]
    show some (V.int _) = some (V.int ((cnt (l ++ [(((k : Nat) : Int), _)]) ((k : Nat) : Int) : Nat) : Int))
    rw [cnt_snoc, if_pos rfl]
    rfl
  · rw [if_neg c]
    by_cases hi : i < M
    · rw [List.getElem?_range hi, Option.map_some, Option.map_some]
      show some (V.int ((cnt l ((i : Nat) : Int) : Nat) : Int)) = some (V.int ((cnt (l ++ [(((k : Nat) : Int), _)]) ((i : Nat) : Int) : Nat) : Int))
      rw [cnt_snoc, if_neg (by intro z; simp only at z; omega)]
      rfl
    · rw [List.getElem?_eq_none (by rw [List.length_range]; omega)]
      rfl
section
variable {K : PySem.W.Frag} {C CL CC : Addr} {M : Nat} {H0 H H' : Hp} {x : Addr} {w : WkA} {S : Ms}
theorem Wk.same (s : Same H H') (h : Wk K C CL CC M H0 H x w S) : Wk K C CL CC M H0 H' x w S :=
  { h with
    hx := s _ _ h.hx
    hr := s _ _ h.hr
    rk := h.rk.mono fun _ _ ⟨e, q, e1, e2⟩ => ⟨e, q, e1, s _ _ e2⟩
    hl := s _ _ h.hl
    hgc := s _ _ h.hgc
    hgi := s _ _ h.hgi
    hti := s _ _ h.hti
    htc := s _ _ h.htc
    kgc := h.kgc.mono fun _ _ => s _ _
    kgi := h.kgi.mono fun _ _ => IdL.same s
    kti := h.kti.mono fun _ _ => IdL.same s
    ktc := h.ktc.mono fun _ _ => s _ _
    hlr := h.hlr.same s
    s0 := h.s0.trans s
    lt := h.lt.mono fun _ _ => LtAt.same s }
theorem Wk.keys (h : Wk K C CL CC M H0 H x w S) : All2 (fun p z => p.1 = idK z ∧ True) w.kk S.keys := by
  refine ⟨by rw [h.rk.1]; exact (List.length_map ..).symm, fun i p z hp hz => ?_⟩
  unfold Ms.keys at hz
  rw [List.getElem?_map, Option.map_eq_some_iff] at hz
  obtain ⟨y, hy, rfl⟩ := hz
  exact ⟨(h.rk.2 i p y hp hy).1, trivial⟩
theorem Wk.causes (h : Wk K C CL CC M H0 H x w S) {z : Idn} (hz : z ∈ S.keys) : ∃ q, valV w.kk (idK z) = some (.ref q) ∧ H q = some (.tup ((cnts M (causesOf S.cs z)).map V.int)) := by
  obtain ⟨v, y, e1, e2, q, rfl, e3⟩ := find_all2 (R := fun v (l : List Idn) => ∃ q, v = .ref q ∧ H q = some (.tup ((cnts M l).map V.int))) h.rk hz
  refine ⟨q, e1, ?_⟩
  unfold causesOf
  rw [e2]
  exact e3
/-- one of its lists is written -/
theorem Wk.st {q : Addr} {ys zs : List V} (h : Wk K C CL CC M H0 H x w S) (hq : q ∈ w.all) (hq1 : H q = some (.lst ys)) (s : SameBut q H H') :
    H' x = some (.ins C w.dx (WkF w)) ∧ H' w.kr = some (.dT w.kk) ∧ All2 (fun p (z : Idn × List Idn) => p.1 = idK z.1 ∧ ∃ q, p.2 = .ref q ∧ H' q = some (.tup ((cnts M z.2).map V.int))) w.kk S.cs ∧ Same H0 H' ∧ (∀ b xs, H b = some (.tup xs) → H' b = some (.tup xs)) := by
  have tp := MdX.tp hq1 s
  exact ⟨s _ _ (ne_of h.hx hq1 (by simp)) h.hx, s _ _ (ne_of h.hr hq1 (by simp)) h.hr, h.rk.mono fun _ _ ⟨e, q, e1, e2⟩ => ⟨e, q, e1, tp _ _ e2⟩, fun b u e => s _ _ (fun c => by subst c; rw [h.fr _ hq] at e; cases e) (h.s0 _ _ e), tp⟩
structure WkN (w : WkA) : Prop where
  a1 : w.gcq.Nodup
  a2 : w.giq.Nodup
  a3 : w.tiq.Nodup
  a4 : w.tcq.Nodup
  b12 : ∀ a ∈ w.gcq, ∀ b ∈ w.giq, a ≠ b
  b13 : ∀ a ∈ w.gcq, ∀ b ∈ w.tiq, a ≠ b
  b14 : ∀ a ∈ w.gcq, ∀ b ∈ w.tcq, a ≠ b
  b23 : ∀ a ∈ w.giq, ∀ b ∈ w.tiq, a ≠ b
  b24 : ∀ a ∈ w.giq, ∀ b ∈ w.tcq, a ≠ b
  b34 : ∀ a ∈ w.tiq, ∀ b ∈ w.tcq, a ≠ b
  c1 : ∀ a ∈ w.gcq, a ≠ w.lr ∧ a ≠ w.kl ∧ a ≠ w.gc ∧ a ≠ w.gi ∧ a ≠ w.ti ∧ a ≠ w.tc
  c2 : ∀ a ∈ w.giq, a ≠ w.lr ∧ a ≠ w.kl ∧ a ≠ w.gc ∧ a ≠ w.gi ∧ a ≠ w.ti ∧ a ≠ w.tc
  c3 : ∀ a ∈ w.tiq, a ≠ w.lr ∧ a ≠ w.kl ∧ a ≠ w.gc ∧ a ≠ w.gi ∧ a ≠ w.ti ∧ a ≠ w.tc
  c4 : ∀ a ∈ w.tcq, a ≠ w.lr ∧ a ≠ w.kl ∧ a ≠ w.gc ∧ a ≠ w.gi ∧ a ≠ w.ti ∧ a ≠ w.tc
  d1 : w.lr ≠ w.kl ∧ w.lr ≠ w.gc ∧ w.lr ≠ w.gi ∧ w.lr ≠ w.ti ∧ w.lr ≠ w.tc
  d2 : w.kl ≠ w.gc ∧ w.kl ≠ w.gi ∧ w.kl ≠ w.ti ∧ w.kl ≠ w.tc
theorem Wk.apart (h : Wk K C CL CC M H0 H x w S) : WkN w := by
  have n := h.nd
  unfold WkA.all at n
  obtain ⟨a1, n, x1⟩ := List.nodup_append.mp n
  obtain ⟨a2, n, x2⟩ := List.nodup_append.mp n
  obtain ⟨a3, n, x3⟩ := List.nodup_append.mp n
  obtain ⟨a4, n, x4⟩ := List.nodup_append.mp n
  simp only [List.mem_append, List.mem_cons, List.not_mem_nil, or_false] at x1 x2 x3 x4
  simp only [List.nodup_cons, List.mem_cons, List.not_mem_nil, or_false, not_or, List.nodup_nil, and_true, not_false_eq_true] at n
  obtain ⟨⟨p1, p2, p3, p4, p5⟩, ⟨q1, q2, q3, q4⟩, _⟩ := n
  exact {
    a1 := a1
    a2 := a2
    a3 := a3
    a4 := a4
    b12 := fun a ha b hb => x1 a ha b (.inl hb)
    b13 := fun a ha b hb => x1 a ha b (.inr (.inl hb))
    b14 := fun a ha b hb => x1 a ha b (.inr (.inr (.inl hb)))
    b23 := fun a ha b hb => x2 a ha b (.inl hb)
    b24 := fun a ha b hb => x2 a ha b (.inr (.inl hb))
    b34 := fun a ha b hb => x3 a ha b (.inl hb)
    c1 := fun a ha => ⟨x1 a ha _ (by simp), x1 a ha _ (by simp), x1 a ha _ (by simp), x1 a ha _ (by simp), x1 a ha _ (by simp), x1 a ha _ (by simp)⟩
    c2 := fun a ha => ⟨x2 a ha _ (by simp), x2 a ha _ (by simp), x2 a ha _ (by simp), x2 a ha _ (by simp), x2 a ha _ (by simp), x2 a ha _ (by simp)⟩
    c3 := fun a ha => ⟨x3 a ha _ (by simp), x3 a ha _ (by simp), x3 a ha _ (by simp), x3 a ha _ (by simp), x3 a ha _ (by simp), x3 a ha _ (by simp)⟩
    c4 := fun a ha => ⟨x4 a ha _ (by simp), x4 a ha _ (by simp), x4 a ha _ (by simp), x4 a ha _ (by simp), x4 a ha _ (by simp), x4 a ha _ (by simp)⟩
    d1 := ⟨p1, p2, p3, p4, p5⟩
    d2 := ⟨q1, q2, q3, q4⟩ }
theorem WkN.nd {w : WkA} (N : WkN w) (e : w.gc ≠ w.gi ∧ w.gc ≠ w.ti ∧ w.gc ≠ w.tc ∧ w.gi ≠ w.ti ∧ w.gi ≠ w.tc ∧ w.ti ≠ w.tc) : w.all.Nodup := by
  obtain ⟨e1, e2, e3, e4, e5, e6⟩ := e
  obtain ⟨p1, p2, p3, p4, p5⟩ := N.d1
  obtain ⟨q1, q2, q3, q4⟩ := N.d2
  unfold WkA.all
  refine List.nodup_append.mpr ⟨N.a1, List.nodup_append.mpr ⟨N.a2, List.nodup_append.mpr ⟨N.a3, List.nodup_append.mpr ⟨N.a4, ?_, ?_⟩, ?_⟩, ?_⟩, ?_⟩
  · simp [*]
  · intro a ha b hb
    have c := N.c4 a ha
    simp only [List.mem_cons, List.not_mem_nil, or_false] at hb
    rcases hb with rfl | rfl | rfl | rfl | rfl | rfl <;> simp [c]
  · intro a ha b hb
    have c := N.c3 a ha
    simp only [List.mem_append, List.mem_cons, List.not_mem_nil, or_false] at hb
    rcases hb with hb | rfl | rfl | rfl | rfl | rfl | rfl
    · exact N.b34 a ha b hb
    all_goals simp [c]
  · intro a ha b hb
    have c := N.c2 a ha
    simp only [List.mem_append, List.mem_cons, List.not_mem_nil, or_false] at hb
    rcases hb with hb | hb | rfl | rfl | rfl | rfl | rfl | rfl
    · exact N.b23 a ha b hb
    · exact N.b24 a ha b hb
    all_goals simp [c]
  · intro a ha b hb
    have c := N.c1 a ha
    simp only [List.mem_append, List.mem_cons, List.not_mem_nil, or_false] at hb
    rcases hb with hb | hb | hb | rfl | rfl | rfl | rfl | rfl | rfl
    · exact N.b12 a ha b hb
    · exact N.b13 a ha b hb
    · exact N.b14 a ha b hb
    all_goals simp [c]
theorem cnts_nil {M : Nat} : cnts M [] = List.replicate M 0 := by
  unfold cnts
  refine List.ext_getElem? fun i => ?_
  rw [List.getElem?_map, List.getElem?_replicate]
  by_cases h : i < M
  · rw [List.getElem?_range h, if_pos h]
    rfl
  · rw [List.getElem?_eq_none (by rw [List.length_range]; omega), if_neg h]
    rfl
theorem Wk.inAll (q : Addr) : (q ∈ w.gcq ∨ q ∈ w.giq ∨ q ∈ w.tiq ∨ q ∈ w.tcq ∨ q = w.lr ∨ q = w.kl) → q ∈ w.all := by
  unfold WkA.all
  simp only [List.mem_append, List.mem_cons]
  rintro (h | h | h | h | h | h) <;> simp [h]
theorem all2_st {R R' : Addr → List Idn → Prop} {qs : List Addr} {ls : List (List Idn)} (h : All2 R qs ls) (k : ∀ q ∈ qs, ∀ l, R q l → R' q l) : All2 R' qs ls := ⟨h.1, fun i q l hq hl => k q (List.mem_of_getElem? hq) l (h.2 i q l hq hl)⟩
theorem rowLen {ls ms : List (List Idn)} {n i : Nat} (h : ∀ l ∈ ls ++ ms, l.length ≤ n) (hi : i < ls.length) : (rowOf ls (i : Nat)).length ≤ n := by
  refine h _ (List.mem_append_left _ ?_)
  unfold rowOf
  rw [Int.toNat_natCast, List.getD_eq_getElem?_getD, List.getElem?_eq_getElem hi]
  exact List.getElem_mem hi
theorem rowLen2 {ls ms : List (List Idn)} {n i : Nat} (h : ∀ l ∈ ls ++ ms, l.length ≤ n) (hi : i < ms.length) : (rowOf ms (i : Nat)).length ≤ n := by
  refine h _ (List.mem_append_right _ ?_)
  unfold rowOf
  rw [Int.toNat_natCast, List.getD_eq_getElem?_getD, List.getElem?_eq_getElem hi]
  exact List.getElem_mem hi
theorem Wk.goGot {i : Nat} {q1 q2 : Addr} {z : Idn} (h : Wk K C CL CC M H0 H x w S) (h1 : w.gcq[i]? = some q1) (h2 : w.giq[i]? = some q2) (st : ∀ b u, b ≠ q1 → b ≠ q2 → H b = some u → H' b = some u)
    (e1 : H' q1 = some (.lst ((cnts M (rowOf S.got (i : Nat) ++ [z])).map V.int))) (e2 : IdL H' q2 (rowOf S.got (i : Nat) ++ [z])) (hn : w.n < 450) : Wk K C CL CC M H0 H' x { w with n := w.n + 1 } (S.goGot (i : Nat) z) := by
  have N := h.apart
  have m1 := List.mem_of_getElem? h1
  have m2 := List.mem_of_getElem? h2
  have hi : i < S.got.length := by rw [← h.kgc.1]; exact (List.getElem?_eq_some_iff.mp h1).1
  obtain ⟨l1, _, c1⟩ := h.kgc.get h1
  obtain ⟨l2, _, xs2, c2, _⟩ := h.kgi.get h2
  have s2 : ∀ {b u}, (∀ ys, u ≠ .lst ys) → H b = some u → H' b = some u := fun n e => st _ _ (ne_of e c1 (n _)) (ne_of e c2 (n _)) e
  have tp : ∀ b xs, H b = some (.tup xs) → H' b = some (.tup xs) := fun b xs => s2 (fun _ => by simp)
  exact {
    hx := s2 (fun _ => by simp) h.hx
    hr := s2 (fun _ => by simp) h.hr
    rk := h.rk.mono fun _ _ ⟨e, q, e1, e2⟩ => ⟨e, q, e1, tp _ _ e2⟩
    hl := st _ _ (N.c1 _ m1).2.1.symm (N.c2 _ m2).2.1.symm h.hl
    ll := h.ll
    hgc := st _ _ (N.c1 _ m1).2.2.1.symm (N.c2 _ m2).2.2.1.symm h.hgc
    hgi := st _ _ (N.c1 _ m1).2.2.2.1.symm (N.c2 _ m2).2.2.2.1.symm h.hgi
    hti := st _ _ (N.c1 _ m1).2.2.2.2.1.symm (N.c2 _ m2).2.2.2.2.1.symm h.hti
    htc := st _ _ (N.c1 _ m1).2.2.2.2.2.symm (N.c2 _ m2).2.2.2.2.2.symm h.htc
    kgc := by
      show All2 (CtL M H') w.gcq (S.got.set (Int.toNat (i : Nat)) _)
      rw [Int.toNat_natCast]
      refine (all2_st (R' := fun q l => q ≠ q1 → CtL M H' q l) h.kgc fun q hq l r n => st _ _ n (N.b12 q hq q2 m2) r).setR h1 N.a1 (fun u w n r => r n) e1
    kgi := by
      show All2 (IdL H') w.giq (S.got.set (Int.toNat (i : Nat)) _)
      rw [Int.toNat_natCast]
      refine (all2_st (R' := fun q l => q ≠ q2 → IdL H' q l) h.kgi fun q hq l r n => r.keeps tp (fun u => st _ _ (N.b12 q1 m1 q hq).symm n)).setR h2 N.a2 (fun u w n r => r n) e2
    kti := all2_st h.kti fun q hq l r => r.keeps tp (fun u => st _ _ (N.b13 q1 m1 q hq).symm (N.b23 q2 m2 q hq).symm)
    ktc := all2_st h.ktc fun q hq l r => st _ _ (N.b14 q1 m1 q hq).symm (N.b24 q2 m2 q hq).symm r
    hlr := h.hlr.keeps tp (fun u => st _ _ (N.c1 _ m1).1.symm (N.c2 _ m2).1.symm)
    nd := h.nd
    s0 := fun b u e => st _ _ (fun c => by subst c; rw [h.fr _ (Wk.inAll _ (.inl m1))] at e; cases e) (fun c => by subst c; rw [h.fr _ (Wk.inAll _ (.inr (.inl m2)))] at e; cases e) (h.s0 _ _ e)
    fr := h.fr
    fk := h.fk
    kl := Nat.le_succ_of_le h.kl
    nl := len_set h.nl (by rw [List.length_append]; exact Nat.succ_le_succ (rowLen h.nl hi))
    ng := Nat.le_succ_of_le h.ng
    nn := hn
    lt := h.lt.mono fun _ _ => LtAt.keeps (fun _ _ n _ => s2 n) }
theorem Wk.goTold {i : Nat} {q1 q2 : Addr} {z : Idn} (h : Wk K C CL CC M H0 H x w S) (h1 : w.tcq[i]? = some q1) (h2 : w.tiq[i]? = some q2) (st : ∀ b u, b ≠ q1 → b ≠ q2 → b ≠ w.lr → H b = some u → H' b = some u)
    (e1 : H' q1 = some (.lst ((cnts M (rowOf S.told (i : Nat) ++ [z])).map V.int))) (e2 : IdL H' q2 (rowOf S.told (i : Nat) ++ [z])) (e3 : IdL H' w.lr (S.goTold (i : Nat) z).lg) (hn : w.n < 450) : Wk K C CL CC M H0 H' x { w with n := w.n + 1 } (S.goTold (i : Nat) z) := by
  have N := h.apart
  have m1 := List.mem_of_getElem? h1
  have m2 := List.mem_of_getElem? h2
  have hi : i < S.told.length := by rw [← h.ktc.1]; exact (List.getElem?_eq_some_iff.mp h1).1
  obtain ⟨l1, _, c1⟩ := h.ktc.get h1
  obtain ⟨l2, _, xs2, c2, _⟩ := h.kti.get h2
  obtain ⟨xs3, c3, _⟩ := id h.hlr
  have s2 : ∀ {b u}, (∀ ys, u ≠ .lst ys) → H b = some u → H' b = some u := fun n e => st _ _ (ne_of e c1 (n _)) (ne_of e c2 (n _)) (ne_of e c3 (n _)) e
  have tp : ∀ b xs, H b = some (.tup xs) → H' b = some (.tup xs) := fun b xs => s2 (fun _ => by simp)
  exact {
    hx := s2 (fun _ => by simp) h.hx
    hr := s2 (fun _ => by simp) h.hr
    rk := h.rk.mono fun _ _ ⟨e, q, e1, e2⟩ => ⟨e, q, e1, tp _ _ e2⟩
    hl := st _ _ (N.c4 _ m1).2.1.symm (N.c3 _ m2).2.1.symm N.d1.1.symm h.hl
    ll := h.ll
    hgc := st _ _ (N.c4 _ m1).2.2.1.symm (N.c3 _ m2).2.2.1.symm N.d1.2.1.symm h.hgc
    hgi := st _ _ (N.c4 _ m1).2.2.2.1.symm (N.c3 _ m2).2.2.2.1.symm N.d1.2.2.1.symm h.hgi
    hti := st _ _ (N.c4 _ m1).2.2.2.2.1.symm (N.c3 _ m2).2.2.2.2.1.symm N.d1.2.2.2.1.symm h.hti
    htc := st _ _ (N.c4 _ m1).2.2.2.2.2.symm (N.c3 _ m2).2.2.2.2.2.symm N.d1.2.2.2.2.symm h.htc
    ktc := by
      show All2 (CtL M H') w.tcq (S.told.set (Int.toNat (i : Nat)) _)
      rw [Int.toNat_natCast]
      refine (all2_st (R' := fun q l => q ≠ q1 → CtL M H' q l) h.ktc fun q hq l r n => st _ _ n (N.b34 q2 m2 q hq).symm (N.c4 q hq).1 r).setR h1 N.a4 (fun u w n r => r n) e1
    kti := by
      show All2 (IdL H') w.tiq (S.told.set (Int.toNat (i : Nat)) _)
      rw [Int.toNat_natCast]
      refine (all2_st (R' := fun q l => q ≠ q2 → IdL H' q l) h.kti fun q hq l r n => r.keeps tp (fun u => st _ _ (N.b34 q hq q1 m1) n (N.c3 q hq).1)).setR h2 N.a3 (fun u w n r => r n) e2
    kgi := all2_st h.kgi fun q hq l r => r.keeps tp (fun u => st _ _ (N.b24 q hq q1 m1) (N.b23 q hq q2 m2) (N.c2 q hq).1)
    kgc := all2_st h.kgc fun q hq l r => st _ _ (N.b14 q hq q1 m1) (N.b13 q hq q2 m2) (N.c1 q hq).1 r
    hlr := e3
    nd := h.nd
    s0 := fun b u e => st _ _ (fun c => by subst c; rw [h.fr _ (Wk.inAll _ (.inr (.inr (.inr (.inl m1)))))] at e; cases e) (fun c => by subst c; rw [h.fr _ (Wk.inAll _ (.inr (.inr (.inl m2))))] at e; cases e) (fun c => by subst c; rw [h.fr _ (Wk.inAll _ (by simp))] at e; cases e) (h.s0 _ _ e)
    fr := h.fr
    fk := h.fk
    kl := Nat.le_succ_of_le h.kl
    nl := len_set2 h.nl (by rw [List.length_append]; exact Nat.succ_le_succ (rowLen2 h.nl hi))
    ng := by
      show (if _ then _ else _ : List Idn).length ≤ _
      split
      · rw [List.length_append]
        exact Nat.succ_le_succ h.ng
      · exact Nat.le_succ_of_le h.ng
    nn := hn
    lt := h.lt.mono fun _ _ => LtAt.keeps (fun _ _ n _ => s2 n) }
/-- a letter more: its counts, the letter itself -/
theorem Wk.put {qt : Addr} {z : Idn} {l : List Idn} {y : Str} {v : V} (h : Wk K C CL CC M H0 H x w S) (fresh : z ∉ S.keys) (hv : LtAt K CL CC M H' v (z, l, y)) (ht : H' qt = some (.tup ((cnts M l).map V.int))) (st : ∀ b u, b ≠ w.kr → b ≠ w.kl → H b = some u → H' b = some u)
    (e1 : H' w.kr = some (.dT (putK w.kk (idK z) (.ref qt)))) (e2 : H' w.kl = some (.lst (w.ls ++ [v]))) (hn : w.n < 450) : Wk K C CL CC M H0 H' x { w with kk := w.kk ++ [(idK z, .ref qt)], ls := w.ls ++ [v], n := w.n + 1 } { S with cs := S.cs ++ [(z, l)], lt := S.lt ++ [(z, l, y)] } := by
  have N := h.apart
  have ek : ({ S with cs := S.cs ++ [(z, l)], lt := S.lt ++ [(z, l, y)] } : Ms).keys = S.keys ++ [z] := by
    unfold Ms.keys
    rw [List.map_append]
    rfl
  have tp : ∀ b xs, H b = some (.tup xs) → H' b = some (.tup xs) := fun b xs e => st _ _ (ne_of e h.hr (by simp)) (ne_of e h.hl (by simp)) e
  have ls : ∀ b xs, b ≠ w.kl → H b = some (.lst xs) → H' b = some (.lst xs) := fun b xs n e => st _ _ (ne_of e h.hr (by simp)) n e
  exact {
    hx := st _ _ (ne_of h.hx h.hr (by simp)) (ne_of h.hx h.hl (by simp)) h.hx
    hr := by rw [← put_new (R := fun _ => True) h.keys fresh]; exact e1
    rk := All2.append (h.rk.mono fun _ _ ⟨e, q, e1, e2⟩ => ⟨e, q, e1, tp _ _ e2⟩) (All2.cons ⟨rfl, qt, rfl, ht⟩ All2.nil)
    hl := e2
    ll := by
      rw [ek, List.length_append, List.length_append]
      exact Nat.succ_le_succ h.ll
    hgc := ls _ _ N.d2.1.symm h.hgc
    hgi := ls _ _ N.d2.2.1.symm h.hgi
    hti := ls _ _ N.d2.2.2.1.symm h.hti
    htc := ls _ _ N.d2.2.2.2.symm h.htc
    kgc := all2_st h.kgc fun q hq l r => ls _ _ (N.c1 q hq).2.1 r
    kgi := all2_st h.kgi fun q hq l ⟨xs, e, b⟩ => ⟨xs, ls _ _ (N.c2 q hq).2.1 e, b.mono fun _ _ => IdAt.keeps tp⟩
    kti := all2_st h.kti fun q hq l ⟨xs, e, b⟩ => ⟨xs, ls _ _ (N.c3 q hq).2.1 e, b.mono fun _ _ => IdAt.keeps tp⟩
    ktc := all2_st h.ktc fun q hq l r => ls _ _ (N.c4 q hq).2.1 r
    hlr := by
      obtain ⟨xs, e, b⟩ := h.hlr
      exact ⟨xs, ls _ _ N.d1.1 e, b.mono fun _ _ => IdAt.keeps tp⟩
    nd := h.nd
    s0 := fun b u e => st _ _ (fun c => by subst c; rw [h.fk] at e; cases e) (fun c => by subst c; rw [h.fr _ (Wk.inAll _ (by simp))] at e; cases e) (h.s0 _ _ e)
    fr := h.fr
    fk := h.fk
    kl := by
      rw [ek, List.length_append]
      exact Nat.succ_le_succ h.kl
    nl := fun x hx => Nat.le_succ_of_le (h.nl x hx)
    ng := Nat.le_succ_of_le h.ng
    nn := hn
    lt := All2.append (h.lt.mono fun _ _ => LtAt.keeps (fun b u n1 n2 e => st _ _ (ne_of e h.hr (n2 _)) (ne_of e h.hl (n1 _)) e)) (All2.cons hv All2.nil) }
end
end My
/-! zip of a tuple and a list -/
namespace My
open PySem L2
/-- the tuple at a and the list at b as they stand at each turn, the items in new pairs -/
def ItzM (K : PySem.W.Frag) (a b : Addr) : It :=
  ⟨fun i H => ∃ (xs ys : List V) (x y : V), SqT K H a xs ∧ SqL K H b ys ∧ xs[i]? = some x ∧ ys[i]? = some y,
    fun i H v H' => ∃ T x y, v = .ref T ∧ H T = none ∧ H' = upd H T (.tup [x, y]) ∧ (∀ xs, SqT K H a xs → xs[i]? = some x) ∧ ∀ ys, SqL K H b ys → ys[i]? = some y,
    fun i H => ∃ xs ys : List V, SqT K H a xs ∧ SqL K H b ys ∧ xs.length = i ∧ ys.length = i⟩
section
open PySem.Spec
open PyProof.Rows hiding St
structure ZmSep (z TI TO i1 i2 a b : Addr) : Prop where
  S : ZipSep2 z TI TO i1 i2 [i1, a] [i2, b]
  n1 : a ≠ i1
  n2 : b ≠ i2
theorem turn_zipM {P : Program} {w : World} {K : PySem.W.Frag} {elts : List Expr} {kk : Nat} {tpos : Pos} {a b z TI TO i1 i2 : Addr} (D : ZmSep z TI TO i1 i2 a b) :
    Turn P w K (.Tuple elts kk tpos) (ItzM K a b) [z, TI, TO, i1, i2] z (fun i h => IsZip h z TI TO .none ∧ IsTupOf2 h TI (.ref i1) (.ref i2) ∧ (∃ x y, IsTupOf2 h TO x y) ∧ h.IsTupleIter i1 a i ∧ h.IsListIter i2 b i) where
  mem := by simp
  obj := fun i h st c hc => by
    obtain ⟨hz, hTI, ⟨x, y, hTO⟩, ⟨o1, e1, _, d1⟩, ⟨o2, e2, _, d2⟩⟩ := st
    have e' : c = z ∨ c = TI ∨ c = TO ∨ c = i1 ∨ c = i2 := by simpa using hc
    rcases e' with q | q | q | q | q
    · rw [q]; exact ⟨_, hz, fun v q => nomatch q⟩
    · rw [q]; exact ⟨_, hTI, fun v q => nomatch q⟩
    · rw [q]; exact ⟨_, hTO, fun v q => nomatch q⟩
    · rw [q]; exact ⟨o1, e1, fun v q => by rw [d1] at q; cases q⟩
    · rw [q]; exact ⟨o2, e2, fun v q => by rw [d2] at q; cases q⟩
  keep := fun i h h' st k => by
    obtain ⟨hz, hTI, ⟨x, y, hTO⟩, h1, h2⟩ := st
    exact ⟨k z (by simp) _ hz, k TI (by simp) _ hTI, ⟨x, y, k TO (by simp) _ hTO⟩, h1.at fun o q => k i1 (by simp) o q, h2.at fun o q => k i2 (by simp) o q⟩
  item := by
    intro X hP hw hK hc i pins s σ H E I hf st hg
    subst hP hw hK
    obtain ⟨hz, hTI, ⟨x0, y0, hTO⟩, h1, h2⟩ := st
    obtain ⟨xs, ys, x, y, hqx, hqy, hx, hy⟩ := hg
    obtain ⟨its, rv, p, _⟩ := I.tuple hqx
    obtain ⟨its2, rv2, p2, _⟩ := I.list hqy
    obtain ⟨u, hu, ru⟩ := rv.get hx
    obtain ⟨u2, hu2, ru2⟩ := rv2.get hy
    have hzl : z < s.heap.objs.size := Heap.lt_size hz
    have lt1 : i < its.toArray.size := by
      have := (List.getElem?_eq_some_iff.mp hu).1
      simpa using this
    have lt2 : i < its2.toArray.size := by
      have := (List.getElem?_eq_some_iff.mp hu2).1
      simpa using this
    have pT : s.heap.IsTuple a its.toArray := p
    refine wpAny_pyNext_zipD2_item D.S (Draws.tuple (A := X.A.in1) (I.ok.hd hc) i1 a D.n1 its.toArray) (Draws.list (A := X.A.in1) (I.ok.hd hc) i2 b D.n2 its2.toArray) hz hTI hTO ⟨h1, pT⟩ ⟨h2, p2.isList⟩ lt1 lt2 fun x1 x2 h' tk hx1 hx2 z' TO' h1' h2' hT hsz hk => ?_
    obtain rfl : x1 = u := by
      have : its[i]? = some x1 := by simpa using hx1
      rw [hu] at this
      exact (Option.some.inj this).symm
    obtain rfl : x2 = u2 := by
      have : its2[i]? = some x2 := by simpa using hx2
      rw [hu2] at this
      exact (Option.some.inj this).symm
    refine ⟨_, rfl, wpAny_letOwnedTupleGo_zip (s := { s with heap := h', toks := tk }) z' fun h'' z'' sb => ?_⟩
    have hT2 : h''.get? s.heap.objs.size = some { cls := .type "tuple", data := .seq #[x1, x2] } := (sb.2 _ (Nat.ne_of_gt hzl)).trans hT
    have new : ObjOk X.prog X.w (upd H s.heap.objs.size (.tup [x, y])) h'' s.heap.objs.size (.tup [x, y]) :=
      ⟨by show 2 ≤ sizeLine; decide, [x1, x2], .cons ru (.cons ru2 .nil), ⟨_, hT2, rfl, _, rfl⟩⟩
    have I1 : Inv X pins σ (upd H s.heap.objs.size (.tup [x, y])) { s with heap := h'', toks := tk } :=
      I.turnedNew (t' := tk) (ch := [z, TI, TO, i1, i2]) (fun c o hb q => (sb.2 c (fun q' => hb (by simp [q']))).trans (hk c o (fun q' => hb (by simp [q'])) (fun q' => hb (by simp [q'])) (fun q' => hb (by simp [q'])) (fun q' => hb (by simp [q'])) q)) hf (Nat.le_refl _) new
    refine ⟨.ref s.heap.objs.size, _, I1, rfl, ⟨_, x, y, rfl, I.hok.fresh (Nat.le_refl _), rfl, fun l hl => by rw [I.tuple_inj hl hqx]; exact hx, fun l hl => by rw [I.list_inj hl hqy]; exact hy⟩, ⟨z'', ?_, ⟨x1, x2, ?_⟩, ?_, ?_⟩, fun c hcm => ?_⟩
    · exact (sb.2 _ D.S.TIz).trans (hk _ _ D.S.TIz D.S.TITO D.S.TIi1 D.S.TIi2 hTI)
    · exact (sb.2 _ D.S.TOz).trans TO'
    · exact h1'.1.at fun o q => (sb.2 _ (Ne.symm D.S.zi1)).trans q
    · exact h2'.1.at fun o q => (sb.2 _ (Ne.symm D.S.zi2)).trans q
    · have hlt : c < s.heap.objs.size := by
        have e' : c = z ∨ c = TI ∨ c = TO ∨ c = i1 ∨ c = i2 := by simpa using hcm
        rcases e' with q | q | q | q | q
        · rw [q]; exact hzl
        · rw [q]; exact Heap.lt_size hTI
        · rw [q]; exact Heap.lt_size hTO
        · rw [q]; obtain ⟨_, e1, _⟩ := h1; exact Heap.lt_size e1
        · rw [q]; obtain ⟨_, e2, _⟩ := h2; exact Heap.lt_size e2
      rw [upd_ne (Nat.ne_of_lt hlt)]
      exact (hf c hcm).1
  done := by
    intro X hP hw hK hc i pins s σ H E I hf st hg
    subst hP hw hK
    obtain ⟨hz, hTI, ⟨x0, y0, hTO⟩, h1, h2⟩ := st
    obtain ⟨xs, ys, hqx, hqy, l1, l2⟩ := hg
    obtain ⟨its, rv, p, _⟩ := I.tuple hqx
    obtain ⟨its2, rv2, p2, _⟩ := I.list hqy
    have m1 := rv.length
    have m2 := rv2.length
    have e1 : i = its.toArray.size := by rw [List.size_toArray]; omega
    have e2 : i = its2.toArray.size := by rw [List.size_toArray]; omega
    have pT : s.heap.IsTuple a its.toArray := p
    exact wpAny_pyNext_zipD2_end D.S (Draws.tuple (A := X.A.in1) (I.ok.hd hc) i1 a D.n1 its.toArray) (Draws.list (A := X.A.in1) (I.ok.hd hc) i2 b D.n2 its2.toArray) hz hTI hTO ⟨h1, pT⟩ ⟨h2, p2.isList⟩ (Nat.le_of_eq e1) (Nat.le_of_eq e2) (.inl e1) fun h' tk hk => ⟨rfl, I.turnedL (t' := tk) (ch := [z, TI, TO, i1, i2]) (fun c o hb q =>
      hk c o (fun q' => hb (by simp [q'])) (fun q' => hb (by simp [q'])) (fun q' => hb (by simp [q'])) (fun q' => hb (by simp [q'])) q) hf⟩
  self := fun A i s Q E st h => wpAny_pyIter_zip st.1 h
def iZipM (K : PySem.W.Frag) (ta : TA) : TI := fun σ H R => ta σ H fun vs H1 => ∃ a b xs ys, vs = [.ref a, .ref b] ∧ SqT K H1 a xs ∧ SqL K H1 b ys ∧ R (ItzM K a b) H1
theorem pi_zipM {X : Cx} {e e2 : Expr} {ta : TA} {p pos tpos : Pos} {elts : List Expr} {kk : Nat} {K : PySem.W.Frag} (hg : Gl X "zip") (hm : X.mg "zip" = none) (ha : PA X [e, e2] ta)
    (hs : starEach [e, e2] X.env = (false, eval e X.env) :: starEach [e2] X.env := by rfl) (hpl : (backTo pos (starEach [e2] X.env)).any (·.1) = false := by rfl) (hK : X.K = K := by rfl) :
    PI X (.Tuple elts kk tpos) (.Call (.Name "zip" p) [e, e2] [] pos) (iZipM K ta) := by
  subst hK
  refine ⟨fun pins s σ H R I h => ?_⟩
  refine Call_ (ld_blt I hg hm PyProof.Rows.boot_zip (PyProof.Rows.callWith_type1 (thn (ha.run pos pins s σ H _ I h) fun us s1 ⟨vs, H1, I1, r1, q1⟩ => ?_) hs hpl))
  obtain ⟨a, b, xs, ys, ex, hqx, hqy, q⟩ := q1
  subst ex
  cases r1 with
  | cons r rr =>
    cases rr with
    | cons r' rr =>
      cases rr
      cases r
      cases r'
      have fresh5 : ∀ c, c ∈ [s1.heap.objs.size + 4, s1.heap.objs.size + 2, s1.heap.objs.size + 3, s1.heap.objs.size, s1.heap.objs.size + 1] → FpOk X pins H1 c := fun c hcm => by
        have e' : c = s1.heap.objs.size + 4 ∨ c = s1.heap.objs.size + 2 ∨ c = s1.heap.objs.size + 3 ∨ c = s1.heap.objs.size ∨ c = s1.heap.objs.size + 1 := by simpa using hcm
        have hle : s1.heap.objs.size ≤ c := by
          rcases e' with z | z | z | z | z
          · rw [z]; exact Nat.le_add_right _ _
          · rw [z]; exact Nat.le_add_right _ _
          · rw [z]; exact Nat.le_add_right _ _
          · rw [z]; exact Nat.le_refl _
          · rw [z]; exact Nat.le_add_right _ _
        exact I1.fpOk hle (I1.hok.fresh hle)
      obtain ⟨its, rv, p1, _⟩ := I1.tuple hqx
      obtain ⟨its2, rv2, p2, _⟩ := I1.list hqy
      have pT : s1.heap.IsTuple a its.toArray := p1
      have la : a < s1.heap.objs.size := by obtain ⟨o1, ho1, _⟩ := id p1; exact Heap.lt_size ho1
      have lb : b < s1.heap.objs.size := p2.lt
      refine zip_begins2 (begins_tuple a its.toArray) (begins_list b its2.toArray) pT p2.isList fun h' hz hTI hTO h1 h2 hsz hk => wpAny_pyIter_zip hz ?_
      have I2 : Inv X pins σ H1 { s1 with heap := h' } := I1.kept (t' := s1.toks) hk
      have D : ZmSep (s1.heap.objs.size + 4) (s1.heap.objs.size + 2) (s1.heap.objs.size + 3) s1.heap.objs.size (s1.heap.objs.size + 1) a b :=
        ⟨zip_sep2 (fun c hc => by rw [List.mem_singleton.mp hc]; exact la) (fun c hc => by rw [List.mem_singleton.mp hc]; exact lb), Nat.ne_of_lt la, Nat.ne_of_lt (Nat.lt_succ_of_lt lb)⟩
      exact ⟨s1.heap.objs.size + 4, [s1.heap.objs.size + 4, s1.heap.objs.size + 2, s1.heap.objs.size + 3, s1.heap.objs.size, s1.heap.objs.size + 1], _, _, H1, rfl, I2, turn_zipM D, ⟨hz, hTI, ⟨_, _, hTO⟩, ⟨_, h1, rfl, rfl⟩, ⟨_, h2, rfl, rfl⟩⟩, fresh5, q⟩
end
theorem walk_zipM {K : PySem.W.Frag} {a b : Addr} {xs ys : List V} {n : Nat} (h1 : xs.length = n) (h2 : ys.length = n) : Walk (ItzM K a b) n (fun H => SqT K H a xs ∧ SqL K H b ys) (YPair (fun i => xs[i]?) (fun i => ys[i]?)) := by
  refine ⟨fun i _ hi q => ?_, fun _ q => ⟨xs, ys, q.1, q.2, h1, h2⟩, fun i H v H' _ q ⟨T, x, z, y1, y2, y3, y4, y5⟩ => ⟨T, x, z, y1, y2, y3, y4 xs q.1, y5 ys q.2⟩⟩
  exact ⟨xs, ys, xs[i], ys[i], q.1, q.2, List.getElem?_eq_getElem (by omega), List.getElem?_eq_getElem (by omega)⟩
theorem lc_zipM {K : PySem.W.Frag} {a b : Addr} {xs ys : List V} {g : TG} {tt : TT} {te : TE} {vs : List Nat} {σ : L2.St} {H1 : Hp} {D : Addr} {Qd : Hp → Prop} (f : V → V → V) (h1 : SqT K H1 a xs) (h2 : SqL K H1 b ys) (hD : H1 D = none) (he : xs.length = ys.length) (hl : xs.length ≤ 1000)
    (hs : ∀ (i : Nat) x y, xs[i]? = some x → ys[i]? = some y → ∀ H T (Q : VK) (R : Hp → Prop), Same H1 H → H T = some (.tup [x, y]) → (∀ H', Same H H' → Q (f x y) H') → g (.ref T) (wipe σ vs) H fun σ2 H2 => wipe σ2 vs = wipe σ vs ∧ tt σ2 H2 fun b H3 => if b = true then te σ2 H3 Q else R H3)
    (hd : ∀ H, Same H1 H → H D = some (.lst (List.zipWith f xs ys)) → Qd H) :
    ∃ W : Nat → Nat → Hp → Prop, (∃ m, W 0 m (upd H1 D (.lst []))) ∧ ∀ i m H, W i m H →
      ((ItzM K a b).stop i H ∧ Qd H) ∨ ((ItzM K a b).go i H ∧ ∃ Nx : Hp → Prop, (∀ H', Nx H' → ∃ m', m' < m ∧ W (i + 1) m' H') ∧ ∀ x H', (ItzM K a b).yld i H x H' → g x (wipe σ vs) H' fun σ2 H2 => wipe σ2 vs = wipe σ vs ∧ tt σ2 H2 fun b H3 =>
        if b = true then te σ2 H3 fun y H4 => ∃ acc, H4 D = some (.lst acc) ∧ acc.length < sizeLine ∧ Nx (upd H4 D (.lst (acc ++ [y]))) else Nx H3) :=
  lc_zip xs ys f (walk_zipM rfl he.symm) (by rw [he, Nat.min_self]) hl (fun _ s => ⟨SqT.same s h1, Same.seq s h2⟩) hD hs hd
theorem i_zipM {K : PySem.W.Frag} {σ : St} {H : Hp} {A : TA} {R : It → Hp → Prop} (h : A σ H fun vs H1 => ∃ a b xs ys, vs = [.ref a, .ref b] ∧ SqT K H1 a xs ∧ SqL K H1 b ys ∧ R (ItzM K a b) H1) : iZipM K A σ H R := h
theorem i_zipM2 {K : PySem.W.Frag} {H : Hp} {a b : Addr} {xs ys : List V} {R2 : Addr → Addr → Prop} (h1 : SqT K H a xs) (h2 : SqL K H b ys) (h : R2 a b) : ∃ a' b' xs ys, [V.ref a, V.ref b] = [.ref a', .ref b'] ∧ SqT K H a' xs ∧ SqL K H b' ys ∧ R2 a' b' := ⟨a, b, xs, ys, rfl, h1, h2, h⟩
/-- any([count > mine for ..]) of counts: something lacks -/
theorem any_cnts {M : Nat} {C R : List Idn} (hC : Num C) (hR : Num R) (hr : ∀ z ∈ C, 0 ≤ z.1 ∧ z.1 ≤ (M : Int) - 1) : (List.zipWith (fun x y : Int => decide (y < x)) (cnts M C) (cnts M R)).any id = !hasB C R := by
  rw [has_cnts hC hR hr]
  unfold cnts
  rw [List.zipWith_map, List.zipWith_self, List.any_map, List.not_all_eq_any_not]
  congr 1
  funext s
  simp only [Function.comp_apply, id_eq]
  rw [Bool.eq_iff_iff, decide_eq_true_iff, Bool.not_eq_true', decide_eq_false_iff_not]
  omega
section
open PySem.Spec
open PyProof.Rows hiding St
/-- enumerate of a list or a tuple -/
def iEnumS (K : PySem.W.Frag) (ta : TA) : TI := fun σ H R => ta σ H fun vs H1 => ∃ a xs, vs = [.ref a] ∧ ((SqL K H1 a xs ∧ R (Ite K a) H1) ∨ (SqT K H1 a xs ∧ R (Itet K a) H1))
theorem pi_enumS {X : Cx} {e : Expr} {ta : TA} {p pos tpos : Pos} {elts : List Expr} {kk : Nat} {K : PySem.W.Frag} (hg : Gl X "enumerate") (hm : X.mg "enumerate" = none) (ha : PA X [e] ta) (hs : starEach [e] X.env = [(false, eval e X.env)] := by rfl) (hK : X.K = K := by rfl) :
    PI X (.Tuple elts kk tpos) (.Call (.Name "enumerate" p) [e] [] pos) (iEnumS K ta) := by
  subst hK
  refine ⟨fun pins s σ H R I h => ?_⟩
  refine Call_ (ld_blt I hg hm boot_enumerate (PyProof.Rows.callWith_type1 (thn (ha.run pos pins s σ H _ I h) fun us s1 ⟨vs, H1, I1, r1, q1⟩ => ?_) hs rfl))
  obtain ⟨a, xs, ex, q1⟩ := q1
  subst ex
  cases r1 with
  | cons r rr =>
    cases rr
    cases r
    have fp : ∀ b, b ∈ [s1.heap.objs.size + 1, s1.heap.objs.size] → FpOk X pins H1 b := fun b hb => by
      have e' : b = s1.heap.objs.size + 1 ∨ b = s1.heap.objs.size := by simpa using hb
      have hle : s1.heap.objs.size ≤ b := by
        rcases e' with z | z
        · rw [z]; exact Nat.le_add_right _ _
        · rw [z]; exact Nat.le_refl _
      exact I1.fpOk hle (I1.hok.fresh hle)
    rcases q1 with ⟨hq, q⟩ | ⟨hq, q⟩
    · obtain ⟨its, rv, p', hz⟩ := I1.list hq
      refine call_enumerate_list p'.isList fun h' he hit hsz hk => wpAny_pyIter_enum he ?_
      have I2 : Inv X pins σ H1 { s1 with heap := h' } := I1.kept (t' := s1.toks) hk
      exact ⟨s1.heap.objs.size + 1, [s1.heap.objs.size + 1, s1.heap.objs.size], _, _, H1, rfl, I2, turn_enum a (s1.heap.objs.size + 1) s1.heap.objs.size, ⟨⟨.none, he⟩, hit, Nat.succ_ne_self _⟩, fp, q⟩
    · obtain ⟨its, rv, p', hz⟩ := I1.tuple hq
      refine call_enum1 (begins_tuple a its.toArray) p' fun h' he hit hsz hk => wpAny_pyIter_enum he ?_
      have I2 : Inv X pins σ H1 { s1 with heap := h' } := I1.kept (t' := s1.toks) hk
      exact ⟨s1.heap.objs.size + 1, [s1.heap.objs.size + 1, s1.heap.objs.size], _, _, H1, rfl, I2, turn_enumT a (s1.heap.objs.size + 1) s1.heap.objs.size, ⟨⟨.none, he⟩, ⟨_, hit, rfl, rfl⟩, Nat.succ_ne_self _⟩, fp, q⟩
end
theorem i_enumS {K : PySem.W.Frag} {σ : St} {H : Hp} {A : TA} {R : It → Hp → Prop} (h : A σ H fun vs H1 => ∃ a xs, vs = [.ref a] ∧ ((SqL K H1 a xs ∧ R (Ite K a) H1) ∨ (SqT K H1 a xs ∧ R (Itet K a) H1))) : iEnumS K A σ H R := h
/-- a tuple (place, word), or nothing -/
def FwAt (H HH : Hp) (v : V) : Option (Nat × Str) → Prop
  | none => v = .non
  | some (i, w) => ∃ t, v = .ref t ∧ H t = none ∧ HH t = some (.tup [.int (i : Nat), .str w])
theorem i_anyB {K : PySem.W.Frag} {H : Hp} {Q : VK} {p : Addr} {bs : List Bool} (h0 : SqL K H p (bs.map V.bl)) (h : Q (.bl (bs.any id)) H) : rAny K [.ref p] H Q := ⟨p, bs, rfl, h0, h⟩
end My
/-! books: ids up to counts, causes of causes -/
namespace My
open PySem L2
/-! ### xs.extend(ys) -/
def tExt (K : PySem.W.Frag) (to : TE) (A : TA) : TE := tBM K "list" rExtend to A
theorem pe_extK {X : Cx} {K : PySem.W.Frag} {e : Expr} {to : TE} {t : TA} (h : PE X e (tBM X.K "list" rExtend to t)) (hK : X.K = K := by rfl) : PE X e (tExt K to t) := by
  subst hK
  exact h
section
variable {K : PySem.W.Frag} {σ : St} {H : Hp} {Q : VK} {to : TE} {A : TA} {l b : Addr} {xs zs : List V}
theorem i_ext (h : to σ H fun x H1 => tyV K "list" x H1 ∧ A σ H1 fun vs H2 => rExtend x vs H2 Q) : tExt K to A σ H Q := h
theorem i_rext (h0 : H l = some (.lst xs)) (h1 : H b = some (.lst zs)) (h2 : xs.length + zs.length ≤ sizeLine) (h : Q .non (upd H l (.lst (xs ++ zs)))) : rExtend (.ref l) [.ref b] H Q := ⟨l, b, xs, zs, rfl, rfl, h0, h1, h2, h⟩
end
theorem i_rng2 {ta : TA} {σ : St} {H : Hp} {R : It → Hp → Prop} (h : ta σ H fun vs H1 => ∃ i j : Int, vs = [.int i, .int j] ∧ (-(2 ^ 62) ≤ i ∧ i < 2 ^ 62 ∧ -(2 ^ 62) ≤ j ∧ j < 2 ^ 62) ∧ R (Itr i (j - i).toNat) H1) : iRng2 ta σ H R := h
theorem i_rng2A {i j : Int} {R : It → Prop} (h1 : -1000 ≤ i ∧ i ≤ 1000) (h2 : -1000 ≤ j ∧ j ≤ 1000) (h : R (Itr i (j - i).toNat)) : ∃ a b : Int, [V.int i, V.int j] = [.int a, .int b] ∧ (-(2 ^ 62) ≤ a ∧ a < 2 ^ 62 ∧ -(2 ^ 62) ≤ b ∧ b < 2 ^ 62) ∧ R (Itr a (b - a).toNat) := ⟨i, j, rfl, by omega, h⟩
/-! ### xs[::1], xs[::-1] -/
theorem pick_one (xs : List Value) : slicePick xs.toArray none none (some 1) = xs.toArray := by
  have h := slicePick_cut xs none none
  have e : slicePick xs.toArray none none (some 1) = slicePick xs.toArray none none none := rfl
  rw [e, h]
  show ((xs.drop 0).take (xs.length - 0)).toArray = _
  rw [List.drop_zero, Nat.sub_zero, List.take_length]
section
open PySem.Spec
open PyProof.Rows hiding St
def tRevB (K : PySem.W.Frag) (te : TE) (th : TO) : TE := fun σ H Q => te σ H fun x H1 => th σ H1 fun o H2 => ∃ (z : Bool) (a : Addr) (xs : List V), o = some (if z = true then 1 else -1) ∧ x = .ref a ∧ SqL K H2 a xs ∧ ∀ p, H2 p = none → Q (.ref p) (upd H2 p (.lst (if z = true then xs else xs.reverse)))
theorem pe_revB {X : Cx} {e : Expr} {st : Option Expr} {te : TE} {th : TO} {pos p2 : Pos} {K : PySem.W.Frag} (he : PE X e te) (hu : PO X st th) (hs : ∀ a sl : Addr, subscripted (.Slice none none st p2) false (.ref a) (.ref sl) = operate [.ref a, .ref sl] (getItem (.ref a) (.ref sl)) := by intro _ _; rfl) (hK : X.K = K := by rfl) : PE X (.Subscript e (.Slice none none st p2) pos) (tRevB K te th) := by
  subst hK
  refine ⟨fun pins s σ H Q I h => ?_⟩
  refine Subscript_ (thn (he.run pins s σ H _ I h) fun v s1 ⟨x, H1, I1, r1, q1⟩ => ?_)
  refine wpAny_Slice ?_
  rw [evalPart_none]
  refine wpAny_pure ?_
  refine wpAny_pure ?_
  refine thn (hu.run pins s1 σ H1 _ I1 q1) fun vu s3 ⟨u, H3, I3, pu, z, a, xs, eu, ex, hx, q⟩ => ?_
  subst eu
  subst ex
  cases r1
  have I4 : Inv X pins σ H3 { s3 with heap := s3.heap.push { cls := .type "slice", data := .fields #[.none, .none, vu] } } := I3.kept (t' := s3.toks) fun b ob q => Heap.get?_push_of_some _ q
  obtain ⟨its, r, ht, hz⟩ := I4.list hx
  have hlen := r.length
  refine tail_any (ops := [.ref a, .ref s3.heap.objs.size]) ht.isList.typeIs slot_list_getitem.lookup ?_ (hs _ _)
  cases z with
  | false =>
    refine wpAny_getItem_list_slice ht.isList (Heap.IsSliceOf.new ..) .none .none pu (by decide) ?_ (by rw [List.size_toArray] <;> omega)
    have e1 : slicePick its.toArray none none (some (if false = true then 1 else -1)) = its.reverse.toArray := by
      show slicePick its.toArray none none (some (-1)) = _
      rw [PySem.W.krv_pick]
    rw [e1]
    refine ⟨.ref _, _, I4.laid (t' := s3.toks) (o := .lst xs.reverse) (fun b ob q => Heap.get?_push_of_some _ q) (Nat.le_refl _) ?_, rfl, q _ (I4.hok.fresh (Nat.le_refl _))⟩
    exact ⟨by rw [List.length_reverse]; exact hz, _, 0, r.reverse, Heap.get?_push_size _ rfl⟩
  | true =>
    refine wpAny_getItem_list_slice ht.isList (Heap.IsSliceOf.new ..) .none .none pu (by decide) ?_ (by rw [List.size_toArray] <;> omega)
    have e1 : slicePick its.toArray none none (some (if true = true then 1 else -1)) = its.toArray := pick_one its
    rw [e1]
    refine ⟨.ref _, _, I4.laid (t' := s3.toks) (o := .lst xs) (fun b ob q => Heap.get?_push_of_some _ q) (Nat.le_refl _) ?_, rfl, q _ (I4.hok.fresh (Nat.le_refl _))⟩
    exact ⟨hz, _, 0, r, Heap.get?_push_size _ rfl⟩
end
theorem i_revB {K : PySem.W.Frag} {te : TE} {th : TO} {σ : St} {H : Hp} {Q : VK} (h : te σ H fun x H1 => th σ H1 fun o H2 => ∃ (z : Bool) (a : Addr) (xs : List V), o = some (if z = true then 1 else -1) ∧ x = .ref a ∧ SqL K H2 a xs ∧ ∀ p, H2 p = none → Q (.ref p) (upd H2 p (.lst (if z = true then xs else xs.reverse)))) : tRevB K te th σ H Q := h
/-- the ids of a member behind the first lo ones, up to hi -/
def rngI (i lo hi : Int) : List Idn := (List.range (hi - lo).toNat).map fun k : Nat => (i, lo + 1 + k)
/-- of each member -/
def allI (ns ms : List Int) : List Idn := (List.range ns.length).flatMap fun i : Nat => rngI i (ms.getD i 0) (ns.getD i 0)
theorem rngI_nil {i lo hi : Int} (h : hi ≤ lo) : rngI i lo hi = [] := by
  unfold rngI
  rw [Int.toNat_eq_zero.mpr (by omega)]
  rfl
theorem allI_nil {ns ms : List Int} (h : ∀ i : Nat, i < ns.length → ns.getD i 0 ≤ ms.getD i 0) : allI ns ms = [] := by
  unfold allI
  rw [List.flatMap_eq_nil_iff]
  exact fun i hi => rngI_nil (h i (List.mem_range.mp hi))
/-- the ids of the last ones of those who have some -/
def lastI (ns : List Int) : List Idn := (List.range ns.length).filterMap fun i : Nat => if 0 < ns.getD i 0 then some ((i : Int), ns.getD i 0) else none
/-- who has an id has its causes -/
structure Inc (S : Ms) : Prop where
  g : ∀ l ∈ S.got, ∀ z ∈ l, ∀ y ∈ causesOf S.cs z, y ∈ l
  c : ∀ p ∈ S.cs, ∀ z ∈ p.2, ∀ y ∈ causesOf S.cs z, y ∈ p.2
  t : ∀ l ∈ S.told, ∀ z ∈ l, ∀ y ∈ causesOf S.cs z, y ∈ l
theorem Inc.new {M : Nat} : Inc (Ms.new M) where
  g := fun l h z hz => by
    rw [List.eq_of_mem_replicate h] at hz
    cases hz
  c := fun _ h => nomatch h
  t := fun l h z hz => by
    rw [List.eq_of_mem_replicate h] at hz
    cases hz
theorem hasB_mem {C R : List Idn} (h : hasB C R = true) : ∀ y ∈ C, y ∈ R := fun y hy => of_decide_eq_true (List.all_eq_true.mp h y hy)
section
variable {M : Nat} {S : Ms}
theorem Inc.goGot (h : Inc S) {m : Int} {z : Idn} (c : hasB (causesOf S.cs z) (rowOf S.got m) = true) (hm : rowOf S.got m ∈ S.got) : Inc (S.goGot m z) where
  g := fun l hl x hx y hy => by
    rcases mem_set hl with hl | rfl
    · exact h.g l hl x hx y hy
    · refine List.mem_append_left _ ?_
      rcases List.mem_append.mp hx with hx | hx
      · exact h.g _ hm x hx y hy
      · rw [List.mem_singleton.mp hx] at hy
        exact hasB_mem c y hy
  c := h.c
  t := h.t
theorem Inc.goTold (h : Inc S) {m : Int} {z : Idn} (c : hasB (causesOf S.cs z) (rowOf S.told m) = true) (hm : rowOf S.told m ∈ S.told) : Inc (S.goTold m z) where
  g := h.g
  c := h.c
  t := fun l hl x hx y hy => by
    rcases mem_set hl with hl | rfl
    · exact h.t l hl x hx y hy
    · refine List.mem_append_left _ ?_
      rcases List.mem_append.mp hx with hx | hx
      · exact h.t _ hm x hx y hy
      · rw [List.mem_singleton.mp hx] at hy
        exact hasB_mem c y hy
theorem causes_snoc {cs : List (Idn × List Idn)} {w z : Idn} {l : List Idn} (hz : z ∈ cs.map (·.1)) : causesOf (cs ++ [(w, l)]) z = causesOf cs z := by
  unfold causesOf
  rw [List.find?_append]
  cases e : cs.find? fun p => decide (p.1 = z) with
  | some p => rfl
  | none =>
    obtain ⟨p, hp, rfl⟩ := List.mem_map.mp hz
    have := List.find?_eq_none.mp e p hp
    simp at this
theorem causes_new {cs : List (Idn × List Idn)} {w : Idn} {l : List Idn} (hw : w ∉ cs.map (·.1)) : causesOf (cs ++ [(w, l)]) w = l := by
  unfold causesOf
  rw [List.find?_append]
  have : cs.find? (fun p => decide (p.1 = w)) = none := List.find?_eq_none.mpr fun p hp => by
    simp only [decide_eq_true_eq]
    rintro rfl
    exact hw (List.mem_map.mpr ⟨p, hp, rfl⟩)
  rw [this]
  simp
theorem Inc.sent (h : Inc S) (hI : Inw M S) {m : Int} {y : Str} (hm : 0 ≤ m ∧ m ≤ (M : Int) - 1) : Inc (S.sent m y) := by
  obtain ⟨r, _, er, hr⟩ := row_mem hI.lgot hm
  have hk : ∀ z ∈ S.keys, causesOf (S.sent m y).cs z = causesOf S.cs z := fun z hz => causes_snoc hz
  have hgr : ∀ z ∈ rowOf S.got m, z ∈ S.keys := (hI.gotR hm).2
  have hrow : rowOf S.got m ∈ S.got := by rw [er]; exact hr
  have hnew : causesOf (S.sent m y).cs (nxt S.keys m) = rowOf S.got m := causes_new (nxt_fresh hI)
  refine ⟨fun l hl x hx w hw => ?_, fun p hp x hx w hw => ?_, fun l hl x hx w hw => ?_⟩
  · rcases mem_set hl with hl | rfl
    · rw [hk x ((hI.gn l hl).2 x hx)] at hw
      exact h.g l hl x hx w hw
    · refine List.mem_append_left _ ?_
      rcases List.mem_append.mp hx with hx | hx
      · rw [hk x (hgr x hx)] at hw
        exact h.g _ hrow x hx w hw
      · rw [List.mem_singleton.mp hx, hnew] at hw
        exact hw
  · rcases List.mem_append.mp hp with hp | hp
    · rw [hk x ((hI.cn p hp).2.1 x hx)] at hw
      exact h.c p hp x hx w hw
    · rw [List.mem_singleton.mp hp] at hx ⊢
      rw [hk x (hgr x hx)] at hw
      exact h.g _ hrow x hx w hw
  · rw [hk x ((hI.tn l hl).2 x hx)] at hw
    exact h.t l hl x hx w hw
theorem Inc.go {r : Rw} (h : Inc S) (hI : Inw M S) (hok : r.okB M = true) (w : S.why r = none) : Inc (S.go r) := by
  have hm := Rw.ok_mem hok
  cases r with
  | sent m z => exact h.sent hI hm
  | got m s n =>
    have w : whyGot S m (s, n) = none := w
    obtain ⟨r, _, er, hr⟩ := row_mem hI.lgot hm
    unfold whyGot at w
    split at w
    · cases w
    split at w
    · cases w
    split at w
    · cases w
    split at w
    · rename_i c
      exact h.goGot c (by rw [show rowOf S.got m = r from er]; exact hr)
    · cases w
  | told m p s n =>
    have w : whyTold S m p (s, n) = none := w
    obtain ⟨r, _, er, hr⟩ := row_mem hI.ltold hm
    unfold whyTold at w
    split at w
    · cases w
    split at w
    · cases w
    split at w
    · cases w
    split at w
    · cases w
    split at w
    · rename_i c
      exact h.goTold c (by rw [show rowOf S.told m = r from er]; exact hr)
    · cases w
end
/-- a whole history walked -/
def runM (S : Ms) (rs : List Rw) : Ms := rs.foldl Ms.go S
theorem firstW_none {S : Ms} {r : Rw} {rs : List Rw} {i : Nat} (h : firstW S (r :: rs) i = none) : S.why r = none ∧ firstW (S.go r) rs (i + 1) = none := by
  have e : firstW S (r :: rs) i = match S.why r with | some w => some (i, w) | none => firstW (S.go r) rs (i + 1) := rfl
  rw [e] at h
  cases hw : S.why r with
  | some v => rw [hw] at h; cases h
  | none => rw [hw] at h; exact ⟨rfl, h⟩
/-- the letter of an id -/
theorem lt_find {S : Ms} (lc : S.lt.map (fun x => (x.1, x.2.1)) = S.cs) {z : Idn} (hz : z ∈ S.keys) : ∃ y : List Idn × Str, S.lt.find? (fun p => decide (p.1 = z)) = some (z, y) ∧ y.1 = causesOf S.cs z := by
  cases e : S.lt.find? (fun p => decide (p.1 = z)) with
  | none =>
    rw [← lt_keys lc] at hz
    obtain ⟨p, hp, rfl⟩ := List.mem_map.mp hz
    have := List.find?_eq_none.mp e p hp
    simp at this
  | some p =>
    have h2 : p.1 = z := by
      have := List.find?_some e
      simpa using this
    subst h2
    refine ⟨p.2, rfl, ?_⟩
    unfold causesOf
    rw [← lc, List.find?_map]
    rw [show ((fun q : Idn × List Idn => decide (q.1 = p.1)) ∘ fun x : Idn × List Idn × Str => (x.1, x.2.1)) = fun q => decide (q.1 = p.1) from rfl, e]
    rfl
/-- a letter that a book takes behind others -/
structure KeepOk (M : Nat) (lt : List (Idn × List Idn × Str)) (z : Idn × List Idn × Str) : Prop where
  fresh : z.1 ∉ lt.map (·.1)
  le : ∀ i : Nat, i < M → cnt z.2.1 (i : Nat) ≤ cnt (lt.map (·.1)) (i : Nat)
  cov : ∀ i : Nat, i < M → 0 < cnt z.2.1 (i : Nat) → ∃ y : List Idn × Str, lt.find? (fun p => decide (p.1 = ((i : Int), (cnt z.2.1 (i : Nat) : Int)))) = some (((i : Int), (cnt z.2.1 (i : Nat) : Int)), y) ∧ ∀ j : Nat, j < M → cnt y.1 (j : Nat) ≤ cnt z.2.1 (j : Nat)
  l30 : lt.length < 30
  r : 0 ≤ z.1.1 ∧ z.1.1 ≤ (M : Int) - 1
  rs : ∀ y ∈ lt, 0 ≤ y.1.1 ∧ y.1.1 ≤ (M : Int) - 1
def LtOk (M : Nat) (lt : List (Idn × List Idn × Str)) : Prop := ∀ i z, lt[i]? = some z → KeepOk M (lt.take i) z
theorem LtOk.snoc {M : Nat} {lt : List (Idn × List Idn × Str)} {z : Idn × List Idn × Str} (h : LtOk M lt) (k : KeepOk M lt z) : LtOk M (lt ++ [z]) := fun i x hx => by
  by_cases c : i < lt.length
  · rw [List.getElem?_append_left c] at hx
    rw [List.take_append_of_le_length (Nat.le_of_lt c)]
    exact h i x hx
  · have hi := (List.getElem?_eq_some_iff.mp hx).1
    rw [List.length_append] at hi
    have e : i = lt.length := by simp only [List.length_cons, List.length_nil] at hi; omega
    subst e
    rw [List.getElem?_append_right (Nat.le_refl _), Nat.sub_self] at hx
    cases hx
    rw [List.take_left]
    exact k
theorem keep_sent {M : Nat} {S : Ms} {m : Int} {y : Str} (hI : Inw M S) (h : Inc S) (hm : 0 ≤ m ∧ m ≤ (M : Int) - 1) (h30 : S.keys.length < 30) : KeepOk M S.lt (nxt S.keys m, rowOf S.got m, y) := by
  obtain ⟨g1, g2⟩ := hI.gotR hm
  obtain ⟨r, _, er, hr⟩ := row_mem hI.lgot hm
  have hrow : rowOf S.got m ∈ S.got := by rw [er]; exact hr
  have ek := lt_keys hI.lc
  refine ⟨by rw [ek]; exact nxt_fresh hI, fun i hi => ?_, fun i hi hp => ?_, ?_, hm, fun x hx => ?_⟩
  · show cnt (rowOf S.got m) (i : Nat) ≤ _
    rw [ek]
    by_cases c : cnt (rowOf S.got m) (i : Nat) = 0
    · omega
    · have h1 := (g1 (i : Nat) (cnt (rowOf S.got m) (i : Nat))).mpr ⟨by omega, Int.le_refl _⟩
      have h2 := ((hI.kn _ _).mp (g2 _ h1)).2
      omega
  · have hp : 0 < cnt (rowOf S.got m) (i : Nat) := hp
    have h1 := (g1 (i : Nat) (cnt (rowOf S.got m) (i : Nat))).mpr ⟨by omega, Int.le_refl _⟩
    have h2 := g2 _ h1
    obtain ⟨y, e1, e2⟩ := lt_find hI.lc h2
    refine ⟨y, e1, fun j hj => ?_⟩
    show cnt y.1 (j : Nat) ≤ cnt (rowOf S.got m) (j : Nat)
    rw [e2]
    exact (has_num (hI.causes h2).1 g1).mp (List.all_eq_true.mpr fun w hw => decide_eq_true (h.g _ hrow _ h1 w hw)) _
  · have := congrArg List.length ek
    rw [List.length_map] at this
    omega
  · refine hI.kr x.1 ?_
    rw [← ek]
    exact List.mem_map.mpr ⟨x, hx, rfl⟩
structure RunOk (M : Nat) (S : Ms) : Prop where
  i : Inw M S
  c : Inc S
  l : LtOk M S.lt
theorem RunOk.new {M : Nat} (h : M ≤ 5) : RunOk M (Ms.new M) := ⟨Inw.new h, Inc.new, fun i z h => by cases h⟩
theorem RunOk.go {M : Nat} {S : Ms} {r : Rw} (h : RunOk M S) (hok : r.okB M = true) (w : S.why r = none) (h30 : r.sentB = true → S.keys.length < 30) : RunOk M (S.go r) := by
  refine ⟨h.i.go hok w, h.c.go h.i hok w, ?_⟩
  have hm := Rw.ok_mem hok
  cases r with
  | sent m z => exact h.l.snoc (keep_sent h.i h.c hm (h30 rfl))
  | got m s n => exact h.l
  | told m p s n => exact h.l
theorem run_ok {M : Nat} : ∀ {rs : List Rw} {S : Ms} {i : Nat}, RunOk M S → (∀ r ∈ rs, r.okB M = true) → S.keys.length + (rs.filter Rw.sentB).length ≤ 30 → firstW S rs i = none → RunOk M (runM S rs) ∧ (runM S rs).keys.length = S.keys.length + (rs.filter Rw.sentB).length
  | [], S, i, h, _, _, _ => ⟨h, rfl⟩
  | r :: rs, S, i, h, hok, h30, hf => by
    obtain ⟨w, hf⟩ := firstW_none hf
    have e : ((r :: rs).filter Rw.sentB).length = ([r].filter Rw.sentB).length + (rs.filter Rw.sentB).length := by
      rw [show r :: rs = [r] ++ rs from rfl, List.filter_append, List.length_append]
    have ek := keys_go (S := S) (r := r)
    obtain ⟨a, b⟩ := run_ok (rs := rs) (h.go (hok r (List.mem_cons_self ..)) w (fun q => by
      simp only [List.filter_cons, q, if_true, List.length_cons] at h30
      omega)) (fun x hx => hok x (List.mem_cons_of_mem _ hx)) (by omega) hf
    exact ⟨a, by rw [e]; show (runM (S.go r) rs).keys.length = _; omega⟩
theorem run_of {M : Nat} {rs : List Rw} (hM : M ≤ 5) (hb : histB M rs = true) (hf : firstW (Ms.new M) rs 0 = none) : RunOk M (runM (Ms.new M) rs) ∧ (runM (Ms.new M) rs).keys.length ≤ 30 := by
  unfold histB at hb
  rw [Bool.and_eq_true, List.all_eq_true, decide_eq_true_eq] at hb
  have e0 : (Ms.new M).keys.length = 0 := rfl
  obtain ⟨h1, h2⟩ := run_ok (rs := rs) (i := 0) (RunOk.new hM) hb.1 (by rw [e0]; omega) hf
  exact ⟨h1, by rw [h2, e0]; omega⟩
/-! ### a book in the heap -/
theorem find_al {β : Type} {R : V → Idn × β → Prop} : ∀ {ck : List (List Key × V)} {cs : List (Idn × β)} {z : Idn} {y : Idn × β}, All2 (fun p y => p.1 = idK y.1 ∧ R p.2 y) ck cs → cs.find? (fun p => decide (p.1 = z)) = some y → ∃ v, valV ck (idK z) = some v ∧ R v y
  | p :: ck, x :: cs, z, y, h, hz => by
    obtain ⟨h1, h2⟩ := h.2 0 p x rfl rfl
    rw [List.find?_cons] at hz
    by_cases c : x.1 = z
    · rw [decide_eq_true c] at hz
      cases hz
      subst c
      exact ⟨p.2, by unfold valV; rw [List.find?_cons, decide_eq_true h1]; rfl, h2⟩
    · rw [decide_eq_false c] at hz
      obtain ⟨v, e1, e2⟩ := find_al (R := R) (ck := ck) (cs := cs) ⟨Nat.succ.inj h.1, fun i a b ha hb => h.2 (i + 1) a b ha hb⟩ hz
      refine ⟨v, ?_, e2⟩
      unfold valV
      rw [List.find?_cons, decide_eq_false (fun e => c (idK_inj (h1.symm.trans e)))]
      exact e1
  | [], _ :: _, _, _, h, _ => nomatch h.1
  | _ :: _, [], _, _, h, _ => nomatch h.1
  | [], [], _, _, _, h => nomatch h
structure BkAt (K : PySem.W.Frag) (CB CL CC : Addr) (M : Nat) (H : Hp) (b dx d : Addr) (kk : List (List Key × V)) (lt : List (Idn × List Idn × Str)) : Prop where
  hb : H b = some (.ins CB dx [("own_members", .int M), ("own_letters", .ref d)])
  hd : H d = some (.dT kk)
  al : All2 (fun p z => p.1 = idK z.1 ∧ LtAt K CL CC M H p.2 z) kk lt
section
variable {K : PySem.W.Frag} {CB CL CC : Addr} {M : Nat} {H H' : Hp} {b dx d : Addr} {kk : List (List Key × V)} {lt : List (Idn × List Idn × Str)}
theorem BkAt.same (s : Same H H') (h : BkAt K CB CL CC M H b dx d kk lt) : BkAt K CB CL CC M H' b dx d kk lt := ⟨s _ _ h.hb, s _ _ h.hd, h.al.mono fun _ _ ⟨e, r⟩ => ⟨e, r.same s⟩⟩
theorem BkAt.keys (h : BkAt K CB CL CC M H b dx d kk lt) : All2 (fun p z => p.1 = idK z ∧ True) kk (lt.map (·.1)) := by
  refine ⟨by rw [h.al.1]; exact (List.length_map ..).symm, fun i p z hp hz => ?_⟩
  rw [List.getElem?_map, Option.map_eq_some_iff] at hz
  obtain ⟨y, hy, rfl⟩ := hz
  exact ⟨(h.al.2 i p y hp hy).1, trivial⟩
theorem BkAt.get (h : BkAt K CB CL CC M H b dx d kk lt) {z : Idn} {y : Idn × List Idn × Str} (hz : lt.find? (fun p => decide (p.1 = z)) = some y) : ∃ v, valV kk (idK z) = some v ∧ LtAt K CL CC M H v y := find_al h.al hz
theorem BkAt.put {v : V} {z : Idn × List Idn × Str} (h : BkAt K CB CL CC M H b dx d kk lt) (fresh : z.1 ∉ lt.map (·.1)) (hv : LtAt K CL CC M H v z) (s : SameBut d H H') (e : H' d = some (.dT (putK kk (idK z.1) v))) : BkAt K CB CL CC M H' b dx d (kk ++ [(idK z.1, v)]) (lt ++ [z]) := by
  have k : ∀ {v y}, LtAt K CL CC M H v y → LtAt K CL CC M H' v y := fun r => r.keeps fun c u n1 n2 e1 => s _ _ (fun q => by
    subst q
    rw [h.hd] at e1
    cases e1
    exact n2 _ rfl) e1
  refine ⟨s _ _ (ne_of h.hb h.hd (by simp)) h.hb, ?_, All2.append (h.al.mono fun _ _ ⟨e, r⟩ => ⟨e, k r⟩) (All2.cons ⟨rfl, k hv⟩ All2.nil)⟩
  rw [e, put_new (R := fun _ => True) h.keys fresh]
end
theorem cnts_D {M i : Nat} {l : List Idn} (h : i < M) : (cnts M l).getD i 0 = (cnt l (i : Nat) : Int) := by
  unfold cnts
  rw [List.getD_eq_getElem?_getD, List.getElem?_map, List.getElem?_range h]
  rfl
theorem mem_last {M : Nat} {l : List Idn} {z : Idn} (h : z ∈ lastI (cnts M l)) : ∃ i : Nat, i < M ∧ z = ((i : Int), (cnt l (i : Nat) : Int)) ∧ 0 < cnt l (i : Nat) := by
  unfold lastI at h
  obtain ⟨i, hi, e⟩ := List.mem_filterMap.mp h
  rw [List.mem_range, cnts_len] at hi
  rw [cnts_D hi] at e
  split at e
  · rename_i c
    cases e
    exact ⟨i, hi, rfl, by omega⟩
  · cases e
theorem all_nil {M : Nat} {l m : List Idn} (h : ∀ i : Nat, i < M → cnt l (i : Nat) ≤ cnt m (i : Nat)) : allI (cnts M l) (cnts M m) = [] := allI_nil fun i hi => by
  rw [cnts_len] at hi
  rw [cnts_D hi, cnts_D hi]
  have := h i hi
  omega
theorem isKeys_at : ∀ {kvs : List (List Key × V)} {bs : List Addr} {H : Hp}, IsKeys H kvs bs → kvs.length = bs.length ∧ ∀ (i : Nat) (p : List Key × V) (b : Addr), kvs[i]? = some p → bs[i]? = some b → H b = some (.tup (p.1.map kV))
  | _, _, _, .nil => ⟨rfl, fun i p b h => by simp at h⟩
  | _, _, _, .cons h r => by
    obtain ⟨h1, h2⟩ := isKeys_at r
    refine ⟨congrArg (· + 1) h1, fun i p b hp hb => ?_⟩
    cases i with
    | zero =>
      cases hp
      cases hb
      exact h
    | succ i => exact h2 i p b hp hb
theorem keys_ids {H : Hp} {kvs : List (List Key × V)} {ks : List Idn} {bs : List Addr} {q : Addr} {u : HO} (hk : All2 (fun p z => p.1 = idK z ∧ True) kvs ks) (hb : IsKeys H kvs bs) (hq : H q = none) : All2 (IdAt (upd H q u)) (bs.map V.ref) ks := by
  obtain ⟨h1, h2⟩ := isKeys_at hb
  refine ⟨by rw [List.length_map, ← h1]; exact hk.1, fun i x z hx hz => ?_⟩
  rw [List.getElem?_map, Option.map_eq_some_iff] at hx
  obtain ⟨b, hb, rfl⟩ := hx
  have hi : i < kvs.length := by rw [h1]; exact (List.getElem?_eq_some_iff.mp hb).1
  have hp := List.getElem?_eq_getElem hi
  have e := h2 i _ b hp hb
  rw [(hk.2 i _ z hp hz).1] at e
  exact ⟨b, rfl, by rw [upd_ne (ne_of_none e hq)]; exact e⟩
theorem cnts_add {M : Nat} {l : List Idn} {z : Idn} (h : 0 ≤ z.1 ∧ z.1 ≤ (M : Int) - 1) : ((cnts M l).map V.int).set z.1.toNat (.int ((cnt l z.1 : Int) + 1)) = (cnts M (l ++ [z])).map V.int := by
  have e := cnts_set (M := M) (l := l) (z := (z.1, (cnt l z.1 : Int) + 1)) h rfl
  rw [e]
  congr 1
  unfold cnts
  refine List.map_congr_left fun s _ => ?_
  rw [cnt_snoc, cnt_snoc]
theorem i_dgTF {H : Hp} {p b : Addr} {o : Obj} {kvs : List (List Key × V)} {k : List Key} {v : V} {R : V → Prop} (h1 : H p = some (.frz o (.dT kvs))) (h2 : H b = some (.tup (k.map kV))) (h3 : valV kvs k = some v) (h : R v) : ∃ a v, V.ref p = .ref a ∧ DGet H a (.ref b) (some v) ∧ R v := ⟨p, v, rfl, .inr ⟨kvs, k, b, .inr ⟨o, h1⟩, rfl, h2, h3.symm⟩, h⟩
/-! ### ids compared -/
theorem IdAt.eqv {K : PySem.W.Frag} {H : Hp} {x y : V} {r q : Idn} {n : Nat} (hx : IdAt H x r) (hy : IdAt H y q) : EqV K H (n + 1) x y (decide (r = q)) := by
  obtain ⟨p, rfl, hp⟩ := hx
  obtain ⟨p', rfl, hp'⟩ := hy
  obtain ⟨r1, r2⟩ := r
  obtain ⟨q1, q2⟩ := q
  by_cases d : p = p'
  · subst d
    rw [hp] at hp'
    have e := HO.tup.inj (Option.some.inj hp')
    simp only [List.cons.injEq, V.int.injEq, and_true] at e
    rw [decide_eq_true (by rw [e.1, e.2])]
    exact .one
  · have t := EqVs.iS (K := K) (H := H) (n := n) (xs := [.int r1, .int r2]) (ys := [.int q1, .int q2]) rfl rfl
    have e : decide ([V.int r1, V.int r2] = [V.int q1, V.int q2]) = decide ((r1, r2) = (q1, q2)) := by
      rw [decide_eq_decide]
      simp
    rw [e] at t
    exact .tups d (.of hp) (.of hp') t
theorem IdAt.eqvs {K : PySem.W.Frag} {H : Hp} {n : Nat} : ∀ {xs ys : List V} {rs qs : List Idn}, All2 (IdAt H) xs rs → All2 (IdAt H) ys qs → EqVs K H (n + 1) xs ys (decide (rs = qs))
  | [], [], [], [], _, _ => .nil
  | [], y :: ys, [], q :: qs, _, _ => .nilc
  | x :: xs, [], r :: rs, [], _, _ => .cnil
  | x :: xs, y :: ys, r :: rs, q :: qs, h1, h2 => by
    have t := EqVs.cons (IdAt.eqv (n := n) (h1.2 0 x r rfl rfl) (h2.2 0 y q rfl rfl)) (IdAt.eqvs (K := K) (n := n) (xs := xs) (ys := ys) (rs := rs) (qs := qs) ⟨Nat.succ.inj h1.1, fun i a b ha hb => h1.2 (i + 1) a b ha hb⟩ ⟨Nat.succ.inj h2.1, fun i a b ha hb => h2.2 (i + 1) a b ha hb⟩)
    have e : (decide (r = q) && decide (rs = qs)) = decide (r :: rs = q :: qs) := by
      rw [Bool.eq_iff_iff]
      simp
    rw [e] at t
    exact t
  | [], _, _ :: _, _, h, _ => nomatch h.1
  | _ :: _, _, [], _, h, _ => nomatch h.1
  | _, [], _, _ :: _, _, h => nomatch h.1
  | _, _ :: _, _, [], _, h => nomatch h.1
theorem i_neIds {K : PySem.W.Frag} {H : Hp} {Q : VK} {p q : Addr} {xs ys : List V} {l m : List Idn} (h1 : H p = some (.lst xs)) (h2 : H q = some (.lst ys)) (ha : All2 (IdAt H) xs l) (hb : All2 (IdAt H) ys m) (h : Q (.bl (!decide (l = m))) H) : rNeU K (.ref p) (.ref q) H Q := i_neG (n := 1) (.inl ⟨.of h1, .of h2⟩) (by decide) (IdAt.eqvs ha hb) h
theorem i_neId {K : PySem.W.Frag} {H : Hp} {Q : VK} {p q : Addr} {y z : Idn} (h1 : H p = some (.tup [.int y.1, .int y.2])) (h2 : H q = some (.tup [.int z.1, .int z.2])) (h : Q (.bl (!decide (y = z))) H) : rNeU K (.ref p) (.ref q) H Q := by
  have t := EqVs.iS (K := K) (H := H) (n := 1) (xs := [.int y.1, .int y.2]) (ys := [.int z.1, .int z.2]) rfl rfl
  have e : decide ([V.int y.1, V.int y.2] = [V.int z.1, V.int z.2]) = decide (y = z) := by
    rw [decide_eq_decide]
    obtain ⟨a, b⟩ := y
    obtain ⟨c, d⟩ := z
    simp
  rw [e] at t
  exact i_neG (n := 1) (.inr ⟨.of h1, .of h2⟩) (by decide) t h
theorem idStays : Stays IdAt where
  but := fun {H H' D x c acc} e s h => h.keeps fun b xs h => s _ _ (ne_of h e (by simp)) h
  same := fun s h => h.same s
theorem cnt_cons {l : List Idn} {x : Idn} {s : Int} : cnt (x :: l) s = cnt l s + if x.1 = s then 1 else 0 := by
  unfold cnt
  rw [List.filter_cons]
  by_cases c : x.1 = s
  · simp [c]
  · simp [c]
theorem cnt_app {l m : List Idn} {s : Int} : cnt (l ++ m) s = cnt l s + cnt m s := by
  unfold cnt
  rw [List.filter_append, List.length_append]
theorem cnt_len : ∀ {l k : List Idn}, (∀ s, cnt l s ≤ cnt k s) → l.length ≤ k.length
  | [], _, _ => Nat.zero_le _
  | x :: l, k, h => by
    have h1 := h x.1
    rw [cnt_cons, if_pos rfl] at h1
    obtain ⟨n, hn⟩ := cnt_pos (l := k) (s := x.1) (by omega)
    obtain ⟨k1, k2, rfl⟩ := List.append_of_mem hn
    have h2 := cnt_len (l := l) (k := k1 ++ k2) (fun s => by
      have := h s
      rw [cnt_cons, cnt_app, cnt_cons] at this
      rw [cnt_app]
      dsimp only at this
      split at this <;> omega)
    rw [List.length_append] at h2
    rw [List.length_cons, List.length_append, List.length_cons]
    omega
theorem Inw.causesLen {M : Nat} {S : Ms} (h : Inw M S) {z : Idn} (hz : z ∈ S.keys) : (causesOf S.cs z).length ≤ S.keys.length := by
  obtain ⟨c1, c2, _⟩ := h.causes hz
  refine cnt_len ((has_num c1 h.kn).mp (List.all_eq_true.mpr fun y hy => decide_eq_true (c2 y hy)))
/-- the longest row of all told -/
theorem longest_lg {M : Nat} {S : Ms} {l : List Idn} (h : Inw M S) (hl : l = [] ∨ l ∈ S.told) (ha : ∀ m : Nat, m < M → (rowOf S.told (m : Nat)).length ≤ l.length) : l = S.lg := by
  have pre : l <+: S.lg := by
    rcases hl with rfl | hl
    · exact List.nil_prefix
    · exact h.tp l hl
  have len : S.lg.length ≤ l.length := by
    rcases h.le with e | e
    · rw [e]
      exact Nat.zero_le _
    · obtain ⟨k, hk⟩ := List.mem_iff_getElem?.mp e
      have hkM : k < M := by
        rw [← h.ltold]
        exact (List.getElem?_eq_some_iff.mp hk).1
      have := ha k hkM
      unfold rowOf at this
      rw [Int.toNat_natCast, List.getD_eq_getElem?_getD, hk] at this
      exact this
  exact pre.eq_of_length_le len
/-! ### thirty letters, delivered and told by all -/
def sentR (M : Nat) : List Rw := (List.range 30).map fun k : Nat => .sent ((k : Int) % M) "tea"
def idR (M : Nat) : List Idn := (List.range 30).map fun k : Nat => ((k : Int) % M, 1 + (k : Int) / M)
def gotR (M : Nat) (m : Int) : List Rw := (idR M).filterMap fun z => if z.1 = m then none else some (.got m z.1 z.2)
theorem range_bind {α β : Type} (g : α → Option β) : ∀ as : List α, (List.range as.length).filterMap (fun i => (as[i]?).bind g) = as.filterMap g
  | [] => rfl
  | b :: bs => by
    rw [List.length_cons, List.range_succ_eq_map, List.filterMap_cons, List.filterMap_map]
    have e : (fun i => ((b :: bs)[i]?).bind g) ∘ Nat.succ = fun i => (bs[i]?).bind g := by
      funext i
      simp
    rw [e, range_bind g bs]
    cases h : g b <;> simp [h]
theorem idR_len {M : Nat} : (idR M).length = 30 := by
  unfold idR
  rw [List.length_map, List.length_range]
def toldR (M : Nat) (k : Nat) : List Rw := (List.range M).map fun m : Nat => .told m ((k : Int) + 1) ((k : Int) % M) (1 + (k : Int) / M)
def fullR (M : Nat) : List Rw := sentR M ++ (List.range M).flatMap (fun m : Nat => gotR M m) ++ (List.range 30).flatMap (toldR M)
theorem full_ok {M : Nat} (h : 2 ≤ M ∧ M ≤ 5) : histB M (fullR M) = true ∧ (fullR M).length ≤ 300 ∧ firstW (Ms.new M) (fullR M) 0 = none := by
  have e : M = 2 ∨ M = 3 ∨ M = 4 ∨ M = 5 := by omega
  rcases e with rfl | rfl | rfl | rfl
  · decide +kernel
  · decide +kernel
  · decide +kernel
  · decide +kernel
theorem full_sml {M : Nat} : ∀ r ∈ fullR M, r.sml := fun r hr => by
  unfold fullR at hr
  rcases List.mem_append.mp hr with hr | hr
  · rcases List.mem_append.mp hr with hr | hr
    · obtain ⟨_, _, rfl⟩ := List.mem_map.mp hr
      exact Nat.le_of_ble_eq_true rfl
    · obtain ⟨m, _, hr⟩ := List.mem_flatMap.mp hr
      obtain ⟨z, _, e⟩ := List.mem_filterMap.mp hr
      split at e
      · cases e
      · cases e
        exact trivial
  · obtain ⟨m, _, hr⟩ := List.mem_flatMap.mp hr
    obtain ⟨_, _, rfl⟩ := List.mem_map.mp hr
    exact trivial
/-! ### a row that can't be, put in -/
theorem firstW_app : ∀ {as bs : List Rw} {S : Ms} {j : Nat}, firstW S as j = none → firstW S (as ++ bs) j = firstW (runM S as) bs (j + as.length)
  | [], bs, S, j, _ => rfl
  | r :: as, bs, S, j, h => by
    obtain ⟨w, h⟩ := firstW_none h
    show (match S.why r with | some w => some (j, w) | none => firstW (S.go r) (as ++ bs) (j + 1)) = _
    rw [w]
    show firstW (S.go r) (as ++ bs) (j + 1) = firstW (runM (S.go r) as) bs (j + (as.length + 1))
    rw [firstW_app h, show j + 1 + as.length = j + (as.length + 1) by omega]
theorem firstW_pre : ∀ {as bs : List Rw} {S : Ms} {j : Nat}, firstW S (as ++ bs) j = none → firstW S as j = none
  | [], _, _, _, _ => rfl
  | r :: as, bs, S, j, h => by
    obtain ⟨w, h⟩ := firstW_none (show firstW S (r :: (as ++ bs)) j = none from h)
    show (match S.why r with | some w => some (j, w) | none => firstW (S.go r) as (j + 1)) = _
    rw [w]
    exact firstW_pre h
def badR (i : Int) : Rw := if i = 0 then .got 0 0 1 else if i = 1 then .told 1 77 0 1 else .got 1 0 31
def badW (i : Int) : Str := if i = 0 then "own" else if i = 1 then "place" else "unsent"
theorem bad_why {M : Nat} {S : Ms} (h : Inw M S) (hM : 2 ≤ M) (h30 : S.keys.length ≤ 30) (i : Int) : S.why (badR i) = some (badW i) := by
  unfold badR badW
  by_cases c : i = 0
  · rw [if_pos c, if_pos c]
    rfl
  rw [if_neg c, if_neg c]
  by_cases d : i = 1
  · rw [if_pos d, if_pos d]
    show whyTold S 1 77 (0, 1) = _
    obtain ⟨g1, g2, _⟩ := h.toldR (m := 1) (by omega)
    have l := cnt_len ((has_num g1 h.kn).mp (List.all_eq_true.mpr fun y hy => decide_eq_true (g2 y hy)))
    unfold whyTold
    rw [if_pos (by omega)]
  · rw [if_neg d, if_neg d]
    show whyGot S 1 (0, 31) = _
    unfold whyGot
    rw [if_neg (by decide), if_pos (fun hz => by
      have h1 := ((h.kn 0 31).mp hz).2
      have h2 := cnt_le (l := S.keys) (s := 0)
      omega)]
theorem hist_take {M : Int} {rs : List Rw} (h : histB M rs = true) (n : Nat) : histB M (rs.take n) = true := by
  unfold histB at h ⊢
  rw [Bool.and_eq_true, List.all_eq_true, decide_eq_true_eq] at h ⊢
  exact ⟨fun r hr => h.1 r (List.mem_of_mem_take hr), Nat.le_trans (List.Sublist.length_le ((List.take_sublist _ _).filter _)) h.2⟩
theorem bad_first {M : Nat} {rs : List Rw} {n : Nat} {i : Int} (hM : 2 ≤ M ∧ M ≤ 5) (hb : histB M rs = true) (hf : firstW (Ms.new M) rs 0 = none) (hn : n ≤ rs.length) : firstW (Ms.new M) (rs.take n ++ [badR i] ++ rs.drop n) 0 = some (n, badW i) := by
  have h1 : firstW (Ms.new M) (rs.take n) 0 = none := firstW_pre (bs := rs.drop n) (by rw [List.take_append_drop]; exact hf)
  obtain ⟨hR, h30⟩ := run_of hM.2 (hist_take hb n) h1
  rw [List.append_assoc, firstW_app h1, List.length_take, Nat.min_eq_left hn, Nat.zero_add]
  show (match (runM (Ms.new M) (rs.take n)).why (badR i) with | some w => some (n, w) | none => _) = _
  rw [bad_why hR.i hM.1 h30]
theorem bad_hist {M : Nat} {rs : List Rw} {n : Nat} {i : Int} (hM : 2 ≤ M ∧ M ≤ 5) (hb : histB M rs = true) : histB M (rs.take n ++ [badR i] ++ rs.drop n) = true := by
  have e : (rs.take n).filter Rw.sentB ++ (rs.drop n).filter Rw.sentB = rs.filter Rw.sentB := by rw [← List.filter_append, List.take_append_drop]
  have eb : [badR i].filter Rw.sentB = [] := by
    unfold badR
    split
    · rfl
    · split <;> rfl
  have ob : (badR i).okB M = true := by
    unfold badR
    split
    · simp only [Rw.okB, inR, Bool.and_eq_true, decide_eq_true_eq]
      omega
    · split
      · simp only [Rw.okB, inR, Bool.and_eq_true, decide_eq_true_eq]
        omega
      · simp only [Rw.okB, inR, Bool.and_eq_true, decide_eq_true_eq]
        omega
  unfold histB at hb ⊢
  rw [Bool.and_eq_true, List.all_eq_true, decide_eq_true_eq] at hb ⊢
  refine ⟨fun r hr => ?_, ?_⟩
  · rcases List.mem_append.mp hr with hr | hr
    · rcases List.mem_append.mp hr with hr | hr
      · exact hb.1 r (List.mem_of_mem_take hr)
      · rw [List.mem_singleton.mp hr]
        exact ob
    · exact hb.1 r (List.mem_of_mem_drop hr)
  · rw [List.filter_append, List.filter_append, eb, List.append_nil, e]
    exact hb.2
theorem bad_sml {rs : List Rw} {n : Nat} {i : Int} (hz : ∀ r ∈ rs, r.sml) : ∀ r ∈ rs.take n ++ [badR i] ++ rs.drop n, r.sml := fun r hr => by
  rcases List.mem_append.mp hr with hr | hr
  · rcases List.mem_append.mp hr with hr | hr
    · exact hz r (List.mem_of_mem_take hr)
    · rw [List.mem_singleton.mp hr]
      unfold badR
      split
      · exact trivial
      · split <;> exact trivial
  · exact hz r (List.mem_of_mem_drop hr)
end My
/-! orders that keep causes; rows of numbers in lists -/
namespace My
open PySem L2
/-- each behind its causes, none twice, each sender's ones from 1 on -/
structure Ord (cs : List (Idn × List Idn)) (l : List Idn) : Prop where
  nd : l.Nodup
  a : ∀ (k : Nat) z, l[k]? = some z → ∀ y ∈ causesOf cs z, y ∈ l.take k
  n : ∀ (k : Nat) z, l[k]? = some z → z.2 = (cnt (l.take k) z.1 : Int) + 1
theorem Ord.nil {cs : List (Idn × List Idn)} : Ord cs [] := ⟨List.nodup_nil, fun k z h => by simp at h, fun k z h => by simp at h⟩
theorem snoc_at {α : Type} {l : List α} {x z : α} {k : Nat} (h : (l ++ [x])[k]? = some z) : (k < l.length ∧ l[k]? = some z ∧ (l ++ [x]).take k = l.take k) ∨ (k = l.length ∧ z = x ∧ (l ++ [x]).take k = l) := by
  by_cases c : k < l.length
  · rw [List.getElem?_append_left c] at h
    exact .inl ⟨c, h, List.take_append_of_le_length (Nat.le_of_lt c)⟩
  · have hi := (List.getElem?_eq_some_iff.mp h).1
    rw [List.length_append] at hi
    have e : k = l.length := by simp only [List.length_cons, List.length_nil] at hi; omega
    subst e
    rw [List.getElem?_append_right (Nat.le_refl _), Nat.sub_self] at h
    cases h
    exact .inr ⟨rfl, rfl, List.take_left⟩
theorem Ord.snoc {cs : List (Idn × List Idn)} {l : List Idn} {z : Idn} (h : Ord cs l) (nz : z ∉ l) (c : ∀ y ∈ causesOf cs z, y ∈ l) (e : z.2 = (cnt l z.1 : Int) + 1) : Ord cs (l ++ [z]) where
  nd := by
    rw [List.nodup_append]
    refine ⟨h.nd, List.pairwise_singleton _ _, fun a ha b hb q => ?_⟩
    rw [List.mem_singleton.mp hb] at q
    exact nz (q ▸ ha)
  a := fun k x hx y hy => by
    rcases snoc_at hx with ⟨_, h2, h3⟩ | ⟨_, rfl, h3⟩
    · rw [h3]
      exact h.a k x h2 y hy
    · rw [h3]
      exact c y hy
  n := fun k x hx => by
    rcases snoc_at hx with ⟨_, h2, h3⟩ | ⟨_, rfl, h3⟩
    · rw [h3]
      exact h.n k x h2
    · rw [h3]
      exact e
theorem Ord.more {cs : List (Idn × List Idn)} {l : List Idn} {w : Idn} {u : List Idn} (h : Ord cs l) (hk : ∀ z ∈ l, z ∈ cs.map (·.1)) : Ord (cs ++ [(w, u)]) l where
  nd := h.nd
  a := fun k z hz y hy => by
    rw [causes_snoc (hk z (List.mem_of_getElem? hz))] at hy
    exact h.a k z hz y hy
  n := h.n
/-- its beginnings are numbered, too -/
theorem Ord.num {cs : List (Idn × List Idn)} {l : List Idn} (h : Ord cs l) : ∀ k : Nat, Num (l.take k)
  | 0 => by rw [List.take_zero]; exact Num.nil
  | k + 1 => by
    rw [List.take_add_one]
    cases e : l[k]? with
    | none => rw [Option.toList_none, List.append_nil]; exact h.num k
    | some z =>
      obtain ⟨s, n⟩ := z
      exact (h.num k).snoc (h.n k _ e)
structure OrdS (S : Ms) : Prop where
  g : ∀ l ∈ S.got, Ord S.cs l
  t : ∀ l ∈ S.told, Ord S.cs l
  s : ∀ i : Nat, ∀ z ∈ rowOf S.told (i : Nat), z ∈ rowOf S.got (i : Nat)
theorem row_set {ls : List (List Idn)} {j i : Nat} {x : List Idn} : rowOf (ls.set j x) (i : Nat) = if j = i ∧ i < ls.length then x else rowOf ls (i : Nat) := by
  unfold rowOf
  rw [Int.toNat_natCast, List.getD_eq_getElem?_getD, List.getD_eq_getElem?_getD, List.getElem?_set]
  by_cases c : j = i
  · subst c
    rw [if_pos rfl]
    by_cases d : j < ls.length
    · rw [if_pos d, if_pos ⟨rfl, d⟩]
      rfl
    · rw [if_neg d, if_neg (fun q => d q.2), List.getElem?_eq_none (by omega)]
  · rw [if_neg c, if_neg (fun q => c q.1)]
theorem row_nil {ls : List (List Idn)} {i : Nat} (h : ∀ l ∈ ls, l = []) : rowOf ls (i : Nat) = [] := by
  unfold rowOf
  rw [Int.toNat_natCast, List.getD_eq_getElem?_getD]
  cases e : ls[i]? with
  | none => rfl
  | some l => exact h l (List.mem_of_getElem? e)
theorem row_grow {ls : List (List Idn)} {m : Int} {z : Idn} {i : Nat} (h0 : 0 ≤ m) {y : Idn} (hy : y ∈ rowOf ls (i : Nat)) : y ∈ rowOf (ls.set m.toNat (rowOf ls m ++ [z])) (i : Nat) := by
  rw [row_set]
  split
  · rename_i c
    refine List.mem_append_left _ ?_
    have : (i : Int) = m := by omega
    rw [← this]
    exact hy
  · exact hy
theorem OrdS.new {M : Nat} : OrdS (Ms.new M) where
  g := fun l h => by
    rw [List.eq_of_mem_replicate h]
    exact Ord.nil
  t := fun l h => by
    rw [List.eq_of_mem_replicate h]
    exact Ord.nil
  s := fun i z hz => by
    have e : rowOf (Ms.new M).told (i : Nat) = [] := row_nil fun l h => List.eq_of_mem_replicate h
    rw [e] at hz
    cases hz
theorem OrdS.go {M : Nat} {S : Ms} {r : Rw} (h : OrdS S) (hI : Inw M S) (hok : r.okB M = true) (w : S.why r = none) : OrdS (S.go r) := by
  have hm := Rw.ok_mem hok
  cases r with
  | sent m y =>
    have hm : 0 ≤ m ∧ m ≤ (M : Int) - 1 := hm
    obtain ⟨row, _, er, hr⟩ := row_mem hI.lgot hm
    have hrow : rowOf S.got m ∈ S.got := by rw [er]; exact hr
    have hgr : ∀ z ∈ rowOf S.got m, z ∈ S.keys := (hI.gotR hm).2
    have hk : ∀ l, Ord S.cs l → (∀ z ∈ l, z ∈ S.keys) → Ord (S.cs ++ [(nxt S.keys m, rowOf S.got m)]) l := fun l o k => o.more k
    obtain ⟨j, rfl⟩ := Int.eq_ofNat_of_zero_le hm.1
    refine ⟨fun l hl => ?_, fun l hl => hk l (h.t l hl) (hI.tn l hl).2, fun i z hz => row_grow (by omega) (h.s i z hz)⟩
    rcases mem_set hl with hl | rfl
    · exact hk l (h.g l hl) (hI.gn l hl).2
    · refine (hk _ (h.g _ hrow) hgr).snoc (fun q => nxt_fresh hI (hgr _ q)) (fun y hy => ?_) ?_
      · rw [causes_new (nxt_fresh hI)] at hy
        exact hy
      · show 1 + ((cnt S.keys (j : Nat) : Nat) : Int) = (cnt (rowOf S.got (j : Nat)) (j : Nat) : Int) + 1
        rw [hI.own j (by omega)]
        omega
  | got m s n =>
    have hm : 0 ≤ m ∧ m ≤ (M : Int) - 1 := hm
    have hn := hI.got_next hm w
    have w : whyGot S m (s, n) = none := w
    obtain ⟨row, _, er, hr⟩ := row_mem hI.lgot hm
    have hrow : rowOf S.got m ∈ S.got := by rw [er]; exact hr
    unfold whyGot at w
    split at w
    · cases w
    split at w
    · cases w
    split at w
    · cases w
    split at w
    · rename_i c3 c4
      refine ⟨fun l hl => ?_, h.t, fun i z hz => row_grow (by omega) (h.s i z hz)⟩
      rcases mem_set hl with hl | rfl
      · exact h.g l hl
      · exact (h.g _ hrow).snoc c3 (hasB_mem c4) hn
    · cases w
  | told m p s n =>
    have hm : 0 ≤ m ∧ m ≤ (M : Int) - 1 := hm
    have hn := hI.told_next hm w
    have w : whyTold S m p (s, n) = none := w
    obtain ⟨row, _, er, hr⟩ := row_mem hI.ltold hm
    have hrow : rowOf S.told m ∈ S.told := by rw [er]; exact hr
    unfold whyTold at w
    split at w
    · cases w
    split at w
    · cases w
    split at w
    · cases w
    split at w
    · cases w
    split at w
    · rename_i c2 c3 c4 c5
      refine ⟨h.g, fun l hl => ?_, fun i z hz => ?_⟩
      · rcases mem_set hl with hl | rfl
        · exact h.t l hl
        · exact (h.t _ hrow).snoc c3 (hasB_mem c5) hn
      · have hz : z ∈ rowOf (S.told.set m.toNat (rowOf S.told m ++ [(s, n)])) (i : Nat) := hz
        rw [row_set] at hz
        split at hz
        · rename_i q
          have e : m = (i : Nat) := by omega
          rcases List.mem_append.mp hz with hz | hz
          · rw [e] at hz
            exact h.s i z hz
          · rw [List.mem_singleton.mp hz]
            rw [e] at c2
            exact Classical.not_not.mp c2
        · exact h.s i z hz
    · cases w
theorem run_ord {M : Nat} : ∀ {rs : List Rw} {S : Ms} {i : Nat}, OrdS S → Inw M S → (∀ r ∈ rs, r.okB M = true) → firstW S rs i = none → OrdS (runM S rs)
  | [], _, _, h, _, _, _ => h
  | r :: rs, S, i, h, hI, hok, hf => by
    obtain ⟨w, hf⟩ := firstW_none hf
    have ho := hok r (List.mem_cons_self ..)
    exact run_ord (rs := rs) (h.go hI ho w) (hI.go ho w) (fun x hx => hok x (List.mem_cons_of_mem _ hx)) hf
theorem ord_of {M : Nat} {rs : List Rw} (hM : M ≤ 5) (hb : histB M rs = true) (hf : firstW (Ms.new M) rs 0 = none) : OrdS (runM (Ms.new M) rs) := by
  unfold histB at hb
  rw [Bool.and_eq_true, List.all_eq_true] at hb
  exact run_ord OrdS.new (Inw.new hM) hb.1 hf
theorem OrdS.lg {M : Nat} {S : Ms} (h : OrdS S) (hI : Inw M S) : Ord S.cs S.lg := by
  rcases hI.le with e | e
  · rw [e]
    exact Ord.nil
  · exact h.t _ e
/-! ### all ids up to counts -/
theorem mem_ahead {M : Nat} {c : List Idn} {y : Idn} (hc : Num c) (h : y ∈ allI (cnts M c) (List.replicate M 0)) : y ∈ c := by
  unfold allI at h
  obtain ⟨i, hi, h⟩ := List.mem_flatMap.mp h
  rw [List.mem_range, cnts_len] at hi
  rw [cnts_D hi] at h
  unfold rngI at h
  obtain ⟨k, hk, rfl⟩ := List.mem_map.mp h
  have e0 : (List.replicate M (0 : Int)).getD i 0 = 0 := by
    rw [List.getD_eq_getElem?_getD, List.getElem?_replicate]
    split <;> rfl
  rw [e0] at hk ⊢
  have := List.mem_range.mp hk
  exact (hc _ _).mpr ⟨by omega, by omega⟩
theorem sum_map {α : Type} (f : α → Int) (g : α → Nat) (h : ∀ x, f x = g x) : ∀ l : List α, (l.map f).sum = ((l.map g).sum : Nat)
  | [] => rfl
  | x :: l => by
    rw [List.map_cons, List.map_cons, List.sum_cons, List.sum_cons, sum_map f g h l, h x]
    omega
theorem len_ahead {M : Nat} {c : List Idn} : ((allI (cnts M c) (List.replicate M 0)).length : Int) = (cnts M c).sum := by
  unfold allI
  rw [List.length_flatMap, cnts_len]
  unfold cnts
  rw [sum_map _ (fun s : Nat => cnt c (s : Nat)) (fun _ => rfl)]
  congr 2
  refine List.map_congr_left fun i hi => ?_
  have hi := List.mem_range.mp hi
  have e0 : (List.replicate M (0 : Int)).getD i 0 = 0 := by
    rw [List.getD_eq_getElem?_getD, List.getElem?_replicate]
    split <;> rfl
  have e1 := cnts_D (l := c) hi
  unfold cnts at e1
  rw [e0, e1]
  unfold rngI
  rw [List.length_map, List.length_range]
  omega
/-! ### rows of numbers -/
def tpD (ns : List Int) : PyData := .tuple (ns.map .int)
def NsAt (K : PySem.W.Frag) (H : Hp) (x : V) (ns : List Int) : Prop := ∃ q, x = .ref q ∧ SqT K H q (ns.map V.int)
theorem ints_dp {K : PySem.W.Frag} {H : Hp} : ∀ ns : List Int, DpAll K H (ns.map V.int) (ns.map .int)
  | [] => .nil
  | n :: ns => .cons (.int _) (ints_dp ns)
theorem NsAt.dp {K : PySem.W.Frag} {H : Hp} {x : V} {ns : List Int} (h : NsAt K H x ns) : Dp K H x (tpD ns) := by
  obtain ⟨q, rfl, h⟩ := h
  exact .tup h (ints_dp ns)
theorem tps_dp {K : PySem.W.Frag} {H : Hp} : ∀ {xs : List V} {l : List (List Int)}, All2 (NsAt K H) xs l → DpAll K H xs (l.map tpD)
  | [], [], _ => .nil
  | x :: xs, z :: l, h => .cons (h.2 0 x z rfl rfl).dp (tps_dp ⟨Nat.succ.inj h.1, fun i a b ha hb => h.2 (i + 1) a b ha hb⟩)
  | [], _ :: _, h => nomatch h.1
  | _ :: _, [], h => nomatch h.1
theorem ints_eqv : ∀ a b : List Int, PyData.eqvAll (a.map .int) (b.map .int) = decide (a = b)
  | [], [] => by simp [PyData.eqvAll]
  | [], _ :: _ => by simp [PyData.eqvAll]
  | _ :: _, [] => by simp [PyData.eqvAll]
  | x :: a, y :: b => by
    have e : PyData.eqvAll ((x :: a).map .int) ((y :: b).map .int) = ((x == y) && PyData.eqvAll (a.map .int) (b.map .int)) := by simp only [List.map_cons, PyData.eqvAll, PyData.eqv]
    rw [e, ints_eqv a b, Bool.eq_iff_iff]
    simp
theorem tpD_eqv (a b : List Int) : PyData.eqv (tpD a) (tpD b) = decide (a = b) := by
  have e : PyData.eqv (tpD a) (tpD b) = PyData.eqvAll (a.map .int) (b.map .int) := by simp only [tpD, PyData.eqv]
  rw [e, ints_eqv]
theorem ints_lay : ∀ a : List Int, PyData.canLayAll0 (a.map .int) = true
  | [] => by simp [PyData.canLayAll0]
  | x :: a => by simp [PyData.canLayAll0, PyData.canLay0, ints_lay a]
theorem ints_depth : ∀ a : List Int, PyData.depthAll (a.map .int) = 0
  | [] => by simp [PyData.depthAll]
  | x :: a => by simp [PyData.depthAll, PyData.depth, ints_depth a]
theorem tpD_lay (a : List Int) : PyData.canLay0 (tpD a) = true := by
  simp only [tpD, PyData.canLay0]
  exact ints_lay a
theorem tpD_depth (a : List Int) : (tpD a).depth = 1 := by
  simp only [tpD, PyData.depth, ints_depth]
theorem tpD_shaped (a : List Int) : SeqAt.shaped (tpD a) = true := by
  show ((tpD a).canLay0 && decide ((tpD a).depth ≤ 64)) = true
  rw [Bool.and_eq_true]
  exact ⟨tpD_lay a, decide_eq_true (by rw [tpD_depth]; omega)⟩
theorem tps_lay : ∀ l : List (List Int), PyData.canLayAll0 (l.map tpD) = true
  | [] => by simp [PyData.canLayAll0]
  | a :: l => by simp [PyData.canLayAll0, tpD_lay a, tps_lay l]
theorem tps_depth : ∀ l : List (List Int), PyData.depthAll (l.map tpD) ≤ 1
  | [] => by simp [PyData.depthAll]
  | a :: l => by
    have h1 := tps_depth l
    have h2 := tpD_depth a
    simp only [List.map_cons, PyData.depthAll]
    omega
theorem tps_shaped (l : List (List Int)) : SeqAt.shaped (.list (l.map tpD)) = true := by
  have h1 := tps_depth l
  show (PyData.canLay0 (.list (l.map tpD)) && decide (PyData.depth (.list (l.map tpD)) ≤ 64)) = true
  rw [Bool.and_eq_true]
  exact ⟨by simp only [PyData.canLay0]; exact tps_lay l, decide_eq_true (by simp only [PyData.depth]; omega)⟩
theorem tps_any (l : List (List Int)) (z : List Int) : ((l.map tpD).any fun y => PyData.eqv y (tpD z)) = decide (z ∈ l) := by
  rw [List.any_map, Bool.eq_iff_iff, List.any_eq_true, decide_eq_true_iff]
  constructor
  · rintro ⟨y, hy, e⟩
    rw [Function.comp_apply, tpD_eqv, decide_eq_true_iff] at e
    exact e ▸ hy
  · exact fun h => ⟨z, h, by rw [Function.comp_apply, tpD_eqv]; exact decide_eq_true rfl⟩
theorem i_ninTps {K : PySem.W.Frag} {H : Hp} {Q : VK} {p : Addr} {x : V} {xs : List V} {l : List (List Int)} {z : List Int} (h1 : SqL K H p xs) (h2 : All2 (NsAt K H) xs l) (h3 : NsAt K H x z) (h : Q (.bl (!decide (z ∈ l))) H) : rNotInD K x (.ref p) H Q :=
  ⟨tpD z, l.map tpD, h3.dp, .lst h1 (tps_dp h2), tpD_shaped z, tps_shaped l, by rw [tps_any]; exact h⟩
/-! ### tuples cut and joined, whole and empty ones too -/
theorem op_catAK {X : Cx} {K : PySem.W.Frag} (hK : X.K = K := by rfl) : OpR X (binaryOp .Add) (rCatA K) := by
  subst hK
  exact op_catA
theorem sl_tupAK {X : Cx} {K : PySem.W.Frag} (hK : X.K = K := by rfl) : SlR X (rSlA K) := by
  subst hK
  exact sl_tupA
theorem op_repTK {X : Cx} {K : PySem.W.Frag} (hK : X.K = K := by rfl) : OpR X (binaryOp .Mult) (rRepT K) := by
  subst hK
  exact op_repT
section
variable {K : PySem.W.Frag} {H : Hp} {Q : VK} {p q : Addr} {xs ys : List V} {lo hi : Option Int}
theorem i_slA (h0 : SqT K H p xs) (h : ∀ b HN, Same H HN → SqT K HN b (cutV xs lo hi) → Q (.ref b) HN) : rSlA K (.ref p) lo hi H Q :=
  ⟨p, xs, rfl, h0, fun hw => h p H (Same.refl _) (by
    have e : cutV xs lo hi = xs := by
      unfold cutV
      rw [hw.1, hw.2, List.drop_zero, Nat.sub_zero, List.take_length]
    rw [e]
    exact h0), fun _ b hb => h b _ (same_upd (Same.refl _) hb) (.of upd_same)⟩
theorem i_catA (h1 : SqT K H p xs) (h2 : SqT K H q ys) (hl : xs.length + ys.length ≤ sizeLine) (h : ∀ b HN, Same H HN → SqT K HN b (xs ++ ys) → Q (.ref b) HN) : rCatA K (.ref p) (.ref q) H Q :=
  ⟨p, q, xs, ys, rfl, rfl, h1, h2, hl, fun e => h q H (Same.refl _) (by rw [e]; exact h2), fun _ e => h p H (Same.refl _) (by rw [e, List.append_nil]; exact h1), fun _ _ b hb => h b _ (same_upd (Same.refl _) hb) (.of upd_same)⟩
theorem i_repT {k : Int} (h1 : SqT K H p xs) (hx : xs ≠ []) (h2 : 2 ≤ k ∧ k ≤ 1000) (hl : xs.length ≤ 1000) (h : ∀ b HN, Same H HN → SqT K HN b (List.replicate k.toNat xs).flatten → Q (.ref b) HN) : rRepT K (.ref p) (.int k) H Q :=
  ⟨p, k, xs, rfl, rfl, h1, hx, h2.1, h2.2, hl, fun b hb => h b _ (same_upd (Same.refl _) hb) (.of upd_same)⟩
end
theorem cnts_setI {M : Nat} {l : List Idn} {z : Idn} (h : 0 ≤ z.1 ∧ z.1 ≤ (M : Int) - 1) (e : z.2 = (cnt l z.1 : Int) + 1) : (cnts M l).set z.1.toNat z.2 = cnts M (l ++ [z]) := by
  have := cnts_set h e
  rw [← List.map_set] at this
  exact (List.map_inj_right fun _ _ h => by cases h; rfl).mp this
theorem flat_rep {n : Nat} : (List.replicate n [V.int 0]).flatten = (List.replicate n (0 : Int)).map V.int := by
  induction n with
  | zero => rfl
  | succ n ih =>
    rw [List.replicate_succ, List.replicate_succ, List.flatten_cons, List.map_cons, ih]
    rfl
theorem sum_le30 : ∀ {l : List Int}, (∀ n ∈ l, n ≤ 30) → l.sum ≤ 30 * (l.length : Int)
  | [], _ => by simp
  | n :: l, h => by
    have h1 := sum_le30 (l := l) fun x hx => h x (List.mem_cons_of_mem _ hx)
    have h2 := h n (List.mem_cons_self ..)
    rw [List.sum_cons, List.length_cons]
    omega
end My
/-! Own error classes over LookupError and KeyError (KeyError has no __new__ of its own: LookupError's). -/
namespace My
open PySem L2
open PySem.W (excTail excTail_cases excTail_contains excTail_pass)
/-- what is told of a built-in's __init__ -/
structure InF (B initId : String) : Prop where
  plain : plainId initId = true
  entry : entryFor table initId = some Builtin.«BaseException.__init__»
  split : splitId initId = some (B, "__init__")
  kind : builtinKind initId = some .slot
  row : Manifest.signature? initId = some ⟨.positional, "*", B, .self, [⟨"args", .varPos, false⟩]⟩
  noStar : (B != "*") = true
/-- a family of errors that LookupError makes -/
structure Fam (tl : List Value) (B initId : String) : Prop where
  init : InF B initId
  hasB : tl.contains (.type B) = true
  hasL : tl.contains (.type "LookupError") = true
  noA : tl.contains (.type "AttributeError") = false
  noN : tl.contains (.type "NameError") = false
  obj : tl.contains (.type "object") = true
  ne : tl.isEmpty = false
  pass : ∀ self, refuseLoop self "__setattr__" tl = pure ()
  hand : PySem.W.handedIn (.builtin initId) = true
theorem famL : Fam tlL "LookupError" "LookupError.__init__" where
  init := ⟨F.excCall_LookupError.init.plain, F.excCall_LookupError.initEntry, F.excCall_LookupError.initSplit, F.excCall_LookupError.initKind, F.excCall_LookupError.initRow, F.excCall_LookupError.noStar⟩
  hasB := by decide +kernel
  hasL := by decide +kernel
  noA := by decide +kernel
  noN := by decide +kernel
  obj := by decide +kernel
  ne := rfl
  pass := F.store_LookupError.passes
  hand := by decide +kernel
theorem famK : Fam tlK "KeyError" "KeyError.__init__" where
  init := ⟨by decide +kernel, entryFor_alias (id' := "BaseException.__init__") (by rw [fastTable_eq_tree]; kernel_rfl) (by first | rfl | decide +kernel) (by decide +kernel) (by rw [fastTable_eq_tree]; kernel_rfl), by kernel_rfl, by kernel_rfl, by kernel_rfl, by decide +kernel⟩
  hasB := by decide +kernel
  hasL := by decide +kernel
  noA := by decide +kernel
  noN := by decide +kernel
  obj := by decide +kernel
  ne := rfl
  pass := fun self => by kernel_rfl
  hand := by decide +kernel
theorem tail_ne {bmB l : List Value} (hn : bmB.isEmpty = false) (e : excTail bmB l = true) : l.isEmpty = false := by
  rcases excTail_cases l e with ⟨c, r, rfl, _⟩ | rfl
  · rfl
  · exact hn
section
variable {M : Model} {A : Around} {E : Value → Shared → Prop} {h : Heap} {g : Array GenState} {d : Drawn} {t : Nat} {os : OsState}
variable {nm q : Str} {C N : Addr} {bs bm tl : List Value} {hdct : Bool} {sn : List Str} {sub : List Value} {ab : Bool} {col : Option Bool} {dd : Option Addr} {k0 k1 k2 k3 k5 : Option Value} {B newId initId : String}
theorem chk_new {newId : String} (F : ExcBaseFacts B newId initId bmB) (hB : bm.contains (.type B) = true) {rest : List Value} {Q : Unit → Shared → Prop}
    (hC : h.get? C = some (excClassObj nm q C N bs bm hdct sn sub ab col dd k0 k1 k2 k3 k5 newId)) (hq : Q () ⟨h, g, d, t, os⟩) : wpAny M A (checkBuiltinCall newId ⟨.ref C :: rest, []⟩) Q E ⟨h, g, d, t, os⟩ := by
  have hcont : (Value.ref C :: bm).contains (.type B) = true := by rw [List.contains_cons, hB, Bool.or_true]
  have hstar := F.noStar
  simp only [checkBuiltinCall, F.newKind, F.newSplit, F.newRow]
  repeat (first | refine wpAny_loadPart_at hC ?_ | (refine wpAny_isSubtype_exc hC ?_; rw [hcont]) | refine wpAny_staticBase_exc hC ?_ | refine wpAny_madeBy_exc hC ?_ | simp only [bne_self_eq_false, Bool.false_eq_true, if_false] | wp_step)
  exact hq
theorem chk_init (F : InF B initId) (hB : bm.contains (.type B) = true) {e : Addr} {oe : Obj} {rest : List Value} {Q : Unit → Shared → Prop}
    (hC : h.get? C = some (excClassObj nm q C N bs bm hdct sn sub ab col dd k0 k1 k2 k3 k5 newId)) (he : h.get? e = some oe) (hcls : oe.cls = .ref C) (hq : Q () ⟨h, g, d, t, os⟩) :
    wpAny M A (checkBuiltinCall initId ⟨.ref e :: rest, []⟩) Q E ⟨h, g, d, t, os⟩ := by
  have hcB : (Value.ref C :: bm).contains (.type B) = true := by rw [List.contains_cons, hB, Bool.or_true]
  have hshort := F.noStar
  simp only [checkBuiltinCall, F.kind, F.split, F.row]
  repeat (first | (with_reducible refine wpAny_loadPart_at he ?_; rw [hcls]) | with_reducible refine wpAny_loadPart_at hC ?_ | (with_reducible refine wpAny_isSubtype_exc hC ?_; rw [hcB]) | wp_step)
  refine wpAny_onRaise ?_
  rw [show ∀ (a b : String) (n : Nat), Bind.check ⟨.positional, "*", B, .self, [⟨"args", .varPos, false⟩]⟩ a b n (List.map (fun x => x.fst) ({ pos := Value.ref e :: rest } : Args).kw) = pure () from
    fun a b n => check_star_args _ _ _ _ _ _]
  exact wpAny_pure hq
end
section
variable {prog : Program} {w : World} {A : Around} {E : Value → Shared → Prop} {R : Result → Shared → Prop} {h : Heap} {g : Array GenState} {d : Drawn} {t : Nat} {os : OsState}
variable {nm q : Str} {C N : Addr} {bs bm bmB : List Value} {hdct : Bool} {sn : List Str} {sub : List Value} {ab : Bool} {col : Option Bool} {dd : Option Addr} {k0 k1 k2 k3 k5 : Option Value} {B newId initId : String}
theorem new_ownT (F : ExcBaseFacts B newId initId bmB) (hB : bm.contains (.type B) = true) (hA : bm.contains (.type "AttributeError") = false) (hN : bm.contains (.type "NameError") = false) {rest : List Value}
    (hC : h.get? C = some (excClassObj nm q C N bs bm hdct sn sub ab col dd k0 k1 k2 k3 k5 newId))
    (hq : R (.ok (.ret (.ref (h.objs.size + 1)))) ⟨(h.push { cls := .type "tuple", data := .seq rest.toArray }).push
      { cls := .ref C, data := .fields #[.ref h.objs.size, .none, .none, .none, .bool false, .none] }, g, d, t, os⟩) (hrest : rest.length ≤ sizeLine) :
    codeAny (model prog w) A (.builtin newId ⟨.ref C :: rest, []⟩) R ⟨h, g, d, t, os⟩ := by
  have hends := F.ends
  have hcB : (Value.ref C :: bm).contains (.type B) = true := by rw [List.contains_cons, hB, Bool.or_true]
  have hcA : (Value.ref C :: bm).contains (.type "AttributeError") = false := by rw [List.contains_cons, hA]; rfl
  have hcN : (Value.ref C :: bm).contains (.type "NameError") = false := by rw [List.contains_cons, hN]; rfl
  refine codeAny_builtinAt F.entry ?_
  unfold Builtin.«BaseException.__new__»
  refine wpAt_bind ?_
  show wpAt _ _ _ (stack >>= _) _ _ _
  refine wpAt_bind (wpAt_stack fun p below => wpAt_of_wpAny ?_)
  wp_walk
  refine wpAt_of_wpAny ?_
  rw [F.owner]
  repeat (first | with_reducible refine wpAny_madeHere_exc F.canon hC ?_ | with_reducible refine wpAny_loadPart_at hC ?_ | (with_reducible refine wpAny_isSubtype_exc hC ?_; first | rw [hcB] | rw [hcA] | rw [hcN]) | wp_step)
  show R _ _
  rw [Heap.size_push]
  exact hq
theorem type_callT (F : ExcBaseFacts B newId initId bmB) (hB : bm.contains (.type B) = true) (hA : bm.contains (.type "AttributeError") = false) (hN : bm.contains (.type "NameError") = false) {rest : List Value} {fI : Addr} {Q : Fin → Shared → Prop}
    (hC : h.get? C = some (excClassObj nm q C N bs bm hdct sn sub ab col dd k0 k1 k2 k3 k5 newId))
    (hi : W.Looks (model prog w) h (typeLookup (.ref C) "__init__") (some (.ref fI))) (hb : ∀ self, W.Looks (model prog w) h (bindSpecial (.ref fI) self) (.ref fI, [self])) (hrest : rest.length ≤ sizeLine)
    (hq : codeAny (model prog w) A (.call (.ref fI) ⟨.ref (h.objs.size + 1) :: rest, []⟩)
      (fun r s' => match r with | .ok (.ret v) => v = .none ∧ Q (.done (.ret (.ref (h.objs.size + 1)))) s' | .ok _ => False | .error e => E e s')
      ⟨(h.push (W.kdv_tup rest)).push (PySem.HandSPX.excO C h.objs.size), g, d, t, os⟩) :
    wpAny (model prog w) A (Builtin.«type.__call__» ⟨.ref C :: rest, []⟩) Q E ⟨h, g, d, t, os⟩ := by
  repeat (first | with_reducible refine wpAny_loadPart_at hC ?_ | with_reducible refine wpAny_madeBy_exc hC ?_ | wp_step)
  refine codeAny_call_builtin_code (Code.quiet_builtin _ F.quiet) (chk_new F hB hC ?_)
  refine new_ownT F hB hA hN hC ?_ hrest
  show wpAny _ _ _ _ _ _
  have k : ∀ b o, h.get? b = some o → ((h.push (W.kdv_tup rest)).push (PySem.HandSPX.excO C h.objs.size)).get? b = some o := fun b o e => Heap.get?_push_of_some _ (Heap.get?_push_of_some _ e)
  have hC₁ := k _ _ hC
  have hget : ((h.push (W.kdv_tup rest)).push (PySem.HandSPX.excO C h.objs.size)).get? (h.objs.size + 1) = some (PySem.HandSPX.excO C h.objs.size) := by heap_get
  have hcC : (Value.ref C :: bm).contains (.ref C) = true := by simp
  have i1 := hi.keeps k
  have b1 := (hb (.ref (h.objs.size + 1))).keeps k
  unfold isInstance
  repeat (first | with_reducible refine wpAny_loadPart_at hget ?_ | (with_reducible refine wpAny_isSubtype_exc hC₁ ?_; rw [hcC]) | wp_step)
  show wpAny _ _ (typeLookup (.ref C) _) _ _ _
  refine i1.at ?_
  refine wpAny_holding (wpAny_bind (b1.at ?_))
  refine wpAny_bind (wpAny_call (codeAny_mono hq fun r s' z => ?_))
  rcases r with e | (v | _ | _ | _) <;> first | exact z | exact z.elim | skip
  obtain ⟨rfl, z⟩ := z
  first
    | exact wpAny_pure (wpAny_pure z)
    | (wp_walk; exact z)
theorem call_ownT (F : ExcBaseFacts B newId initId bmB) (hB : bm.contains (.type B) = true) (hA : bm.contains (.type "AttributeError") = false) (hN : bm.contains (.type "NameError") = false) {rest : List Value} {fI : Addr}
    (hC : h.get? C = some (excClassObj nm q C N bs bm hdct sn sub ab col dd k0 k1 k2 k3 k5 newId))
    (hi : W.Looks (model prog w) h (typeLookup (.ref C) "__init__") (some (.ref fI))) (hb : ∀ self, W.Looks (model prog w) h (bindSpecial (.ref fI) self) (.ref fI, [self])) (hrest : rest.length ≤ sizeLine)
    (hq : codeAny (model prog w) (A.under (.builtin "type.__call__" ⟨.ref C :: rest, []⟩)) (.call (.ref fI) ⟨.ref (h.objs.size + 1) :: rest, []⟩) (W.InitBack (h.objs.size + 1) R)
      ⟨(h.push (W.kdv_tup rest)).push (PySem.HandSPX.excO C h.objs.size), g, d, t, os⟩) :
    codeAny (model prog w) A (.call (.ref C) ⟨rest, []⟩) R ⟨h, g, d, t, os⟩ := by
  have f1 := tc_lookup
  have f2 := tc_bind (.ref C)
  have hTy : (⟨h, g, d, t, os⟩ : Shared).TypeIs (.ref C) "type" := ⟨_, hC, rfl⟩
  refine codeAny_of_tree ?_
  show wpAny _ _ (callAny (.ref C) _) _ _ _
  repeat (any_goals (first | assumption | with_reducible refine wpAny_loadPart_at hC ?_ | wp_step))
  refine ⟨rfl, ?_⟩
  refine codeAny_call_builtin_at (Code.quiet_builtin _ (by decide +kernel)) entry_typeCall (wpAny_check_type_call_sub hC (type_callT F hB hA hN hC hi hb hrest ?_))
  refine codeAny_mono hq fun r s' z => ?_
  rcases r with e | (v | _ | _ | _) <;> exact z
/-- B.__init__(e, ..) -/
theorem init_baseT (F : InF B initId) (hB : bm.contains (.type B) = true) {e t0 : Addr} {rest : List Value}
    (hC : h.get? C = some (excClassObj nm q C N bs bm hdct sn sub ab col dd k0 k1 k2 k3 k5 newId)) (he : h.get? e = some (PySem.HandSPX.excO C t0)) (hrest : rest.length ≤ sizeLine)
    (hq : ∀ h' t1, (∀ b o, b ≠ e → h.get? b = some o → h'.get? b = some o) → h'.get? e = some (PySem.HandSPX.excO C t1) → R (.ok (.ret .none)) ⟨h', g, d, t, os⟩) :
    codeAny (model prog w) A (.call (.builtin initId) ⟨.ref e :: rest, []⟩) R ⟨h, g, d, t, os⟩ := by
  refine codeAny_call_builtin F.plain F.entry (chk_init F hB hC he rfl ?_)
  wp_walk
  refine hq _ h.objs.size (fun b o hb ho => ?_) ?_
  · rw [Heap.get?_update_other _ _ (Ne.symm hb)]
    exact Heap.get?_push_of_some _ ho
  · rw [Heap.get?_update_self _ (Heap.get?_push_of_some _ he) rfl]
    rfl
open Builtin.ObjectAttr in
theorem exc_osaT {K : W.Frag} {name : Str} {tk : Tok} {v : Value} {x C : Addr} {fv : Array Value} {cd : ClassData} {tl : List Value} {B initId : String} (fam : Fam tl B initId)
    (X : K.In h) (hx : h.get? x = some { cls := .ref C, data := .fields fv }) (hcd : W.clsIn K C = some cd) (hm : excTail tl cd.mro = true) (hh : cd.hasDict = true) (ha : W.findIn K (.ref C) name = some none)
    (hq : ∀ h' tk' dx, (∀ b o, b ≠ x → h.get? b = some o → h'.get? b = some o) → h.objs.size ≤ dx → dx ≠ x → h'.get? x = some { cls := .ref C, dict := some dx, data := .fields fv } →
      h'.Ns1 dx (fun y => if y = name then some v else none) → R (.ok (.ret .none)) ⟨h', g, d, tk', os⟩) :
    codeAny (model prog w) A (.call (.builtin "object.__setattr__") ⟨[.ref x, .str name tk, v], []⟩) R ⟨h, g, d, t, os⟩ := by
  have I : W.InstAt h x { cls := .ref C, data := .fields fv } C none := ⟨hx, rfl, rfl, trivial⟩
  have SF := F.store_object
  have ne := tail_ne fam.ne hm
  have hob : cd.mro.contains (.type "object") = true := (excTail_contains "object" _ hm).trans fam.obj
  have hxs : x ≠ h.objs.size := Nat.ne_of_lt (Heap.lt_size hx)
  have sub : W.Looks (model prog w) h (isInstance (.ref x) (.type "object")) true := I.type.andThen (W.looks_mroIn X (by unfold W.mroIn; rw [hcd, Option.bind_some, if_neg (by rw [ne]; decide), hob]))
  refine codeAny_call_builtin SF.slot.plain SF.entry (@W.check_slot (model prog w) _ _ ⟨h, g, d, t, os⟩ "object.__setattr__" "object" "__setattr__" (.ref x) [.str name tk, v] [] _ SF.kind SF.split sub (SF.args (.ref x) (.str name tk) v) ?_)
  have hmr : W.Looks (model prog w) h (mroOf (.ref C)) cd.mro := (W.looks_clsIn X hcd).andThen .now
  have L3 : W.Looks (model prog w) h (storeTaker? none) none := .now
  have hcls : W.Looks (model prog w) h (classData C) cd := W.looks_clsIn X hcd
  rw [W.osa_eq, refuse_eq]
  refine wpAny_bind (wpAny_bind (I.type.at (wpAny_bind (hmr.at ?_))))
  rw [excTail_pass _ (fam.pass _) _ hm]
  refine wpAny_pure (wpAny_bind (I.type.at (wpAny_bind ((W.looks_findIn X ha).at (wpAny_bind (L3.at ?_))))))
  show wpAny _ _ (storeInOwnDict (.ref x) (.ref C) (.str name tk) name v false) _ _ _
  obtain ⟨nm, bs, mro, ns, qn, hd, sn, sb, ab, col, del⟩ := cd
  dsimp only at hh
  subst hh
  unfold storeInOwnDict ownDictForStores
  repeat (first | with_reducible refine PySem.HandSPX.store_in_new ?_ ?_ | with_reducible refine wpAny_loadPart_at hx ?_ | with_reducible refine hcls.at ?_ | wp_step)
  · exact ⟨_, #[], _, (Heap.get?_update_ne _ _ _ _ hxs.symm).trans (Heap.get?_push_at rfl rfl), rfl, fun e he => absurd he (by simp), fun _ => rfl⟩
  · intro h' tk' hn' hs
    have hx₁ : (h.push { cls := .type "dict", data := .dict #[] }).get? x = some { cls := .ref C, data := .fields fv } := Heap.get?_push_of_some _ hx
    refine hq h' tk' h.objs.size (fun b o hb ho => ?_) (Nat.le_refl _) hxs.symm ?_ hn'
    · exact (hs.2 b (Nat.ne_of_lt (Heap.lt_size ho))).trans ((Heap.get?_update_ne _ _ _ _ hb).trans (Heap.get?_push_of_some _ ho))
    · exact (hs.2 x hxs).trans (Heap.get?_update_self _ hx₁ rfl)
end
/-- what the written part says of the class -/
structure OexT (K : PySem.W.Frag) (tl : List Value) (C : Addr) : Prop where
  cls : ∃ nm q N bs bm sn sub ab col dd k0 k1 k2 k3 k5, K.lookup C = some (excClassObj nm q C N bs bm true sn sub ab col dd k0 k1 k2 k3 k5 "LookupError.__new__") ∧ excTail tl bm = true
  sa : PySem.W.findIn K (.ref C) "__setattr__" = some (some (.builtin "object.__setattr__"))
  exC : PySem.W.subIn K (.ref C) (.type "BaseException") = some true
  tyC : PySem.W.typeIn K (.ref C) = some (.type "type")
  kC : PySem.W.keepIn K (.ref C) = true
section
variable {X : Cx} {pins : List (Addr × Obj)} {σ : St} {H : Hp} {s : Shared} {a C dx : Addr} {f : Str} {y : V} {u : Value} {fs : List (Str × V)} {Q : Unit → Shared → Prop} {E : Value → Shared → Prop} {A : Around} {tl : List Value} {B initId : String}
/-- self.f = y, the first one -/
theorem ost_newT (fam : Fam tl B initId) (T : OexT X.K tl C) (I : Inv X pins σ H s) (e : H a = some (exo a C none)) (hno : PySem.W.findIn X.K (.ref C) f = some none) (ry : RelV y u)
    (h : ∀ dx s', H dx = none → dx ≠ a → Inv X pins σ (upd (upd H dx (exd dx [(f, y)])) a (exo a C (some dx))) s' → Q () s') : wpAny (model X.prog X.w) A (setAttr (.ref a) f u) Q E s := by
  obtain ⟨nm, q, N, bs, bm, sn, sub, ab, col, dd, k0, k1, k2, k3, k5, hC, hbm⟩ := T.cls
  have hcl : PySem.W.clsIn X.K C = some { name := nm, bases := bs, mro := .ref C :: bm, ns := N, qualname := q, hasDict := true, slotNames := sn, subclasses := sub, abstract := ab, collection := col, hasDel := false } := by unfold PySem.W.clsIn; rw [hC] <;> rfl
  obtain ⟨t1, ho⟩ := exo_at I.hok e
  obtain ⟨hp, g, d, t, os⟩ := s
  refine PySem.W.set_plain I.kIn (ox := { cls := .ref C, dict := none, data := .fields #[.ref t1, .none, .none, .none, .bool false, .none] }) (od := none) ⟨ho, rfl, rfl, trivial⟩ T.sa ?_
  refine exc_osaT fam I.kIn ho hcl (show excTail tl (.ref C :: bm) = true from hbm) rfl hno (fun h' tk' dx k dn dne hx hn => ?_)
  have hnd : H dx = none := I.hok.fresh dn
  have nd : ∀ {b : Addr} {o : Obj}, hp.get? b = some o → b ≠ dx := fun {b o} q => Nat.ne_of_lt (Nat.lt_of_lt_of_le (Heap.lt_size q) dn)
  have na : ∀ {b : Addr}, H b = none → b ≠ a := fun {b} n z => by
    rw [z, e] at n
    cases n
  have Un1 : Un X.fs [] H (upd (upd H dx (exd dx [(f, y)])) a (exo a C (some dx))) hp h' := {
    keep := fun b o q n _ _ => k b o (na n) q
    slot := fun b o q n _ _ => ⟨o.slots, k b o (na n) q⟩
    free := fun b o q n _ => by rw [upd_ne (na n), upd_ne (nd q)]; exact n
    there := fun b o q _ => by
      by_cases hb : b = a
      · exact ⟨_, by rw [hb]; exact hx⟩
      · exact ⟨o, k b o hb q⟩
    tups := fun b xs q => by rw [upd_ne (at_ne e q exo_tup), upd_ne (ne_of_none q hnd)]; exact q
    frzs := fun b o v q => by rw [upd_ne (at_ne e q exo_frz), upd_ne (ne_of_none q hnd)]; exact q
    tbls := fun b ps q => ⟨#[], by rw [upd_ne (at_ne e q exo_tbl), upd_ne (ne_of_none q hnd), q]; simp⟩ }
  refine h dx _ hnd dne (I.un (t' := tk') Un1 fun b o q => ?_)
  by_cases hb : b = a
  · subst hb
    rw [upd_same] at q
    cases q
    exact exo_ok hx
  · rw [upd_ne hb] at q
    by_cases hd : b = dx
    · subst hd
      rw [upd_same] at q
      cases q
      exact exd_ok hn (relO_put (fs := []) ry fun g => True.intro)
    · rw [upd_ne hd] at q
      exact (I.hok b o q).stay (fun c v hc z => k c v (by
          rcases hc with hc | hc
          · rw [hc]
            exact hb
          · exact at_ne e hc exo_own) z)
        (fun c hc => by rw [upd_ne (at_ne e hc exo_own), upd_ne (ne_of_none hc hnd)]; exact hc) (fun c xs hc => by rw [upd_ne (at_ne e hc exo_tup), upd_ne (ne_of_none hc hnd)]; exact hc)
/-- B.__init__(self, ..): nothing of it is told -/
theorem oinit_okT {us : List Value} {Q : Value → Shared → Prop} (fam : Fam tl B initId) (T : OexT X.K tl C) (I : Inv X pins σ H s) (e : H a = some (exo a C none)) (hl : us.length ≤ sizeLine) (h : ∀ s', Inv X pins σ H s' → Q .none s') :
    wpAny (model X.prog X.w) A (call (.builtin initId) (.ref a :: us)) Q E s := by
  obtain ⟨nm, q, N, bs, bm, sn, sub, ab, col, dd, k0, k1, k2, k3, k5, hC, hbm⟩ := T.cls
  obtain ⟨t1, ho⟩ := exo_at I.hok e
  obtain ⟨hp, g, d, t, os⟩ := s
  refine wpAny_call (init_baseT fam.init ((excTail_contains B bm hbm).trans fam.hasB) (I.kIn _ _ hC) ho hl fun h' t2 k hx => ?_)
  have J := I.write (t' := t) (x := a) (e := a) (o := exo a C none) (by rw [e]; exact True.intro) (.inl rfl) k ⟨_, hx⟩ (exo_ok hx)
  have eu : upd H a (exo a C none) = H := by
    funext b
    by_cases hb : b = a
    · rw [hb, upd_same, e]
    · rw [upd_ne hb]
  rw [eu] at J
  exact h _ J
end
/-- B.__init__(self, ..) -/
def tVeIT (K : PySem.W.Frag) (tl : List Value) (ta : TA) : TE := fun σ H Q => ta σ H fun vs H1 => ∃ (a C : Addr) (ws : List V), vs = .ref a :: ws ∧ ws.length ≤ 1000 ∧ OexT K tl C ∧ H1 a = some (exo a C none) ∧ Q .non H1
/-- self.f = e, the first one -/
def tOstT (K : PySem.W.Frag) (tl : List Value) (f : Str) (to te : TE) : TS := fun D σ H => te σ H fun y H1 => to σ H1 fun x H2 => ∃ a C : Addr, x = .ref a ∧ OexT K tl C ∧ PySem.W.findIn K (.ref C) f = some none ∧
  (H2 a = some (exo a C none) ∧ ∀ dx, H2 dx = none → dx ≠ a → D.nx σ (upd (upd H2 dx (exd dx [(f, y)])) a (exo a C (some dx))))
section
variable {X : Cx} {CX : CXT} {k : Nat} {fd : FuncData} {ps : List Str} {sp : Sp} {x : Str} {p pos : Pos} {o e : Expr} {es : List Expr} {to te : TE} {t ta : TA} {f : Str} {p' p1 p2 : Pos} {tl : List Value} {B initId : String}
theorem ps_ostT (fam : Fam tl B initId) (ho : PE X o to) (he : PE X e te) (hs : swapsWith e (some (.Attribute o f p')) pos.line X.env = pure false := by rfl) : PS X (.Assign [.Attribute o f p'] e pos) (tOstT X.K tl f to te) := by
  refine ⟨fun pins s σ H D I h => ?_⟩
  refine plainObj_wpAny_Assign_Attribute (thn (he.run pins s σ H _ I h) fun v s1 ⟨y, H1, I1, r1, q1⟩ => thn (ho.run pins s1 σ H1 _ I1 q1) fun u s2 ⟨x, H2, I2, r2, a, C, ex, T, hno, q⟩ => ?_) hs
  subst ex
  obtain rfl : u = Value.ref a := r2
  obtain ⟨ea, q⟩ := q
  exact ost_newT fam T I2 ea hno r1 fun dx s' n ne J => ⟨σ, _, J, q dx n ne⟩
theorem pe_hinitT (fam : Fam tl B initId) {H0 : Addr} {pl : Sem Bool} (hg : Gl X x) (hm : X.mg x = some (.ref H0)) (hs : PySem.W.specialIn X.K (.ref H0) "__getattribute__" = some (some (.builtin "type.__getattribute__"))) (hrd : PySem.W.readsIn X.K H0 (.type "type") = true)
    (hf : PySem.W.findCls X.K (.ref H0) (.type "type") "__init__" = some (.val (.builtin initId))) (ha : PA X (e :: es) t) (hdb : (x == ("__debug__" : Str)) = false := by decide)
    (hc : eval (.Call (.Attribute (.Name x p1) "__init__" p2) (e :: es) [] pos) X.env = (do let ov ← eval (.Name x p1) X.env; standAt p2.atName; let (f, first) ← holding [ov] (getMethod ov "__init__" pl); callWith pos f first (backTo pos (starEach (e :: es) X.env)) (backToKw pos (keywordEach [] X.env))) := by rfl)
    (he : starEach (e :: es) X.env = (false, eval e X.env) :: starEach es X.env := by rfl) (hpl : (backTo pos (starEach es X.env)).any (·.1) = false := by rfl) : PE X (.Call (.Attribute (.Name x p1) "__init__" p2) (e :: es) [] pos) (tVeIT X.K tl t) := by
  refine ⟨fun pins s σ H Q I h => PySem.W.methodCall_KW (ld_glob I hg hm ?_ hdb) hc⟩
  refine PySem.W.method_cls I.kIn hs (PySem.W.cls_value I.kIn hrd hf fam.hand ?_)
  show wpAny _ _ (callWith pos (Value.builtin initId) [] (backTo pos (starEach (e :: es) X.env)) []) _ _ _
  refine PyProof.Rows.callWith_method1 (thn (ha.run pos pins _ σ H _ (I.tok _) h) fun us s1 ⟨vs, H1, I1, r1, a, C, ws, ev, hl, T, ea, q⟩ => ?_) he hpl
  subst ev
  cases r1 with
  | @cons _ u0 _ ur ra rw' =>
    cases (show u0 = Value.ref a from ra)
    refine oinit_okT fam T I1 ea ?_ fun s' J => ⟨.non, H1, J, rfl, q⟩
    rw [← Paired.length rw']
    exact line_le hl
theorem pmk_oexT {C fI : Addr} {ds : List Value} {dvs : List V} (fam : Fam tl B initId) (T : OexT X.K tl C) (iC : PySem.W.findIn X.K (.ref C) "__init__" = some (some (.ref fI))) (tI : PySem.W.typeIn X.K (.ref fI) = some (.type "function"))
    (F1 : FnOk X.prog X.w X.K X.mg X.base CX k fI fd ps sp) (hr : Room (k + 1) X.A) (hb : Binds X.K fd ps ds) (hd : Vals dvs ds) (hx : Passes CX X (fun _ _ _ => False)) (hg : Gl X x) (hm : X.mg x = some (.ref C)) (ha : PA X (e :: es) ta)
    (hdb : (x == ("__debug__" : Str)) = false := by decide) (he : starEach (e :: es) X.env = (false, eval e X.env) :: starEach es X.env := by rfl) (hpl : (backTo pos (starEach es X.env)).any (·.1) = false := by rfl) :
    PMk X (.Call (.Name x p) (e :: es) [] pos) (tMkO C sp dvs ta) := by
  intro pins s σ H Q I h
  obtain ⟨nm, q, N, bs, bm, sn, sub, ab, col, dd, k0, k1, k2, k3, k5, hC, hbm⟩ := T.cls
  refine wpAny_Call_Name_kw (ld_glob I hg hm ?_ hdb)
  refine PySem.W.callWith_K (h₀ := X.base) I.ok.mod.kin T.kC (thn (ha.run pos pins s σ H _ I h) fun us s1 ⟨vs, H1, I1, r1, hz, q1⟩ => ⟨I1.kIn, ?_⟩) he hpl
  show wpAny _ _ (call (.ref C) us) _ _ _
  obtain ⟨hp, g, dr, tk, os⟩ := s1
  have hsz : hp.objs.size ≤ hp.objs.size + 1 := Nat.le_succ _
  have hn : H1 (hp.objs.size + 1) = none := I1.hok.fresh hsz
  have hq := q1 (hp.objs.size + 1) hn
  have kk : ∀ b o, hp.get? b = some o → ((hp.push (PySem.W.kdv_tup us)).push (PySem.HandSPX.excO C hp.objs.size)).get? b = some o := fun b o e => Heap.get?_push_of_some _ (Heap.get?_push_of_some _ e)
  have hget : ((hp.push (PySem.W.kdv_tup us)).push (PySem.HandSPX.excO C hp.objs.size)).get? (hp.objs.size + 1) = some (PySem.HandSPX.excO C hp.objs.size) := by heap_get
  have I2 : Inv X pins σ (upd H1 (hp.objs.size + 1) (exo (hp.objs.size + 1) C none)) ⟨(hp.push (PySem.W.kdv_tup us)).push (PySem.HandSPX.excO C hp.objs.size), g, dr, tk, os⟩ :=
    I1.laid (t' := tk) (a := hp.objs.size + 1) (o := exo (hp.objs.size + 1) C none) (h' := (hp.push (PySem.W.kdv_tup us)).push (PySem.HandSPX.excO C hp.objs.size)) kk hsz (exo_ok hget)
  have r2 : Vals (V.ref (hp.objs.size + 1) :: (vs ++ dvs)) (Value.ref (hp.objs.size + 1) :: (us ++ ds)) := .cons rfl (r1.append hd)
  have hl : (Value.ref (hp.objs.size + 1) :: us ++ ds).length = ps.length := by
    have e := r2.length
    rw [F1.len _ _ _ _ hq] at e
    exact e.symm
  have hus : us.length ≤ sizeLine := by
    rw [← Paired.length r1, sizeLine_eq]
    omega
  refine wpAny_call (call_ownT F.excBase_LookupError ((excTail_contains "LookupError" bm hbm).trans fam.hasL) ((excTail_contains "AttributeError" bm hbm).trans fam.noA) ((excTail_contains "NameError" bm hbm).trans fam.noN) (I1.kIn _ _ hC) (PySem.W.looks_findIn I1.kIn iC) (fun self => PySem.W.bind_fn I1.kIn self tI) hus
    (codeAny_mono (F1.run _ X.stack _ _ ⟨Value.ref (hp.objs.size + 1) :: us, []⟩ (Value.ref (hp.objs.size + 1) :: (us ++ ds)) _ _ (fun _ _ _ => False) (hr.make C us []) (I2.env0.make C us []) (hb _ (Value.ref (hp.objs.size + 1) :: us) I2.kIn hl) r2 hq) fun r s' hq' => ?_))
  cases r with
  | error er => exact hx pins σ _ _ er s' I2 hq'
  | ok fl =>
    cases fl with
    | ret u =>
      obtain ⟨v, H2, os2, bare2, un2, hok2, rv, ev, d, fs, ea, ed, hd1, q2⟩ := hq'
      subst ev
      obtain ⟨h2, g2, d2, t2, os'⟩ := s'
      exact ⟨rv, mk_end (raises_own T.exC T.tyC) I1 hsz kk un2 hok2 os2 bare2 ea ed hd1 q2⟩
    | next => exact False.elim hq'
    | brk => exact False.elim hq'
    | cont => exact False.elim hq'
theorem pmk_excT {C fI : Addr} {fl : Str} (fam : Fam tl B initId) (T : OexT X.K tl C) (iC : PySem.W.findIn X.K (.ref C) "__init__" = some (some (.ref fI))) (tI : PySem.W.typeIn X.K (.ref fI) = some (.type "function"))
    (F1 : FnOk X.prog X.w X.K X.mg X.base CX0 k fI fd ps (spExI C fl)) (hr : Room (k + 1) X.A) (hb : Binds X.K fd ps []) (hg : Gl X x) (hm : X.mg x = some (.ref C)) (ha : PA X (e :: es) t)
    (hdb : (x == ("__debug__" : Str)) = false := by decide) (he : starEach (e :: es) X.env = (false, eval e X.env) :: starEach es X.env := by rfl) (hpl : (backTo pos (starEach es X.env)).any (·.1) = false := by rfl) : PMk X (.Call (.Name x p) (e :: es) [] pos) (tExc C fl t) := by
  intro pins s σ H Q I h
  refine pmk_oexT fam T iC tI F1 hr hb .nil (fun _ _ _ _ _ _ _ z => z.elim) hg hm (pa_M ha) hdb he hpl pins s σ H Q I ⟨_, h, fun vs H1 hv => ?_⟩
  obtain ⟨v, rfl, hq⟩ := hv
  refine ⟨(by show 1 ≤ 1000; decide), fun a na => ⟨a, v, rfl, upd_same, fun d hd nd => ⟨rfl, d, [(fl, v)], upd_same, ?_, ?_, ?_⟩⟩⟩
  · rw [upd_ne nd, upd_same]
  · rw [upd_ne nd] at hd
    exact hd
  · have hd' : H1 d = none := by
      rw [upd_ne nd] at hd
      exact hd
    have e1 : upd (del (upd (upd (upd H1 a (exo a C none)) d (exd d [(fl, v)])) a (exo a C (some d))) a) d (.xd [(fl, v)]) = upd H1 d (.xd [(fl, v)]) := by
      funext b
      by_cases h1 : b = d
      · rw [h1, upd_same, upd_same]
      · rw [upd_ne h1, upd_ne h1]
        by_cases h2 : b = a
        · rw [h2, del_same, na]
        · rw [del_ne h2, upd_ne h2, upd_ne h1, upd_ne h2]
    rw [e1]
    exact hq d hd'
end
/-- an own error class's __init__, read -/
theorem exc_readT {K : PySem.W.Frag} {tl : List Value} {C : Addr} {f : Str} {vs : List V} {H : Hp} {Q : VK} {E : XK} {N : List Str} {z : Str} (hN : N.length = 2) (T : OexT K tl C) (no : PySem.W.findIn K (.ref C) f = some none) (h : spExI C f vs H Q E) :
    tSeq (tDrop (tVeIT K tl (tCons (tVar 0) (tCons (tC (.str z)) tNil)))) (tOstT K tl f (tVar 0) (tVar 1)) { nx := fun _ H' => Q .non H', rt := Q } (start N vs) H := by
  obtain ⟨a, v, rfl, ha, k⟩ := h
  refine i_seq (i_drop ?_)
  show tVeIT K tl _ _ _ _
  refine ⟨_, rfl, ?_⟩
  refine i_c (i_nil ⟨a, C, [.str z], rfl, Nat.le_of_ble_eq_true rfl, T, ha, ?_⟩)
  exact ⟨v, rfl, .ref a, rfl, a, C, rfl, T, no, ha, fun d hd nd => k d hd nd⟩
theorem oexBT_ok {tl : List Value} {K : PySem.W.Frag} {C : Addr} (q : oexBT tl K C = true) : ∃ nm q N bs bm sn sub ab col dd k0 k1 k2 k3 k5, K.lookup C = some (excClassObj nm q C N bs bm true sn sub ab col dd k0 k1 k2 k3 k5 "LookupError.__new__") ∧ PySem.W.excTail tl bm = true := by
  unfold oexBT at q
  split at q
  · rename_i t dd cd sl ho
    split at q
    · rename_i C' bm k0 k1 k2 k3 n k5 hm hs
      simp only [Bool.and_eq_true, beq_iff_eq, Bool.not_eq_true'] at q
      obtain ⟨⟨⟨⟨⟨rfl, rfl⟩, rfl⟩, hdel⟩, hd⟩, hv⟩ := q
      obtain ⟨nm, bs, mro, ns, qn, hd', sn, sub, ab, col, del⟩ := cd
      dsimp only at hm hdel hd
      subst hm hdel hd
      have hsl : sl = #[k0, k1, k2, k3, some (.builtin "LookupError.__new__"), k5] := by
        obtain ⟨l⟩ := sl
        simp only at hs
        rw [hs]
      subst hsl
      exact ⟨_, _, _, _, _, _, _, _, _, _, _, _, _, _, _, ho, hv⟩
    · cases q
  · cases q
end My
/-! lists made by a comprehension from lists of known things; tuples that tell flat things -/
namespace My
open PySem L2
/-- how a thing is told by a tuple of flat ones -/
structure Tc {α : Type} (vs : α → List V) : Prop where
  fl : ∀ a, (vs a).all iS = true
  inj : ∀ {a b}, vs a = vs b → a = b
def TpA {α : Type} (vs : α → List V) (H : Hp) (x : V) (a : α) : Prop := ∃ q, x = .ref q ∧ H q = some (.tup (vs a))
section
variable {α β : Type} {vs : α → List V} {H H' : Hp} {x y : V} {a b : α} {K : PySem.W.Frag} {n : Nat}
theorem TpA.same (s : Same H H') (h : TpA vs H x a) : TpA vs H' x a := by
  obtain ⟨q, e, h⟩ := h
  exact ⟨q, e, s _ _ h⟩
theorem TpA.keeps (k : ∀ b xs, H b = some (.tup xs) → H' b = some (.tup xs)) (h : TpA vs H x a) : TpA vs H' x a := by
  obtain ⟨q, e, h⟩ := h
  exact ⟨q, e, k _ _ h⟩
theorem TpA.stays : Stays (TpA vs) := ⟨fun hD s h => h.keeps (MdX.tp hD s), fun s h => h.same s⟩
theorem TpA.eqv (t : Tc vs) (hx : TpA vs H x a) (hy : TpA vs H y b) [Decidable (a = b)] : EqV K H (n + 1) x y (decide (a = b)) := by
  obtain ⟨p, rfl, hp⟩ := hx
  obtain ⟨q, rfl, hq⟩ := hy
  by_cases c : p = q
  · subst c
    rw [hp] at hq
    have e := t.inj (HO.tup.inj (Option.some.inj hq))
    rw [decide_eq_true e]
    exact .one
  · have s := EqVs.iS (K := K) (H := H) (n := n) (t.fl a) (t.fl b)
    have e : decide (vs a = vs b) = decide (a = b) := by
      rw [decide_eq_decide]
      exact ⟨t.inj, fun e => by rw [e]⟩
    rw [e] at s
    exact .tups c (.of hp) (.of hq) s
/-- two rows of things, one by one -/
theorem EqVs.rows {R S : V → α → Prop} [DecidableEq α] (h : ∀ x y a b, R x a → S y b → EqV K H n x y (decide (a = b))) : ∀ {xs ys : List V} {as bs : List α}, All2 R xs as → All2 S ys bs → EqVs K H n xs ys (decide (as = bs))
  | [], [], [], [], _, _ => .nil
  | [], y :: ys, [], q :: qs, _, _ => .nilc
  | x :: xs, [], r :: rs, [], _, _ => .cnil
  | x :: xs, y :: ys, r :: rs, q :: qs, h1, h2 => by
    have t := EqVs.cons (h x y r q (h1.2 0 x r rfl rfl) (h2.2 0 y q rfl rfl)) (EqVs.rows h (xs := xs) (ys := ys) (as := rs) (bs := qs) ⟨Nat.succ.inj h1.1, fun i a b ha hb => h1.2 (i + 1) a b ha hb⟩ ⟨Nat.succ.inj h2.1, fun i a b ha hb => h2.2 (i + 1) a b ha hb⟩)
    have e : (decide (r = q) && decide (rs = qs)) = decide (r :: rs = q :: qs) := by
      rw [Bool.eq_iff_iff]
      simp
    rw [e] at t
    exact t
  | [], _, _ :: _, _, h, _ => nomatch h.1
  | _ :: _, _, [], _, h, _ => nomatch h.1
  | _, [], _, _ :: _, _, h => nomatch h.1
  | _, _ :: _, _, [], _, h => nomatch h.1
theorem TpA.eqvs [DecidableEq α] (t : Tc vs) {xs ys : List V} {as bs : List α} (h1 : All2 (TpA vs H) xs as) (h2 : All2 (TpA vs H) ys bs) : EqVs K H (n + 1) xs ys (decide (as = bs)) := EqVs.rows (fun _ _ _ _ u v => TpA.eqv t u v) h1 h2
end
theorem range_map {α β : Type} (f : α → β) : ∀ as : List α, (List.range as.length).filterMap (fun i => (as[i]?).map f) = as.map f := by
  intro as
  induction as with
  | nil => rfl
  | cons b bs ih =>
    rw [List.length_cons, List.range_succ_eq_map, List.filterMap_cons, List.filterMap_map]
    have e : (fun i => ((b :: bs)[i]?).map f) ∘ Nat.succ = fun i => (bs[i]?).map f := by
      funext i
      simp
    rw [e, ih]
    rfl
section
variable {α β : Type} {K : PySem.W.Frag} {a : Addr} {xs : List V} {as : List α} {g : TG} {tt : TT} {te : TE} {vs : List Nat} {σ : L2.St} {H1 : Hp} {D : Addr} {Qd : Hp → Prop}
/-- [f(x) for x in xs] -/
theorem lc_mpL (R : Hp → V → α → Prop) (R2 : Hp → V → β → Prop) (f : α → β) (st : ∀ {H H' : Hp} {x : V} {c : α}, Same H H' → R H x c → R H' x c) (st2 : Stays R2) (h0 : SqL K H1 a xs) (hx : All2 (R H1) xs as) (hD : H1 D = none) (hl : xs.length < sizeLine)
    (hs : ∀ x c, c ∈ as → ∀ H (Q : VK) (Rr : Hp → Prop), Same H1 H → R H x c → (∃ acc, H D = some (.lst acc)) → (∀ y H', Same H H' → R2 H' y (f c) → Q y H') →
      g x (wipe σ vs) H fun σ2 H2 => wipe σ2 vs = wipe σ vs ∧ tt σ2 H2 fun b H3 => if b = true then te σ2 H3 Q else Rr H3)
    (hd : ∀ H (ys : List V), Same H1 H → H D = some (.lst ys) → All2 (R2 H) ys (as.map f) → Qd H) :
    ∃ W : Nat → Nat → Hp → Prop, (∃ m, W 0 m (upd H1 D (.lst []))) ∧ ∀ i m H, W i m H →
      ((Itl K a).stop i H ∧ Qd H) ∨ ((Itl K a).go i H ∧ ∃ Nx : Hp → Prop, (∀ H', Nx H' → ∃ m', m' < m ∧ W (i + 1) m' H') ∧ ∀ x H', (Itl K a).yld i H x H' → g x (wipe σ vs) H' fun σ2 H2 => wipe σ2 vs = wipe σ vs ∧ tt σ2 H2 fun b H3 =>
        if b = true then te σ2 H3 fun y H4 => ∃ acc, H4 D = some (.lst acc) ∧ acc.length < sizeLine ∧ Nx (upd H4 D (.lst (acc ++ [y]))) else Nx H3) := by
  refine lc_fil (fun i x => xs[i]? = some x) (fun i => (as[i]?).map f) R2 (fun H H' y c acc e s h => st2.but e s h) walk_list hl (fun _ s => Same.seq s h0) hD (fun i x _ hi H Q Rr s1 hacc k1 k2 => ?_) (fun H ys s1 e1 e2 => hd H ys s1 e1 (by rw [hx.1, range_map] at e2; exact e2))
  obtain ⟨c, hc, r⟩ := hx.get hi
  exact hs x c (List.mem_of_getElem? hc) H Q Rr s1 (st s1 r) hacc fun y H' s' r2 => k1 (f c) (by show (as[i]?).map f = _; rw [hc]; rfl) y H' s' r2
theorem lc_mpT (R : Hp → V → α → Prop) (R2 : Hp → V → β → Prop) (f : α → β) (st : ∀ {H H' : Hp} {x : V} {c : α}, Same H H' → R H x c → R H' x c) (st2 : Stays R2) (h0 : SqT K H1 a xs) (hx : All2 (R H1) xs as) (hD : H1 D = none) (hl : xs.length < sizeLine)
    (hs : ∀ x c, c ∈ as → ∀ H (Q : VK) (Rr : Hp → Prop), Same H1 H → R H x c → (∃ acc, H D = some (.lst acc)) → (∀ y H', Same H H' → R2 H' y (f c) → Q y H') →
      g x (wipe σ vs) H fun σ2 H2 => wipe σ2 vs = wipe σ vs ∧ tt σ2 H2 fun b H3 => if b = true then te σ2 H3 Q else Rr H3)
    (hd : ∀ H (ys : List V), Same H1 H → H D = some (.lst ys) → All2 (R2 H) ys (as.map f) → Qd H) :
    ∃ W : Nat → Nat → Hp → Prop, (∃ m, W 0 m (upd H1 D (.lst []))) ∧ ∀ i m H, W i m H →
      ((Itt K a).stop i H ∧ Qd H) ∨ ((Itt K a).go i H ∧ ∃ Nx : Hp → Prop, (∀ H', Nx H' → ∃ m', m' < m ∧ W (i + 1) m' H') ∧ ∀ x H', (Itt K a).yld i H x H' → g x (wipe σ vs) H' fun σ2 H2 => wipe σ2 vs = wipe σ vs ∧ tt σ2 H2 fun b H3 =>
        if b = true then te σ2 H3 fun y H4 => ∃ acc, H4 D = some (.lst acc) ∧ acc.length < sizeLine ∧ Nx (upd H4 D (.lst (acc ++ [y]))) else Nx H3) := by
  refine lc_fil (fun i x => xs[i]? = some x) (fun i => (as[i]?).map f) R2 (fun H H' y c acc e s h => st2.but e s h) walk_tup hl (fun _ s => SqT.same s h0) hD (fun i x _ hi H Q Rr s1 hacc k1 k2 => ?_) (fun H ys s1 e1 e2 => hd H ys s1 e1 (by rw [hx.1, range_map] at e2; exact e2))
  obtain ⟨c, hc, r⟩ := hx.get hi
  exact hs x c (List.mem_of_getElem? hc) H Q Rr s1 (st s1 r) hacc fun y H' s' r2 => k1 (f c) (by show (as[i]?).map f = _; rw [hc]; rfl) y H' s' r2
/-- [f(k) for k in range(n)] -/
theorem lc_mpR {n : Nat} {lo : Int} (R2 : Hp → V → β → Prop) (f : Nat → β) (st2 : Stays R2) (hD : H1 D = none) (hl : n ≤ 1000)
    (hs : ∀ i, i < n → ∀ H (Q : VK) (Rr : Hp → Prop), Same H1 H → (∃ acc, H D = some (.lst acc)) → (∀ y H', Same H H' → R2 H' y (f i) → Q y H') →
      g (.int (lo + i)) (wipe σ vs) H fun σ2 H2 => wipe σ2 vs = wipe σ vs ∧ tt σ2 H2 fun b H3 => if b = true then te σ2 H3 Q else Rr H3)
    (hd : ∀ H (ys : List V), Same H1 H → H D = some (.lst ys) → All2 (R2 H) ys ((List.range n).map f) → Qd H) :
    ∃ W : Nat → Nat → Hp → Prop, (∃ m, W 0 m (upd H1 D (.lst []))) ∧ ∀ i m H, W i m H →
      ((Itr lo n).stop i H ∧ Qd H) ∨ ((Itr lo n).go i H ∧ ∃ Nx : Hp → Prop, (∀ H', Nx H' → ∃ m', m' < m ∧ W (i + 1) m' H') ∧ ∀ x H', (Itr lo n).yld i H x H' → g x (wipe σ vs) H' fun σ2 H2 => wipe σ2 vs = wipe σ vs ∧ tt σ2 H2 fun b H3 =>
        if b = true then te σ2 H3 fun y H4 => ∃ acc, H4 D = some (.lst acc) ∧ acc.length < sizeLine ∧ Nx (upd H4 D (.lst (acc ++ [y]))) else Nx H3) := by
  refine lc_fil (fun i x => x = V.int (lo + i)) (fun i => some (f i)) R2 (fun H H' y c acc e s h => st2.but e s h) walk_range (small1000 hl) (fun _ _ => trivial) hD (fun i x hi hx H Q Rr s1 hacc k1 k2 => ?_) (fun H ys s1 e1 e2 => hd H ys s1 e1 (by rw [List.filterMap_eq_map'] at e2; exact e2))
  subst hx
  exact hs i hi H Q Rr s1 hacc fun y H' s' r2 => k1 (f i) rfl y H' s' r2
end
/-- [x] * n -/
theorem i_repX {H : Hp} {Q : VK} {p : Addr} {x : V} {m : Int} (h1 : H p = some (.lst [x])) (h2 : -1000 ≤ m ∧ m ≤ 1000) (h : ∀ q, H q = none → Q (.ref q) (upd H q (.lst (List.replicate m.toNat x)))) : rMulU (.ref p) (.int m) H Q := by
  refine ⟨p, m, _, rfl, rfl, h1, by omega, by omega, line_le (by simp only [List.length_cons, List.length_nil]; omega), fun q hq => ?_⟩
  have e : (List.replicate m.toNat [x]).flatten = List.replicate m.toNat x := by
    generalize m.toNat = k
    induction k with
    | zero => rfl
    | succ k ih => rw [List.replicate_succ, List.flatten_cons, ih]; rfl
  rw [e]
  exact h q hq
theorem All2.replicate {α β : Type} {R : α → β → Prop} {x : α} {y : β} (h : R x y) : ∀ n, All2 R (List.replicate n x) (List.replicate n y)
  | 0 => All2.nil
  | n + 1 => All2.cons h (All2.replicate h n)
end My
/-! things that are flat, or tuples of such, at any depth; dicts by whole numbers -/
namespace My
open PySem L2
/-- a thing -/
inductive Tr where
  | flat (x : V)
  | tup (ts : List Tr)
mutual
def ThAt (H : Hp) : Tr → V → Prop
  | .flat x, v => v = x ∧ flatV x = true
  | .tup ts, v => ∃ q vs, v = .ref q ∧ H q = some (.tup vs) ∧ ThAll H ts vs
def ThAll (H : Hp) : List Tr → List V → Prop
  | [], vs => vs = []
  | t :: ts, vs => ∃ v vs', vs = v :: vs' ∧ ThAt H t v ∧ ThAll H ts vs'
end
/-- how deep, and how long at most -/
def Tr.le : Nat → Tr → Prop
  | 0, _ => False
  | _ + 1, .flat _ => True
  | n + 1, .tup ts => ts.length ≤ 1000 ∧ ∀ t ∈ ts, Tr.le n t
theorem Tr.le.mono {n m : Nat} : ∀ {t : Tr}, t.le n → n ≤ m → t.le m := by
  induction n generalizing m with
  | zero => exact fun h => h.elim
  | succ n ih =>
    intro t h hm
    obtain ⟨k, rfl⟩ : ∃ k, m = k + 1 := ⟨m - 1, by omega⟩
    cases t with
    | flat x => exact True.intro
    | tup ts => exact ⟨h.1, fun t ht => ih (h.2 t ht) (by omega)⟩
theorem thAll {H : Hp} : ∀ {ts : List Tr} {vs : List V}, ThAll H ts vs ↔ All2 (fun v t => ThAt H t v) vs ts
  | [], vs => by
    unfold ThAll
    constructor
    · rintro rfl
      exact All2.nil
    · intro h
      exact List.length_eq_zero_iff.mp h.1
  | t :: ts, vs => by
    unfold ThAll
    constructor
    · rintro ⟨v, vs', rfl, h1, h2⟩
      exact All2.cons h1 (thAll.mp h2)
    · intro h
      cases vs with
      | nil => cases h.1
      | cons v vs' => exact ⟨v, vs', rfl, h.2 0 v t rfl rfl, thAll.mpr ⟨Nat.succ.inj h.1, fun i a b ha hb => h.2 (i + 1) a b ha hb⟩⟩
theorem thFlat {H : Hp} {x v : V} : ThAt H (.flat x) v ↔ v = x ∧ flatV x = true := by unfold ThAt; exact Iff.rfl
theorem thTup {H : Hp} {ts : List Tr} {v : V} : ThAt H (.tup ts) v ↔ ∃ q vs, v = .ref q ∧ H q = some (.tup vs) ∧ All2 (fun v t => ThAt H t v) vs ts := by
  constructor
  · intro h
    unfold ThAt at h
    obtain ⟨q, vs, e, h1, h2⟩ := h
    exact ⟨q, vs, e, h1, thAll.mp h2⟩
  · rintro ⟨q, vs, e, h1, h2⟩
    unfold ThAt
    exact ⟨q, vs, e, h1, thAll.mpr h2⟩
mutual
theorem ThAt.keeps {H H' : Hp} (k : ∀ b xs, H b = some (.tup xs) → H' b = some (.tup xs)) : ∀ {t : Tr} {v : V}, ThAt H t v → ThAt H' t v
  | .flat x, v, h => by
    unfold ThAt at h ⊢
    exact h
  | .tup ts, v, h => by
    unfold ThAt at h ⊢
    obtain ⟨q, vs, e, h1, h2⟩ := h
    exact ⟨q, vs, e, k _ _ h1, ThAll.keeps k h2⟩
theorem ThAll.keeps {H H' : Hp} (k : ∀ b xs, H b = some (.tup xs) → H' b = some (.tup xs)) : ∀ {ts : List Tr} {vs : List V}, ThAll H ts vs → ThAll H' ts vs
  | [], vs, h => by
    unfold ThAll at h ⊢
    exact h
  | t :: ts, vs, h => by
    unfold ThAll at h ⊢
    obtain ⟨v, vs', e, h1, h2⟩ := h
    exact ⟨v, vs', e, ThAt.keeps k h1, ThAll.keeps k h2⟩
end
theorem ThAt.same {H H' : Hp} {t : Tr} {v : V} (s : Same H H') (h : ThAt H t v) : ThAt H' t v := h.keeps fun _ _ => s _ _
theorem ThAt.stays : Stays (fun H v t => ThAt H t v) := ⟨fun hD s h => h.keeps (MdX.tp hD s), fun s h => h.same s⟩
/-- one thing told twice -/
theorem ThAt.eqv {K : PySem.W.Frag} {H : Hp} : ∀ {n : Nat} {t : Tr} {x y : V}, t.le n → ThAt H t x → ThAt H t y → EqV K H n x y true := by
  intro n
  induction n with
  | zero => exact fun h => h.elim
  | succ n ih =>
    intro t x y hl h1 h2
    cases t with
    | flat z =>
      obtain ⟨rfl, h1⟩ := thFlat.mp h1
      obtain ⟨rfl, h2⟩ := thFlat.mp h2
      exact .selfB h2
    | tup ts =>
      obtain ⟨p, xs, rfl, h1, a1⟩ := thTup.mp h1
      obtain ⟨q, ys, rfl, h2, a2⟩ := thTup.mp h2
      by_cases c : p = q
      · subst c
        exact .one
      · refine .tups c (.of h1) (.of h2) ?_
        have key : ∀ (ts : List Tr) (xs ys : List V), (∀ t ∈ ts, Tr.le n t) → All2 (fun v t => ThAt H t v) xs ts → All2 (fun v t => ThAt H t v) ys ts → EqVs K H n xs ys true := by
          intro ts
          induction ts with
          | nil =>
            intro xs ys _ a b
            obtain rfl := List.length_eq_zero_iff.mp a.1
            obtain rfl := List.length_eq_zero_iff.mp b.1
            exact .nil
          | cons t ts iht =>
            intro xs ys hl a b
            cases xs with
            | nil => cases a.1
            | cons x xs =>
              cases ys with
              | nil => cases b.1
              | cons y ys =>
                have r := EqVs.cons (ih (hl t (List.mem_cons_self ..)) (a.2 0 x t rfl rfl) (b.2 0 y t rfl rfl)) (iht xs ys (fun t ht => hl t (List.mem_cons_of_mem _ ht)) ⟨Nat.succ.inj a.1, fun i u v hu hv => a.2 (i + 1) u v hu hv⟩ ⟨Nat.succ.inj b.1, fun i u v hu hv => b.2 (i + 1) u v hu hv⟩)
                exact r
        exact key ts xs ys hl.2 a1 a2
theorem ThAt.eqvs {K : PySem.W.Frag} {H : Hp} {n : Nat} : ∀ {ts : List Tr} {xs ys : List V}, (∀ t ∈ ts, Tr.le n t) → All2 (fun v t => ThAt H t v) xs ts → All2 (fun v t => ThAt H t v) ys ts → EqVs K H n xs ys true
  | [], xs, ys, _, a, b => by
    obtain rfl := List.length_eq_zero_iff.mp a.1
    obtain rfl := List.length_eq_zero_iff.mp b.1
    exact .nil
  | t :: ts, [], ys, _, a, b => nomatch a.1
  | t :: ts, x :: xs, [], _, a, b => nomatch b.1
  | t :: ts, x :: xs, y :: ys, hl, a, b => EqVs.cons (ThAt.eqv (hl t (List.mem_cons_self ..)) (a.2 0 x t rfl rfl) (b.2 0 y t rfl rfl)) (ThAt.eqvs (fun t ht => hl t (List.mem_cons_of_mem _ ht)) ⟨Nat.succ.inj a.1, fun i u v hu hv => a.2 (i + 1) u v hu hv⟩ ⟨Nat.succ.inj b.1, fun i u v hu hv => b.2 (i + 1) u v hu hv⟩)
/-! ### what stands under way -/
structure Wy where
  s : Int
  g : Int
  t : Tr
def Wy.tr (r : Wy) : Tr := .tup [.flat (.int r.s), .flat (.int r.g), r.t]
theorem Wy.le {r : Wy} {n : Nat} (h : r.t.le n) : r.tr.le (n + 1) := by
  cases n with
  | zero => exact h.elim
  | succ n =>
    refine ⟨Nat.le_of_ble_eq_true rfl, fun t ht => ?_⟩
    simp only [List.mem_cons, List.not_mem_nil, or_false] at ht
    rcases ht with rfl | rfl | rfl
    · exact True.intro
    · exact True.intro
    · exact h
theorem Wy.at {H : Hp} {r : Wy} {v : V} : ThAt H r.tr v ↔ ∃ q x, v = .ref q ∧ H q = some (.tup [.int r.s, .int r.g, x]) ∧ ThAt H r.t x := by
  unfold Wy.tr
  rw [thTup]
  constructor
  · rintro ⟨q, vs, e, h1, h2⟩
    rw [← thAll] at h2
    unfold ThAll at h2
    obtain ⟨v1, vs1, rfl, a1, h2⟩ := h2
    unfold ThAll at h2
    obtain ⟨v2, vs2, rfl, a2, h2⟩ := h2
    unfold ThAll at h2
    obtain ⟨v3, vs3, rfl, a3, h2⟩ := h2
    unfold ThAll at h2
    subst h2
    obtain ⟨rfl, -⟩ := thFlat.mp a1
    obtain ⟨rfl, -⟩ := thFlat.mp a2
    exact ⟨q, v3, e, h1, a3⟩
  · rintro ⟨q, x, e, h1, h2⟩
    exact ⟨q, _, e, h1, All2.cons (thFlat.mpr ⟨rfl, rfl⟩) (All2.cons (thFlat.mpr ⟨rfl, rfl⟩) (All2.cons h2 All2.nil))⟩
/-- with its number ahead -/
def Wy.tn (n : Int) (r : Wy) : Tr := .tup [.flat (.int n), .flat (.int r.s), .flat (.int r.g), r.t]
theorem Wy.tnle {r : Wy} {n : Nat} {m : Int} (h : r.t.le n) : (r.tn m).le (n + 1) := by
  cases n with
  | zero => exact h.elim
  | succ n =>
    refine ⟨Nat.le_of_ble_eq_true rfl, fun t ht => ?_⟩
    simp only [List.mem_cons, List.not_mem_nil, or_false] at ht
    rcases ht with rfl | rfl | rfl | rfl
    · exact True.intro
    · exact True.intro
    · exact True.intro
    · exact h
theorem Wy.tnat {H : Hp} {r : Wy} {q : Addr} {x : V} {n : Int} (h1 : H q = some (.tup [.int n, .int r.s, .int r.g, x])) (h2 : ThAt H r.t x) : ThAt H (r.tn n) (.ref q) :=
  thTup.mpr ⟨q, _, rfl, h1, All2.cons (thFlat.mpr ⟨rfl, rfl⟩) (All2.cons (thFlat.mpr ⟨rfl, rfl⟩) (All2.cons (thFlat.mpr ⟨rfl, rfl⟩) (All2.cons h2 All2.nil)))⟩
abbrev Ways := List (Int × Wy)
def KvAt (H : Hp) (kv : Key × V) (z : Int × Wy) : Prop := kv.1 = .inl z.1 ∧ ThAt H z.2.tr kv.2
def WayAt (H : Hp) (w : Addr) (ws : Ways) : Prop := ∃ kvs, H w = some (.dK kvs) ∧ All2 (KvAt H) kvs ws
abbrev ksW (ws : Ways) : List Int := ws.map (·.1)
structure OkW (ws : Ways) (last : Int) : Prop where
  srt : (ksW ws).Pairwise (· < ·)
  rg : ∀ z ∈ ws, 1 ≤ z.1 ∧ z.1 ≤ last
  len : ws.length ≤ 60
  le : ∀ z ∈ ws, z.2.t.le 3
  l0 : 0 ≤ last
theorem KvAt.keeps {H H' : Hp} {kv : Key × V} {z : Int × Wy} (k : ∀ b xs, H b = some (.tup xs) → H' b = some (.tup xs)) (h : KvAt H kv z) : KvAt H' kv z := ⟨h.1, h.2.keeps k⟩
theorem WayAt.keeps {H H' : Hp} {w : Addr} {ws : Ways} (k : ∀ b xs, H b = some (.tup xs) → H' b = some (.tup xs)) (e : ∀ u, H w = some u → H' w = some u) (h : WayAt H w ws) : WayAt H' w ws := by
  obtain ⟨kvs, h1, h2⟩ := h
  exact ⟨kvs, e _ h1, h2.mono fun _ _ => KvAt.keeps k⟩
theorem WayAt.same {H H' : Hp} {w : Addr} {ws : Ways} (s : Same H H') (h : WayAt H w ws) : WayAt H' w ws := h.keeps (fun _ _ => s _ _) fun _ => s _ _
theorem kvs_keys {H : Hp} {kvs : List (Key × V)} {ws : Ways} (h : All2 (KvAt H) kvs ws) : kvs.map (·.1) = (ksW ws).map Sum.inl := by
  refine List.ext_getElem? fun i => ?_
  rw [List.getElem?_map, List.getElem?_map, List.getElem?_map]
  cases hx : kvs[i]? with
  | none =>
    have := List.getElem?_eq_none_iff.mp hx
    rw [List.getElem?_eq_none (by rw [← h.1]; exact this)]
    rfl
  | some kv =>
    obtain ⟨z, hz, e, _⟩ := h.get hx
    rw [hz]
    exact congrArg some e
/-- what stands there by its number -/
theorem valW {H : Hp} : ∀ {kvs : List (Key × V)} {ws : Ways} {n : Int} {r : Wy}, All2 (KvAt H) kvs ws → (ksW ws).Pairwise (· < ·) → (n, r) ∈ ws → ∃ v, valV kvs (.inl n) = some v ∧ ThAt H r.tr v
  | [], [], _, _, _, _, h => nomatch h
  | [], _ :: _, _, _, a, _, _ => nomatch a.1
  | _ :: _, [], _, _, a, _, _ => nomatch a.1
  | kv :: kvs, z :: ws, n, r, a, p, h => by
    have a0 := a.2 0 kv z rfl rfl
    rw [ksW, List.map_cons, List.pairwise_cons] at p
    rcases List.mem_cons.mp h with h | h
    · subst h
      exact ⟨kv.2, valV_pos a0.1, a0.2⟩
    · have lt := p.1 n (List.mem_map.mpr ⟨_, h, rfl⟩)
      rw [valV_neg (fun c => by rw [a0.1] at c; have := Sum.inl.inj c; omega)]
      exact valW ⟨Nat.succ.inj a.1, fun i u v hu hv => a.2 (i + 1) u v hu hv⟩ p.2 h
theorem valW0 {H : Hp} : ∀ {kvs : List (Key × V)} {ws : Ways} {n : Int}, All2 (KvAt H) kvs ws → n ∉ ksW ws → valV kvs (.inl n) = none
  | [], _, _, _, _ => rfl
  | _ :: _, [], _, a, _ => nomatch a.1
  | kv :: kvs, z :: ws, n, a, h => by
    have a0 := a.2 0 kv z rfl rfl
    rw [ksW, List.map_cons, List.mem_cons, not_or] at h
    rw [valV_neg (fun c => by rw [a0.1] at c; exact h.1 (Sum.inl.inj c).symm)]
    exact valW0 ⟨Nat.succ.inj a.1, fun i u v hu hv => a.2 (i + 1) u v hu hv⟩ h.2
theorem putW {H : Hp} {kvs : List (Key × V)} {ws : Ways} {n : Int} {r : Wy} {v : V} (a : All2 (KvAt H) kvs ws) (h : n ∉ ksW ws) (hv : ThAt H r.tr v) : putK kvs (.inl n) v = kvs ++ [(.inl n, v)] ∧ All2 (KvAt H) (kvs ++ [(.inl n, v)]) (ws ++ [(n, r)]) :=
  ⟨putK_new v (valW0 a h), a.append (All2.cons ⟨rfl, hv⟩ All2.nil)⟩
abbrev dropW (ws : Ways) (n : Int) : Ways := ws.filter fun z => decide (z.1 ≠ n)
theorem dropWA {H : Hp} : ∀ {kvs : List (Key × V)} {ws : Ways} {n : Int}, All2 (KvAt H) kvs ws → All2 (KvAt H) (dropK kvs (.inl n)) (dropW ws n)
  | [], [], _, _ => All2.nil
  | [], _ :: _, _, a => nomatch a.1
  | _ :: _, [], _, a => nomatch a.1
  | kv :: kvs, z :: ws, n, a => by
    have a0 := a.2 0 kv z rfl rfl
    have ih := dropWA (n := n) (kvs := kvs) (ws := ws) ⟨Nat.succ.inj a.1, fun i u v hu hv => a.2 (i + 1) u v hu hv⟩
    unfold dropK dropW
    rw [List.filter_cons, List.filter_cons]
    by_cases c : z.1 = n
    · rw [if_neg (by simp [a0.1, c]), if_neg (by simp [c])]
      exact ih
    · rw [if_pos (by simp [a0.1, c]), if_pos (by simp [c])]
      exact All2.cons a0 ih
theorem OkW.new : OkW [] 0 := ⟨List.Pairwise.nil, (fun _ h => nomatch h), Nat.zero_le _, (fun _ h => nomatch h), Int.le_refl _⟩
theorem OkW.fresh {ws : Ways} {last n : Int} (h : OkW ws last) (hn : last < n ∨ n < 1) : n ∉ ksW ws := fun c => by
  obtain ⟨z, hz, rfl⟩ := List.mem_map.mp c
  have := h.rg z hz
  omega
theorem OkW.put {ws : Ways} {last : Int} {r : Wy} (h : OkW ws last) (hl : ws.length < 60) (hr : r.t.le 3) : OkW (ws ++ [(last + 1, r)]) (last + 1) := by
  have l0 := h.l0
  refine ⟨?_, fun z hz => ?_, by rw [List.length_append]; exact hl, fun z hz => ?_, by omega⟩
  · rw [ksW, List.map_append, List.pairwise_append]
    refine ⟨h.srt, List.pairwise_singleton _ _, fun a ha b hb => ?_⟩
    obtain ⟨z, hz, rfl⟩ := List.mem_map.mp ha
    rw [List.map_cons, List.map_nil, List.mem_singleton] at hb
    subst hb
    have := (h.rg z hz).2
    show z.1 < last + 1
    omega
  · rcases List.mem_append.mp hz with hz | hz
    · have := h.rg z hz
      omega
    · rw [List.mem_singleton.mp hz]
      show 1 ≤ last + 1 ∧ last + 1 ≤ last + 1
      omega
  · rcases List.mem_append.mp hz with hz | hz
    · exact h.le z hz
    · rw [List.mem_singleton.mp hz]
      exact hr
theorem OkW.drop {ws : Ways} {last n : Int} (h : OkW ws last) : OkW (dropW ws n) last :=
  ⟨h.srt.sublist (List.filter_sublist.map _), fun z hz => h.rg z (List.mem_filter.mp hz).1, Nat.le_trans (List.length_filter_le ..) h.len, fun z hz => h.le z (List.mem_filter.mp hz).1, h.l0⟩
theorem OkW.gone {ws : Ways} {n : Int} : n ∉ ksW (dropW ws n) := fun c => by
  obtain ⟨z, hz, e⟩ := List.mem_map.mp c
  have := (List.mem_filter.mp hz).2
  simp [e] at this
theorem OkW.keeps {ws : Ways} {n m : Int} (h : n ∉ ksW ws) : n ∉ ksW (dropW ws m) := fun c => by
  obtain ⟨z, hz, e⟩ := List.mem_map.mp c
  exact h (List.mem_map.mpr ⟨z, (List.mem_filter.mp hz).1, e⟩)
theorem OkW.take {ws : Ways} {last : Int} (h : OkW ws last) (i : Nat) : OkW (ws.take i) last :=
  ⟨h.srt.sublist ((List.take_sublist i ws).map _), fun z hz => h.rg z (List.mem_of_mem_take hz), by rw [List.length_take]; have := h.len; omega, fun z hz => h.le z (List.mem_of_mem_take hz), h.l0⟩
theorem OkW.next {ws : Ways} {last : Int} (h : OkW ws last) {i : Nat} {z : Int × Wy} (hz : ws[i]? = some z) : z.1 ∉ ksW (ws.take i) := fun c => by
  obtain ⟨y, hy, e⟩ := List.mem_map.mp c
  obtain ⟨j, hj⟩ := List.getElem?_of_mem hy
  rw [List.getElem?_take] at hj
  split at hj
  · rename_i lt
    have p := List.pairwise_iff_getElem.mp h.srt
    obtain ⟨l1, e1⟩ := List.getElem?_eq_some_iff.mp hj
    obtain ⟨l2, e2⟩ := List.getElem?_eq_some_iff.mp hz
    have := p j i (by rw [List.length_map]; exact l1) (by rw [List.length_map]; exact l2) lt
    rw [List.getElem_map, List.getElem_map, e1, e2] at this
    omega
  · cases hj
theorem take_next {α : Type} {ws : List α} {i : Nat} {z : α} (hz : ws[i]? = some z) : ws.take (i + 1) = ws.take i ++ [z] := by rw [List.take_add_one, hz]; rfl
/-! ### steps over dicts by numbers -/
section
variable {H : Hp} {Q : VK} {K : PySem.W.Frag} {w : Addr} {ws : Ways} {last : Int} {σ : St} {td te : TE}
def rLenW (K : PySem.W.Frag) : List V → Hp → VK → Prop := fun xs H Q => rLenU K xs H Q ∨ ∃ a kvs, xs = [V.ref a] ∧ H a = some (.dK kvs) ∧ Q (.int kvs.length) H
theorem call_lenW {X : Cx} (hK : X.K = K := by rfl) : CallR X (.builtin "len") (rLenW K) := by
  subst hK
  intro pins s σ H xs us Q I r h
  rcases h with h | ⟨a, kvs, e, h1, h2⟩
  · exact call_lenU rfl pins s σ H xs us Q I r h
  · exact call_lenD pins s σ H xs us Q I r ⟨a, kvs, e, h1, h2⟩
def rSortW : List V → Hp → VK → Prop := fun xs H Q => ∃ (a : Addr) (kvs : List (Key × V)) (ks : List Int), xs = [.ref a] ∧ Rd H a (.dK kvs) ∧ kvs.map (·.1) = ks.map Sum.inl ∧ ks.length < 64 ∧ ∀ (ys : List Int) (p : Addr), ys.Perm ks → ys.Pairwise (· ≤ ·) → H p = none → Q (.ref p) (upd H p (.lst (ys.map V.int)))
theorem call_sortW {X : Cx} (hc : X.calm = true) : CallR X (.builtin "sorted") rSortW := call_sortedDI hc
theorem i_lenW (h : WayAt H w ws) (k : Q (.int ws.length) H) : rLenW K [.ref w] H Q := by
  obtain ⟨kvs, h1, h2⟩ := h
  exact .inr ⟨w, kvs, rfl, h1, by rw [h2.1]; exact k⟩
theorem i_sortW (h : WayAt H w ws) (ok : OkW ws last) (k : ∀ p HN, H p = none → Same H HN → HN p = some (.lst ((ksW ws).map V.int)) → Q (.ref p) HN) : rSortW [.ref w] H Q := by
  obtain ⟨kvs, h1, h2⟩ := h
  refine ⟨w, kvs, ksW ws, rfl, .inl h1, kvs_keys h2, by rw [List.length_map]; have := ok.len; omega, fun ys p hp hs hn => ?_⟩
  obtain rfl : ys = ksW ws := List.Perm.eq_of_pairwise (le := (· ≤ ·)) (fun a b _ _ h1 h2 => Int.le_antisymm h1 h2) hs (ok.srt.imp Int.le_of_lt) hp
  exact k p _ hn (same_upd (Same.refl _) hn) upd_same
/-- d[n] -/
theorem i_dgW {n : Int} {r : Wy} {R : V → Prop} (h : WayAt H w ws) (ok : OkW ws last) (hm : (n, r) ∈ ws) (k : ∀ v, ThAt H r.tr v → R v) : ∃ a v, V.ref w = .ref a ∧ DGet H a (.int n) (some v) ∧ R v := by
  obtain ⟨kvs, h1, h2⟩ := h
  obtain ⟨v, e, hv⟩ := valW h2 ok.srt hm
  exact ⟨w, v, rfl, e ▸ .k (k := .inl n) h1, k v hv⟩
/-- n in d -/
theorem i_dinW {n : Int} {r : Wy} {R : Option V → Prop} (h : WayAt H w ws) (ok : OkW ws last) (hm : (n, r) ∈ ws) (k : ∀ v, ThAt H r.tr v → R (some v)) : ∃ a o, V.ref w = .ref a ∧ DGet H a (.int n) o ∧ R o := by
  obtain ⟨kvs, h1, h2⟩ := h
  obtain ⟨v, e, hv⟩ := valW h2 ok.srt hm
  exact ⟨w, some v, rfl, e ▸ .k (k := .inl n) h1, k v hv⟩
theorem i_dinW0 {n : Int} {R : Option V → Prop} (h : WayAt H w ws) (hm : n ∉ ksW ws) (k : R none) : ∃ a o, V.ref w = .ref a ∧ DGet H a (.int n) o ∧ R o := by
  obtain ⟨kvs, h1, h2⟩ := h
  exact ⟨w, none, rfl, valW0 h2 hm ▸ .k (k := .inl n) h1, k⟩
/-- d[n] = v, n anew -/
theorem i_setW {n : Int} {r : Wy} {v : V} {HQ : Hp → Prop} (h : WayAt H w ws) (ok : OkW ws last) (hn : n ∉ ksW ws) (hv : ThAt H r.tr v) (k : ∀ HN, SameBut w H HN → WayAt HN w (ws ++ [(n, r)]) → HQ HN) : rSetD (.ref w) (.int n) v H HQ := by
  obtain ⟨kvs, h1, h2⟩ := h
  obtain ⟨e, a⟩ := putW h2 hn hv
  refine ⟨w, _, rfl, .k (k := .inl n) h1 (by rw [h2.1]; have := ok.len; rw [sizeLine_eq]; omega), ?_⟩
  rw [e]
  have tp : ∀ b xs, H b = some (.tup xs) → upd H w (.dK (kvs ++ [(.inl n, v)])) b = some (.tup xs) := fun b xs hb => by rw [upd_ne (ne_of hb h1 (by simp))]; exact hb
  exact k _ (SameBut.upd _ _ _) ⟨_, upd_same, a.mono fun _ _ => KvAt.keeps tp⟩
theorem i_items {R : It → Hp → Prop} (h : td σ H fun x H1 => ∃ d o kvs, x = .ref d ∧ H1 d = some (.frz o (.dK kvs)) ∧ R (Iti d o kvs) H1) : iItems td σ H R := h
theorem i_pop1 (h : td σ H fun x H1 => ∃ a, x = .ref a ∧ IsD H1 a ∧ te σ H1 fun y H2 => ∃ kvs k v, H2 a = some (.dK kvs) ∧ y = kV k ∧ valV kvs k = some v ∧ Q v (upd H2 a (.dK (dropK kvs k)))) : tDPop1 td te σ H Q := h
theorem i_popD {R : Addr → Prop} (h : WayAt H w ws) (k : R w) : ∃ a, V.ref w = .ref a ∧ IsD H a ∧ R a := by
  obtain ⟨kvs, h1, h2⟩ := h
  exact ⟨w, rfl, .inl ⟨kvs, .inl h1⟩, k⟩
theorem i_popW {n : Int} {r : Wy} (h : WayAt H w ws) (ok : OkW ws last) (hm : (n, r) ∈ ws) (k : ∀ v HN, SameBut w H HN → WayAt HN w (dropW ws n) → ThAt HN r.tr v → Q v HN) :
    ∃ kvs key v, H w = some (.dK kvs) ∧ V.int n = kV key ∧ valV kvs key = some v ∧ Q v (upd H w (.dK (dropK kvs key))) := by
  obtain ⟨kvs, h1, h2⟩ := h
  obtain ⟨v, e, hv⟩ := valW h2 ok.srt hm
  have tp : ∀ b xs, H b = some (.tup xs) → upd H w (.dK (dropK kvs (.inl n))) b = some (.tup xs) := fun b xs hb => by rw [upd_ne (ne_of hb h1 (by simp))]; exact hb
  exact ⟨kvs, .inl n, v, h1, rfl, e, k v _ (SameBut.upd _ _ _) ⟨_, upd_same, (dropWA h2).mono fun _ _ => KvAt.keeps tp⟩ (hv.keeps tp)⟩
end
/-- a test shown once for both branches -/
theorem ifS_join {c : TT} {t u v : TS} {D : Ends} {σ : St} {H : Hp} (J : Bool → Hp → Prop) (h : ∀ R : Bool → Hp → Prop, (∀ b H', J b H' → R b H') → c σ H R) (k1 : ∀ H', J true H' → t { D with nx := v D } σ H') (k2 : ∀ H', J false H' → u { D with nx := v D } σ H') : tSeq (tIfS c t u) v D σ H :=
  h _ fun b H' j => by
    cases b
    · exact k2 H' j
    · exact k1 H' j
theorem notin_snoc {ws : Ways} {n m : Int} {r : Wy} (h : n ∉ ksW ws) (e : n ≠ m) : n ∉ ksW (ws ++ [(m, r)]) := fun c => by
  rw [ksW, List.map_append, List.mem_append] at c
  rcases c with c | c
  · exact h c
  · exact e (List.mem_singleton.mp c)
/-- x += v of a field -/
theorem ps_fldaugK {X : Cx} {o value : Expr} {f : Str} {pos tpos : Pos} {ta tv : TE} {op : Operator} {rd : V → V → Hp → VK → Prop} {K : PySem.W.Frag} (ha : PE X o ta) (hv : PE X value tv) (hop : InOp X op rd) (hK : X.K = K := by rfl) : PS X (.AugAssign (.Attribute o f tpos) op value pos) (sFldAug K ta tv rd f) := by
  subst hK
  exact ps_fldaug ha hv hop
end My
/-! a def of the module called where an exception is handled -/
namespace My
open PySem L2
open L2H (RoomH PinOk cxH)
theorem _root_.L2H.RoomH.units0 {k : Nat} {A : Around} (r : RoomH k A) : A.units < cLine := by
  have := r.un
  omega
theorem pe_callP {X : Cx} {n : Nat} {f : Addr} {fd : FuncData} {ps : List Str} {sp : Sp} {x : Str} {p pos : Pos} {e : Expr} {es : List Expr} {t : TA} {pp : Addr × Obj} (F : FnP X.prog X.w X.K X.mg X.base n f fd ps sp) (hr : RoomH n X.A) (hpn : pp ∈ X.pn) (hg : Gl X x) (hm : X.mg x = some (.ref f))
    (hk : PySem.W.keepIn X.K (.ref f) = true) (hb : Binds X.K fd ps []) (ha : PA X (e :: es) t) (hdb : (x == ("__debug__" : Str)) = false := by decide) (he : starEach (e :: es) X.env = (false, eval e X.env) :: starEach es X.env := by rfl) (hpl : (backTo pos (starEach es X.env)).any (·.1) = false := by rfl) :
    PE X (.Call (.Name x p) (e :: es) [] pos) (tCall sp [] E0 t) := by
  refine ⟨fun pins s σ H Q I h => ?_⟩
  refine wpAny_Call_Name_kw (ld_glob I hg hm ?_ hdb)
  refine PySem.W.callWith_K (h₀ := X.base) I.ok.mod.kin hk (thn (ha.run pos pins s σ H _ I h) fun us s1 ⟨vs, H1, I1, r, q⟩ => ⟨I1.kIn, ?_⟩) he hpl
  replace q : sp (vs ++ []) H1 Q E0 := q
  rw [List.append_nil] at q
  exact run_ownP F hr hpn hb I1 r q
end My
namespace My
open PySem L2
set_option maxRecDepth 5000
local macro_rules | `(tactic| wtm_at "cls") => `(tactic| fail)
set_option hygiene false in
local macro_rules | `(tactic| wtm_at "cls") => `(tactic| first | assumption | exact T.c_Roads | exact T.i_Roads | exact T.n_Roads_kept_members | exact T.n_Roads_kept_way | exact T.n_Roads_last_number | fail)
local macro_rules | `(tactic| wtm_at "xk") => `(tactic| fail)
set_option hygiene false in
local macro_rules | `(tactic| wtm_at "xk") => `(tactic| first | exact kit_self | fail)
/-- where the defs and the classes of the text stand -/
structure Ad where
  HallError : Addr
  Missing : Addr
  NoNumber : Addr
  NoMember : Addr
  NotOnRoad : Addr
  Roads : Addr
  NoNumber_init : Addr
  d_NoNumber_init : FuncData
  NoMember_init : Addr
  d_NoMember_init : FuncData
  NotOnRoad_init : Addr
  d_NotOnRoad_init : FuncData
  is_whole : Addr
  d_is_whole : FuncData
  are_members : Addr
  d_are_members : FuncData
  copied_thing : Addr
  d_copied_thing : FuncData
  Roads_init : Addr
  d_Roads_init : FuncData
  Roads_len : Addr
  d_Roads_len : FuncData
  Roads_need_road : Addr
  d_Roads_need_road : FuncData
  Roads_need_number : Addr
  d_Roads_need_number : FuncData
  Roads_put_on : Addr
  d_Roads_put_on : FuncData
  Roads_put : Addr
  d_Roads_put : FuncData
  Roads_come : Addr
  d_Roads_come : FuncData
  Roads_lose : Addr
  d_Roads_lose : FuncData
  Roads_double : Addr
  d_Roads_double : FuncData
  Roads_under_way : Addr
  d_Roads_under_way : FuncData
  Roads_between : Addr
  d_Roads_between : FuncData
  Roads_twin : Addr
  d_Roads_twin : FuncData
  _law_cell_at : Addr
  d__law_cell_at : FuncData
  _law_pool : Addr
  d__law_pool : FuncData
  _law_take : Addr
  d__law_take : FuncData
  _law_road : Addr
  d__law_road : FuncData
  _law_number : Addr
  d__law_number : FuncData
  _law_kinds : Addr
  d__law_kinds : FuncData
  _law_gone : Addr
  d__law_gone : FuncData
  _law_very : Addr
  d__law_very : FuncData
  _law_refused : Addr
  d__law_refused : FuncData
  _law_stands : Addr
  d__law_stands : FuncData
  _law_made : Addr
  d__law_made : FuncData
  _law_step : Addr
  d__law_step : FuncData
  _law_looked : Addr
  d__law_looked : FuncData
  law : Addr
  d_law : FuncData
/-- what the top has left of them -/
structure Txt (K : PySem.W.Frag) (mg : Str → Option Value) (a : Ad) : Prop where
  m_HallError : mg "HallError" = some (.ref a.HallError)
  e_HallError : XcC K a.HallError
  hs_HallError : PySem.W.specialIn K (.ref a.HallError) "__getattribute__" = some (some (.builtin "type.__getattribute__"))
  hq_HallError : PySem.W.readsIn K a.HallError (.type "type") = true
  hf_HallError : PySem.W.findCls K (.ref a.HallError) (.type "type") "__init__" = some (.val (.builtin "ValueError.__init__"))
  m_Missing : mg "Missing" = some (.ref a.Missing)
  e_Missing : XcC K a.Missing
  hs_Missing : PySem.W.specialIn K (.ref a.Missing) "__getattribute__" = some (some (.builtin "type.__getattribute__"))
  hq_Missing : PySem.W.readsIn K a.Missing (.type "type") = true
  hf_Missing : PySem.W.findCls K (.ref a.Missing) (.type "type") "__init__" = some (.val (.builtin "KeyError.__init__"))
  m_NoNumber : mg "NoNumber" = some (.ref a.NoNumber)
  n_NoNumber_found : NoAttr K a.NoNumber "found"
  e_NoNumber : XcC K a.NoNumber
  o_NoNumber : OexC K a.NoNumber
  oi_NoNumber : PySem.W.findIn K (.ref a.NoNumber) "__init__" = some (some (.ref a.NoNumber_init))
  ot_NoNumber : PySem.W.typeIn K (.ref a.NoNumber_init) = some (.type "function")
  u_NoNumber_HallError : PySem.W.subIn K (.ref a.NoNumber) (.ref a.HallError) = some true
  u_NoNumber_Missing : PySem.W.subIn K (.ref a.NoNumber) (.ref a.Missing) = some false
  u_NoNumber_NoNumber : PySem.W.subIn K (.ref a.NoNumber) (.ref a.NoNumber) = some true
  u_NoNumber_NoMember : PySem.W.subIn K (.ref a.NoNumber) (.ref a.NoMember) = some false
  u_NoNumber_NotOnRoad : PySem.W.subIn K (.ref a.NoNumber) (.ref a.NotOnRoad) = some false
  x_NoNumber_HallError : PySem.W.kitOne K (.ref a.NoNumber) (.ref a.HallError) = some true
  x_NoNumber_Missing : PySem.W.kitOne K (.ref a.NoNumber) (.ref a.Missing) = some false
  x_NoNumber_NoMember : PySem.W.kitOne K (.ref a.NoNumber) (.ref a.NoMember) = some false
  x_NoNumber_NotOnRoad : PySem.W.kitOne K (.ref a.NoNumber) (.ref a.NotOnRoad) = some false
  m_NoMember : mg "NoMember" = some (.ref a.NoMember)
  n_NoMember_found : NoAttr K a.NoMember "found"
  e_NoMember : XcC K a.NoMember
  o_NoMember : OexC K a.NoMember
  oi_NoMember : PySem.W.findIn K (.ref a.NoMember) "__init__" = some (some (.ref a.NoMember_init))
  ot_NoMember : PySem.W.typeIn K (.ref a.NoMember_init) = some (.type "function")
  u_NoMember_HallError : PySem.W.subIn K (.ref a.NoMember) (.ref a.HallError) = some true
  u_NoMember_Missing : PySem.W.subIn K (.ref a.NoMember) (.ref a.Missing) = some false
  u_NoMember_NoNumber : PySem.W.subIn K (.ref a.NoMember) (.ref a.NoNumber) = some false
  u_NoMember_NoMember : PySem.W.subIn K (.ref a.NoMember) (.ref a.NoMember) = some true
  u_NoMember_NotOnRoad : PySem.W.subIn K (.ref a.NoMember) (.ref a.NotOnRoad) = some false
  x_NoMember_HallError : PySem.W.kitOne K (.ref a.NoMember) (.ref a.HallError) = some true
  x_NoMember_Missing : PySem.W.kitOne K (.ref a.NoMember) (.ref a.Missing) = some false
  x_NoMember_NoNumber : PySem.W.kitOne K (.ref a.NoMember) (.ref a.NoNumber) = some false
  x_NoMember_NotOnRoad : PySem.W.kitOne K (.ref a.NoMember) (.ref a.NotOnRoad) = some false
  m_NotOnRoad : mg "NotOnRoad" = some (.ref a.NotOnRoad)
  n_NotOnRoad_found : NoAttr K a.NotOnRoad "found"
  xy_NotOnRoad : PySem.W.kitOne K (.ref a.NotOnRoad) (.type "KeyError") = some true
  e_NotOnRoad : XcC K a.NotOnRoad
  o_NotOnRoad : OexT K tlK a.NotOnRoad
  oi_NotOnRoad : PySem.W.findIn K (.ref a.NotOnRoad) "__init__" = some (some (.ref a.NotOnRoad_init))
  ot_NotOnRoad : PySem.W.typeIn K (.ref a.NotOnRoad_init) = some (.type "function")
  u_NotOnRoad_HallError : PySem.W.subIn K (.ref a.NotOnRoad) (.ref a.HallError) = some false
  u_NotOnRoad_Missing : PySem.W.subIn K (.ref a.NotOnRoad) (.ref a.Missing) = some true
  u_NotOnRoad_NoNumber : PySem.W.subIn K (.ref a.NotOnRoad) (.ref a.NoNumber) = some false
  u_NotOnRoad_NoMember : PySem.W.subIn K (.ref a.NotOnRoad) (.ref a.NoMember) = some false
  u_NotOnRoad_NotOnRoad : PySem.W.subIn K (.ref a.NotOnRoad) (.ref a.NotOnRoad) = some true
  x_NotOnRoad_HallError : PySem.W.kitOne K (.ref a.NotOnRoad) (.ref a.HallError) = some false
  x_NotOnRoad_Missing : PySem.W.kitOne K (.ref a.NotOnRoad) (.ref a.Missing) = some true
  x_NotOnRoad_NoNumber : PySem.W.kitOne K (.ref a.NotOnRoad) (.ref a.NoNumber) = some false
  x_NotOnRoad_NoMember : PySem.W.kitOne K (.ref a.NotOnRoad) (.ref a.NoMember) = some false
  m_Roads : mg "Roads" = some (.ref a.Roads)
  c_Roads : Cls K a.Roads
  i_Roads : IsC K a.Roads
  mk_Roads : Mk K a.Roads a.Roads_init
  n_Roads_kept_members : NoAttr K a.Roads "kept_members"
  n_Roads_kept_way : NoAttr K a.Roads "kept_way"
  n_Roads_last_number : NoAttr K a.Roads "last_number"
  F_NoNumber_init : FunD K "__init__" "NoNumber.__init__" (defArgs s_NoNumber_init) (defBody s_NoNumber_init) (defScope s_NoNumber_init) [] [] a.NoNumber_init a.d_NoNumber_init
  B_NoNumber_init : Binds K a.d_NoNumber_init ["self", "found"] []
  F_NoMember_init : FunD K "__init__" "NoMember.__init__" (defArgs s_NoMember_init) (defBody s_NoMember_init) (defScope s_NoMember_init) [] [] a.NoMember_init a.d_NoMember_init
  B_NoMember_init : Binds K a.d_NoMember_init ["self", "found"] []
  F_NotOnRoad_init : FunD K "__init__" "NotOnRoad.__init__" (defArgs s_NotOnRoad_init) (defBody s_NotOnRoad_init) (defScope s_NotOnRoad_init) [] [] a.NotOnRoad_init a.d_NotOnRoad_init
  B_NotOnRoad_init : Binds K a.d_NotOnRoad_init ["self", "found"] []
  F_is_whole : FunD K "is_whole" "is_whole" (defArgs s_is_whole) (defBody s_is_whole) (defScope s_is_whole) [V.non] [] a.is_whole a.d_is_whole
  B_is_whole : Binds K a.d_is_whole ["thing", "low", "high"] []
  m_is_whole : mg "is_whole" = some (.ref a.is_whole)
  B1_is_whole : ∃ ds, Vals [V.non] ds ∧ Binds K a.d_is_whole ["thing", "low", "high"] ds
  F_are_members : FunD K "are_members" "are_members" (defArgs s_are_members) (defBody s_are_members) (defScope s_are_members) [] [] a.are_members a.d_are_members
  B_are_members : Binds K a.d_are_members ["thing"] []
  m_are_members : mg "are_members" = some (.ref a.are_members)
  F_copied_thing : FunD K "copied_thing" "copied_thing" (defArgs s_copied_thing) (defBody s_copied_thing) (defScope s_copied_thing) [] [] a.copied_thing a.d_copied_thing
  B_copied_thing : Binds K a.d_copied_thing ["thing"] []
  m_copied_thing : mg "copied_thing" = some (.ref a.copied_thing)
  F_Roads_init : FunD K "__init__" "Roads.__init__" (defArgs s_Roads_init) (defBody s_Roads_init) (defScope s_Roads_init) [] [] a.Roads_init a.d_Roads_init
  B_Roads_init : Binds K a.d_Roads_init ["self", "members"] []
  F_Roads_len : FunD K "__len__" "Roads.__len__" (defArgs s_Roads_len) (defBody s_Roads_len) (defScope s_Roads_len) [] [] a.Roads_len a.d_Roads_len
  B_Roads_len : Binds K a.d_Roads_len ["self"] []
  M_Roads_len : Meth K a.Roads "__len__" a.Roads_len
  F_Roads_need_road : FunD K "need_road" "Roads.need_road" (defArgs s_Roads_need_road) (defBody s_Roads_need_road) (defScope s_Roads_need_road) [] [] a.Roads_need_road a.d_Roads_need_road
  B_Roads_need_road : Binds K a.d_Roads_need_road ["self", "start", "goal"] []
  M_Roads_need_road : Meth K a.Roads "need_road" a.Roads_need_road
  F_Roads_need_number : FunD K "need_number" "Roads.need_number" (defArgs s_Roads_need_number) (defBody s_Roads_need_number) (defScope s_Roads_need_number) [] [] a.Roads_need_number a.d_Roads_need_number
  B_Roads_need_number : Binds K a.d_Roads_need_number ["self", "number"] []
  M_Roads_need_number : Meth K a.Roads "need_number" a.Roads_need_number
  F_Roads_put_on : FunD K "put_on" "Roads.put_on" (defArgs s_Roads_put_on) (defBody s_Roads_put_on) (defScope s_Roads_put_on) [] [] a.Roads_put_on a.d_Roads_put_on
  B_Roads_put_on : Binds K a.d_Roads_put_on ["self", "row"] []
  M_Roads_put_on : Meth K a.Roads "put_on" a.Roads_put_on
  F_Roads_put : FunD K "put" "Roads.put" (defArgs s_Roads_put) (defBody s_Roads_put) (defScope s_Roads_put) [] [] a.Roads_put a.d_Roads_put
  B_Roads_put : Binds K a.d_Roads_put ["self", "start", "goal", "thing"] []
  M_Roads_put : Meth K a.Roads "put" a.Roads_put
  F_Roads_come : FunD K "come" "Roads.come" (defArgs s_Roads_come) (defBody s_Roads_come) (defScope s_Roads_come) [] [] a.Roads_come a.d_Roads_come
  B_Roads_come : Binds K a.d_Roads_come ["self", "number"] []
  M_Roads_come : Meth K a.Roads "come" a.Roads_come
  F_Roads_lose : FunD K "lose" "Roads.lose" (defArgs s_Roads_lose) (defBody s_Roads_lose) (defScope s_Roads_lose) [] [] a.Roads_lose a.d_Roads_lose
  B_Roads_lose : Binds K a.d_Roads_lose ["self", "number"] []
  M_Roads_lose : Meth K a.Roads "lose" a.Roads_lose
  F_Roads_double : FunD K "double" "Roads.double" (defArgs s_Roads_double) (defBody s_Roads_double) (defScope s_Roads_double) [] [] a.Roads_double a.d_Roads_double
  B_Roads_double : Binds K a.d_Roads_double ["self", "number"] []
  M_Roads_double : Meth K a.Roads "double" a.Roads_double
  F_Roads_under_way : FunD K "under_way" "Roads.under_way" (defArgs s_Roads_under_way) (defBody s_Roads_under_way) (defScope s_Roads_under_way) [] [] a.Roads_under_way a.d_Roads_under_way
  B_Roads_under_way : Binds K a.d_Roads_under_way ["self"] []
  M_Roads_under_way : Meth K a.Roads "under_way" a.Roads_under_way
  F_Roads_between : FunD K "between" "Roads.between" (defArgs s_Roads_between) (defBody s_Roads_between) (defScope s_Roads_between) [] [] a.Roads_between a.d_Roads_between
  B_Roads_between : Binds K a.d_Roads_between ["self", "start", "goal"] []
  M_Roads_between : Meth K a.Roads "between" a.Roads_between
  F_Roads_twin : FunD K "twin" "Roads.twin" (defArgs s_Roads_twin) (defBody s_Roads_twin) (defScope s_Roads_twin) [] [] a.Roads_twin a.d_Roads_twin
  B_Roads_twin : Binds K a.d_Roads_twin ["self"] []
  M_Roads_twin : Meth K a.Roads "twin" a.Roads_twin
  F__law_cell_at : FunD K "_law_cell_at" "_law_cell_at" (defArgs s__law_cell_at) (defBody s__law_cell_at) (defScope s__law_cell_at) [] [] a._law_cell_at a.d__law_cell_at
  B__law_cell_at : Binds K a.d__law_cell_at ["script", "k"] []
  m__law_cell_at : mg "_law_cell_at" = some (.ref a._law_cell_at)
  F__law_pool : FunD K "_law_pool" "_law_pool" (defArgs s__law_pool) (defBody s__law_pool) (defScope s__law_pool) [] [] a._law_pool a.d__law_pool
  B__law_pool : Binds K a.d__law_pool ["cell"] []
  m__law_pool : mg "_law_pool" = some (.ref a._law_pool)
  F__law_take : FunD K "_law_take" "_law_take" (defArgs s__law_take) (defBody s__law_take) (defScope s__law_take) [] [] a._law_take a.d__law_take
  B__law_take : Binds K a.d__law_take ["pool", "size"] []
  m__law_take : mg "_law_take" = some (.ref a._law_take)
  F__law_road : FunD K "_law_road" "_law_road" (defArgs s__law_road) (defBody s__law_road) (defScope s__law_road) [] [] a._law_road a.d__law_road
  B__law_road : Binds K a.d__law_road ["roads", "way", "start", "goal"] []
  m__law_road : mg "_law_road" = some (.ref a._law_road)
  F__law_number : FunD K "_law_number" "_law_number" (defArgs s__law_number) (defBody s__law_number) (defScope s__law_number) [] [] a._law_number a.d__law_number
  B__law_number : Binds K a.d__law_number ["roads", "way", "number"] []
  m__law_number : mg "_law_number" = some (.ref a._law_number)
  F__law_kinds : FunD K "_law_kinds" "_law_kinds" (defArgs s__law_kinds) (defBody s__law_kinds) (defScope s__law_kinds) [] [] a._law_kinds a.d__law_kinds
  B__law_kinds : Binds K a.d__law_kinds ["found", "thing"] []
  m__law_kinds : mg "_law_kinds" = some (.ref a._law_kinds)
  F__law_gone : FunD K "_law_gone" "_law_gone" (defArgs s__law_gone) (defBody s__law_gone) (defScope s__law_gone) [] [] a._law_gone a.d__law_gone
  B__law_gone : Binds K a.d__law_gone ["roads", "number", "order"] []
  m__law_gone : mg "_law_gone" = some (.ref a._law_gone)
  F__law_very : FunD K "_law_very" "_law_very" (defArgs s__law_very) (defBody s__law_very) (defScope s__law_very) [] [] a._law_very a.d__law_very
  B__law_very : Binds K a.d__law_very ["roads", "way"] []
  m__law_very : mg "_law_very" = some (.ref a._law_very)
  F__law_refused : FunD K "_law_refused" "_law_refused" (defArgs s__law_refused) (defBody s__law_refused) (defScope s__law_refused) [] [] a._law_refused a.d__law_refused
  B__law_refused : Binds K a.d__law_refused ["roads", "members", "gone", "last"] []
  m__law_refused : mg "_law_refused" = some (.ref a._law_refused)
  F__law_stands : FunD K "_law_stands" "_law_stands" (defArgs s__law_stands) (defBody s__law_stands) (defScope s__law_stands) [] [] a._law_stands a.d__law_stands
  B__law_stands : Binds K a.d__law_stands ["roads", "own"] []
  m__law_stands : mg "_law_stands" = some (.ref a._law_stands)
  F__law_made : FunD K "_law_made" "_law_made" (defArgs s__law_made) (defBody s__law_made) (defScope s__law_made) [] [] a._law_made a.d__law_made
  B__law_made : Binds K a.d__law_made ["thing"] []
  m__law_made : mg "_law_made" = some (.ref a._law_made)
  F__law_step : FunD K "_law_step" "_law_step" (defArgs s__law_step) (defBody s__law_step) (defScope s__law_step) [] [] a._law_step a.d__law_step
  B__law_step : Binds K a.d__law_step ["roads", "own", "last", "pool"] []
  m__law_step : mg "_law_step" = some (.ref a._law_step)
  F__law_looked : FunD K "_law_looked" "_law_looked" (defArgs s__law_looked) (defBody s__law_looked) (defScope s__law_looked) [] [] a._law_looked a.d__law_looked
  B__law_looked : Binds K a.d__law_looked ["roads", "own", "last"] []
  m__law_looked : mg "_law_looked" = some (.ref a._law_looked)
  F_law : FunD K "law" "law" (defArgs s_law) (defBody s_law) (defScope s_law) [] [] a.law a.d_law
  g_LEAST_MEMBERS : ∃ u, mg "LEAST_MEMBERS" = some u ∧ RelV (V.int 2) u
  g_MOST_MEMBERS : ∃ u, mg "MOST_MEMBERS" = some u ∧ RelV (V.int 5) u
  b_KeyError : mg "KeyError" = none
  b_all : mg "all" = none
  b_bool : mg "bool" = none
  b_dict : mg "dict" = none
  b_int : mg "int" = none
  b_isinstance : mg "isinstance" = none
  b_len : mg "len" = none
  b_list : mg "list" = none
  b_max : mg "max" = none
  b_range : mg "range" = none
  b_sorted : mg "sorted" = none
  b_tuple : mg "tuple" = none
theorem sc_NoNumber_init : FnScope ["self", "found"] ["self", "found"] (defScope s_NoNumber_init) := ⟨rfl, rfl, rfl, by decide +kernel, rfl, by decide +kernel, by decide +kernel⟩
theorem sc_NoMember_init : FnScope ["self", "found"] ["self", "found"] (defScope s_NoMember_init) := ⟨rfl, rfl, rfl, by decide +kernel, rfl, by decide +kernel, by decide +kernel⟩
theorem sc_NotOnRoad_init : FnScope ["self", "found"] ["self", "found"] (defScope s_NotOnRoad_init) := ⟨rfl, rfl, rfl, by decide +kernel, rfl, by decide +kernel, by decide +kernel⟩
theorem sc_is_whole : FnScope ["thing", "low", "high"] ["thing", "low", "high"] (defScope s_is_whole) := ⟨rfl, rfl, rfl, by decide +kernel, rfl, by decide +kernel, by decide +kernel⟩
theorem sc_are_members : FnScope ["thing"] ["thing"] (defScope s_are_members) := ⟨rfl, rfl, rfl, by decide +kernel, rfl, by decide +kernel, by decide +kernel⟩
theorem sc_copied_thing : FnScope ["thing", "part", "copied", "key"] ["thing"] (defScope s_copied_thing) := ⟨rfl, rfl, rfl, by decide +kernel, rfl, by decide +kernel, by decide +kernel⟩
theorem sc_Roads_init : FnScope ["self", "members"] ["self", "members"] (defScope s_Roads_init) := ⟨rfl, rfl, rfl, by decide +kernel, rfl, by decide +kernel, by decide +kernel⟩
theorem sc_Roads_len : FnScope ["self"] ["self"] (defScope s_Roads_len) := ⟨rfl, rfl, rfl, by decide +kernel, rfl, by decide +kernel, by decide +kernel⟩
theorem sc_Roads_need_road : FnScope ["self", "start", "goal"] ["self", "start", "goal"] (defScope s_Roads_need_road) := ⟨rfl, rfl, rfl, by decide +kernel, rfl, by decide +kernel, by decide +kernel⟩
theorem sc_Roads_need_number : FnScope ["self", "number"] ["self", "number"] (defScope s_Roads_need_number) := ⟨rfl, rfl, rfl, by decide +kernel, rfl, by decide +kernel, by decide +kernel⟩
theorem sc_Roads_put_on : FnScope ["self", "row"] ["self", "row"] (defScope s_Roads_put_on) := ⟨rfl, rfl, rfl, by decide +kernel, rfl, by decide +kernel, by decide +kernel⟩
theorem sc_Roads_put : FnScope ["self", "start", "goal", "thing"] ["self", "start", "goal", "thing"] (defScope s_Roads_put) := ⟨rfl, rfl, rfl, by decide +kernel, rfl, by decide +kernel, by decide +kernel⟩
theorem sc_Roads_come : FnScope ["self", "number"] ["self", "number"] (defScope s_Roads_come) := ⟨rfl, rfl, rfl, by decide +kernel, rfl, by decide +kernel, by decide +kernel⟩
theorem sc_Roads_lose : FnScope ["self", "number"] ["self", "number"] (defScope s_Roads_lose) := ⟨rfl, rfl, rfl, by decide +kernel, rfl, by decide +kernel, by decide +kernel⟩
theorem sc_Roads_double : FnScope ["self", "number"] ["self", "number"] (defScope s_Roads_double) := ⟨rfl, rfl, rfl, by decide +kernel, rfl, by decide +kernel, by decide +kernel⟩
theorem sc_Roads_under_way : FnScope ["self", "rows", "number", "start", "goal", "thing"] ["self"] (defScope s_Roads_under_way) := ⟨rfl, rfl, rfl, by decide +kernel, rfl, by decide +kernel, by decide +kernel⟩
theorem sc_Roads_between : FnScope ["self", "start", "goal", "number"] ["self", "start", "goal"] (defScope s_Roads_between) := ⟨rfl, rfl, rfl, by decide +kernel, rfl, by decide +kernel, by decide +kernel⟩
theorem sc_Roads_twin : FnScope ["self", "other", "number", "row"] ["self"] (defScope s_Roads_twin) := ⟨rfl, rfl, rfl, by decide +kernel, rfl, by decide +kernel, by decide +kernel⟩
theorem sc__law_cell_at : FnScope ["script", "k"] ["script", "k"] (defScope s__law_cell_at) := ⟨rfl, rfl, rfl, by decide +kernel, rfl, by decide +kernel, by decide +kernel⟩
theorem sc__law_pool : FnScope ["cell", "number", "k", "mix"] ["cell"] (defScope s__law_pool) := ⟨rfl, rfl, rfl, by decide +kernel, rfl, by decide +kernel, by decide +kernel⟩
theorem sc__law_take : FnScope ["pool", "size", "found"] ["pool", "size"] (defScope s__law_take) := ⟨rfl, rfl, rfl, by decide +kernel, rfl, by decide +kernel, by decide +kernel⟩
theorem sc__law_road : FnScope ["roads", "way", "start", "goal", "e"] ["roads", "way", "start", "goal"] (defScope s__law_road) := ⟨rfl, rfl, rfl, by decide +kernel, rfl, by decide +kernel, by decide +kernel⟩
theorem sc__law_number : FnScope ["roads", "way", "number", "e"] ["roads", "way", "number"] (defScope s__law_number) := ⟨rfl, rfl, rfl, by decide +kernel, rfl, by decide +kernel, by decide +kernel⟩
theorem sc__law_kinds : FnScope ["found", "thing"] ["found", "thing"] (defScope s__law_kinds) := ⟨rfl, rfl, rfl, by decide +kernel, rfl, by decide +kernel, by decide +kernel⟩
theorem sc__law_gone : FnScope ["roads", "number", "order", "way"] ["roads", "number", "order"] (defScope s__law_gone) := ⟨rfl, rfl, rfl, by decide +kernel, rfl, by decide +kernel, by decide +kernel⟩
theorem sc__law_very : FnScope ["roads", "way", "thing", "told"] ["roads", "way"] (defScope s__law_very) := ⟨rfl, rfl, rfl, by decide +kernel, rfl, by decide +kernel, by decide +kernel⟩
theorem sc__law_refused : FnScope ["roads", "members", "gone", "last", "thing", "way", "other", "told", "member"] ["roads", "members", "gone", "last"] (defScope s__law_refused) := ⟨rfl, rfl, rfl, by decide +kernel, rfl, by decide +kernel, by decide +kernel⟩
theorem sc__law_stands : FnScope ["roads", "own", "due", "number"] ["roads", "own"] (defScope s__law_stands) := ⟨rfl, rfl, rfl, by decide +kernel, rfl, by decide +kernel, by decide +kernel⟩
theorem sc__law_made : FnScope ["thing", "e"] ["thing"] (defScope s__law_made) := ⟨rfl, rfl, rfl, by decide +kernel, rfl, by decide +kernel, by decide +kernel⟩
theorem sc__law_step : FnScope ["roads", "own", "last", "pool", "way", "order", "members", "start", "goal", "numbers", "at", "row", "told"] ["roads", "own", "last", "pool"] (defScope s__law_step) := ⟨rfl, rfl, rfl, by decide +kernel, rfl, by decide +kernel, by decide +kernel⟩
theorem sc__law_looked : FnScope ["roads", "own", "last"] ["roads", "own", "last"] (defScope s__law_looked) := ⟨rfl, rfl, rfl, by decide +kernel, rfl, by decide +kernel, by decide +kernel⟩
theorem sc_law : FnScope ["script", "members", "roads", "own", "last", "cell", "pool", "look", "twin", "thing"] ["script"] (defScope s_law) := ⟨rfl, rfl, rfl, by decide +kernel, rfl, by decide +kernel, by decide +kernel⟩
/-- is x a whole number from lo on, up to hi -/
def isWh (lo : Int) (hi : V) : V → Bool
  | .int n => decide (lo ≤ n) && (match hi with | .int h => decide (n ≤ h) | _ => true)
  | _ => false
def spWhole (K : PySem.W.Frag) : Sp := fun vs H Q _ => ∃ x lo hi, vs = [x, .int lo, hi] ∧ Kn K H x ∧ (hi = .non ∨ ∃ h, hi = .int h) ∧ Q (.bl (isWh lo hi x)) H
def spTake : Sp := fun vs H Q _ => ∃ p m n, vs = [.ref p, .int n] ∧ H p = some (.lst [.int m]) ∧ 0 < n ∧ n.natAbs.log2 < 9000 ∧ ∀ r m' : Int, 0 ≤ r → r < n → Q (.int r) (upd H p (.lst [.int m']))
def spPool : Sp := fun vs H Q _ => ∃ n, vs = [.int n] ∧ ∀ p m, H p = none → Q (.ref p) (upd H p (.lst [.int m]))
section
variable {K : PySem.W.Frag} {H : Hp} {Q : VK} {E : XK} {x : V} {z : Str}
theorem take_use {vs : List V} {p : Addr} {m n : Int} (h1 : H p = some (.lst [.int m])) (h2 : 0 < n) (h3 : n.natAbs.log2 < 9000) (h : ∀ r m' : Int, 0 ≤ r → r < n → Q (.int r) (upd H p (.lst [.int m']))) (he : vs = [.ref p, .int n] := by rfl) : spTake vs H Q E := ⟨p, m, n, he, h1, h2, h3, h⟩
theorem whole_use {vs : List V} {lo : Int} {hi : V} (h1 : Kn K H x) (h2 : hi = .non ∨ ∃ h, hi = .int h) (h : Q (.bl (isWh lo hi x)) H) (he : vs = [x, .int lo, hi] := by rfl) : spWhole K vs H Q E := ⟨x, lo, hi, he, h1, h2, h⟩
theorem wholeN_use {vs : List V} {lo n : Int} (h : Q (.bl (decide (lo ≤ n))) H) (he : vs = [.int n, .int lo, .non] := by rfl) : spWhole K vs H Q E := ⟨_, lo, _, he, trivial, .inl rfl, cast_bl h (by simp [isWh])⟩
theorem wholeH_use {vs : List V} {lo n hi : Int} (h : Q (.bl (decide (lo ≤ n) && decide (n ≤ hi))) H) (he : vs = [.int n, .int lo, .int hi] := by rfl) : spWhole K vs H Q E := ⟨_, lo, _, he, trivial, .inr ⟨hi, rfl⟩, h⟩
theorem pool_use {vs : List V} {n : Int} (h : ∀ p m, H p = none → Q (.ref p) (upd H p (.lst [.int m]))) (he : vs = [.int n] := by rfl) : spPool vs H Q E := ⟨n, he, h⟩
end
/-! steps by the reading's head alone -/
local macro_rules | `(tactic| wtm_at "h") => `(tactic| fail)
set_option hygiene false in
local macro_rules | `(tactic| wtm_at "h") => `(tactic| with_reducible first | refine i_ifAnd ?_ | fail)
set_option hygiene false in
local macro_rules | `(tactic| wtm_at "h") => `(tactic| with_reducible first | refine i_cB ?_ | refine i_call ?_ | refine i_callN ?_ | refine i_isoN ?_ | refine i_isoB ?_ | refine i_isoI ?_ | refine i_isoS ?_ | refine i_ifN ?_ | fail)
set_option hygiene false in
local macro_rules | `(tactic| wtm_at "h") => `(tactic| with_reducible first | refine i_maxU ?_ | refine i_minU ?_ | refine i_sl ?_ | refine i_po0 ?_ | refine i_po1 ?_ | refine i_poI ?_ | refine i_lst ?_ | refine i_tup ?_ | fail)
set_option hygiene false in
local macro_rules | `(tactic| wtm_at "h") => `(tactic| with_reducible first | refine i_tp1 ?_ | refine i_dnew (fun q hq => ?_) | refine i_dnewT (fun q hq => ?_) | refine i_iSeq ?_ | refine i_fld ?_ | refine i_sfld ?_ | refine i_make ?_ | refine i_meth ?_ | fail)
set_option hygiene false in
local macro_rules | `(tactic| wtm_at "h") => `(tactic| with_reducible first | refine i_itS ?_ | refine i_iList ?_ | refine i_iTup ?_ | refine i_iR1 ?_ | refine i_yes ?_ | refine i_mk (fun x dx ndx nx1 nx nex => ?_) | refine i_disp (fun q hq => ?_) | refine i_tp0 ?_ | fail)
set_option hygiene false in
local macro_rules | `(tactic| wtm_at "h") => `(tactic| with_reducible first | refine i_isB ?_ | refine i_isN ?_ | refine i_isnB ?_ | refine i_isnN ?_ | refine i_inS ?_ | refine i_for ?_ | refine i_lc ?_ | refine i_iStr ?_ | fail)
set_option hygiene false in
local macro_rules | `(tactic| wtm_at "h") => `(tactic| with_reducible first | refine i_sub ?_ | refine i_gnil ?_ | refine i_gcons ?_ | refine i_un ?_ | refine i_rU ?_ | refine i_rI0 ?_ | refine i_chain ?_ | refine i_addI ?_ | fail)
set_option hygiene false in
local macro_rules | `(tactic| wtm_at "h") => `(tactic| with_reducible first | refine i_orV ?_ | refine i_notV ?_ | refine i_if ?_ | refine i_next ?_ | refine i_drop ?_ | refine i_retN ?_ | refine i_brk ?_ | refine i_cont ?_ | fail)
set_option hygiene false in
local macro_rules | `(tactic| wtm_at "h") => `(tactic| with_reducible first | refine i_nil ?_ | refine i_test ?_ | refine i_tB ?_ | refine i_bl ?_ | refine i_not ?_ | refine i_and ?_ | refine i_or ?_ | refine i_andV ?_ | fail)
set_option hygiene false in
local macro_rules | `(tactic| wtm_at "h") => `(tactic| with_reducible first | refine i_seq ?_ | refine i_asg ?_ | refine i_op ?_ | refine i_name ?_ | refine i_c ?_ | refine i_ifS ?_ | refine i_ret ?_ | refine i_cons ?_ | fail)
/-! what stands at an address -/
local macro_rules | `(tactic| wtm_at "as") => `(tactic| with_reducible assumption)
local macro_rules | `(tactic| wtm_at "getg") => `(tactic| fail)
local macro_rules | `(tactic| wtm_at "getg") => `(tactic| first | wtm_at "as" | ((with_reducible refine' upd_same' ?g0); (case g0 => exact rfl)) | ((with_reducible refine' get_upd ?g1 ?g2); (case g1 => wtm_at "as"); (case g2 => wtm_at "getg")) | ((fail_if_success ((with_reducible refine' get_upd ?g1 ?g2); (case g1 => wtm_at "as"))); (with_reducible refine' get_ne ?g1 ?g2); (case g2 => wtm_at "getg"); (case g1 => wtm_at "ne")) | ((with_reducible refine' get_same ?g1 ?g2); (case g1 => wtm_at "as"); (case g2 => wtm_at "getg")) | ((with_reducible refine' get_but ?g1 ?g3 ?g2); (case g1 => wtm_at "as"); (case g2 => wtm_at "getg"); (case g3 => wtm_at "ne")) | fail)
local macro_rules | `(tactic| wtm_at "get") => `(tactic| ((with_reducible refine' get_o ?gg ?ge); (case gg => wtm_at "getg"); (case ge => exact rfl)))
local macro_rules | `(tactic| wtm_at "ne") => `(tactic| fail)
local macro_rules | `(tactic| wtm_at "ne") => `(tactic| first | wtm_at "as" | ((with_reducible refine' Ne.symm ?n0); (case n0 => wtm_at "as")) | ((with_reducible refine' ne_of_none ?n1 ?n2); (case n2 => wtm_at "as"); (case n1 => wtm_at "getg")) | ((with_reducible refine' Ne.symm (ne_of_none ?n1 ?n2)); (case n2 => wtm_at "as"); (case n1 => wtm_at "getg")) | ((with_reducible refine' ne_of ?n1 ?n2 ?n3); (case n1 => wtm_at "as"); (case n2 => wtm_at "as"); (case n3 => (intro z; cases z))) | ((with_reducible refine' ne_of ?n1 ?n2 ?n3); (case n1 => wtm_at "as"); (case n2 => wtm_at "getg"); (case n3 => (intro z; cases z))) | ((with_reducible refine' Ne.symm (ne_of ?n1 ?n2 ?n3)); (case n1 => wtm_at "as"); (case n2 => wtm_at "getg"); (case n3 => (intro z; cases z))) | fail)
local macro_rules | `(tactic| wtm_at "sqf") => `(tactic| fail)
local macro_rules | `(tactic| wtm_at "sqf") => `(tactic| first | ((fail_if_success ((with_reducible refine' SqT.up ?s1 ?s2); (case s1 => wtm_at "as"))); (with_reducible refine' SqT.uk ?s1 ?s3 ?s4 ?s2); (case s2 => wtm_at "sqf"); (case s1 => wtm_at "getg"); (case s3 => (intro ys z; cases z)); (case s4 => (intro b u z; cases z))) | ((with_reducible refine' SqL.but ?s1 ?s3 ?s2); (case s1 => wtm_at "as"); (case s2 => wtm_at "sqf"); (case s3 => wtm_at "ne")) | ((with_reducible refine' SqT.but ?s1 ?s3 ?s2); (case s1 => wtm_at "as"); (case s2 => wtm_at "sqf"); (case s3 => wtm_at "ne")) | fail)
local macro_rules | `(tactic| wtm_at "sqf") => `(tactic| first | wtm_at "as" | ((with_reducible refine' SqL.up ?s1 ?s2); (case s1 => wtm_at "as"); (case s2 => wtm_at "sqf")) | ((with_reducible refine' SqT.up ?s1 ?s2); (case s1 => wtm_at "as"); (case s2 => wtm_at "sqf")) | ((with_reducible refine' SqL.sm ?s1 ?s2); (case s1 => wtm_at "as"); (case s2 => wtm_at "sqf")) | ((with_reducible refine' SqT.same ?s1 ?s2); (case s1 => wtm_at "as"); (case s2 => wtm_at "sqf")) | ((fail_if_success ((with_reducible refine' SqL.up ?s1 ?s2); (case s1 => wtm_at "as"))); (with_reducible refine' SqL.un ?s1 ?s2); (case s2 => wtm_at "sqf"); (case s1 => wtm_at "ne")) | ((fail_if_success ((with_reducible refine' SqT.up ?s1 ?s2); (case s1 => wtm_at "as"))); (with_reducible refine' SqT.un ?s1 ?s2); (case s2 => wtm_at "sqf"); (case s1 => wtm_at "ne")) | ((fail_if_success ((with_reducible refine' SqL.up ?s1 ?s2); (case s1 => wtm_at "as"))); (with_reducible refine' SqL.uk ?s1 ?s3 ?s4 ?s2); (case s2 => wtm_at "sqf"); (case s1 => wtm_at "getg"); (case s3 => (intro ys z; cases z)); (case s4 => (intro b u z; cases z))) | fail)
local macro_rules | `(tactic| wtm_at "sq") => `(tactic| fail)
local macro_rules | `(tactic| wtm_at "sq") => `(tactic| first | wtm_at "as" | ((with_reducible refine' SqL.of' ?s0 ?s1); (case s0 => wtm_at "getg"); (case s1 => exact rfl)) | ((with_reducible refine' SqT.of' ?s0 ?s1); (case s0 => wtm_at "getg"); (case s1 => exact rfl)) | wtm_at "sqf" | fail)
local macro_rules | `(tactic| wtm_at "same") => `(tactic| (intro b o e; wtm_at "get"))
local macro_rules | `(tactic| wtm_at "but") => `(tactic| (intro b o n e; wtm_at "get"))
/-! data -/
local macro_rules | `(tactic| wtm_at "dp") => `(tactic| fail)
local macro_rules | `(tactic| wtm_at "dp") => `(tactic| first | exact Dp.bl _ | exact Dp.int _ | exact Dp.str _ | exact Dp.non | (refine Dp.lst (by wtm_at "sq") ?_; wtm_at "dps") | (refine Dp.tup (by wtm_at "sq") ?_; wtm_at "dps") | fail)
local macro_rules | `(tactic| wtm_at "dps") => `(tactic| fail)
local macro_rules | `(tactic| wtm_at "dps") => `(tactic| first | exact DpAll.nil | (refine DpAll.cons ?hd ?tl; (case hd => wtm_at "dp"); (case tl => wtm_at "dps")) | fail)
/-! steps that ask something besides -/
local macro_rules | `(tactic| wtm_at "a") => `(tactic| fail)
set_option hygiene false in
local macro_rules | `(tactic| wtm_at "a") => `(tactic| first | (with_reducible refine' i_isoT ?h1 ?_); (case h1 => wtm_at "sqf") | wtm_at "if" | fail)
set_option hygiene false in
local macro_rules | `(tactic| wtm_at "a") => `(tactic| first | (with_reducible refine' i_slS ?h1 ?_); (case h1 => first | assumption | exact line_le (by omega)) | (with_reducible refine' i_eqLF ?h1 ?h2 ?f1 ?f2 ?_); (case h1 => wtm_at "sq"); (case h2 => wtm_at "sq"); (case f1 => rfl); (case f2 => rfl) | (with_reducible refine' i_isiBs ?h1 ?_); (case h1 => wtm_at "get") | (with_reducible refine' i_rI ?h1 ?_); (case h1 => exact wide_div (b := 400) (by omega) (by first | decide +kernel | omega) (by decide) (by decide)) | (with_reducible refine' i_isiB ?h1 ?_); (case h1 => rfl) | (with_reducible refine' i_isoG ?h1 ?h0 ?_); (case h1 => wtm_at "getg"); (case h0 => rfl) | (with_reducible refine' i_isoC ?h1 ?h2 ?h3 ?_); (case h1 => wtm_at "get"); (case h2 => wtm_at "cls"); (case h3 => wtm_at "cls") | (with_reducible refine' i_isoL ?h1 ?_); (case h1 => wtm_at "sqf") | fail)
set_option hygiene false in
local macro_rules | `(tactic| wtm_at "a") => `(tactic| first | (with_reducible refine' i_wipe ?h1 ?_); (case h1 => rfl) | (with_reducible refine' i_all ?h1 ?_); (case h1 => wtm_at "sq") | (with_reducible refine' i_addS ?h1 ?_); (case h1 => first | assumption | exact line_le (by omega)) | (with_reducible refine' i_addL ?h1 ?h2 ?h3 (fun q hq => ?_)); (case h1 => wtm_at "get"); (case h2 => wtm_at "get"); (case h3 => first | assumption | exact line_le (by omega) | exact Nat.le_of_lt (line_lt (by simp only [List.length_append, List.length_cons, List.length_nil]; omega)) | decide) | (with_reducible refine' i_lenG ?h1 ?h0 ?_); (case h1 => wtm_at "getg"); (case h0 => rfl) | (with_reducible refine' i_lenL ?h1 ?_); (case h1 => wtm_at "sqf") | (with_reducible refine' i_lenT ?h1 ?_); (case h1 => wtm_at "sqf") | (with_reducible refine' i_lenS ?h1 ?_); (case h1 => first | assumption | exact line_le (by omega)) | fail)
set_option hygiene false in
local macro_rules | `(tactic| wtm_at "a") => `(tactic| first | (with_reducible refine' i_lstOfL ?h1 (fun q hq => ?_)); (case h1 => wtm_at "sq") | (with_reducible refine' i_lstOfT ?h1 (fun q hq => ?_)); (case h1 => wtm_at "sq") | (with_reducible refine' i_slL ?h1 (fun q hq => ?_)); (case h1 => wtm_at "sq") | (with_reducible refine' i_lens ?h1 ?h2 ?_); (case h1 => rfl); (case h2 => rfl) | (with_reducible refine' i_itL ?h1 ?_); (case h1 => wtm_at "sq") | (with_reducible refine' i_itT ?h1 ?_); (case h1 => wtm_at "sq") | (with_reducible refine' i_r1 ?h1 ?_); (case h1 => omega) | (with_reducible refine' i_mulI ?h1 ?_); (case h1 => first | assumption | exact mulW64 (by omega) (by omega)) | fail)
set_option hygiene false in
local macro_rules | `(tactic| wtm_at "a") => `(tactic| first | (with_reducible refine' i_new ?h1 (fun q hq => ?_)); (case h1 => first | decide | exact Nat.le_of_ble_eq_true rfl | omega) | (with_reducible refine' i_sqL ?h1 ?_); (case h1 => wtm_at "sq") | (with_reducible refine' i_sqT ?h1 ?_); (case h1 => wtm_at "sq") | (with_reducible refine' i_fldR ?h1 ?h2 ?h3 ?h4 ?_); (case h1 => wtm_at "get"); (case h2 => wtm_at "cls"); (case h3 => wtm_at "cls"); (case h4 => first | assumption | rfl) | (with_reducible refine' i_sfldR ?h1 ?h2 ?h3 ?h4 ?_); (case h1 => wtm_at "get"); (case h2 => wtm_at "cls"); (case h3 => wtm_at "cls"); (case h4 => first | exact Nat.le_of_ble_eq_true rfl | assumption) | (with_reducible refine' i_methR ?h1 ?h2 ?_); (case h1 => wtm_at "get"); (case h2 => first | assumption | rfl) | (with_reducible refine' i_tupOfL ?h1 (fun q hq => ?_)); (case h1 => wtm_at "sq") | (with_reducible refine' i_tupOfT ?h1 ?_); (case h1 => wtm_at "sq") | fail)
set_option hygiene false in
local macro_rules | `(tactic| wtm_at "a") => `(tactic| first | (with_reducible refine' i_var ?h1 ?_); (case h1 => rfl) | (with_reducible refine' i_ixG ?h1 ?h0 ?h2 ?_); (case h1 => wtm_at "getg"); (case h0 => rfl); (case h2 => rfl) | (with_reducible refine' i_ixL ?h1 ?h2 ?_); (case h1 => wtm_at "sqf"); (case h2 => rfl) | (with_reducible refine' i_ixT ?h1 ?h2 ?_); (case h1 => wtm_at "sqf"); (case h2 => rfl) | (with_reducible refine' i_rI ?h1 ?_); (case h1 => first | assumption | decide | omega | exact ⟨by omega, by assumption⟩ | exact ⟨by decide, by decide⟩ | exact cpow (by omega) (by omega) (by omega)) | (with_reducible refine' i_setL ?h1 ?h2 ?_); (case h1 => wtm_at "get"); (case h2 => rfl) | (with_reducible refine' i_eqS ?h1 ?_); (case h1 => rfl) | (with_reducible refine' i_neS ?h1 ?_); (case h1 => rfl) | fail)
local macro_rules | `(tactic| wtm_at "if") => `(tactic| ((with_reducible refine i_isIf ?_); first
  | (with_reducible refine iteT ?_) | (with_reducible refine iteF ?_) | refine i_tT (by wtm_at "as") ?_ | refine i_tF (by wtm_at "as") ?_ | refine iteT ?_ | refine iteF ?_
  | refine i_decT (by first | assumption | with_reducible rfl | omega) ?_ | refine i_decF (by first | assumption | omega) ?_ | fail))
local macro_rules | `(tactic| wtm_at "go1") => `(tactic| fail)
local macro_rules | `(tactic| wtm_at "go1") => `(tactic| first | wtm_at "u" | fail)
local macro_rules | `(tactic| wtm_at "go1") => `(tactic| first | wtm_at "a" | fail)
local macro_rules | `(tactic| wtm_at "go1") => `(tactic| first | wtm_at "h" | fail)
local macro_rules | `(tactic| wtm_at "go") => `(tactic| repeat' (wtm_at "go1"))
local macro_rules | `(tactic| wtm_at "gs2") => `(tactic| fail)
local macro_rules | `(tactic| wtm_at "gs2") => `(tactic| first | with_reducible refine i_dec (fun _ => ?_) (fun _ => ?_) | fail)
local macro_rules | `(tactic| wtm_at "gs2") => `(tactic| first | wtm_at "u" | fail)
local macro_rules | `(tactic| wtm_at "gs2") => `(tactic| first | wtm_at "a" | fail)
local macro_rules | `(tactic| wtm_at "gs2") => `(tactic| first | wtm_at "h" | fail)
local macro_rules | `(tactic| wtm_at "gs") => `(tactic| repeat' (wtm_at "gs2"))
local macro_rules | `(tactic| wtm_at "kn") => `(tactic| fail)
local macro_rules | `(tactic| wtm_at "kn") => `(tactic| first | wtm_at "as" | exact trivial | ((with_reducible refine' Kn.same ?k1 ?k2); (case k1 => wtm_at "as"); (case k2 => wtm_at "kn")) | ((with_reducible refine' Kn.up ?k1 ?k2); (case k1 => wtm_at "as"); (case k2 => wtm_at "kn")) | fail)
local macro_rules | `(tactic| wtm_at "u") => `(tactic| fail)
set_option hygiene false in
local macro_rules | `(tactic| wtm_at "u") => `(tactic| first | ((with_reducible refine' pool_use (fun q m hq => ?_) ?he); (case he => rfl)) | ((with_reducible refine' wholeN_use ?_ ?he); (case he => rfl)) | ((with_reducible refine' wholeH_use ?_ ?he); (case he => rfl)) | ((with_reducible refine' whole_use ?h1 ?h2 ?_ ?he); (case he => rfl); (case h1 => wtm_at "kn"); (case h2 => first | exact .inl rfl | exact .inr ⟨_, rfl⟩ | assumption)) | fail)
set_option hygiene false in
local macro_rules | `(tactic| wtm_at "u") => `(tactic| ((with_reducible refine' take_use ?h1 ?h2 ?h3 (fun r m' hr0 hr1 => ?_) ?he); (case he => rfl); (case h1 => wtm_at "get"); (case h2 => first | decide | assumption); (case h3 => first | decide +kernel | assumption | fail)))
section
variable {P : Program} {w : World} {K : PySem.W.Frag} {mg : Str → Option Value} {base : Heap} {a : Ad}
theorem ok__law_take (T : Txt K mg a) : FnOk P w K mg base CX0 1 a._law_take a.d__law_take ["pool", "size"] (spTake) := by
  refine fund_ok0 T.F__law_take sc__law_take (fun vs H Q E h => ?_) (fun cdv A outer s H vs Q E hr h => ?_)
  · obtain ⟨p, m, n, rfl, hp, h0, h9, k⟩ := h
    rfl
  · obtain ⟨p, m, n, rfl, hp, h0, h9, k⟩ := h
    refine ⟨_, (pss_cons (ps_set (i := 2) sc__law_take.nd rfl (by first | exact Or.inl rfl | exact Or.inr rfl) (pe_op op_modU (pe_ix (ix_U (K := K)) (pv 0) pe_int (fun _ _ => rfl)) (pv 1)))
    (pss_cons (ps_asg (pe_op op_fdivU (pe_ix (ix_U (K := K)) (pv 0) pe_int (fun _ _ => rfl)) (pv 1)) (pg_sub (pv 0) pe_int set_list))
    (pss_one (ps_ret (pv 2))))), ?_⟩
    dsimp only [L2.start, List.map_cons, List.map_nil, List.map, List.length_cons, List.length_nil, Nat.reduceAdd, Nat.reduceSub, List.replicate, List.cons_append, List.nil_append]
    wtm_at "go"
    exact k _ _ (Int.emod_nonneg _ (by omega)) (Int.emod_lt_of_pos _ h0)
theorem ok_is_whole (T : Txt K mg a) : FnOk P w K mg base CX0 1 a.is_whole a.d_is_whole ["thing", "low", "high"] (spWhole K) := by
  refine fund_ok0 T.F_is_whole sc_is_whole (fun vs H Q E h => ?_) (fun cdv A outer s H vs Q E hr h => ?_)
  · obtain ⟨x, lo, hi, rfl, kn, kh, k⟩ := h
    rfl
  · obtain ⟨x, lo, hi, rfl, kn, kh, k⟩ := h
    refine ⟨_, (pss_cons (ps_if (PW.pt (pw_or (pt_not (pt_val (pe_callB (call_isiB .int (K := K)) (by rfl) T.b_isinstance (by decide +kernel) (pa_cons (pv 0) (pa_cons (pe_bltn (v := .ty "int") (u := .type "int") (by rfl) T.b_int (by decide +kernel) rfl) pa_nil))))) (pw_or (pt_val (pe_callB (call_isiB .bl (K := K)) (by rfl) T.b_isinstance (by decide +kernel) (pa_cons (pv 0) (pa_cons (pe_bltn (v := .ty "bool") (u := .type "bool") (by rfl) T.b_bool (by decide +kernel) rfl) pa_nil)))) (pw_or1 (pt_cmpR op_ltU (pv 0) (pv 1) (nomark _)))))) (pss_one (ps_ret pe_bl)) pss_nil)
    (pss_one (ps_ret (pe_or (pe_cmpR op_isU (pv 2) pe_non (nomark _)) (pe_one (pe_cmpR op_leU (pv 0) (pv 2) (nomark _))))))), ?_⟩
    dsimp only [L2.start, List.map_cons, List.map_nil, List.map, List.length_cons, List.length_nil, Nat.reduceAdd, Nat.reduceSub, List.replicate, List.cons_append, List.nil_append]
    cases x <;> first | exact kn.elim | skip
    case ref =>
      wtm_at "go"
      refine i_isoR kn fun f c e1 e2 e3 => ?_
      wtm_at "go"
      exact k
    case int =>
      rcases kh with rfl | ⟨h, rfl⟩
      all_goals wtm_at "gs"
      all_goals refine cast_bl k ?_
      all_goals simp only [isWh]
      all_goals simp_all
      all_goals omega
    all_goals wtm_at "gs"
    all_goals exact k
theorem ok__law_pool (T : Txt K mg a) : FnOk P w K mg base CX0 1 a._law_pool a.d__law_pool ["cell"] (spPool) := by
  refine fund_ok0 T.F__law_pool sc__law_pool (fun vs H Q E h => ?_) (fun cdv A outer s H vs Q E hr h => ?_)
  · obtain ⟨n, rfl, k⟩ := h
    rfl
  · obtain ⟨n, rfl, k⟩ := h
    refine ⟨_, (pss_cons (ps_if (pt_cmpR op_geU (pv 0) (pe_op op_powU pe_int pe_int) (nomark _)) (pss_one (ps_ret (pe_lst (pa_cons (pv 0) pa_nil)))) pss_nil)
    (pss_cons (ps_set (i := 1) sc__law_pool.nd rfl (by first | exact Or.inl rfl | exact Or.inr rfl) pe_int)
    (pss_cons (ps_for PassesOwn.never rfl (pi_range1 (by rfl) T.b_range (pa_cons pe_int pa_nil)) (pg_name (i := 2) sc__law_pool.nd rfl (by first | exact Or.inl rfl | exact Or.inr rfl))
    (pss_cons (ps_set (i := 3) sc__law_pool.nd rfl (by first | exact Or.inl rfl | exact Or.inr rfl) (pe_op op_modU (pe_op op_powU (pe_op (op_addU (K := K)) (pe_op (op_addU (K := K)) (pe_op op_mulU (pe_op op_modU (pv 0) pe_int) pe_int) (pe_op op_mulU pe_int (pv 2))) pe_int) pe_int) pe_int))
    (pss_one (ps_set (i := 1) sc__law_pool.nd rfl (by first | exact Or.inl rfl | exact Or.inr rfl) (pe_op (op_addU (K := K)) (pe_op op_mulU (pv 1) pe_int) (pe_op op_modU (pe_op op_powU (pe_op (op_addU (K := K)) (pe_op op_mulU (pv 3) pe_int) (pv 2)) pe_int) pe_int))))))
    (pss_one (ps_ret (pe_lst (pa_cons (pv 1) pa_nil))))))), ?_⟩
    dsimp only [L2.start, List.map_cons, List.map_nil, List.map, List.length_cons, List.length_nil, Nat.reduceAdd, Nat.reduceSub, List.replicate, List.cons_append, List.nil_append]
    wtm_at "gs"
    · exact k _ _ (by assumption)
    refine for_range (lo := 0) (n := 9) (fun i σ H' => H' = H ∧ ∃ (z : Int) (v1 v2 : Option V), σ = [some (.int n), some (.int z), v1, v2] ∧ 0 ≤ z ∧ z.natAbs < 2 ^ (31 * i)) ⟨rfl, 0, none, none, rfl, by decide, by decide⟩ ?_ ?_
    · rintro i σ _ hi ⟨rfl, z, v1, v2, rfl, h0, h1⟩
      have hq : 2 ^ (31 * (i + 1)) = 2 ^ (31 * i) * 2147483648 := by rw [Nat.mul_add, Nat.pow_add]
      have hp : 2 ^ (31 * i) ≤ 2 ^ 400 := Nat.pow_le_pow_right (by decide) (by omega)
      generalize 2 ^ (31 * i) = q at *
      wtm_at "gs"
      refine i_mulI (mulW (Nat.lt_of_lt_of_le h1 hp) (by decide)) ?_
      wtm_at "gs"
      rw [hq]
      exact ⟨rfl, _, _, _, rfl, pool_next _ _ _ h0 h1⟩
    · rintro σ _ ⟨rfl, z, v1, v2, rfl, h0, h1⟩
      wtm_at "gs"
      exact k _ _ (by assumption)
end

/-! errors: steps -/
theorem exm_eq {K : PySem.W.Frag} {c : Value} {l : List Value} {b d : Bool} (h : PySem.W.exmAny K c l = some b) (e : b = d) : PySem.W.exmAny K c l = some d := e ▸ h
theorem xdAt_of {H : Hp} {dd : Addr} {fs : List (Str × V)} (h : H dd = some (.xd fs)) : XdAt H (some dd) := .inr ⟨dd, fs, rfl, h⟩
theorem kit_eq {K : PySem.W.Frag} {c : Value} {l : List Value} {b d : Bool} (h : PySem.W.kitAny K c l = some b) (e : b = d) : PySem.W.kitAny K c l = some d := e ▸ h
local macro_rules | `(tactic| wtm_at "exm") => `(tactic| fail)
local macro_rules | `(tactic| wtm_at "exm") => `(tactic| first | exact any_nil | ((with_reducible refine' any_cons ?x1 ?x2); (case x1 => wtm_at "exm1"); (case x2 => wtm_at "exm")) | fail)
local macro_rules | `(tactic| wtm_at "kit") => `(tactic| fail)
local macro_rules | `(tactic| wtm_at "kit") => `(tactic| first | exact kany_nil | ((with_reducible refine' kany_cons ?x1 ?x2); (case x1 => wtm_at "xk"); (case x2 => wtm_at "kit")) | fail)
local macro_rules | `(tactic| wtm_at "xd") => `(tactic| ((with_reducible refine' xdAt_of ?xd); (case xd => wtm_at "getg")))
local macro_rules | `(tactic| wtm_at "clv") => `(tactic| fail)
local macro_rules | `(tactic| wtm_at "clv") => `(tactic| first | exact .nil | exact .ty _ | exact .own _ | (refine' .cons ?v1 ?v2; (case v1 => wtm_at "clv"); (case v2 => wtm_at "clv")) | fail)
set_option hygiene false in
local macro_rules | `(tactic| wtm_at "u") => `(tactic| with_reducible first | refine i_app ?_ | refine i_intB ?_ | refine i_intI ?_ | fail)
set_option hygiene false in
local macro_rules | `(tactic| wtm_at "u") => `(tactic| with_reducible first | refine i_goN ?_ | refine i_go0 ?_ | refine i_xfA ?_ | refine i_zipT ?_ | refine i_excV (fun ed hed => ?_) | refine i_maxU ?_ | refine i_minU ?_ | refine i_isiC ?_ | fail)
set_option hygiene false in
local macro_rules | `(tactic| wtm_at "u") => `(tactic| with_reducible first | refine i_nn ?_ | refine i_rev ?_ | refine i_raise ?_ | refine i_exc ?_ | refine i_try ?_ | refine i_methS ?_ | refine i_callS ?_ | refine i_makeS ?_ | fail)
set_option hygiene false in
local macro_rules | `(tactic| wtm_at "u") => `(tactic| first | ((with_reducible refine' i_revL ?e ?h1 ?_); (case e => rfl); (case h1 => wtm_at "sq"); intro q hq) | ((with_reducible refine' i_rep1 ?h1 ?h2 (fun q hq => ?_)); (case h1 => wtm_at "get"); (case h2 => first | wtm_at "as" | omega | (simp only [List.length_map]; omega))) | ((with_reducible refine' i_tyL ?h1 ?_); (case h1 => wtm_at "sq")) | ((with_reducible refine' i_rapp ?h1 ?h2 ?_); (case h1 => wtm_at "get"); (case h2 => first | assumption | exact line_lt (by first | omega | (simp only [List.length_append, List.length_map, List.length_cons, List.length_nil]; omega)))) | ((with_reducible refine' i_kit ?e ?_); (case e => wtm_at "xk")) | ((with_reducible refine' i_zipTT ?h1 ?h2 ?_); (case h1 => wtm_at "sq"); (case h2 => wtm_at "sq")) | ((with_reducible refine' i_zipLL ?h1 ?h2 ?_); (case h1 => wtm_at "sq"); (case h2 => wtm_at "sq")) | fail)
set_option hygiene false in
local macro_rules | `(tactic| wtm_at "u") => `(tactic| first | ((with_reducible refine' i_clT (exm_eq ?hb ?hc) (fun ea hea => ?_)); (case hb => wtm_at "exm"); (case hc => exact rfl)) | ((with_reducible refine' i_clF (exm_eq ?hb ?hc) ?_); (case hb => wtm_at "exm"); (case hc => exact rfl)) | ((with_reducible refine' i_xf ?T ?no ?h1 ?h2 ?_); (case T => wtm_at "xc"); (case no => wtm_at "xn"); (case h1 => wtm_at "getg"); (case h2 => exact rfl)) | ((with_reducible refine' i_isX rfl ?T ?xd ?k ?e ?_); (case T => wtm_at "xc"); (case xd => wtm_at "xd"); (case k => wtm_at "clv"); (case e => wtm_at "xk")) | ((with_reducible refine' i_isXs ?ht rfl ?T ?xd ?k (kit_eq ?e ?eb) ?_); (case ht => wtm_at "getg"); (case T => wtm_at "xc"); (case xd => wtm_at "xd"); (case k => wtm_at "clv"); (case e => wtm_at "kit"); (case eb => exact rfl)) | ((with_reducible refine' i_tupT ?h1 ?h2 ?_); (case h1 => wtm_at "sq"); (case h2 => exact rfl)) | ((with_reducible refine' i_ixL ?h1 ?h2 ?_); (case h1 => wtm_at "sq"); (case h2 => wtm_at "as")) | ((with_reducible refine' i_ixT ?h1 ?h2 ?_); (case h1 => wtm_at "sq"); (case h2 => wtm_at "as")) | fail)
local macro_rules | `(tactic| wtm_at "rz") => `(tactic| fail)
local macro_rules | `(tactic| wtm_at "rz") => `(tactic| first | assumption | wtm_at "same" | wtm_at "get" | fail)
local macro_rules | `(tactic| wtm_at "nn") => `(tactic| fail)
local macro_rules | `(tactic| wtm_at "nn") => `(tactic| first | wtm_at "as" | exact nn_rep (by first | decide | omega) | fail)
local macro_rules | `(tactic| wtm_at "lenle") => `(tactic| fail)
local macro_rules | `(tactic| wtm_at "lenle") => `(tactic| first | wtm_at "as" | omega | (simp only [List.length_replicate, List.length_map, List.length_cons, List.length_nil]; omega) | fail)
local macro_rules | `(tactic| wtm_at "noc") => `(tactic| fail)
local macro_rules | `(tactic| wtm_at "noc") => `(tactic| first | wtm_at "as" | ((with_reducible refine' NoC.same ?s ?h); (case h => wtm_at "as"); (case s => wtm_at "same")) | exact NoC.flat rfl | exact NoC.ofG (by wtm_at "getg") rfl | exact NoC.sqL (by wtm_at "sq") | exact NoC.sqT (by wtm_at "sq") | fail)
local macro_rules | `(tactic| wtm_at "nos") => `(tactic| fail)
local macro_rules | `(tactic| wtm_at "nos") => `(tactic| first | wtm_at "as" | ((with_reducible refine' NoSeq.same ?s ?h); (case h => wtm_at "as"); (case s => wtm_at "same")) | exact NoSeq.flat rfl | exact NoSeq.dict (by wtm_at "get") | fail)
set_option hygiene false in
local macro_rules | `(tactic| wtm_at "a") => `(tactic| first | ((with_reducible refine' i_isiBsN ?h0 ?hn ?_); (case hn => wtm_at "nos"); (case h0 => wtm_at "get")) | ((with_reducible refine' i_isiLN ?hn ?_); (case hn => wtm_at "nos")) | ((with_reducible refine' i_isiTN ?hn ?_); (case hn => wtm_at "nos")) | ((with_reducible refine' i_isiTN2 ?hn ?_); (case hn => wtm_at "as")) | ((with_reducible refine' i_isiCN ?hn ?_); (case hn => wtm_at "noc")) | fail)
local macro_rules | `(tactic| wtm_at "eqv") => `(tactic| fail)
local macro_rules | `(tactic| wtm_at "eqv") => `(tactic| first | exact EqV.one | exact EqV.selfB rfl | ((with_reducible refine' EqV.noc ?n); (case n => wtm_at "noc")) | ((with_reducible refine' EqV.selfA ?n); (case n => wtm_at "kn")) | ((with_reducible refine' EqV.nos ?n); (case n => wtm_at "nos")) | exact EqV.flat rfl | fail)
local macro_rules | `(tactic| wtm_at "eqvs") => `(tactic| fail)
local macro_rules | `(tactic| wtm_at "eqvs") => `(tactic| first | exact EqVs.nil | ((with_reducible refine' EqVs.cons ?e1 ?e2); (case e1 => wtm_at "eqv"); (case e2 => wtm_at "eqvs")) | exact EqVs.nilc | exact EqVs.cnil | fail)
set_option hygiene false in
local macro_rules | `(tactic| wtm_at "u") => `(tactic| first | ((with_reducible refine' i_neG (n := 3) ?h1 ?hn ?t ?_); (case h1 => first | exact .inl ⟨by wtm_at "sq", by wtm_at "sq"⟩ | exact .inr ⟨by wtm_at "sq", by wtm_at "sq"⟩); (case t => wtm_at "eqvs"); (case hn => decide)) | ((with_reducible refine' i_eqG (n := 3) ?h1 ?hn ?t ?_); (case h1 => first | exact .inl ⟨by wtm_at "sq", by wtm_at "sq"⟩ | exact .inr ⟨by wtm_at "sq", by wtm_at "sq"⟩); (case t => wtm_at "eqvs"); (case hn => decide)) | fail)
local macro_rules | `(tactic| wtm_at "exm1") => `(tactic| fail)
set_option hygiene false in
local macro_rules | `(tactic| wtm_at "exm1") => `(tactic| first | exact exm_own T.e_NoMember T.u_NoNumber_NoMember | exact exm_own T.e_NotOnRoad T.u_NoNumber_NotOnRoad | exact exm_own T.e_HallError T.u_NotOnRoad_HallError | exact exm_own T.e_Missing T.u_NotOnRoad_Missing | exact exm_own T.e_NoNumber T.u_NotOnRoad_NoNumber | exact exm_own T.e_NoMember T.u_NotOnRoad_NoMember | exact exm_own T.e_NotOnRoad T.u_NotOnRoad_NotOnRoad | fail)
set_option hygiene false in
local macro_rules | `(tactic| wtm_at "exm1") => `(tactic| first | exact exm_own T.e_HallError T.u_NoMember_HallError | exact exm_own T.e_Missing T.u_NoMember_Missing | exact exm_own T.e_NoNumber T.u_NoMember_NoNumber | exact exm_own T.e_NoMember T.u_NoMember_NoMember | exact exm_own T.e_NotOnRoad T.u_NoMember_NotOnRoad | exact exm_own T.e_HallError T.u_NoNumber_HallError | exact exm_own T.e_Missing T.u_NoNumber_Missing | exact exm_own T.e_NoNumber T.u_NoNumber_NoNumber | fail)
set_option hygiene false in
local macro_rules | `(tactic| wtm_at "xk") => `(tactic| first | exact T.x_NoNumber_NotOnRoad | exact T.x_NotOnRoad_HallError | exact T.x_NotOnRoad_Missing | exact T.x_NotOnRoad_NoNumber | exact T.x_NotOnRoad_NoMember | fail)
set_option hygiene false in
local macro_rules | `(tactic| wtm_at "xk") => `(tactic| first | exact kit_self | exact T.x_NoMember_HallError | exact T.x_NoMember_Missing | exact T.x_NoMember_NoNumber | exact T.x_NoMember_NotOnRoad | exact T.x_NoNumber_HallError | exact T.x_NoNumber_Missing | exact T.x_NoNumber_NoMember | fail)
local macro_rules | `(tactic| wtm_at "xc") => `(tactic| fail)
set_option hygiene false in
local macro_rules | `(tactic| wtm_at "xc") => `(tactic| first | exact T.e_NoMember | exact T.e_NoNumber | exact T.e_NotOnRoad | fail)
local macro_rules | `(tactic| wtm_at "xn") => `(tactic| fail)
set_option hygiene false in
local macro_rules | `(tactic| wtm_at "xn") => `(tactic| first | exact T.n_NoMember_found | exact T.n_NoNumber_found | exact T.n_NotOnRoad_found | fail)
set_option hygiene false in
local macro_rules | `(tactic| wtm_at "xk") => `(tactic| first | exact T.xy_NotOnRoad | fail)
/-! new things: the heap behind is a name of its own -/
theorem abs_new {H HN : Hp} {q : Addr} {o : HO} (hq : H q = none) (hE : upd H q o = HN) : Same H HN ∧ HN q = some o := by subst hE; exact ⟨same_upd (Same.refl _) hq, upd_same⟩
theorem abs_set {H HN : Hp} {q : Addr} {o : HO} (hE : upd H q o = HN) : SameBut q H HN ∧ HN q = some o := by subst hE; exact ⟨SameBut.upd _ _ _, upd_same⟩
set_option hygiene false in
local macro_rules | `(tactic| wtm_at "absn") => `(tactic| ((generalize hE : upd _ q _ = HN); (obtain ⟨sa, hg⟩ := abs_new hq hE); (clear hE)))
set_option hygiene false in
local macro_rules | `(tactic| wtm_at "abss") => `(tactic| ((generalize hE : upd _ _ _ = HN); (obtain ⟨sb, hg⟩ := abs_set hE); (clear hE)))
local macro_rules | `(tactic| wtm_at "n") => `(tactic| fail)
set_option hygiene false in
local macro_rules | `(tactic| wtm_at "n") => `(tactic| first | ((with_reducible refine' i_rep1 ?h1 ?h2 (fun q hq => ?_)); (case h1 => wtm_at "get"); (case h2 => first | wtm_at "as" | omega | (simp only [List.length_map]; omega)); wtm_at "absn") | ((with_reducible refine' i_setL ?h1 ?h2 ?_); (case h1 => wtm_at "get"); (case h2 => rfl); wtm_at "abss") | ((with_reducible refine' i_rapp ?h1 ?h2 ?_); (case h1 => wtm_at "get"); (case h2 => first | assumption | exact line_lt (by first | omega | (simp only [List.length_append, List.length_map, List.length_cons, List.length_nil]; omega))); wtm_at "abss") | fail)
set_option hygiene false in
local macro_rules | `(tactic| wtm_at "n") => `(tactic| first | ((with_reducible refine' i_new ?h1 (fun q hq => ?_)); (case h1 => first | decide | exact Nat.le_of_ble_eq_true rfl | omega); wtm_at "absn") | ((with_reducible refine i_dnew (fun q hq => ?_)); wtm_at "absn") | ((with_reducible refine i_dnewT (fun q hq => ?_)); wtm_at "absn") | ((with_reducible refine' i_tupOfL ?h1 (fun q hq => ?_)); (case h1 => wtm_at "sq"); wtm_at "absn") | ((with_reducible refine' i_lstOfL ?h1 (fun q hq => ?_)); (case h1 => wtm_at "sq"); wtm_at "absn") | ((with_reducible refine' i_lstOfT ?h1 (fun q hq => ?_)); (case h1 => wtm_at "sq"); wtm_at "absn") | ((with_reducible refine' i_slL ?h1 (fun q hq => ?_)); (case h1 => wtm_at "sq"); wtm_at "absn") | ((with_reducible refine' i_addL ?h1 ?h2 ?h3 (fun q hq => ?_)); (case h1 => wtm_at "get"); (case h2 => wtm_at "get"); (case h3 => first | assumption | exact line_le (by omega) | exact Nat.le_of_lt (line_lt (by simp only [List.length_append, List.length_cons, List.length_nil]; omega)) | decide); wtm_at "absn") | fail)
local macro_rules | `(tactic| wtm_at "go3") => `(tactic| fail)
local macro_rules | `(tactic| wtm_at "go3") => `(tactic| first | wtm_at "u" | fail)
local macro_rules | `(tactic| wtm_at "go3") => `(tactic| first | wtm_at "a" | fail)
local macro_rules | `(tactic| wtm_at "go3") => `(tactic| first | wtm_at "h" | fail)
local macro_rules | `(tactic| wtm_at "go3") => `(tactic| first | wtm_at "n" | fail)
local macro_rules | `(tactic| wtm_at "go") => `(tactic| repeat' (wtm_at "go3"))
local macro_rules | `(tactic| wtm_at "gs4") => `(tactic| fail)
local macro_rules | `(tactic| wtm_at "gs4") => `(tactic| first | with_reducible refine i_dec (fun _ => ?_) (fun _ => ?_) | fail)
local macro_rules | `(tactic| wtm_at "gs4") => `(tactic| first | wtm_at "u" | fail)
local macro_rules | `(tactic| wtm_at "gs4") => `(tactic| first | wtm_at "a" | fail)
local macro_rules | `(tactic| wtm_at "gs4") => `(tactic| first | wtm_at "h" | fail)
local macro_rules | `(tactic| wtm_at "gs4") => `(tactic| first | wtm_at "n" | fail)
local macro_rules | `(tactic| wtm_at "gs") => `(tactic| repeat' (wtm_at "gs4"))
/-! a join: what follows is shown once -/
theorem seq_rest {t u : TS} {D : Ends} {σ : St} {H : Hp} (J : St → Hp → Prop) (h1 : ∀ σ' H', J σ' H' → u D σ' H') (h2 : ∀ R : St → Hp → Prop, (∀ σ' H', J σ' H' → R σ' H') → t { D with nx := R } σ H) : tSeq t u D σ H := h2 _ h1
theorem i_seqIf {tc : TT} {t u v : TS} {D : Ends} {σ : St} {H : Hp} (h : tSeq (tIfS tc t u) v D σ H) : tSeq (tIfS tc t u) v D σ H := h
local macro_rules | `(tactic| wtm_at "gi5") => `(tactic| fail)
local macro_rules | `(tactic| wtm_at "gi5") => `(tactic| first | with_reducible refine i_dec (fun _ => ?_) (fun _ => ?_) | fail)
local macro_rules | `(tactic| wtm_at "gi5") => `(tactic| first | wtm_at "u" | fail)
local macro_rules | `(tactic| wtm_at "gi5") => `(tactic| first | wtm_at "a" | fail)
local macro_rules | `(tactic| wtm_at "gi5") => `(tactic| first | wtm_at "h" | fail)
local macro_rules | `(tactic| wtm_at "gi5") => `(tactic| first | wtm_at "n" | fail)
local macro_rules | `(tactic| wtm_at "gi") => `(tactic| repeat' ((fail_if_success (with_reducible refine i_seqIf ?_)); wtm_at "gi5"))
/-! ### the roads -/
structure RoAt (C : Addr) (H : Hp) (p dx w : Addr) (M : Nat) (ws : Ways) (last : Int) : Prop where
  hp : H p = some (.ins C dx [("kept_members", .int M), ("kept_way", .ref w), ("last_number", .int last)])
  hw : WayAt H w ws
  m : 2 ≤ M ∧ M ≤ 5
  ok : OkW ws last
theorem RoAt.same {C : Addr} {H H' : Hp} {p dx w : Addr} {M : Nat} {ws : Ways} {last : Int} (s : Same H H') (h : RoAt C H p dx w M ws last) : RoAt C H' p dx w M ws last := ⟨s _ _ h.hp, h.hw.same s, h.m, h.ok⟩
theorem RoAt.keeps {C : Addr} {H H' : Hp} {p dx w : Addr} {M : Nat} {ws : Ways} {last : Int} (k : ∀ b xs, H b = some (.tup xs) → H' b = some (.tup xs)) (e1 : ∀ u, H p = some u → H' p = some u) (e2 : ∀ u, H w = some u → H' w = some u) (h : RoAt C H p dx w M ws last) : RoAt C H' p dx w M ws last := ⟨e1 _ h.hp, h.hw.keeps k e2, h.m, h.ok⟩
local macro_rules | `(tactic| wtm_at "ro") => `(tactic| fail)
local macro_rules | `(tactic| wtm_at "ro") => `(tactic| first | wtm_at "as" | ((with_reducible refine' RoAt.same ?d1 ?d2); (case d2 => wtm_at "as"); (case d1 => wtm_at "same")) | fail)
local macro_rules | `(tactic| wtm_at "th") => `(tactic| fail)
local macro_rules | `(tactic| wtm_at "th") => `(tactic| first | wtm_at "as" | ((with_reducible refine' ThAt.same ?d1 ?d2); (case d2 => wtm_at "as"); (case d1 => wtm_at "same")) | fail)
local macro_rules | `(tactic| wtm_at "wa") => `(tactic| fail)
local macro_rules | `(tactic| wtm_at "wa") => `(tactic| first | wtm_at "as" | ((with_reducible refine' WayAt.same ?d1 ?d2); (case d2 => wtm_at "as"); (case d1 => wtm_at "same")) | fail)
def SameBs (L : List Addr) (H H' : Hp) : Prop := ∀ b u, b ∉ L → H b = some u → H' b = some u
theorem SameBs.tup {L : List Addr} {H H' : Hp} (hL : ∀ l ∈ L, ∀ xs, H l ≠ some (.tup xs)) (s : SameBs L H H') : ∀ b xs, H b = some (.tup xs) → H' b = some (.tup xs) := fun b xs e => s _ _ (fun h => hL b h xs e) e
/-- a start and a goal that are no road, and what is told of them -/
def BadM (K : PySem.W.Frag) (H : Hp) (M : Int) (x : V) : Prop := Kn K H x ∧ isWh 0 (.int (M - 1)) x = false
def BadR (K : PySem.W.Frag) (H : Hp) (M : Int) (s g f : V) : Prop := (BadM K H M s ∧ f = s) ∨ ∃ i, s = .int i ∧ (0 ≤ i ∧ i ≤ M - 1) ∧ ((BadM K H M g ∧ f = g) ∨ (g = .int i ∧ f = .int i))
def NoNu (K : PySem.W.Frag) (H : Hp) (ws : Ways) (x : V) : Prop := (Kn K H x ∧ isWh 1 .non x = false) ∨ ∃ n, x = .int n ∧ n ∉ ksW ws
theorem BadM.same {K : PySem.W.Frag} {H H' : Hp} {M : Int} {x : V} (s : Same H H') (h : BadM K H M x) : BadM K H' M x := ⟨Kn.same s h.1, h.2⟩
theorem BadR.same {K : PySem.W.Frag} {H H' : Hp} {M : Int} {s g f : V} (sm : Same H H') (h : BadR K H M s g f) : BadR K H' M s g f := by
  rcases h with ⟨h, e⟩ | ⟨i, e, h1, ⟨h2, e2⟩ | h2⟩
  · exact .inl ⟨h.same sm, e⟩
  · exact .inr ⟨i, e, h1, .inl ⟨h2.same sm, e2⟩⟩
  · exact .inr ⟨i, e, h1, .inr h2⟩
theorem NoNu.same {K : PySem.W.Frag} {H H' : Hp} {ws : Ways} {x : V} (sm : Same H H') (h : NoNu K H ws x) : NoNu K H' ws x := by
  rcases h with h | h
  · exact .inl ⟨Kn.same sm h.1, h.2⟩
  · exact .inr h
local macro_rules | `(tactic| wtm_at "br") => `(tactic| fail)
local macro_rules | `(tactic| wtm_at "br") => `(tactic| first | wtm_at "as" | ((with_reducible refine' BadR.same ?d1 ?d2); (case d2 => wtm_at "as"); (case d1 => wtm_at "same")) | fail)
local macro_rules | `(tactic| wtm_at "nu") => `(tactic| fail)
local macro_rules | `(tactic| wtm_at "nu") => `(tactic| first | wtm_at "as" | ((with_reducible refine' NoNu.same ?d1 ?d2); (case d2 => wtm_at "as"); (case d1 => wtm_at "same")) | fail)
/-- a copy of a thing -/
def spCopy (K : PySem.W.Frag) (n : Nat) : Sp := fun vs H Q _ => ∃ (v : V) (t : Tr), vs = [v] ∧ ThAt H t v ∧ t.le n ∧ ∀ HH y, Same H HH → ThAt HH t y → Q y HH
theorem copy_use {K : PySem.W.Frag} {n : Nat} {H : Hp} {Q : VK} {E : XK} {vs : List V} {v : V} {t : Tr} (h1 : ThAt H t v) (h2 : t.le n) (k : ∀ HH y, Same H HH → ThAt HH t y → Q y HH) (he : vs = [v] := by rfl) : spCopy K n vs H Q E := ⟨v, t, he, h1, h2, k⟩
def spMem (K : PySem.W.Frag) : Sp := fun vs H Q _ => ∃ x, vs = [x] ∧ Kn K H x ∧ Q (.bl (isWh 2 (.int 5) x)) H
theorem memI_use {K : PySem.W.Frag} {H : Hp} {Q : VK} {E : XK} {vs : List V} {m : Int} (h0 : 2 ≤ m ∧ m ≤ 5) (h : Q (.bl true) H) (he : vs = [.int m] := by rfl) : spMem K vs H Q E := ⟨_, he, trivial, cast_bl h (by simp [isWh, h0.1, h0.2])⟩
theorem memX_use {K : PySem.W.Frag} {H : Hp} {Q : VK} {E : XK} {vs : List V} {x : V} (hk : Kn K H x) (h0 : isWh 2 (.int 5) x = false) (h : Q (.bl false) H) (he : vs = [x] := by rfl) : spMem K vs H Q E := ⟨_, he, hk, cast_bl h h0.symm⟩
set_option hygiene false in
local macro_rules | `(tactic| wtm_at "u") => `(tactic| ((with_reducible refine' memI_use ?h0 ?_ ?he); (case he => rfl); (case h0 => first | wtm_at "as" | omega)))
set_option hygiene false in
local macro_rules | `(tactic| wtm_at "u") => `(tactic| ((with_reducible refine' memX_use ?h1 ?h0 ?_ ?he); (case he => rfl); (case h1 => wtm_at "kn"); (case h0 => wtm_at "as")))
set_option hygiene false in
local macro_rules | `(tactic| wtm_at "u") => `(tactic| first | with_reducible refine i_din ?_ | with_reducible refine i_dnotin ?_ | with_reducible refine i_dget ?_ | with_reducible refine i_pop1 ?_ | with_reducible refine i_items ?_ | fail)
def spRI (K : PySem.W.Frag) (a : Ad) : Sp := fun vs H Q E => ∃ (x dx : Addr) (v : V), vs = [.ref x, v] ∧ (H x = some (.ins a.Roads dx [])) ∧ ((∃ (M : Nat), (v = .int M) ∧ (2 ≤ M ∧ M ≤ 5) ∧ (∀ HH w, (SameBut x H HH) → (H w = none) → (RoAt a.Roads HH x dx w M [] 0) → Q (.non) HH)) ∨ ((Kn K H v) ∧ (isWh 2 (.int 5) v = false) ∧ (∀ HH ed, Same H HH → HH ed = some (.xd [("found", v)]) → E (.ref a.NoNumber) (some ed) HH)))
theorem spRI_u1 {K : PySem.W.Frag} {a : Ad} {H : Hp} {Q : VK} {E : XK} {vs : List V} {x dx : Addr} {v : V} {M : Nat} (g0 : H x = some (.ins a.Roads dx [])) (g1 : v = .int M) (g2 : 2 ≤ M ∧ M ≤ 5) (k : ∀ HH w, (SameBut x H HH) → (H w = none) → (RoAt a.Roads HH x dx w M [] 0) → Q (.non) HH) (he : vs = [.ref x, v] := by rfl) : spRI K a vs H Q E := ⟨x, dx, v, he, g0, .inl ⟨M, g1, g2, k⟩⟩
theorem spRI_u2 {K : PySem.W.Frag} {a : Ad} {H : Hp} {Q : VK} {E : XK} {vs : List V} {x dx : Addr} {v : V} (g0 : H x = some (.ins a.Roads dx [])) (g1 : Kn K H v) (g2 : isWh 2 (.int 5) v = false) (k : ∀ HH ed, Same H HH → HH ed = some (.xd [("found", v)]) → E (.ref a.NoNumber) (some ed) HH) (he : vs = [.ref x, v] := by rfl) : spRI K a vs H Q E := ⟨x, dx, v, he, g0, .inr (⟨g1, g2, k⟩)⟩
set_option hygiene false in
local macro_rules | `(tactic| wtm_at "u") => `(tactic| first | ((with_reducible refine' spRI_u1 ?g0 ?g1 ?g2 (fun HH w sb nw hro => ?_) ?he); (case he => rfl); (case g0 => wtm_at "get"); (case g1 => exact rfl); (case g2 => wtm_at "as")) | ((with_reducible refine' spRI_u2 ?g0 ?g1 ?g2 (fun HH ed sm hed => ?_) ?he); (case he => rfl); (case g0 => wtm_at "get"); (case g1 => wtm_at "kn"); (case g2 => wtm_at "as")) | fail)
def spRLen (K : PySem.W.Frag) (a : Ad) : Sp := fun vs H Q E => ∃ (p dx w : Addr) (M : Nat) (ws : Ways) (last : Int), vs = [.ref p] ∧ (RoAt a.Roads H p dx w M ws last) ∧ (Q (.int ws.length) H)
theorem spRLen_u1 {K : PySem.W.Frag} {a : Ad} {H : Hp} {Q : VK} {E : XK} {vs : List V} {p dx w : Addr} {M : Nat} {ws : Ways} {last : Int} (g0 : RoAt a.Roads H p dx w M ws last) (k : Q (.int ws.length) H) (he : vs = [.ref p] := by rfl) : spRLen K a vs H Q E := ⟨p, dx, w, M, ws, last, he, g0, k⟩
set_option hygiene false in
local macro_rules | `(tactic| wtm_at "u") => `(tactic| first | ((with_reducible refine' spRLen_u1 ?g0 ?_ ?he); (case he => rfl); (case g0 => wtm_at "ro")) | fail)
def spNR (K : PySem.W.Frag) (a : Ad) : Sp := fun vs H Q E => ∃ (p dx w : Addr) (M : Nat) (last : Int) (s g : V), vs = [.ref p, s, g] ∧ (H p = some (.ins a.Roads dx [("kept_members", .int M), ("kept_way", .ref w), ("last_number", .int last)])) ∧ ((∃ (i j : Int), (s = .int i) ∧ (g = .int j) ∧ (0 ≤ i ∧ i ≤ (M : Int) - 1) ∧ (0 ≤ j ∧ j ≤ (M : Int) - 1) ∧ (j ≠ i) ∧ (Q (.non) H)) ∨ (∃ (f : V), (BadR K H M s g f) ∧ (∀ HH ed, Same H HH → HH ed = some (.xd [("found", f)]) → E (.ref a.NoMember) (some ed) HH)))
theorem spNR_u1 {K : PySem.W.Frag} {a : Ad} {H : Hp} {Q : VK} {E : XK} {vs : List V} {p dx w : Addr} {M : Nat} {last : Int} {s g : V} {i j : Int} (g0 : H p = some (.ins a.Roads dx [("kept_members", .int M), ("kept_way", .ref w), ("last_number", .int last)])) (g1 : s = .int i) (g2 : g = .int j) (g3 : 0 ≤ i ∧ i ≤ (M : Int) - 1) (g4 : 0 ≤ j ∧ j ≤ (M : Int) - 1) (g5 : j ≠ i) (k : Q (.non) H) (he : vs = [.ref p, s, g] := by rfl) : spNR K a vs H Q E := ⟨p, dx, w, M, last, s, g, he, g0, .inl ⟨i, j, g1, g2, g3, g4, g5, k⟩⟩
theorem spNR_u2 {K : PySem.W.Frag} {a : Ad} {H : Hp} {Q : VK} {E : XK} {vs : List V} {p dx w : Addr} {M : Nat} {last : Int} {s g : V} {f : V} (g0 : H p = some (.ins a.Roads dx [("kept_members", .int M), ("kept_way", .ref w), ("last_number", .int last)])) (g1 : BadR K H M s g f) (k : ∀ HH ed, Same H HH → HH ed = some (.xd [("found", f)]) → E (.ref a.NoMember) (some ed) HH) (he : vs = [.ref p, s, g] := by rfl) : spNR K a vs H Q E := ⟨p, dx, w, M, last, s, g, he, g0, .inr (⟨f, g1, k⟩)⟩
set_option hygiene false in
local macro_rules | `(tactic| wtm_at "u") => `(tactic| first | ((with_reducible refine' spNR_u1 ?g0 ?g1 ?g2 ?g3 ?g4 ?g5 ?_ ?he); (case he => rfl); (case g0 => wtm_at "get"); (case g1 => exact rfl); (case g2 => exact rfl); (case g3 => wtm_at "as"); (case g4 => wtm_at "as"); (case g5 => wtm_at "as")) | ((with_reducible refine' spNR_u2 ?g0 ?g1 (fun HH ed sm hed => ?_) ?he); (case he => rfl); (case g0 => wtm_at "get"); (case g1 => wtm_at "br")) | fail)
def spNN (K : PySem.W.Frag) (a : Ad) : Sp := fun vs H Q E => ∃ (p dx w : Addr) (M : Nat) (ws : Ways) (last : Int) (x : V), vs = [.ref p, x] ∧ (RoAt a.Roads H p dx w M ws last) ∧ ((∃ (n : Int) (r : Wy), (x = .int n) ∧ ((n, r) ∈ ws) ∧ (Q (.non) H)) ∨ ((NoNu K H ws x) ∧ (∀ HH ed, Same H HH → HH ed = some (.xd [("found", x)]) → E (.ref a.NotOnRoad) (some ed) HH)))
theorem spNN_u1 {K : PySem.W.Frag} {a : Ad} {H : Hp} {Q : VK} {E : XK} {vs : List V} {p dx w : Addr} {M : Nat} {ws : Ways} {last : Int} {x : V} {n : Int} {r : Wy} (g0 : RoAt a.Roads H p dx w M ws last) (g1 : x = .int n) (g2 : (n, r) ∈ ws) (k : Q (.non) H) (he : vs = [.ref p, x] := by rfl) : spNN K a vs H Q E := ⟨p, dx, w, M, ws, last, x, he, g0, .inl ⟨n, r, g1, g2, k⟩⟩
theorem spNN_u2 {K : PySem.W.Frag} {a : Ad} {H : Hp} {Q : VK} {E : XK} {vs : List V} {p dx w : Addr} {M : Nat} {ws : Ways} {last : Int} {x : V} (g0 : RoAt a.Roads H p dx w M ws last) (g1 : NoNu K H ws x) (k : ∀ HH ed, Same H HH → HH ed = some (.xd [("found", x)]) → E (.ref a.NotOnRoad) (some ed) HH) (he : vs = [.ref p, x] := by rfl) : spNN K a vs H Q E := ⟨p, dx, w, M, ws, last, x, he, g0, .inr (⟨g1, k⟩)⟩
set_option hygiene false in
local macro_rules | `(tactic| wtm_at "u") => `(tactic| first | ((with_reducible refine' spNN_u1 ?g0 ?g1 ?g2 ?_ ?he); (case he => rfl); (case g0 => wtm_at "ro"); (case g1 => exact rfl); (case g2 => wtm_at "as")) | ((with_reducible refine' spNN_u2 ?g0 ?g1 (fun HH ed sm hed => ?_) ?he); (case he => rfl); (case g0 => wtm_at "ro"); (case g1 => wtm_at "nu")) | fail)
def spPO (K : PySem.W.Frag) (a : Ad) : Sp := fun vs H Q E => ∃ (p dx w : Addr) (M : Nat) (ws : Ways) (last : Int) (v : V) (r : Wy), vs = [.ref p, v] ∧ (RoAt a.Roads H p dx w M ws last) ∧ (ThAt H r.tr v) ∧ (r.t.le 3) ∧ (ws.length < 60) ∧ (∀ HH, (SameBs [p, w] H HH) → (RoAt a.Roads HH p dx w M (ws ++ [(last + 1, r)]) (last + 1)) → Q (.int (last + 1)) HH)
theorem spPO_u1 {K : PySem.W.Frag} {a : Ad} {H : Hp} {Q : VK} {E : XK} {vs : List V} {p dx w : Addr} {M : Nat} {ws : Ways} {last : Int} {v : V} {r : Wy} (g0 : RoAt a.Roads H p dx w M ws last) (g1 : ThAt H r.tr v) (g2 : r.t.le 3) (g3 : ws.length < 60) (k : ∀ HH, (SameBs [p, w] H HH) → (RoAt a.Roads HH p dx w M (ws ++ [(last + 1, r)]) (last + 1)) → Q (.int (last + 1)) HH) (he : vs = [.ref p, v] := by rfl) : spPO K a vs H Q E := ⟨p, dx, w, M, ws, last, v, r, he, g0, g1, g2, g3, k⟩
set_option hygiene false in
local macro_rules | `(tactic| wtm_at "u") => `(tactic| first | ((with_reducible refine' spPO_u1 ?g0 ?g1 ?g2 ?g3 (fun HH sb hro' => ?_) ?he); (case he => rfl); (case g0 => wtm_at "ro"); (case g1 => wtm_at "th"); (case g2 => wtm_at "as"); (case g3 => wtm_at "as")) | fail)
def spPut (K : PySem.W.Frag) (a : Ad) : Sp := fun vs H Q E => ∃ (p dx w : Addr) (M : Nat) (ws : Ways) (last : Int) (s g v : V), vs = [.ref p, s, g, v] ∧ (RoAt a.Roads H p dx w M ws last) ∧ ((∃ (i j : Int) (t : Tr), (s = .int i) ∧ (g = .int j) ∧ (0 ≤ i ∧ i ≤ (M : Int) - 1) ∧ (0 ≤ j ∧ j ≤ (M : Int) - 1) ∧ (j ≠ i) ∧ (ThAt H t v) ∧ (t.le 3) ∧ (ws.length < 60) ∧ (∀ HH, (SameBs [p, w] H HH) → (RoAt a.Roads HH p dx w M (ws ++ [(last + 1, ⟨i, j, t⟩)]) (last + 1)) → Q (.int (last + 1)) HH)) ∨ (∃ (f : V), (BadR K H M s g f) ∧ (∀ HH ed, Same H HH → HH ed = some (.xd [("found", f)]) → E (.ref a.NoMember) (some ed) HH)))
theorem spPut_u1 {K : PySem.W.Frag} {a : Ad} {H : Hp} {Q : VK} {E : XK} {vs : List V} {p dx w : Addr} {M : Nat} {ws : Ways} {last : Int} {s g v : V} {i j : Int} {t : Tr} (g0 : RoAt a.Roads H p dx w M ws last) (g1 : s = .int i) (g2 : g = .int j) (g3 : 0 ≤ i ∧ i ≤ (M : Int) - 1) (g4 : 0 ≤ j ∧ j ≤ (M : Int) - 1) (g5 : j ≠ i) (g6 : ThAt H t v) (g7 : t.le 3) (g8 : ws.length < 60) (k : ∀ HH, (SameBs [p, w] H HH) → (RoAt a.Roads HH p dx w M (ws ++ [(last + 1, ⟨i, j, t⟩)]) (last + 1)) → Q (.int (last + 1)) HH) (he : vs = [.ref p, s, g, v] := by rfl) : spPut K a vs H Q E := ⟨p, dx, w, M, ws, last, s, g, v, he, g0, .inl ⟨i, j, t, g1, g2, g3, g4, g5, g6, g7, g8, k⟩⟩
theorem spPut_u2 {K : PySem.W.Frag} {a : Ad} {H : Hp} {Q : VK} {E : XK} {vs : List V} {p dx w : Addr} {M : Nat} {ws : Ways} {last : Int} {s g v : V} {f : V} (g0 : RoAt a.Roads H p dx w M ws last) (g1 : BadR K H M s g f) (k : ∀ HH ed, Same H HH → HH ed = some (.xd [("found", f)]) → E (.ref a.NoMember) (some ed) HH) (he : vs = [.ref p, s, g, v] := by rfl) : spPut K a vs H Q E := ⟨p, dx, w, M, ws, last, s, g, v, he, g0, .inr (⟨f, g1, k⟩)⟩
set_option hygiene false in
local macro_rules | `(tactic| wtm_at "u") => `(tactic| first | ((with_reducible refine' spPut_u1 ?g0 ?g1 ?g2 ?g3 ?g4 ?g5 ?g6 ?g7 ?g8 (fun HH sb hro' => ?_) ?he); (case he => rfl); (case g0 => wtm_at "ro"); (case g1 => exact rfl); (case g2 => exact rfl); (case g3 => wtm_at "as"); (case g4 => wtm_at "as"); (case g5 => wtm_at "as"); (case g6 => wtm_at "th"); (case g7 => wtm_at "as"); (case g8 => wtm_at "as")) | ((with_reducible refine' spPut_u2 ?g0 ?g1 (fun HH ed sm hed => ?_) ?he); (case he => rfl); (case g0 => wtm_at "ro"); (case g1 => wtm_at "br")) | fail)
def spCome (K : PySem.W.Frag) (a : Ad) : Sp := fun vs H Q E => ∃ (p dx w : Addr) (M : Nat) (ws : Ways) (last : Int) (x : V), vs = [.ref p, x] ∧ (RoAt a.Roads H p dx w M ws last) ∧ ((∃ (n : Int) (r : Wy), (x = .int n) ∧ ((n, r) ∈ ws) ∧ (∀ HH y, (SameBut w H HH) → (RoAt a.Roads HH p dx w M (dropW ws n) last) → (ThAt HH r.tr y) → Q (y) HH)) ∨ ((NoNu K H ws x) ∧ (∀ HH ed, Same H HH → HH ed = some (.xd [("found", x)]) → E (.ref a.NotOnRoad) (some ed) HH)))
theorem spCome_u1 {K : PySem.W.Frag} {a : Ad} {H : Hp} {Q : VK} {E : XK} {vs : List V} {p dx w : Addr} {M : Nat} {ws : Ways} {last : Int} {x : V} {n : Int} {r : Wy} (g0 : RoAt a.Roads H p dx w M ws last) (g1 : x = .int n) (g2 : (n, r) ∈ ws) (k : ∀ HH y, (SameBut w H HH) → (RoAt a.Roads HH p dx w M (dropW ws n) last) → (ThAt HH r.tr y) → Q (y) HH) (he : vs = [.ref p, x] := by rfl) : spCome K a vs H Q E := ⟨p, dx, w, M, ws, last, x, he, g0, .inl ⟨n, r, g1, g2, k⟩⟩
theorem spCome_u2 {K : PySem.W.Frag} {a : Ad} {H : Hp} {Q : VK} {E : XK} {vs : List V} {p dx w : Addr} {M : Nat} {ws : Ways} {last : Int} {x : V} (g0 : RoAt a.Roads H p dx w M ws last) (g1 : NoNu K H ws x) (k : ∀ HH ed, Same H HH → HH ed = some (.xd [("found", x)]) → E (.ref a.NotOnRoad) (some ed) HH) (he : vs = [.ref p, x] := by rfl) : spCome K a vs H Q E := ⟨p, dx, w, M, ws, last, x, he, g0, .inr (⟨g1, k⟩)⟩
set_option hygiene false in
local macro_rules | `(tactic| wtm_at "u") => `(tactic| first | ((with_reducible refine' spCome_u1 ?g0 ?g1 ?g2 (fun HH y sb hro' hy => ?_) ?he); (case he => rfl); (case g0 => wtm_at "ro"); (case g1 => exact rfl); (case g2 => wtm_at "as")) | ((with_reducible refine' spCome_u2 ?g0 ?g1 (fun HH ed sm hed => ?_) ?he); (case he => rfl); (case g0 => wtm_at "ro"); (case g1 => wtm_at "nu")) | fail)
def spDbl (K : PySem.W.Frag) (a : Ad) : Sp := fun vs H Q E => ∃ (p dx w : Addr) (M : Nat) (ws : Ways) (last : Int) (x : V), vs = [.ref p, x] ∧ (RoAt a.Roads H p dx w M ws last) ∧ ((∃ (n : Int) (r : Wy), (x = .int n) ∧ ((n, r) ∈ ws) ∧ (ws.length < 60) ∧ (∀ HH, (SameBs [p, w] H HH) → (RoAt a.Roads HH p dx w M (ws ++ [(last + 1, r)]) (last + 1)) → Q (.int (last + 1)) HH)) ∨ ((NoNu K H ws x) ∧ (∀ HH ed, Same H HH → HH ed = some (.xd [("found", x)]) → E (.ref a.NotOnRoad) (some ed) HH)))
theorem spDbl_u1 {K : PySem.W.Frag} {a : Ad} {H : Hp} {Q : VK} {E : XK} {vs : List V} {p dx w : Addr} {M : Nat} {ws : Ways} {last : Int} {x : V} {n : Int} {r : Wy} (g0 : RoAt a.Roads H p dx w M ws last) (g1 : x = .int n) (g2 : (n, r) ∈ ws) (g3 : ws.length < 60) (k : ∀ HH, (SameBs [p, w] H HH) → (RoAt a.Roads HH p dx w M (ws ++ [(last + 1, r)]) (last + 1)) → Q (.int (last + 1)) HH) (he : vs = [.ref p, x] := by rfl) : spDbl K a vs H Q E := ⟨p, dx, w, M, ws, last, x, he, g0, .inl ⟨n, r, g1, g2, g3, k⟩⟩
theorem spDbl_u2 {K : PySem.W.Frag} {a : Ad} {H : Hp} {Q : VK} {E : XK} {vs : List V} {p dx w : Addr} {M : Nat} {ws : Ways} {last : Int} {x : V} (g0 : RoAt a.Roads H p dx w M ws last) (g1 : NoNu K H ws x) (k : ∀ HH ed, Same H HH → HH ed = some (.xd [("found", x)]) → E (.ref a.NotOnRoad) (some ed) HH) (he : vs = [.ref p, x] := by rfl) : spDbl K a vs H Q E := ⟨p, dx, w, M, ws, last, x, he, g0, .inr (⟨g1, k⟩)⟩
set_option hygiene false in
local macro_rules | `(tactic| wtm_at "u") => `(tactic| first | ((with_reducible refine' spDbl_u1 ?g0 ?g1 ?g2 ?g3 (fun HH sb hro' => ?_) ?he); (case he => rfl); (case g0 => wtm_at "ro"); (case g1 => exact rfl); (case g2 => wtm_at "as"); (case g3 => wtm_at "as")) | ((with_reducible refine' spDbl_u2 ?g0 ?g1 (fun HH ed sm hed => ?_) ?he); (case he => rfl); (case g0 => wtm_at "ro"); (case g1 => wtm_at "nu")) | fail)
def spUW (K : PySem.W.Frag) (a : Ad) : Sp := fun vs H Q E => ∃ (p dx w : Addr) (M : Nat) (ws : Ways) (last : Int), vs = [.ref p] ∧ (RoAt a.Roads H p dx w M ws last) ∧ (∀ HH l ys, (Same H HH) → (H l = none) → (HH l = some (.lst ys)) → (All2 (fun v t => ThAt HH t v) ys (ws.map fun z => z.2.tn z.1)) → Q (.ref l) HH)
theorem spUW_u1 {K : PySem.W.Frag} {a : Ad} {H : Hp} {Q : VK} {E : XK} {vs : List V} {p dx w : Addr} {M : Nat} {ws : Ways} {last : Int} (g0 : RoAt a.Roads H p dx w M ws last) (k : ∀ HH l ys, (Same H HH) → (H l = none) → (HH l = some (.lst ys)) → (All2 (fun v t => ThAt HH t v) ys (ws.map fun z => z.2.tn z.1)) → Q (.ref l) HH) (he : vs = [.ref p] := by rfl) : spUW K a vs H Q E := ⟨p, dx, w, M, ws, last, he, g0, k⟩
set_option hygiene false in
local macro_rules | `(tactic| wtm_at "u") => `(tactic| first | ((with_reducible refine' spUW_u1 ?g0 (fun HH l ys sm no hl hy => ?_) ?he); (case he => rfl); (case g0 => wtm_at "ro")) | fail)
def spBet (K : PySem.W.Frag) (a : Ad) : Sp := fun vs H Q E => ∃ (p dx w : Addr) (M : Nat) (ws : Ways) (last : Int) (s g f : V), vs = [.ref p, s, g] ∧ (RoAt a.Roads H p dx w M ws last) ∧ (BadR K H M s g f) ∧ (∀ HH ed, Same H HH → HH ed = some (.xd [("found", f)]) → E (.ref a.NoMember) (some ed) HH)
theorem spBet_u1 {K : PySem.W.Frag} {a : Ad} {H : Hp} {Q : VK} {E : XK} {vs : List V} {p dx w : Addr} {M : Nat} {ws : Ways} {last : Int} {s g f : V} (g0 : RoAt a.Roads H p dx w M ws last) (g1 : BadR K H M s g f) (k : ∀ HH ed, Same H HH → HH ed = some (.xd [("found", f)]) → E (.ref a.NoMember) (some ed) HH) (he : vs = [.ref p, s, g] := by rfl) : spBet K a vs H Q E := ⟨p, dx, w, M, ws, last, s, g, f, he, g0, g1, k⟩
set_option hygiene false in
local macro_rules | `(tactic| wtm_at "u") => `(tactic| first | ((with_reducible refine' spBet_u1 ?g0 ?g1 (fun HH ed sm hed => ?_) ?he); (case he => rfl); (case g0 => wtm_at "ro"); (case g1 => wtm_at "br")) | fail)
def spRTw (K : PySem.W.Frag) (a : Ad) : Sp := fun vs H Q E => ∃ (p dx0 w0 : Addr) (M : Nat) (ws : Ways) (last : Int), vs = [.ref p] ∧ (RoAt a.Roads H p dx0 w0 M ws last) ∧ (∀ HH x dx' w', (Same H HH) → (H x = none) → (H w' = none) → (RoAt a.Roads HH x dx' w' M ws last) → Q (.ref x) HH)
theorem spRTw_u1 {K : PySem.W.Frag} {a : Ad} {H : Hp} {Q : VK} {E : XK} {vs : List V} {p dx0 w0 : Addr} {M : Nat} {ws : Ways} {last : Int} (g0 : RoAt a.Roads H p dx0 w0 M ws last) (k : ∀ HH x dx' w', (Same H HH) → (H x = none) → (H w' = none) → (RoAt a.Roads HH x dx' w' M ws last) → Q (.ref x) HH) (he : vs = [.ref p] := by rfl) : spRTw K a vs H Q E := ⟨p, dx0, w0, M, ws, last, he, g0, k⟩
set_option hygiene false in
local macro_rules | `(tactic| wtm_at "u") => `(tactic| first | ((with_reducible refine' spRTw_u1 ?g0 (fun HH x dx' w' sm nx nw hro' => ?_) ?he); (case he => rfl); (case g0 => wtm_at "ro")) | fail)
section
variable {P : Program} {w : World} {K : PySem.W.Frag} {mg : Str → Option Value} {base : Heap} {a : Ad}
theorem ok_are_members (T : Txt K mg a) : FnOk P w K mg base CX0 2 a.are_members a.d_are_members ["thing"] (spMem K) := by
  refine fund_ok0 T.F_are_members sc_are_members (fun vs H Q E h => ?_) (fun cdv A outer s H vs Q E hr h => ?_)
  · obtain ⟨x, rfl, hk, k⟩ := h
    rfl
  · obtain ⟨x, rfl, hk, k⟩ := h
    refine ⟨_, (pss_one (ps_ret (pe_call (ok_is_whole (K := K) T) (hr.mono (by decide)) (by rfl) T.m_is_whole T.F_is_whole.kp T.B_is_whole .nil pass0 (pa_cons (pv 0) (pa_cons (pe_globE rfl T.g_LEAST_MEMBERS) (pa_cons (pe_globE rfl T.g_MOST_MEMBERS) pa_nil)))))), ?_⟩
    dsimp only [L2.start, List.map_cons, List.map_nil, List.map, List.length_cons, List.length_nil, Nat.reduceAdd, Nat.reduceSub, List.replicate, List.cons_append, List.nil_append]
    wtm_at "gs"
    exact k
theorem okr_copied_thing (T : Txt K mg a) {n : Nat} (ih : FnOk P w K mg base CX0 (n + 1) a.copied_thing a.d_copied_thing ["thing"] (spCopy K n)) : FnOk P w K mg base CX0 (n + 2) a.copied_thing a.d_copied_thing ["thing"] (spCopy K (n + 1)) := by
  refine fund_ok0 T.F_copied_thing sc_copied_thing (fun vs H Q E h => ?_) (fun cdv A outer s H vs Q E hr h => ?_)
  · obtain ⟨v, t, rfl, hv, ht, k⟩ := h
    rfl
  · obtain ⟨v, t, rfl, hv, ht, k⟩ := h
    refine ⟨_, (pss_cons (ps_if (pt_val (pe_callB (call_isiB .lst (K := K)) (by rfl) T.b_isinstance (by decide +kernel) (pa_cons (pv 0) (pa_cons (pe_bltn (v := .ty "list") (u := .type "list") (by rfl) T.b_list (by decide +kernel) rfl) pa_nil)))) (pss_one (ps_ret (pe_lc (own := [("part", 1)]) rfl sc_copied_thing.nd (pi_seqK (K := K) (pv 0)) (blkOk_by (own := [("part", 1)]) (N := ["thing", "part", "copied", "key"]) (sc := defScope s_copied_thing) (by decide +kernel)) (fun _ _ _ _ _ => (pg_name (i := 1) sc_copied_thing.nd rfl (by first | exact Or.inl rfl | exact Or.inr rfl))) (fun _ _ _ _ _ => pts_nil) (fun _ _ _ _ _ => (pe_call ih hr (by rfl) T.m_copied_thing T.F_copied_thing.kp T.B_copied_thing .nil pass0 (pa_cons (pv 1) pa_nil)))))) pss_nil)
    (pss_cons (ps_if (pt_val (pe_callB (call_isiB .tup (K := K)) (by rfl) T.b_isinstance (by decide +kernel) (pa_cons (pv 0) (pa_cons (pe_bltn (v := .ty "tuple") (u := .type "tuple") (by rfl) T.b_tuple (by decide +kernel) rfl) pa_nil)))) (pss_one (ps_ret (pe_callTy (call_tupOf (K := K)) (by rfl) T.b_tuple (by decide +kernel) (pa_cons (pe_lc (own := [("part", 1)]) rfl sc_copied_thing.nd (pi_seqK (K := K) (pv 0)) (blkOk_by (own := [("part", 1)]) (N := ["thing", "part", "copied", "key"]) (sc := defScope s_copied_thing) (by decide +kernel)) (fun _ _ _ _ _ => (pg_name (i := 1) sc_copied_thing.nd rfl (by first | exact Or.inl rfl | exact Or.inr rfl))) (fun _ _ _ _ _ => pts_nil) (fun _ _ _ _ _ => (pe_call ih hr (by rfl) T.m_copied_thing T.F_copied_thing.kp T.B_copied_thing .nil pass0 (pa_cons (pv 1) pa_nil)))) pa_nil)))) pss_nil)
    (pss_cons (ps_if (pt_val (pe_callB (call_isiB .dct (K := K)) (by rfl) T.b_isinstance (by decide +kernel) (pa_cons (pv 0) (pa_cons (pe_bltn (v := .ty "dict") (u := .type "dict") (by rfl) T.b_dict (by decide +kernel) rfl) pa_nil)))) (pss_cons (ps_set (i := 2) sc_copied_thing.nd rfl (by first | exact Or.inl rfl | exact Or.inr rfl) pe_dnewK)
    (pss_cons (ps_lock (ps_for PassesOwn.never rfl (pi_items (pv 0)) (pg_tupK (K := K) (n := 2) rfl (pgs_cons (pg_name (i := 3) sc_copied_thing.nd rfl (by first | exact Or.inl rfl | exact Or.inr rfl)) (pgs_cons (pg_name (i := 1) sc_copied_thing.nd rfl (by first | exact Or.inl rfl | exact Or.inr rfl)) pgs_nil)))
    (pss_one (ps_asg (pe_call ih hr (by rfl) T.m_copied_thing T.F_copied_thing.kp T.B_copied_thing .nil pass0 (pa_cons (pv 1) pa_nil)) (pg_sub (pv 2) (pv 3) (set_dict (unit1 hr)))))))
    (pss_one (ps_ret (pv 2))))) pss_nil)
    (pss_one (ps_ret (pv 0)))))), ?_⟩
    dsimp only [L2.start, List.map_cons, List.map_nil, List.map, List.length_cons, List.length_nil, Nat.reduceAdd, Nat.reduceSub, List.replicate, List.cons_append, List.nil_append]
    cases t with
    | flat x =>
      obtain ⟨rfl, hx⟩ := thFlat.mp hv
      have hk : Kn K H v := by cases v <;> first | exact trivial | cases hx
      cases v <;> first | (cases hx; done) | skip
      all_goals wtm_at "gs"
      all_goals exact k _ _ (Same.refl _) hv
    | tup ts =>
      obtain ⟨q, vs, rfl, hq, hvs⟩ := thTup.mp hv
      have lv : vs.length = ts.length := hvs.1
      have lt := ht.1
      wtm_at "gs"
      intro D hD
      refine' lc_mpT (fun H v t => ThAt H t v) (fun H v t => ThAt H t v) id (fun s h => h.same s) ThAt.stays (.of hq) hvs hD (small1000 (by omega)) (fun x c hc H1 Q1 R1 s1 hx hacc k1 => ?e1) (fun H1 ys s1 e1 hys => ?e2)
      case e1 =>
        wtm_at "gs"
        exact ⟨x, c, rfl, hx, ht.2 c hc, fun HH y sm hy => k1 y HH sm hy⟩
      case e2 =>
        rw [List.map_id] at hys
        wtm_at "gs"
        exact k _ _ (s1.trans sa) (thTup.mpr ⟨_, ys, rfl, hg, hys.mono fun _ _ => ThAt.same sa⟩)
theorem ok_copied_thing (T : Txt K mg a) : FnOk P w K mg base CX0 5 a.copied_thing a.d_copied_thing ["thing"] (spCopy K 4) := by
  have key : ∀ n : Nat, FnOk P w K mg base CX0 (n + 1) a.copied_thing a.d_copied_thing ["thing"] (spCopy K n) := by
    intro n
    induction n with
    | zero => exact fund_ok0 T.F_copied_thing sc_copied_thing (fun vs H Q E h => by obtain ⟨v, t, rfl, h1, h2, k⟩ := h; rfl) (fun cdv A outer s H vs Q E hr h => by obtain ⟨v, t, rfl, h1, h2, k⟩ := h; exact h2.elim)
    | succ n ih => exact okr_copied_thing T ih
  exact key 4
set_option hygiene false in
local macro_rules | `(tactic| wtm_at "u") => `(tactic| ((with_reducible refine' copy_use ?h1 ?h2 (fun HH y sm hy => ?_) ?he); (case he => rfl); (case h1 => wtm_at "th"); (case h2 => first | wtm_at "as" | skip)))
end
local macro_rules | `(tactic| wtm_at "zz") => `(tactic| skip)
theorem spNR_at {K : PySem.W.Frag} {a : Ad} {H : Hp} {Q : VK} {E : XK} {p dx w : Addr} {M : Nat} {last : Int} {s g f : V} (hp : H p = some (.ins a.Roads dx [("kept_members", .int M), ("kept_way", .ref w), ("last_number", .int last)])) (hb : BadR K H M s g f) (k : ∀ HH ed, Same H HH → HH ed = some (.xd [("found", f)]) → E (.ref a.NoMember) (some ed) HH) : spNR K a [.ref p, s, g] H Q E := spNR_u2 hp hb k
theorem ok_NoNumber_init (T : Txt K mg a) : FnOk P w K mg base CX0 1 a.NoNumber_init a.d_NoNumber_init ["self", "found"] (spExI a.NoNumber "found") := by
  refine fund_ok0 T.F_NoNumber_init sc_NoNumber_init (fun vs H Q E h => ?_) (fun cdv A outer s H vs Q E hr h => ?_)
  · obtain ⟨b, v, rfl, h⟩ := h
    rfl
  · exact ⟨_, pss_cons (ps_expr (pe_hinit (by rfl) T.m_HallError T.hs_HallError T.hq_HallError T.hf_HallError (pa_cons (pv 0) (pa_cons pe_str pa_nil)))) (pss_one (ps_ost (pv 0) (pv 1))), exc_read rfl T.o_NoNumber T.n_NoNumber_found h⟩
theorem ok_NoMember_init (T : Txt K mg a) : FnOk P w K mg base CX0 1 a.NoMember_init a.d_NoMember_init ["self", "found"] (spExI a.NoMember "found") := by
  refine fund_ok0 T.F_NoMember_init sc_NoMember_init (fun vs H Q E h => ?_) (fun cdv A outer s H vs Q E hr h => ?_)
  · obtain ⟨b, v, rfl, h⟩ := h
    rfl
  · exact ⟨_, pss_cons (ps_expr (pe_hinit (by rfl) T.m_HallError T.hs_HallError T.hq_HallError T.hf_HallError (pa_cons (pv 0) (pa_cons pe_str pa_nil)))) (pss_one (ps_ost (pv 0) (pv 1))), exc_read rfl T.o_NoMember T.n_NoMember_found h⟩
theorem ok_NotOnRoad_init (T : Txt K mg a) : FnOk P w K mg base CX0 1 a.NotOnRoad_init a.d_NotOnRoad_init ["self", "found"] (spExI a.NotOnRoad "found") := by
  refine fund_ok0 T.F_NotOnRoad_init sc_NotOnRoad_init (fun vs H Q E h => ?_) (fun cdv A outer s H vs Q E hr h => ?_)
  · obtain ⟨b, v, rfl, h⟩ := h
    rfl
  · exact ⟨_, pss_cons (ps_expr (pe_hinitT famK (by rfl) T.m_Missing T.hs_Missing T.hq_Missing T.hf_Missing (pa_cons (pv 0) (pa_cons pe_str pa_nil)))) (pss_one (ps_ostT famK (pv 0) (pv 1))), exc_readT rfl T.o_NotOnRoad T.n_NotOnRoad_found h⟩
section
variable {P : Program} {w : World} {K : PySem.W.Frag} {mg : Str → Option Value} {base : Heap} {a : Ad}
theorem ok_Roads_init (T : Txt K mg a) : FnOk P w K mg base (L2.CX P w) 3 a.Roads_init a.d_Roads_init ["self", "members"] (spRI K a) := by
  refine fund_okX T.F_Roads_init sc_Roads_init (fun vs H Q E h => ?_) (fun cdv A outer s H vs Q E hr tk hp h => ?_)
  · obtain ⟨x, dx, v, rfl, hx, h⟩ := h
    rfl
  · obtain ⟨x, dx, v, rfl, hx, h⟩ := h
    refine ⟨_, (pss_cons (ps_if (pt_not (pt_val (pe_call (ok_are_members (K := K) T) (hr.mono (by decide)) (by rfl) T.m_are_members T.F_are_members.kp T.B_are_members .nil pass0 (pa_cons (pv 1) pa_nil)))) (pss_one (ps_raiseM rfl tk (pmk_exc T.o_NoNumber T.oi_NoNumber T.ot_NoNumber (ok_NoNumber_init (K := K) T) (hr.mono (by decide)) T.B_NoNumber_init (by rfl) T.m_NoNumber (pa_cons (pv 1) pa_nil)))) pss_nil)
    (pss_cons (ps_fldK (K := K) (pv 0) (pv 1))
    (pss_cons (ps_fldK (K := K) (pv 0) pe_dnewK)
    (pss_one (ps_fldK (K := K) (pv 0) pe_int))))), ?_⟩
    clear tk hp
    dsimp only [L2.start, List.map_cons, List.map_nil, List.map, List.length_cons, List.length_nil, Nat.reduceAdd, Nat.reduceSub, List.replicate, List.cons_append, List.nil_append]
    rcases h with ⟨M, rfl, hM, k⟩ | ⟨hkn, hv, k⟩
    · wtm_at "gs"
      obtain ⟨HF, eF⟩ : ∃ y, y = (upd (upd HN x (.ins a.Roads dx [("kept_members", .int M), ("kept_way", .ref q)])) x (.ins a.Roads dx [("kept_members", .int M), ("kept_way", .ref q), ("last_number", .int 0)])) := ⟨_, rfl⟩
      have nq : q ≠ x := fun c => by rw [c, upd_same] at hq; cases hq
      have sb : SameBut x H HF := fun b u n e => by
        rw [eF, upd_ne n, upd_ne n]
        exact sa _ _ (by rw [upd_ne n]; exact e)
      have gx : HF x = some (.ins a.Roads dx [("kept_members", .int M), ("kept_way", .ref q), ("last_number", .int 0)]) := by rw [eF]; exact upd_same
      have gq : HF q = some (.dK []) := by rw [eF, upd_ne nq, upd_ne nq]; exact hg
      have hqH : H q = none := by rw [upd_ne nq] at hq; exact hq
      show Q .non _
      have e2 := k HF q sb hqH ⟨gx, ⟨[], gq, All2.nil⟩, hM, OkW.new⟩
      rw [eF] at e2
      exact e2
    · wtm_at "gs"
      exact k _ _ (by wtm_at "rz") (by wtm_at "rz")
theorem ok_Roads_len (T : Txt K mg a) : FnOk P w K mg base CX0 1 a.Roads_len a.d_Roads_len ["self"] (spRLen K a) := by
  refine fund_ok0 T.F_Roads_len sc_Roads_len (fun vs H Q E h => ?_) (fun cdv A outer s H vs Q E hr h => ?_)
  · obtain ⟨p, dx, w, M, ws, last, rfl, hro, k⟩ := h
    rfl
  · obtain ⟨p, dx, w, M, ws, last, rfl, hro, k⟩ := h
    refine ⟨_, (pss_one (ps_ret (pe_callB (call_lenW (K := K)) (by rfl) T.b_len (by decide +kernel) (pa_cons (pe_fldK (K := K) (pv 0)) pa_nil)))), ?_⟩
    dsimp only [L2.start, List.map_cons, List.map_nil, List.map, List.length_cons, List.length_nil, Nat.reduceAdd, Nat.reduceSub, List.replicate, List.cons_append, List.nil_append]
    obtain ⟨hp, hw, -, -⟩ := id hro
    wtm_at "gs"
    exact i_lenW hw k
theorem ok_Roads_need_road (T : Txt K mg a) : FnOk P w K mg base (L2.CX P w) 3 a.Roads_need_road a.d_Roads_need_road ["self", "start", "goal"] (spNR K a) := by
  refine fund_okX T.F_Roads_need_road sc_Roads_need_road (fun vs H Q E h => ?_) (fun cdv A outer s H vs Q E hr tk hp h => ?_)
  · obtain ⟨p, dx, w, M, last, s, g, rfl, hpo, h⟩ := h
    rfl
  · obtain ⟨p, dx, w, M, last, s, g, rfl, hpo, h⟩ := h
    refine ⟨_, (pss_cons (ps_if (pt_not (pt_val (pe_call (ok_is_whole (K := K) T) (hr.mono (by decide)) (by rfl) T.m_is_whole T.F_is_whole.kp T.B_is_whole .nil pass0 (pa_cons (pv 1) (pa_cons pe_int (pa_cons (pe_op op_subU (pe_fldK (K := K) (pv 0)) pe_int) pa_nil)))))) (pss_one (ps_raiseM rfl tk (pmk_exc T.o_NoMember T.oi_NoMember T.ot_NoMember (ok_NoMember_init (K := K) T) (hr.mono (by decide)) T.B_NoMember_init (by rfl) T.m_NoMember (pa_cons (pv 1) pa_nil)))) pss_nil)
    (pss_one (ps_if (PW.pt (pw_or (pt_not (pt_val (pe_call (ok_is_whole (K := K) T) (hr.mono (by decide)) (by rfl) T.m_is_whole T.F_is_whole.kp T.B_is_whole .nil pass0 (pa_cons (pv 2) (pa_cons pe_int (pa_cons (pe_op op_subU (pe_fldK (K := K) (pv 0)) pe_int) pa_nil)))))) (pw_or1 (pt_cmpR (op_eqU hr.units (K := K)) (pv 2) (pv 1) (nomark _))))) (pss_one (ps_raiseM rfl tk (pmk_exc T.o_NoMember T.oi_NoMember T.ot_NoMember (ok_NoMember_init (K := K) T) (hr.mono (by decide)) T.B_NoMember_init (by rfl) T.m_NoMember (pa_cons (pv 2) pa_nil)))) pss_nil))), ?_⟩
    clear tk hp
    dsimp only [L2.start, List.map_cons, List.map_nil, List.map, List.length_cons, List.length_nil, Nat.reduceAdd, Nat.reduceSub, List.replicate, List.cons_append, List.nil_append]
    rcases h with ⟨i, j, rfl, rfl, hi, hj, hn, k⟩ | ⟨f, hb, k⟩
    · wtm_at "gs"
      exact k
    · rcases hb with ⟨⟨hk, hs⟩, rfl⟩ | ⟨i, rfl, hi, ⟨⟨hk, hs⟩, rfl⟩ | ⟨rfl, rfl⟩⟩
      · wtm_at "gs"
        exact k _ _ (by wtm_at "rz") (by wtm_at "rz")
      · wtm_at "gs"
        exact k _ _ (by wtm_at "rz") (by wtm_at "rz")
      · wtm_at "gs"
        exact k _ _ (by wtm_at "rz") (by wtm_at "rz")
theorem ok_Roads_need_number (T : Txt K mg a) : FnOk P w K mg base (L2.CX P w) 3 a.Roads_need_number a.d_Roads_need_number ["self", "number"] (spNN K a) := by
  refine fund_okX T.F_Roads_need_number sc_Roads_need_number (fun vs H Q E h => ?_) (fun cdv A outer s H vs Q E hr tk hp h => ?_)
  · obtain ⟨p, dx, w, M, ws, last, x, rfl, hro, h⟩ := h
    rfl
  · obtain ⟨p, dx, w, M, ws, last, x, rfl, hro, h⟩ := h
    refine ⟨_, (pss_one (ps_if (PW.pt (pw_or (pt_not (pt_val (pe_callD (ok_is_whole (K := K) T) (hr.mono (by decide)) (by rfl) T.m_is_whole T.F_is_whole.kp T.B1_is_whole pass0 (pa_cons (pv 1) (pa_cons pe_int pa_nil))))) (pw_or1 (pt_cmp (pc_dnotin (unit1 hr) (pv 1) (pe_fldK (K := K) (pv 0))))))) (pss_one (ps_raiseM rfl tk (pmk_excT famK T.o_NotOnRoad T.oi_NotOnRoad T.ot_NotOnRoad (ok_NotOnRoad_init (K := K) T) (hr.mono (by decide)) T.B_NotOnRoad_init (by rfl) T.m_NotOnRoad (pa_cons (pv 1) pa_nil)))) pss_nil)), ?_⟩
    clear tk hp
    dsimp only [L2.start, List.map_cons, List.map_nil, List.map, List.length_cons, List.length_nil, Nat.reduceAdd, Nat.reduceSub, List.replicate, List.cons_append, List.nil_append]
    rcases h with ⟨n, r, rfl, hm, k⟩ | ⟨hn, k⟩
    all_goals obtain ⟨hp, hw, -, ok⟩ := id hro
    · have h1 : 1 ≤ n := (ok.rg _ hm).1
      wtm_at "gs"
      refine i_dinW hw ok hm fun v hv => ?_
      refine i_bl ?_
      exact k
    · rcases hn with ⟨hk, h1⟩ | ⟨n, rfl, hn⟩
      · wtm_at "gs"
        exact k _ _ (by wtm_at "rz") (by wtm_at "rz")
      · wtm_at "gs"
        · refine i_dinW0 hw hn ?_
          refine i_bl ?_
          rw [if_pos (by rfl)]
          wtm_at "gs"
          exact k _ _ (by wtm_at "rz") (by wtm_at "rz")
        · exact k _ _ (by wtm_at "rz") (by wtm_at "rz")
theorem ok_Roads_put_on (T : Txt K mg a) : FnOk P w K mg base CX0 1 a.Roads_put_on a.d_Roads_put_on ["self", "row"] (spPO K a) := by
  refine fund_ok0 T.F_Roads_put_on sc_Roads_put_on (fun vs H Q E h => ?_) (fun cdv A outer s H vs Q E hr h => ?_)
  · obtain ⟨p, dx, w, M, ws, last, v, r, rfl, hro, hv, hr3, hl, k⟩ := h
    rfl
  · obtain ⟨p, dx, w, M, ws, last, v, r, rfl, hro, hv, hr3, hl, k⟩ := h
    refine ⟨_, (pss_cons (ps_fldaugK (K := K) (pv 0) pe_int in_add)
    (pss_cons (ps_asg (pv 1) (pg_sub (pe_fldK (K := K) (pv 0)) (pe_fldK (K := K) (pv 0)) (set_dict (unit1 hr))))
    (pss_one (ps_ret (pe_fldK (K := K) (pv 0)))))), ?_⟩
    dsimp only [L2.start, List.map_cons, List.map_nil, List.map, List.length_cons, List.length_nil, Nat.reduceAdd, Nat.reduceSub, List.replicate, List.cons_append, List.nil_append]
    obtain ⟨hp, hw, hM, ok⟩ := id hro
    have nwp : w ≠ p := fun c => by
      obtain ⟨kvs, e, _⟩ := hw
      rw [c, hp] at e
      cases e
    have lo := ok.l0
    wtm_at "gs"
    unfold sFldAug
    refine ⟨_, rfl, p, _, dx, _, _, rfl, hp, T.c_Roads, T.n_Roads_last_number, rfl, _, _, rfl, rfl, dx, _, hp, Nat.le_of_ble_eq_true rfl, ?_⟩
    show tSeq _ _ _ _ (upd H p (.ins a.Roads dx [("kept_members", .int M), ("kept_way", .ref w), ("last_number", .int (last + 1))]))
    wtm_at "abss"
    have hwN : WayAt HN w ws := hw.keeps (fun b xs e => sb b _ (fun c => by rw [c, hp] at e; cases e) e) fun u e => sb _ _ nwp e
    have hvN : ThAt HN r.tr v := hv.keeps (fun b xs e => sb b _ (fun c => by rw [c, hp] at e; cases e) e)
    have w1 : SameBut p H HN ∧ True := ⟨sb, trivial⟩
    clear sb hw hv
    wtm_at "gs"
    refine i_setW hwN ok (ok.fresh (.inl (by omega))) hvN fun HF sw hwF => ?_
    have hpF := sw _ _ nwp.symm hg
    clear hg
    wtm_at "gs"
    exact k _ (fun b u n e => sw _ _ (fun c => n (by simp [c])) (w1.1 _ _ (fun c => n (by simp [c])) e)) ⟨hpF, hwF, hM, ok.put hl hr3⟩
theorem ok_Roads_put (T : Txt K mg a) : FnOk P w K mg base (L2.CX P w) 6 a.Roads_put a.d_Roads_put ["self", "start", "goal", "thing"] (spPut K a) := by
  refine fund_okX T.F_Roads_put sc_Roads_put (fun vs H Q E h => ?_) (fun cdv A outer s H vs Q E hr tk hp h => ?_)
  · obtain ⟨p, dx, w, M, ws, last, s, g, v, rfl, hro, h⟩ := h
    rfl
  · obtain ⟨p, dx, w, M, ws, last, s, g, v, rfl, hro, h⟩ := h
    refine ⟨_, (pss_cons (ps_expr (pe_methS (pv 0) T.c_Roads T.M_Roads_need_road (ok_Roads_need_road (K := K) T) (hr.mono (by decide)) T.B_Roads_need_road .nil (passAt tk) (pa_cons (pv 1) (pa_cons (pv 2) pa_nil))))
    (pss_one (ps_ret (pe_meth (pv 0) T.c_Roads T.M_Roads_put_on (ok_Roads_put_on (K := K) T) (hr.mono (by decide)) T.B_Roads_put_on .nil pass0 (pa_cons (pe_tup (pa_cons (pv 1) (pa_cons (pv 2) (pa_cons (pe_call (ok_copied_thing (K := K) T) (hr.mono (by decide)) (by rfl) T.m_copied_thing T.F_copied_thing.kp T.B_copied_thing .nil pass0 (pa_cons (pv 3) pa_nil)) pa_nil)))) pa_nil))))), ?_⟩
    clear tk hp
    dsimp only [L2.start, List.map_cons, List.map_nil, List.map, List.length_cons, List.length_nil, Nat.reduceAdd, Nat.reduceSub, List.replicate, List.cons_append, List.nil_append]
    rcases h with ⟨i, j, t, rfl, rfl, hi, hj, hn, hv, ht, hl, k⟩ | ⟨f, hb, k⟩
    all_goals obtain ⟨hp, hw, hM, ok⟩ := id hro
    · wtm_at "gs"
      refine copy_use hv (ht.mono (by decide)) (fun HC y smC hy => ?_) (by rfl)
      wtm_at "gs"
      refine spPO_u1 ((hro.same smC).same sa) (Wy.at.mpr ⟨q, y, rfl, hg, hy.same sa⟩ : ThAt HN (⟨i, j, t⟩ : Wy).tr (.ref q)) ht hl (fun HF sb hro' => ?_) (by rfl)
      exact k _ (fun b u n e => sb b u n (sa _ _ (smC _ _ e))) hro'
    · wtm_at "gs"
      exact k _ _ sm hed
theorem ok_Roads_come (T : Txt K mg a) : FnOk P w K mg base (L2.CX P w) 4 a.Roads_come a.d_Roads_come ["self", "number"] (spCome K a) := by
  refine fund_okX T.F_Roads_come sc_Roads_come (fun vs H Q E h => ?_) (fun cdv A outer s H vs Q E hr tk hp h => ?_)
  · obtain ⟨p, dx, w, M, ws, last, x, rfl, hro, h⟩ := h
    rfl
  · obtain ⟨p, dx, w, M, ws, last, x, rfl, hro, h⟩ := h
    refine ⟨_, (pss_cons (ps_expr (pe_methS (pv 0) T.c_Roads T.M_Roads_need_number (ok_Roads_need_number (K := K) T) (hr.mono (by decide)) T.B_Roads_need_number .nil (passAt tk) (pa_cons (pv 1) pa_nil)))
    (pss_one (ps_ret (pe_dpop1 (pe_fldK (K := K) (pv 0)) (pv 1) ⟨by rfl, by rfl, by rfl, by rfl⟩)))), ?_⟩
    clear tk hp
    dsimp only [L2.start, List.map_cons, List.map_nil, List.map, List.length_cons, List.length_nil, Nat.reduceAdd, Nat.reduceSub, List.replicate, List.cons_append, List.nil_append]
    rcases h with ⟨n, r, rfl, hm, k⟩ | ⟨hn, k⟩
    all_goals obtain ⟨hp, hw, hM, ok⟩ := id hro
    · have npw : p ≠ w := fun c => by
        obtain ⟨kvs, e, _⟩ := hw
        rw [← c, hp] at e
        cases e
      wtm_at "gs"
      refine i_popD hw ?_
      wtm_at "gs"
      refine i_popW hw ok hm fun v HN sw hwN hvN => ?_
      exact k _ _ sw ⟨sw _ _ npw hp, hwN, hM, ok.drop⟩ hvN
    · wtm_at "gs"
      exact k _ _ sm hed
theorem ok_Roads_lose (T : Txt K mg a) : FnOk P w K mg base (L2.CX P w) 5 a.Roads_lose a.d_Roads_lose ["self", "number"] (spCome K a) := by
  refine fund_okX T.F_Roads_lose sc_Roads_lose (fun vs H Q E h => ?_) (fun cdv A outer s H vs Q E hr tk hp h => ?_)
  · obtain ⟨p, dx, w, M, ws, last, x, rfl, hro, h⟩ := h
    rfl
  · obtain ⟨p, dx, w, M, ws, last, x, rfl, hro, h⟩ := h
    refine ⟨_, (pss_one (ps_ret (pe_methS (pv 0) T.c_Roads T.M_Roads_come (ok_Roads_come (K := K) T) (hr.mono (by decide)) T.B_Roads_come .nil (passAt tk) (pa_cons (pv 1) pa_nil)))), ?_⟩
    clear tk hp
    dsimp only [L2.start, List.map_cons, List.map_nil, List.map, List.length_cons, List.length_nil, Nat.reduceAdd, Nat.reduceSub, List.replicate, List.cons_append, List.nil_append]
    rcases h with ⟨n, r, rfl, hm, k⟩ | ⟨hn, k⟩
    all_goals obtain ⟨hp, hw, hM, ok⟩ := id hro
    · wtm_at "gs"
      exact k _ _ sb hro' hy
    · wtm_at "gs"
      exact k _ _ sm hed
theorem ok_Roads_double (T : Txt K mg a) : FnOk P w K mg base (L2.CX P w) 6 a.Roads_double a.d_Roads_double ["self", "number"] (spDbl K a) := by
  refine fund_okX T.F_Roads_double sc_Roads_double (fun vs H Q E h => ?_) (fun cdv A outer s H vs Q E hr tk hp h => ?_)
  · obtain ⟨p, dx, w, M, ws, last, x, rfl, hro, h⟩ := h
    rfl
  · obtain ⟨p, dx, w, M, ws, last, x, rfl, hro, h⟩ := h
    refine ⟨_, (pss_cons (ps_expr (pe_methS (pv 0) T.c_Roads T.M_Roads_need_number (ok_Roads_need_number (K := K) T) (hr.mono (by decide)) T.B_Roads_need_number .nil (passAt tk) (pa_cons (pv 1) pa_nil)))
    (pss_one (ps_ret (pe_meth (pv 0) T.c_Roads T.M_Roads_put_on (ok_Roads_put_on (K := K) T) (hr.mono (by decide)) T.B_Roads_put_on .nil pass0 (pa_cons (pe_call (ok_copied_thing (K := K) T) (hr.mono (by decide)) (by rfl) T.m_copied_thing T.F_copied_thing.kp T.B_copied_thing .nil pass0 (pa_cons (pe_dget (unit1 hr) (pe_fldK (K := K) (pv 0)) (pv 1) (fun _ _ => rfl)) pa_nil)) pa_nil))))), ?_⟩
    clear tk hp
    dsimp only [L2.start, List.map_cons, List.map_nil, List.map, List.length_cons, List.length_nil, Nat.reduceAdd, Nat.reduceSub, List.replicate, List.cons_append, List.nil_append]
    rcases h with ⟨n, r, rfl, hm, hl, k⟩ | ⟨hn, k⟩
    all_goals obtain ⟨hp, hw, hM, ok⟩ := id hro
    · wtm_at "gs"
      refine i_dgW hw ok hm fun v hv => ?_
      wtm_at "gs"
      refine copy_use hv (Wy.le (ok.le _ hm)) (fun HC y smC hy => ?_) (by rfl)
      wtm_at "gs"
      refine spPO_u1 (hro.same smC) hy (ok.le _ hm) hl (fun HF sb hro' => ?_) (by rfl)
      exact k _ (fun b u n e => sb b u n (smC _ _ e)) hro'
    · wtm_at "gs"
      exact k _ _ sm hed
theorem ok_Roads_under_way (T : Txt K mg a) : FnOk P w K mg base CX0 6 a.Roads_under_way a.d_Roads_under_way ["self"] (spUW K a) := by
  refine fund_ok0 T.F_Roads_under_way sc_Roads_under_way (fun vs H Q E h => ?_) (fun cdv A outer s H vs Q E hr h => ?_)
  · obtain ⟨p, dx, w, M, ws, last, rfl, hro, k⟩ := h
    rfl
  · obtain ⟨p, dx, w, M, ws, last, rfl, hro, k⟩ := h
    refine ⟨_, (pss_cons (ps_set (i := 1) sc_Roads_under_way.nd rfl (by first | exact Or.inl rfl | exact Or.inr rfl) (pe_lst pa_nil))
    (pss_cons (ps_for PassesOwn.never rfl (pi_listK (K := K) (pe_callB (call_sortW rfl) (by rfl) T.b_sorted (by decide +kernel) (pa_cons (pe_fldK (K := K) (pv 0)) pa_nil))) (pg_name (i := 2) sc_Roads_under_way.nd rfl (by first | exact Or.inl rfl | exact Or.inr rfl))
    (pss_cons (ps_asg (pe_dget (unit1 hr) (pe_fldK (K := K) (pv 0)) (pv 2) (fun _ _ => rfl)) (pg_tupK (K := K) (n := 3) rfl (pgs_cons (pg_name (i := 3) sc_Roads_under_way.nd rfl (by first | exact Or.inl rfl | exact Or.inr rfl)) (pgs_cons (pg_name (i := 4) sc_Roads_under_way.nd rfl (by first | exact Or.inl rfl | exact Or.inr rfl)) (pgs_cons (pg_name (i := 5) sc_Roads_under_way.nd rfl (by first | exact Or.inl rfl | exact Or.inr rfl)) pgs_nil)))))
    (pss_one (ps_expr (pe_appK (K := K) (pe_bm PySem.F.plainAttrs_list PySem.F.slot_list_append PySem.F.type_list_append mt_append (pv 1) (pa_cons (pe_tup (pa_cons (pv 2) (pa_cons (pv 3) (pa_cons (pv 4) (pa_cons (pe_call (ok_copied_thing (K := K) T) (hr.mono (by decide)) (by rfl) T.m_copied_thing T.F_copied_thing.kp T.B_copied_thing .nil pass0 (pa_cons (pv 5) pa_nil)) pa_nil))))) pa_nil)))))))
    (pss_one (ps_ret (pv 1))))), ?_⟩
    dsimp only [L2.start, List.map_cons, List.map_nil, List.map, List.length_cons, List.length_nil, Nat.reduceAdd, Nat.reduceSub, List.replicate, List.cons_append, List.nil_append]
    obtain ⟨hp, hw, hM, ok⟩ := id hro
    wtm_at "gs"
    obtain ⟨L, eL⟩ : ∃ y, y = q := ⟨_, rfl⟩
    subst eL
    have nL := hq
    have gL := hg
    have s1 : Same H HN ∧ True := ⟨sa, trivial⟩
    have hw1 := hw.same sa
    have hp1 := sa _ _ hp
    refine i_sortW hw1 ok fun p2 H2 hn2 s2 g2 => ?_
    have gL2 := s2 _ _ gL
    have sH2 : Same H H2 ∧ True := ⟨s1.1.trans s2, trivial⟩
    have hw2 := hw1.same s2
    have hp2 := s2 _ _ hp1
    have n2L : p2 ≠ L := (ne_of_none gL hn2).symm
    clear hg hq sa hw1 hp1 gL hro hw hp s2 s1 hn2
    have nwL : w ≠ L := fun c => by
      obtain ⟨kvs, e, _⟩ := hw2
      rw [c, gL2] at e
      cases e
    have npL : p ≠ L := fun c => by rw [c, gL2] at hp2; cases hp2
    wtm_at "gs"
    refine for_list (xs := (ksW ws).map V.int) (fun i σ H' => ∃ v2 v3 v4 v5 ys, σ = [some (.ref p), some (.ref L), v2, v3, v4, v5] ∧ SameBut L H2 H' ∧ H' L = some (.lst ys) ∧ All2 (fun v t => ThAt H' t v) ys ((ws.take i).map fun z => z.2.tn z.1)) ⟨none, none, none, none, [], rfl, (fun _ _ _ e => e), gL2, All2.nil⟩ (fun i σ H' _ h => ?c1) (fun i x σ H' hx h => ?c2) (fun σ H' h => ?c3)
    case c1 =>
      obtain ⟨v2, v3, v4, v5, ys, rfl, sb, -, -⟩ := h
      exact .of (sb _ _ n2L g2)
    case c2 =>
      obtain ⟨v2, v3, v4, v5, ys, rfl, sb, gL3, hys⟩ := h
      obtain ⟨n, _, rfl, hn⟩ := map_int_at hx
      obtain ⟨z, hz, rfl⟩ : ∃ z, ws[i]? = some z ∧ z.1 = n := by
        rw [List.getElem?_map] at hn
        cases h : ws[i]? with
        | none => rw [h] at hn; cases hn
        | some z => rw [h] at hn; exact ⟨z, rfl, Option.some.inj hn⟩
      have hm : (z.1, z.2) ∈ ws := List.mem_of_getElem? hz
      have hwI : WayAt H' w ws := hw2.keeps (MdX.tp gL2 sb) fun u e => sb _ _ nwL e
      have hpI := sb _ _ npL hp2
      have ly : ys.length ≤ 60 := by
        rw [hys.1, List.length_map, List.length_take]
        have := ok.len
        omega
      have w1 : SameBut L H2 H' ∧ True := ⟨sb, trivial⟩
      clear sb hx hn
      wtm_at "gs"
      refine i_dgW hwI ok hm fun v hv => ?_
      obtain ⟨qv, xv, rfl, gq, hxv⟩ := Wy.at.mp hv
      wtm_at "gs"
      refine copy_use hxv ((ok.le _ hm).mono (by decide)) (fun HC y smC hy => ?_) (by rfl)
      have gL4 := smC _ _ gL3
      wtm_at "gs"
      rename_i HA gqA
      have gLm := sa _ _ gL4
      have tp := MdX.tp gLm sb
      refine ⟨_, _, _, _, ys ++ [.ref q], rfl, fun b u n e => sb _ _ n (sa _ _ (smC _ _ (w1.1 _ _ n e))), hg, ?_⟩
      rw [take_next hz, List.map_append]
      exact (hys.mono fun _ _ h => ((h.same smC).same sa).keeps tp).append (All2.cons (Wy.tnat (tp _ _ gqA) ((hy.same sa).keeps tp)) All2.nil)
    case c3 =>
      obtain ⟨v2, v3, v4, v5, ys, rfl, sb, gL3, hys⟩ := h
      rw [List.length_map, List.length_map, List.take_length] at hys
      wtm_at "gs"
      exact k _ _ _ (fun b u e => sb _ _ (ne_of_none e nL) (sH2.1 _ _ e)) nL gL3 hys
theorem ok_Roads_between (T : Txt K mg a) : FnOk P w K mg base (L2.CX P w) 4 a.Roads_between a.d_Roads_between ["self", "start", "goal"] (spBet K a) := by
  refine fund_okX T.F_Roads_between sc_Roads_between (fun vs H Q E h => ?_) (fun cdv A outer s H vs Q E hr tk hp h => ?_)
  · obtain ⟨p, dx, w, M, ws, last, s, g, f, rfl, hro, hb, k⟩ := h
    rfl
  · obtain ⟨p, dx, w, M, ws, last, s, g, f, rfl, hro, hb, k⟩ := h
    refine ⟨_, (pss_cons (ps_expr (pe_methS (pv 0) T.c_Roads T.M_Roads_need_road (ok_Roads_need_road (K := K) T) (hr.mono (by decide)) T.B_Roads_need_road .nil (passAt tk) (pa_cons (pv 1) (pa_cons (pv 2) pa_nil))))
    (pss_one (ps_ret (pe_lc (own := [("number", 3)]) rfl sc_Roads_between.nd (pi_listK (K := K) (pe_callB (call_sortW rfl) (by rfl) T.b_sorted (by decide +kernel) (pa_cons (pe_fldK (K := K) (pv 0)) pa_nil))) (blkOk_by (own := [("number", 3)]) (N := ["self", "start", "goal", "number"]) (sc := defScope s_Roads_between) (by decide +kernel)) (fun _ _ _ _ _ => (pg_name (i := 3) sc_Roads_between.nd rfl (by first | exact Or.inl rfl | exact Or.inr rfl))) (fun _ _ _ _ _ => pts_one (pt_cmpR (op_eqU hr.units (K := K)) (pe_slice (sl_U (K := K)) (pe_dget (unit1 hr) (pe_fldK (K := K) (pv 0)) (pv 3) (fun _ _ => rfl)) po_none (po_some pe_int)) (pe_tup (pa_cons (pv 1) (pa_cons (pv 2) pa_nil))) (nomark _))) (fun _ _ _ _ _ => (pv 3)))))), ?_⟩
    clear tk hp
    dsimp only [L2.start, List.map_cons, List.map_nil, List.map, List.length_cons, List.length_nil, Nat.reduceAdd, Nat.reduceSub, List.replicate, List.cons_append, List.nil_append]
    obtain ⟨hp, hw, hM, ok⟩ := id hro
    wtm_at "gs"
    exact k _ _ sm hed
theorem ok_Roads_twin (T : Txt K mg a) : FnOk P w K mg base CX0 6 a.Roads_twin a.d_Roads_twin ["self"] (spRTw K a) := by
  refine fund_ok0 T.F_Roads_twin sc_Roads_twin (fun vs H Q E h => ?_) (fun cdv A outer s H vs Q E hr h => ?_)
  · obtain ⟨p, dx0, w0, M, ws, last, rfl, hro, k⟩ := h
    rfl
  · obtain ⟨p, dx0, w0, M, ws, last, rfl, hro, k⟩ := h
    refine ⟨_, (pss_cons (ps_set (i := 1) sc_Roads_twin.nd rfl (by first | exact Or.inl rfl | exact Or.inr rfl) (pe_makeS T.mk_Roads (ok_Roads_init (K := K) T) (hr.mono (by decide)) (by rfl) T.m_Roads T.B_Roads_init .nil (passAt takes0) (pa_cons (pe_fldK (K := K) (pv 0)) pa_nil)))
    (pss_cons (ps_lock (ps_for PassesOwn.never rfl (pi_items (pe_fldK (K := K) (pv 0))) (pg_tupK (K := K) (n := 2) rfl (pgs_cons (pg_name (i := 2) sc_Roads_twin.nd rfl (by first | exact Or.inl rfl | exact Or.inr rfl)) (pgs_cons (pg_name (i := 3) sc_Roads_twin.nd rfl (by first | exact Or.inl rfl | exact Or.inr rfl)) pgs_nil)))
    (pss_one (ps_asg (pe_call (ok_copied_thing (K := K) T) (hr.mono (by decide)) (by rfl) T.m_copied_thing T.F_copied_thing.kp T.B_copied_thing .nil pass0 (pa_cons (pv 3) pa_nil)) (pg_sub (pe_fldK (K := K) (pv 1)) (pv 2) (set_dict (unit1 hr)))))))
    (pss_cons (ps_fldK (K := K) (pv 1) (pe_fldK (K := K) (pv 0)))
    (pss_one (ps_ret (pv 1)))))), ?_⟩
    dsimp only [L2.start, List.map_cons, List.map_nil, List.map, List.length_cons, List.length_nil, Nat.reduceAdd, Nat.reduceSub, List.replicate, List.cons_append, List.nil_append]
    obtain ⟨hp, hw, hM, ok⟩ := id hro
    obtain ⟨kvs, hk, hkv⟩ := id hw
    wtm_at "gs"
    rename_i hroH
    have sH : Same H HH := fun b u e => by
      have n1 : b ≠ x := ne_of_none e nx
      have n2 : b ≠ dx := ne_of_none e ndx
      exact sb b u n1 (by rw [upd_ne n1, upd_ne n2]; exact e)
    have nwH : H w = none := by
      have n1 : w ≠ x := fun c => by rw [c, upd_same] at nw; cases nw
      have n2 : w ≠ dx := fun c => by rw [upd_ne n1, c, upd_same] at nw; cases nw
      rw [upd_ne n1, upd_ne n2] at nw
      exact nw
    have hkH := sH _ _ hk
    have hpH := sH _ _ hp
    refine i_lock (d := w0) hkH trivial (fun od HL sbl hcl => ?_)
    have nw0w : w0 ≠ w := ne_of_none hk nwH
    have npw0 : p ≠ w0 := fun c => by rw [c, hk] at hp; cases hp
    have nxw0 : x ≠ w0 := (ne_of_none hk nx).symm
    have hpL := sbl _ _ npw0 hpH
    have hxL := sbl _ _ nxw0 hro.hp
    have tpL : ∀ b xs, HH b = some (.tup xs) → HL b = some (.tup xs) := fun b xs e => sbl _ _ (fun c => by rw [c, hkH] at e; cases e) e
    have hwL := hro.hw.keeps tpL fun u e => sbl _ _ nw0w.symm e
    have hkvL : All2 (KvAt HL) kvs ws := hkv.mono fun _ _ h => (h.keeps (fun _ _ => sH _ _)).keeps tpL
    have w1 : SameBut w0 HH HL ∧ True := ⟨sbl, trivial⟩
    have w2 : SameBut x (upd (upd H dx (.own x)) x (.ins a.Roads dx [])) HH ∧ True := ⟨sb, trivial⟩
    have npx : p ≠ x := ne_of_none hp nx
    have nxw : x ≠ w := fun c => by rw [← c, upd_same] at nw; cases nw
    have npw : p ≠ w := ne_of_none hp nwH
    clear sbl sb hroH hro hpH hkH hw
    have hp0 := hp
    clear hp
    wtm_at "gs"
    refine ⟨w0, od, kvs, rfl, hcl, ?_⟩
    refine for_it walk_items (fun i σ H' => ∃ v2 v3, σ = [some (.ref p), some (.ref x), v2, v3] ∧ SameBut w HL H' ∧ WayAt H' w (ws.take i)) ⟨none, none, rfl, (fun _ _ _ e => e), hwL⟩ (fun i σ H' _ h => ?c1) (fun i y σ H1 H2 hi h hy => ?c2) (fun σ H' h => ?c3)
    case c1 =>
      obtain ⟨v2, v3, rfl, sb, -⟩ := h
      exact sb _ _ nw0w hcl
    case c2 =>
      obtain ⟨v2, v3, rfl, sb, hwI⟩ := h
      obtain ⟨Tq, kx, vx, rfl, hT, rfl, ek, ev⟩ := hy
      have hkvi : kvs[i]? = some kvs[i] := List.getElem?_eq_getElem hi
      obtain ⟨z, hz, ez, hv⟩ := hkvL.get hkvi
      dsimp only at ek ev
      rw [hkvi] at ek ev
      obtain rfl : kV kvs[i].1 = kx := Option.some.inj ek
      obtain rfl : kvs[i].2 = vx := Option.some.inj ev
      rw [ez]
      obtain ⟨kw, hkw, -⟩ := id hwL
      have hv1 : ThAt H1 z.2.tr kvs[i].2 := hv.keeps fun b xs e => sb _ _ (fun c => by rw [c, hkw] at e; cases e) e
      have hxI := sb _ _ nxw hxL
      have hm : (z.1, z.2) ∈ ws := List.mem_of_getElem? hz
      obtain ⟨H3, e3⟩ : ∃ y, y = upd H1 Tq (.tup [kV (.inl z.1), kvs[i].2]) := ⟨_, rfl⟩
      have sT : Same H1 H3 := fun b u e => by rw [e3, upd_ne (ne_of_none e hT)]; exact e
      have gT : H3 Tq = some (.tup [.int z.1, kvs[i].2]) := by rw [e3]; exact upd_same
      rw [← e3]
      have hv3 := hv1.same sT
      have hw3 := hwI.same sT
      have hx3 := sT _ _ hxI
      have w3 : SameBut w HL H1 ∧ True := ⟨sb, trivial⟩
      have w4 : Same H1 H3 ∧ True := ⟨sT, trivial⟩
      clear sb sT e3 hwI hxI hv1 hv ev ek hwL
      wtm_at "gs"
      refine copy_use hv3 (Wy.le (ok.le _ hm)) (fun HC y smC hy => ?_) (by rfl)
      have hxC := smC _ _ hx3
      wtm_at "gs"
      refine i_setW (hw3.same smC) (ok.take i) (ok.next hz) hy fun HF sw hwF => ?_
      exact ⟨_, _, rfl, fun b u n e => sw _ _ n (smC _ _ (w4.1 _ _ (w3.1 _ _ n e))), by rw [take_next hz]; exact hwF⟩
    case c3 =>
      obtain ⟨v2, v3, rfl, sb, hwI⟩ := h
      refine ⟨sb _ _ nw0w hcl, ?_⟩
      rw [hkv.1, List.take_length] at hwI
      obtain ⟨HU, eU⟩ : ∃ y, y = upd H' w0 (.dK kvs) := ⟨_, rfl⟩
      have sF : Same H HU := fun b u e => by
        rw [eU]
        by_cases c : b = w0
        · subst c
          rw [upd_same, ← hk, e]
        · rw [upd_ne c]
          exact sb _ _ (ne_of_none e nwH) (w1.1 _ _ c (sH _ _ e))
      have hxU : HU x = some (.ins a.Roads dx [("kept_members", .int M), ("kept_way", .ref w), ("last_number", .int 0)]) := by rw [eU, upd_ne nxw0]; exact sb _ _ nxw hxL
      have hpU := sF _ _ hp0
      have hwU : WayAt HU w ws := hwI.keeps (fun b xs e => by rw [eU]; rw [upd_ne (fun c => by rw [c, sb _ _ nw0w hcl] at e; cases e)]; exact e) fun u e => by rw [eU, upd_ne nw0w.symm]; exact e
      rw [← eU]
      clear eU
      wtm_at "gs"
      obtain ⟨HZ, eZ⟩ : ∃ y, y = upd HU x (.ins a.Roads dx [("kept_members", .int M), ("kept_way", .ref w), ("last_number", .int last)]) := ⟨_, rfl⟩
      have gx : HZ x = some (.ins a.Roads dx [("kept_members", .int M), ("kept_way", .ref w), ("last_number", .int last)]) := by rw [eZ]; exact upd_same
      have sZ : SameBut x HU HZ := fun b u n e => by rw [eZ, upd_ne n]; exact e
      have r := k HZ x dx w (fun b u e => sZ _ _ (ne_of_none e nx) (sF _ _ e)) nx nwH ⟨gx, hwU.keeps (fun b xs e => sZ _ _ (fun c => by rw [c, hxU] at e; cases e) e) (fun u e => sZ _ _ nxw.symm e), hM, ok⟩
      rw [eZ] at r
      exact r
end

/-! ### the law -/
theorem EqVs.selfF {K : PySem.W.Frag} {H : Hp} {n : Nat} : ∀ {xs : List V}, (∀ x ∈ xs, flatV x = true) → EqVs K H n xs xs true
  | [], _ => .nil
  | x :: xs, h => EqVs.cons (.selfB (h x (List.mem_cons_self ..))) (EqVs.selfF fun y hy => h y (List.mem_cons_of_mem _ hy))
/-- one of the odd things -/
def OddV (H : Hp) (v : V) : Prop := flatV v = true ∨ (∃ q xs, v = .ref q ∧ H q = some (.lst xs) ∧ ∀ x ∈ xs, flatV x = true) ∨ (∃ q xs, v = .ref q ∧ H q = some (.tup xs) ∧ ∀ x ∈ xs, flatV x = true) ∨ ∃ q, v = .ref q ∧ H q = some (.dK [])
theorem OddV.same {H H' : Hp} {v : V} (s : Same H H') (h : OddV H v) : OddV H' v := by
  rcases h with h | ⟨q, xs, e, h, f⟩ | ⟨q, xs, e, h, f⟩ | ⟨q, e, h⟩
  · exact .inl h
  · exact .inr (.inl ⟨q, xs, e, s _ _ h, f⟩)
  · exact .inr (.inr (.inl ⟨q, xs, e, s _ _ h, f⟩))
  · exact .inr (.inr (.inr ⟨q, e, s _ _ h⟩))
theorem OddV.kn {K : PySem.W.Frag} {H : Hp} {v : V} (h : OddV H v) : Kn K H v := by
  rcases h with h | ⟨q, xs, rfl, h, f⟩ | ⟨q, xs, rfl, h, f⟩ | ⟨q, rfl, h⟩
  · cases v <;> first | exact trivial | cases h
  · exact ⟨.lst xs, .of h, trivial⟩
  · exact ⟨.tup xs, .of h, trivial⟩
  · exact ⟨.dK [], .of h, trivial⟩
theorem OddV.self {K : PySem.W.Frag} {H : Hp} {v : V} {Q : VK} (h : OddV H v) (k : Q (.bl true) H) : r2or (rEqU K) rEqDA v v H Q := by
  rcases h with h | ⟨q, xs, rfl, h, f⟩ | ⟨q, xs, rfl, h, f⟩ | ⟨q, rfl, h⟩
  · refine .inl ?_
    cases v <;> first
      | (cases h; done)
      | exact i_eqS rfl k
      | exact i_eqS (by simp [eqS]) k
  · exact .inl (i_eqG (n := 2) (.inl ⟨.of h, .of h⟩) (by decide) (EqVs.selfF f) k)
  · exact .inl (i_eqG (n := 2) (.inr ⟨.of h, .of h⟩) (by decide) (EqVs.selfF f) k)
  · exact .inr ⟨q, q, [], [], rfl, rfl, h, h, rfl, fun _ h => (nomatch h), k⟩
theorem OddV.noWh {H : Hp} {lo : Int} {hi : V} {q : Addr} : isWh lo hi (.ref q) = false := rfl
local macro_rules | `(tactic| wtm_at "od") => `(tactic| fail)
local macro_rules | `(tactic| wtm_at "od") => `(tactic| first | wtm_at "as" | exact .inl rfl | ((with_reducible refine' OddV.same ?d1 ?d2); (case d2 => wtm_at "as"); (case d1 => wtm_at "same")) | fail)
structure OwAt (H : Hp) (o W G : Addr) (M : Nat) (ws : Ways) (gs : List Int) : Prop where
  ho : H o = some (.dK [(.inr "way", .ref W), (.inr "gone", .ref G), (.inr "members", .int ((M : Int) - 2))])
  hW : WayAt H W ws
  hG : H G = some (.lst (gs.map V.int))
theorem OwAt.same {H H' : Hp} {o W G : Addr} {M : Nat} {ws : Ways} {gs : List Int} (s : Same H H') (h : OwAt H o W G M ws gs) : OwAt H' o W G M ws gs := ⟨s _ _ h.ho, h.hW.same s, s _ _ h.hG⟩
theorem dg_way {w g m : V} : valV [((.inr "way" : Key), w), (.inr "gone", g), (.inr "members", m)] (.inr "way") = some w := rfl
theorem dg_gone {w g m : V} : valV [((.inr "way" : Key), w), (.inr "gone", g), (.inr "members", m)] (.inr "gone") = some g := rfl
theorem dg_mem {w g m : V} : valV [((.inr "way" : Key), w), (.inr "gone", g), (.inr "members", m)] (.inr "members") = some m := rfl
local macro_rules | `(tactic| wtm_at "ow") => `(tactic| fail)
local macro_rules | `(tactic| wtm_at "ow") => `(tactic| first | wtm_at "as" | ((with_reducible refine' OwAt.same ?d1 ?d2); (case d2 => wtm_at "as"); (case d1 => wtm_at "same")) | fail)
set_option hygiene false in
local macro_rules | `(tactic| wtm_at "u") => `(tactic| first | ((with_reducible refine' i_dgS ?h1 ?h2 ?_); (case h1 => wtm_at "get"); (case h2 => with_reducible first | exact dg_way | exact dg_gone | exact dg_mem)) | fail)
theorem i_truB {K : PySem.W.Frag} {H : Hp} {b : Bool} {R : Bool → Prop} (h : R b) : ∃ k, TruV K (.bl b) H k ∧ R k := ⟨b, rfl, h⟩
local macro_rules | `(tactic| wtm_at "u") => `(tactic| (with_reducible refine i_truB ?_))
theorem WayAt.ne {H : Hp} {w o : Addr} {ws : Ways} {z : Str} {v : V} {kvs : List (Key × V)} (h : WayAt H w ws) (ho : H o = some (.dK ((.inr z, v) :: kvs))) : o ≠ w := fun c => by
  obtain ⟨ks, e, a⟩ := h
  rw [c, e] at ho
  obtain rfl := HO.dK.inj (Option.some.inj ho)
  cases ws with
  | nil => cases a.1
  | cons y ws =>
    have := (a.2 0 _ y rfl rfl).1
    cases this
theorem goal_ok {M st r : Int} (h : 2 ≤ M ∧ M ≤ 5) (h0 : 0 ≤ st ∧ st < M) (h1 : 0 ≤ r ∧ r < M - 1) : (0 ≤ (st + 1 + r) % M ∧ (st + 1 + r) % M ≤ M - 1) ∧ (st + 1 + r) % M ≠ st := by
  obtain rfl | rfl | rfl | rfl : M = 2 ∨ M = 3 ∨ M = 4 ∨ M = 5 := by omega
  all_goals omega
def spRoad (K : PySem.W.Frag) (a : Ad) : Sp := fun vs H Q E => ∃ (p dx w : Addr) (M : Nat) (ws : Ways) (last way : Int) (s g f : V), vs = [.ref p, .int way, s, g] ∧ (RoAt a.Roads H p dx w M ws last) ∧ (way = 0 ∨ way = 1) ∧ (BadR K H M s g f) ∧ (∀ HH q, (Same H HH) → (H q = none) → (HH q = some (.tup [f, .bl true])) → Q (.ref q) HH)
theorem spRoad_u1 {K : PySem.W.Frag} {a : Ad} {H : Hp} {Q : VK} {E : XK} {vs : List V} {p dx w : Addr} {M : Nat} {ws : Ways} {last way : Int} {s g f : V} (g0 : RoAt a.Roads H p dx w M ws last) (g1 : way = 0 ∨ way = 1) (g2 : BadR K H M s g f) (k : ∀ HH q, (Same H HH) → (H q = none) → (HH q = some (.tup [f, .bl true])) → Q (.ref q) HH) (he : vs = [.ref p, .int way, s, g] := by rfl) : spRoad K a vs H Q E := ⟨p, dx, w, M, ws, last, way, s, g, f, he, g0, g1, g2, k⟩
set_option hygiene false in
local macro_rules | `(tactic| wtm_at "u") => `(tactic| first | ((with_reducible refine' spRoad_u1 ?g0 ?g1 ?g2 (fun HH q sm no hq => ?_) ?he); (case he => rfl); (case g0 => wtm_at "ro"); (case g1 => wtm_at "as"); (case g2 => wtm_at "br")) | fail)
def spNumL (K : PySem.W.Frag) (a : Ad) : Sp := fun vs H Q E => ∃ (p dx w : Addr) (M : Nat) (ws : Ways) (last way : Int) (x : V), vs = [.ref p, .int way, x] ∧ (RoAt a.Roads H p dx w M ws last) ∧ (way = 0 ∨ way = 1 ∨ way = 2) ∧ (NoNu K H ws x) ∧ (∀ HH q, (Same H HH) → (H q = none) → (HH q = some (.tup [x, .bl true])) → Q (.ref q) HH)
theorem spNumL_u1 {K : PySem.W.Frag} {a : Ad} {H : Hp} {Q : VK} {E : XK} {vs : List V} {p dx w : Addr} {M : Nat} {ws : Ways} {last way : Int} {x : V} (g0 : RoAt a.Roads H p dx w M ws last) (g1 : way = 0 ∨ way = 1 ∨ way = 2) (g2 : NoNu K H ws x) (k : ∀ HH q, (Same H HH) → (H q = none) → (HH q = some (.tup [x, .bl true])) → Q (.ref q) HH) (he : vs = [.ref p, .int way, x] := by rfl) : spNumL K a vs H Q E := ⟨p, dx, w, M, ws, last, way, x, he, g0, g1, g2, k⟩
set_option hygiene false in
local macro_rules | `(tactic| wtm_at "u") => `(tactic| first | ((with_reducible refine' spNumL_u1 ?g0 ?g1 ?g2 (fun HH q sm no hq => ?_) ?he); (case he => rfl); (case g0 => wtm_at "ro"); (case g1 => wtm_at "as"); (case g2 => wtm_at "nu")) | fail)
def spKinds (K : PySem.W.Frag) : Sp := fun vs H Q _ => ∃ v : V, vs = [v, v] ∧ OddV H v ∧ Q (.bl true) H
theorem kinds_use {K : PySem.W.Frag} {H : Hp} {Q : VK} {E : XK} {vs : List V} {v : V} (h : OddV H v) (k : Q (.bl true) H) (he : vs = [v, v] := by rfl) : spKinds K vs H Q E := ⟨v, he, h, k⟩
set_option hygiene false in
local macro_rules | `(tactic| wtm_at "u") => `(tactic| ((with_reducible refine' kinds_use ?h1 ?_ ?he); (case he => rfl); (case h1 => wtm_at "od")))
def spGone (K : PySem.W.Frag) (a : Ad) : Sp := fun vs H Q E => ∃ (p dx w : Addr) (M : Nat) (ws : Ways) (last n order : Int), vs = [.ref p, .int n, .int order] ∧ (RoAt a.Roads H p dx w M ws last) ∧ (n ∉ ksW ws) ∧ (0 ≤ order ∧ order < 4) ∧ (∀ HH, (Same H HH) → Q (.bl true) HH)
theorem spGone_u1 {K : PySem.W.Frag} {a : Ad} {H : Hp} {Q : VK} {E : XK} {vs : List V} {p dx w : Addr} {M : Nat} {ws : Ways} {last n order : Int} (g0 : RoAt a.Roads H p dx w M ws last) (g1 : n ∉ ksW ws) (g2 : 0 ≤ order ∧ order < 4) (k : ∀ HH, (Same H HH) → Q (.bl true) HH) (he : vs = [.ref p, .int n, .int order] := by rfl) : spGone K a vs H Q E := ⟨p, dx, w, M, ws, last, n, order, he, g0, g1, g2, k⟩
set_option hygiene false in
local macro_rules | `(tactic| wtm_at "u") => `(tactic| first | ((with_reducible refine' spGone_u1 ?g0 ?g1 ?g2 (fun HH sm => ?_) ?he); (case he => rfl); (case g0 => wtm_at "ro"); (case g1 => wtm_at "as"); (case g2 => wtm_at "as")) | fail)
def spVery (K : PySem.W.Frag) (a : Ad) : Sp := fun vs H Q E => ∃ (p dx w : Addr) (M : Nat) (ws : Ways) (last way : Int), vs = [.ref p, .int way] ∧ (RoAt a.Roads H p dx w M ws last) ∧ (0 ≤ way ∧ way < 5) ∧ (∀ HH, (Same H HH) → Q (.bl true) HH)
theorem spVery_u1 {K : PySem.W.Frag} {a : Ad} {H : Hp} {Q : VK} {E : XK} {vs : List V} {p dx w : Addr} {M : Nat} {ws : Ways} {last way : Int} (g0 : RoAt a.Roads H p dx w M ws last) (g1 : 0 ≤ way ∧ way < 5) (k : ∀ HH, (Same H HH) → Q (.bl true) HH) (he : vs = [.ref p, .int way] := by rfl) : spVery K a vs H Q E := ⟨p, dx, w, M, ws, last, way, he, g0, g1, k⟩
set_option hygiene false in
local macro_rules | `(tactic| wtm_at "u") => `(tactic| first | ((with_reducible refine' spVery_u1 ?g0 ?g1 (fun HH sm => ?_) ?he); (case he => rfl); (case g0 => wtm_at "ro"); (case g1 => wtm_at "as")) | fail)
def spRefd (K : PySem.W.Frag) (a : Ad) : Sp := fun vs H Q E => ∃ (p dx w G : Addr) (M : Nat) (ws : Ways) (last : Int) (gs : List Int), vs = [.ref p, .int M, .ref G, .int last] ∧ (RoAt a.Roads H p dx w M ws last) ∧ (H G = some (.lst (gs.map V.int))) ∧ (∀ g ∈ gs, g ∉ ksW ws) ∧ (gs.length ≤ 60) ∧ (last ≤ 100) ∧ (∀ HH, (Same H HH) → Q (.bl true) HH)
theorem spRefd_u1 {K : PySem.W.Frag} {a : Ad} {H : Hp} {Q : VK} {E : XK} {vs : List V} {p dx w G : Addr} {M : Nat} {ws : Ways} {last : Int} {gs : List Int} (g0 : RoAt a.Roads H p dx w M ws last) (g1 : H G = some (.lst (gs.map V.int))) (g2 : ∀ g ∈ gs, g ∉ ksW ws) (g3 : gs.length ≤ 60) (g4 : last ≤ 100) (k : ∀ HH, (Same H HH) → Q (.bl true) HH) (he : vs = [.ref p, .int M, .ref G, .int last] := by rfl) : spRefd K a vs H Q E := ⟨p, dx, w, G, M, ws, last, gs, he, g0, g1, g2, g3, g4, k⟩
set_option hygiene false in
local macro_rules | `(tactic| wtm_at "u") => `(tactic| first | ((with_reducible refine' spRefd_u1 ?g0 ?g1 ?g2 ?g3 ?g4 (fun HH sm => ?_) ?he); (case he => rfl); (case g0 => wtm_at "ro"); (case g1 => wtm_at "get"); (case g2 => wtm_at "as"); (case g3 => wtm_at "as"); (case g4 => wtm_at "as")) | fail)
def spStnd (K : PySem.W.Frag) (a : Ad) : Sp := fun vs H Q E => ∃ (p dx w W : Addr) (M : Nat) (ws : Ways) (last : Int), vs = [.ref p, .ref W] ∧ (RoAt a.Roads H p dx w M ws last) ∧ (WayAt H W ws) ∧ (∀ HH, (Same H HH) → Q (.bl true) HH)
theorem spStnd_u1 {K : PySem.W.Frag} {a : Ad} {H : Hp} {Q : VK} {E : XK} {vs : List V} {p dx w W : Addr} {M : Nat} {ws : Ways} {last : Int} (g0 : RoAt a.Roads H p dx w M ws last) (g1 : WayAt H W ws) (k : ∀ HH, (Same H HH) → Q (.bl true) HH) (he : vs = [.ref p, .ref W] := by rfl) : spStnd K a vs H Q E := ⟨p, dx, w, W, M, ws, last, he, g0, g1, k⟩
set_option hygiene false in
local macro_rules | `(tactic| wtm_at "u") => `(tactic| first | ((with_reducible refine' spStnd_u1 ?g0 ?g1 (fun HH sm => ?_) ?he); (case he => rfl); (case g0 => wtm_at "ro"); (case g1 => wtm_at "wa")) | fail)
def spMade (K : PySem.W.Frag) (a : Ad) : Sp := fun vs H Q E => ∃ (v : V), vs = [v] ∧ (OddV H v) ∧ (isWh 2 (.int 5) v = false) ∧ (∀ HH, (Same H HH) → Q (.bl true) HH)
theorem spMade_u1 {K : PySem.W.Frag} {a : Ad} {H : Hp} {Q : VK} {E : XK} {vs : List V} {v : V} (g0 : OddV H v) (g1 : isWh 2 (.int 5) v = false) (k : ∀ HH, (Same H HH) → Q (.bl true) HH) (he : vs = [v] := by rfl) : spMade K a vs H Q E := ⟨v, he, g0, g1, k⟩
set_option hygiene false in
local macro_rules | `(tactic| wtm_at "u") => `(tactic| first | ((with_reducible refine' spMade_u1 ?g0 ?g1 (fun HH sm => ?_) ?he); (case he => rfl); (case g0 => wtm_at "od"); (case g1 => wtm_at "as")) | fail)
def spStep (K : PySem.W.Frag) (a : Ad) : Sp := fun vs H Q E => ∃ (p dx w o W G pl : Addr) (M : Nat) (ws : Ways) (gs : List Int) (last m : Int), vs = [.ref p, .ref o, .int last, .ref pl] ∧ (RoAt a.Roads H p dx w M ws last) ∧ (OwAt H o W G M ws gs) ∧ (H pl = some (.lst [.int m])) ∧ (pl ≠ G) ∧ (w ≠ W) ∧ (∀ g ∈ gs, g ∉ ksW ws ∧ g ≤ last) ∧ (ws.length < 60) ∧ (gs.length ≤ 60) ∧ (∀ HH (ws' : Ways) (gs' : List Int) last' (m' : Int), (SameBs [p, w, W, G, pl] H HH) → (RoAt a.Roads HH p dx w M ws' last') → (OwAt HH o W G M ws' gs') → (∀ g ∈ gs', g ∉ ksW ws' ∧ g ≤ last') → (HH pl = some (.lst [.int m'])) → (ws'.length ≤ ws.length + 1 ∧ gs'.length ≤ gs.length + 1 ∧ last' ≤ last + 1) → Q (.int last') HH)
theorem spStep_u1 {K : PySem.W.Frag} {a : Ad} {H : Hp} {Q : VK} {E : XK} {vs : List V} {p dx w o W G pl : Addr} {M : Nat} {ws : Ways} {gs : List Int} {last m : Int} (g0 : RoAt a.Roads H p dx w M ws last) (g1 : OwAt H o W G M ws gs) (g2 : H pl = some (.lst [.int m])) (g3 : pl ≠ G) (g4 : w ≠ W) (g5 : ∀ g ∈ gs, g ∉ ksW ws ∧ g ≤ last) (g6 : ws.length < 60) (g7 : gs.length ≤ 60) (k : ∀ HH (ws' : Ways) (gs' : List Int) last' (m' : Int), (SameBs [p, w, W, G, pl] H HH) → (RoAt a.Roads HH p dx w M ws' last') → (OwAt HH o W G M ws' gs') → (∀ g ∈ gs', g ∉ ksW ws' ∧ g ≤ last') → (HH pl = some (.lst [.int m'])) → (ws'.length ≤ ws.length + 1 ∧ gs'.length ≤ gs.length + 1 ∧ last' ≤ last + 1) → Q (.int last') HH) (he : vs = [.ref p, .ref o, .int last, .ref pl] := by rfl) : spStep K a vs H Q E := ⟨p, dx, w, o, W, G, pl, M, ws, gs, last, m, he, g0, g1, g2, g3, g4, g5, g6, g7, k⟩
set_option hygiene false in
local macro_rules | `(tactic| wtm_at "u") => `(tactic| first | ((with_reducible refine' spStep_u1 ?g0 ?g1 ?g2 ?g3 ?g4 ?g5 ?g6 ?g7 (fun HH ws' gs' last' m' sb hro' how' hgs' hq' hb' => ?_) ?he); (case he => rfl); (case g0 => wtm_at "ro"); (case g1 => wtm_at "ow"); (case g2 => wtm_at "get"); (case g3 => wtm_at "as"); (case g4 => wtm_at "as"); (case g5 => wtm_at "as"); (case g6 => wtm_at "as"); (case g7 => wtm_at "as")) | fail)
def spLook (K : PySem.W.Frag) (a : Ad) : Sp := fun vs H Q E => ∃ (p dx w o W G : Addr) (M : Nat) (ws : Ways) (gs : List Int) (last : Int), vs = [.ref p, .ref o, .int last] ∧ (RoAt a.Roads H p dx w M ws last) ∧ (OwAt H o W G M ws gs) ∧ (∀ g ∈ gs, g ∉ ksW ws) ∧ (gs.length ≤ 60) ∧ (last ≤ 100) ∧ (∀ HH, (Same H HH) → Q (.bl true) HH)
theorem spLook_u1 {K : PySem.W.Frag} {a : Ad} {H : Hp} {Q : VK} {E : XK} {vs : List V} {p dx w o W G : Addr} {M : Nat} {ws : Ways} {gs : List Int} {last : Int} (g0 : RoAt a.Roads H p dx w M ws last) (g1 : OwAt H o W G M ws gs) (g2 : ∀ g ∈ gs, g ∉ ksW ws) (g3 : gs.length ≤ 60) (g4 : last ≤ 100) (k : ∀ HH, (Same H HH) → Q (.bl true) HH) (he : vs = [.ref p, .ref o, .int last] := by rfl) : spLook K a vs H Q E := ⟨p, dx, w, o, W, G, M, ws, gs, last, he, g0, g1, g2, g3, g4, k⟩
set_option hygiene false in
local macro_rules | `(tactic| wtm_at "u") => `(tactic| first | ((with_reducible refine' spLook_u1 ?g0 ?g1 ?g2 ?g3 ?g4 (fun HH sm => ?_) ?he); (case he => rfl); (case g0 => wtm_at "ro"); (case g1 => wtm_at "ow"); (case g2 => wtm_at "as"); (case g3 => wtm_at "as"); (case g4 => wtm_at "as")) | fail)
/-- an entry of a script -/
def spCell (K : PySem.W.Frag) : Sp := fun vs H Q _ => ∃ (p : Addr) (ns : List Int) (i : Int), vs = [.ref p, .int i] ∧ SqL K H p (ns.map V.int) ∧ 0 ≤ i ∧ ∀ n, Q (.int n) H
section
variable {P : Program} {w : World} {K : PySem.W.Frag} {mg : Str → Option Value} {base : Heap} {a : Ad}
theorem ok__law_cell_at (T : Txt K mg a) : FnOk P w K mg base CX0 1 a._law_cell_at a.d__law_cell_at ["script", "k"] (spCell K) := by
  refine fund_ok0 T.F__law_cell_at sc__law_cell_at (fun vs H Q E h => ?_) (fun cdv A outer s H vs Q E hr h => ?_)
  · obtain ⟨p, ns, i, rfl, hp, h0, k⟩ := h
    rfl
  · obtain ⟨p, ns, i, rfl, hp, h0, k⟩ := h
    refine ⟨_, (pss_cons (ps_if (pt_cmpR op_ltU (pv 1) (pe_callB (call_lenU (K := K)) (by rfl) T.b_len (by decide +kernel) (pa_cons (pv 0) pa_nil)) (nomark _)) (pss_one (ps_ret (pe_ix (ix_U (K := K)) (pv 0) (pv 1) (fun _ _ => rfl)))) pss_nil)
    (pss_one (ps_ret pe_int))), ?_⟩
    dsimp only [L2.start, List.map_cons, List.map_nil, List.map, List.length_cons, List.length_nil, Nat.reduceAdd, Nat.reduceSub, List.replicate, List.cons_append, List.nil_append]
    have ln : (ns.map V.int).length = ns.length := List.length_map ..
    wtm_at "gs"
    · obtain ⟨x, _, hx, hx'⟩ := atI_in (xs := ns.map V.int) (r := i) h0 (by assumption)
      obtain ⟨n, _, rfl, hn⟩ := map_int_at hx
      wtm_at "gs"
      exact k _
    · exact k _
theorem ok__law_road (T : Txt K mg a) : FnOk P w K mg base CX0 7 a._law_road a.d__law_road ["roads", "way", "start", "goal"] (spRoad K a) := by
  refine fund_ok0 T.F__law_road sc__law_road (fun vs H Q E h => ?_) (fun cdv A outer s H vs Q E hr h => ?_)
  · obtain ⟨p, dx, w, M, ws, last, way, s, g, f, rfl, hro, hwy, hb, k⟩ := h
    rfl
  · obtain ⟨p, dx, w, M, ws, last, way, s, g, f, rfl, hro, hwy, hb, k⟩ := h
    refine ⟨_, (pss_cons (ps_tryM rfl rfl sc__law_road.nd takes0 (fun W pn xe tk hp => (pss_one (ps_if (pt_cmpR (op_eqU hr.units (K := K)) (pv 1) pe_int (nomark _)) (pss_one (ps_expr (pe_methS (pv 0) T.c_Roads T.M_Roads_put (ok_Roads_put (K := K) T) (hr.mono (by decide)) T.B_Roads_put .nil (passAt tk) (pa_cons (pv 2) (pa_cons (pv 3) (pa_cons pe_str pa_nil)))))) (pss_one (ps_expr (pe_methS (pv 0) T.c_Roads T.M_Roads_between (ok_Roads_between (K := K) T) (hr.mono (by decide)) T.B_Roads_between .nil (passAt tk) (pa_cons (pv 2) (pa_cons (pv 3) pa_nil))))))))
    (.named (i := 4) rfl rfl (.one ⟨by rfl, by decide, .inl T.m_NoMember⟩) (fun ea oe cls ed pn hz hf => (pss_one (ps_ret (pe_tup (pa_cons (pe_xfA (K := K) hz hf (pv 4)) (pa_cons (pe_and (pe_callB (call_isX (K := K) hz hf) (by rfl) T.b_isinstance (by decide +kernel) (pa_cons (pv 4) (pa_cons (pe_glob rfl T.m_HallError (show RelV (V.ref a.HallError) _ from rfl)) pa_nil))) (pe_one (pe_not (pe_callB (call_isX (K := K) hz hf) (by rfl) T.b_isinstance (by decide +kernel) (pa_cons (pv 4) (pa_cons (pe_glob rfl T.m_Missing (show RelV (V.ref a.Missing) _ from rfl)) pa_nil)))))) pa_nil)))))) .nil) pss_nil)
    (pss_one (ps_ret (pe_tup (pa_cons pe_str (pa_cons pe_bl pa_nil)))))), ?_⟩
    dsimp only [L2.start, List.map_cons, List.map_nil, List.map, List.length_cons, List.length_nil, Nat.reduceAdd, Nat.reduceSub, List.replicate, List.cons_append, List.nil_append]
    obtain ⟨hpo, hw, hM, ok⟩ := id hro
    rcases hwy with rfl | rfl
    · wtm_at "gs"
      exact k _ q (sm.trans sa) (none_same sm hq) hg
    · wtm_at "gs"
      exact k _ q (sm.trans sa) (none_same sm hq) hg
theorem ok__law_number (T : Txt K mg a) : FnOk P w K mg base CX0 7 a._law_number a.d__law_number ["roads", "way", "number"] (spNumL K a) := by
  refine fund_ok0 T.F__law_number sc__law_number (fun vs H Q E h => ?_) (fun cdv A outer s H vs Q E hr h => ?_)
  · obtain ⟨p, dx, w, M, ws, last, way, x, rfl, hro, hwy, hn, k⟩ := h
    rfl
  · obtain ⟨p, dx, w, M, ws, last, way, x, rfl, hro, hwy, hn, k⟩ := h
    refine ⟨_, (pss_cons (ps_tryM rfl rfl sc__law_number.nd takes0 (fun W pn xe tk hp => (pss_one (ps_if (pt_cmpR (op_eqU hr.units (K := K)) (pv 1) pe_int (nomark _)) (pss_one (ps_expr (pe_methS (pv 0) T.c_Roads T.M_Roads_come (ok_Roads_come (K := K) T) (hr.mono (by decide)) T.B_Roads_come .nil (passAt tk) (pa_cons (pv 2) pa_nil)))) (pss_one (ps_if (pt_cmpR (op_eqU hr.units (K := K)) (pv 1) pe_int (nomark _)) (pss_one (ps_expr (pe_methS (pv 0) T.c_Roads T.M_Roads_lose (ok_Roads_lose (K := K) T) (hr.mono (by decide)) T.B_Roads_lose .nil (passAt tk) (pa_cons (pv 2) pa_nil)))) (pss_one (ps_expr (pe_methS (pv 0) T.c_Roads T.M_Roads_double (ok_Roads_double (K := K) T) (hr.mono (by decide)) T.B_Roads_double .nil (passAt tk) (pa_cons (pv 2) pa_nil)))))))))
    (.named (i := 3) rfl rfl (.one ⟨by rfl, by decide, .inl T.m_NotOnRoad⟩) (fun ea oe cls ed pn hz hf => (pss_one (ps_ret (pe_tup (pa_cons (pe_xfA (K := K) hz hf (pv 3)) (pa_cons (pe_and (pe_callB (call_isX (K := K) hz hf) (by rfl) T.b_isinstance (by decide +kernel) (pa_cons (pv 3) (pa_cons (pe_glob rfl T.m_Missing (show RelV (V.ref a.Missing) _ from rfl)) pa_nil))) (pe_one (pe_callB (call_isX (K := K) hz hf) (by rfl) T.b_isinstance (by decide +kernel) (pa_cons (pv 3) (pa_cons (pe_bltn (v := .ty "KeyError") (u := .type "KeyError") (by rfl) T.b_KeyError (by decide +kernel) rfl) pa_nil))))) pa_nil)))))) .nil) pss_nil)
    (pss_one (ps_ret (pe_tup (pa_cons pe_str (pa_cons pe_bl pa_nil)))))), ?_⟩
    dsimp only [L2.start, List.map_cons, List.map_nil, List.map, List.length_cons, List.length_nil, Nat.reduceAdd, Nat.reduceSub, List.replicate, List.cons_append, List.nil_append]
    obtain ⟨hpo, hw, hM, ok⟩ := id hro
    rcases hwy with rfl | rfl | rfl
    all_goals wtm_at "gs"
    all_goals exact k _ q (sm.trans sa) (none_same sm hq) hg
theorem ok__law_kinds (T : Txt K mg a) : FnOk P w K mg base CX0 1 a._law_kinds a.d__law_kinds ["found", "thing"] (spKinds K) := by
  refine fund_ok0 T.F__law_kinds sc__law_kinds (fun vs H Q E h => ?_) (fun cdv A outer s H vs Q E hr h => ?_)
  · obtain ⟨v, rfl, ho, k⟩ := h
    rfl
  · obtain ⟨v, rfl, ho, k⟩ := h
    refine ⟨_, (pss_one (ps_ret (pe_and (pe_cmpR (op_eqU hr.units (K := K)) (pe_callB (call_isiB .bl (K := K)) (by rfl) T.b_isinstance (by decide +kernel) (pa_cons (pv 0) (pa_cons (pe_bltn (v := .ty "bool") (u := .type "bool") (by rfl) T.b_bool (by decide +kernel) rfl) pa_nil))) (pe_callB (call_isiB .bl (K := K)) (by rfl) T.b_isinstance (by decide +kernel) (pa_cons (pv 1) (pa_cons (pe_bltn (v := .ty "bool") (u := .type "bool") (by rfl) T.b_bool (by decide +kernel) rfl) pa_nil))) (nomark _)) (pe_one (pe_cmpR (opr_or (op_eqU hr.units (K := K)) (op_eq_dictA hr.units0)) (pv 0) (pv 1) (nomark _)))))), ?_⟩
    dsimp only [L2.start, List.map_cons, List.map_nil, List.map, List.length_cons, List.length_nil, Nat.reduceAdd, Nat.reduceSub, List.replicate, List.cons_append, List.nil_append]
    rcases id ho with h | ⟨q, xs, rfl, h, f⟩ | ⟨q, xs, rfl, h, f⟩ | ⟨q, rfl, h⟩
    · cases v <;> first | (cases h; done) | skip
      all_goals wtm_at "gs"
      all_goals exact ho.self k
    all_goals wtm_at "gs"
    all_goals exact ho.self k
theorem okp__law_kinds (T : Txt K mg a) : FnP P w K mg base 1 a._law_kinds a.d__law_kinds ["found", "thing"] (spKinds K) := by
  refine fund_okP T.F__law_kinds sc__law_kinds (fun vs H Q E h => ?_) (fun cdv A outer s H vs Q E p hr h => ?_)
  · obtain ⟨v, rfl, ho, k⟩ := h
    rfl
  · obtain ⟨v, rfl, ho, k⟩ := h
    refine ⟨_, (pss_one (ps_ret (pe_and (pe_cmpR (op_eqU hr.units (K := K)) (pe_callB (call_isiB .bl (K := K)) (by rfl) T.b_isinstance (by decide +kernel) (pa_cons (pv 0) (pa_cons (pe_bltn (v := .ty "bool") (u := .type "bool") (by rfl) T.b_bool (by decide +kernel) rfl) pa_nil))) (pe_callB (call_isiB .bl (K := K)) (by rfl) T.b_isinstance (by decide +kernel) (pa_cons (pv 1) (pa_cons (pe_bltn (v := .ty "bool") (u := .type "bool") (by rfl) T.b_bool (by decide +kernel) rfl) pa_nil))) (nomark _)) (pe_one (pe_cmpR (opr_or (op_eqU hr.units (K := K)) (op_eq_dictA hr.units0)) (pv 0) (pv 1) (nomark _)))))), ?_⟩
    dsimp only [L2.start, List.map_cons, List.map_nil, List.map, List.length_cons, List.length_nil, Nat.reduceAdd, Nat.reduceSub, List.replicate, List.cons_append, List.nil_append]
    rcases id ho with h | ⟨q, xs, rfl, h, f⟩ | ⟨q, xs, rfl, h, f⟩ | ⟨q, rfl, h⟩
    · cases v <;> first | (cases h; done) | skip
      all_goals wtm_at "gs"
      all_goals exact ho.self k
    all_goals wtm_at "gs"
    all_goals exact ho.self k
theorem ok__law_gone (T : Txt K mg a) : FnOk P w K mg base CX0 8 a._law_gone a.d__law_gone ["roads", "number", "order"] (spGone K a) := by
  refine fund_ok0 T.F__law_gone sc__law_gone (fun vs H Q E h => ?_) (fun cdv A outer s H vs Q E hr h => ?_)
  · obtain ⟨p, dx, w, M, ws, last, n, order, rfl, hro, hn, ho, k⟩ := h
    rfl
  · obtain ⟨p, dx, w, M, ws, last, n, order, rfl, hro, hn, ho, k⟩ := h
    refine ⟨_, (pss_cons (ps_for PassesOwn.never rfl (pi_listK (K := K) (pe_ix (ix_U (K := K)) (pe_lst (pa_cons (pe_lst (pa_cons pe_int (pa_cons pe_int (pa_cons pe_int pa_nil)))) (pa_cons (pe_lst (pa_cons pe_int (pa_cons pe_int (pa_cons pe_int pa_nil)))) (pa_cons (pe_lst (pa_cons pe_int (pa_cons pe_int (pa_cons pe_int pa_nil)))) (pa_cons (pe_lst (pa_cons pe_int (pa_cons pe_int (pa_cons pe_int pa_nil)))) pa_nil))))) (pv 2) (fun _ _ => rfl))) (pg_name (i := 3) sc__law_gone.nd rfl (by first | exact Or.inl rfl | exact Or.inr rfl))
    (pss_one (ps_if (pt_cmpR (op_neU hr.units (K := K)) (pe_call (ok__law_number (K := K) T) (hr.mono (by decide)) (by rfl) T.m__law_number T.F__law_number.kp T.B__law_number .nil pass0 (pa_cons (pv 0) (pa_cons (pv 3) (pa_cons (pv 1) pa_nil)))) (pe_tup (pa_cons (pv 1) (pa_cons pe_bl pa_nil))) (nomark _)) (pss_one (ps_ret pe_bl)) pss_nil)))
    (pss_one (ps_ret pe_bl))), ?_⟩
    dsimp only [L2.start, List.map_cons, List.map_nil, List.map, List.length_cons, List.length_nil, Nat.reduceAdd, Nat.reduceSub, List.replicate, List.cons_append, List.nil_append]
    obtain ⟨hp, hw, hM, ok⟩ := id hro
    have nn : ∀ {H' : Hp}, NoNu K H' ws (.int n) := .inr ⟨n, rfl, hn⟩
    obtain rfl | rfl | rfl | rfl : order = 0 ∨ order = 1 ∨ order = 2 ∨ order = 3 := by omega
    all_goals
      wtm_at "gs"
      refine for_pred (K := K) (fun σ => ∃ v2 v3, σ = [some (.ref p), some (.int n), v2, v3]) (fun _ y => ∃ i : Int, y = .int i ∧ (i = 0 ∨ i = 1 ∨ i = 2)) (.of (by wtm_at "get")) (fun y hy => ?c1) ⟨_, _, rfl⟩ (fun y σ H' py hS s1 => ?c2) (fun σ H' hS s1 => ?c3)
      case c1 =>
        simp only [List.mem_cons, List.not_mem_nil, or_false] at hy
        rcases hy with rfl | rfl | rfl <;> exact ⟨_, rfl, by decide⟩
      case c2 =>
        obtain ⟨i, rfl, hi⟩ := py
        obtain ⟨v2, v3, rfl⟩ := hS
        have hroI := hro.same (show Same H H' by wtm_at "same")
        have nnI : NoNu K H' ws (.int n) := nn
        have w1 := s1
        wtm_at "gs"
        exact ⟨⟨_, _, rfl⟩, w1.trans (sm.trans sa)⟩
      case c3 =>
        obtain ⟨v2, v3, rfl⟩ := hS
        wtm_at "gs"
        exact k _ (by wtm_at "same")
theorem ok__law_very (T : Txt K mg a) : FnOk P w K mg base CX0 8 a._law_very a.d__law_very ["roads", "way"] (spVery K a) := by
  refine fund_ok0 T.F__law_very sc__law_very (fun vs H Q E h => ?_) (fun cdv A outer s H vs Q E hr h => ?_)
  · obtain ⟨p, dx, w, M, ws, last, way, rfl, hro, hwy, k⟩ := h
    rfl
  · obtain ⟨p, dx, w, M, ws, last, way, rfl, hro, hwy, k⟩ := h
    refine ⟨_, (pss_cons (ps_set (i := 2) sc__law_very.nd rfl (by first | exact Or.inl rfl | exact Or.inr rfl) (pe_lst (pa_cons pe_int pa_nil)))
    (pss_cons (ps_if (pt_cmpR (op_eqU hr.units (K := K)) (pv 1) pe_int (nomark _)) (pss_one (ps_set (i := 3) sc__law_very.nd rfl (by first | exact Or.inl rfl | exact Or.inr rfl) (pe_call (ok__law_road (K := K) T) (hr.mono (by decide)) (by rfl) T.m__law_road T.F__law_road.kp T.B__law_road .nil pass0 (pa_cons (pv 0) (pa_cons pe_int (pa_cons (pv 2) (pa_cons pe_int pa_nil))))))) (pss_one (ps_if (pt_cmpR (op_eqU hr.units (K := K)) (pv 1) pe_int (nomark _)) (pss_one (ps_set (i := 3) sc__law_very.nd rfl (by first | exact Or.inl rfl | exact Or.inr rfl) (pe_call (ok__law_road (K := K) T) (hr.mono (by decide)) (by rfl) T.m__law_road T.F__law_road.kp T.B__law_road .nil pass0 (pa_cons (pv 0) (pa_cons pe_int (pa_cons pe_int (pa_cons (pv 2) pa_nil))))))) (pss_one (ps_set (i := 3) sc__law_very.nd rfl (by first | exact Or.inl rfl | exact Or.inr rfl) (pe_call (ok__law_number (K := K) T) (hr.mono (by decide)) (by rfl) T.m__law_number T.F__law_number.kp T.B__law_number .nil pass0 (pa_cons (pv 0) (pa_cons (pe_op op_subU (pv 1) pe_int) (pa_cons (pv 2) pa_nil)))))))))
    (pss_cons (ps_expr (pe_appK (K := K) (pe_bm PySem.F.plainAttrs_list PySem.F.slot_list_append PySem.F.type_list_append mt_append (pv 2) (pa_cons pe_str pa_nil))))
    (pss_one (ps_ret (pe_and (pe_cmpR (op_eqU hr.units (K := K)) (pe_ix (ix_U (K := K)) (pv 3) pe_int (fun _ _ => rfl)) (pv 2) (nomark _)) (pe_one (pe_ix (ix_U (K := K)) (pv 3) pe_int (fun _ _ => rfl))))))))), ?_⟩
    dsimp only [L2.start, List.map_cons, List.map_nil, List.map, List.length_cons, List.length_nil, Nat.reduceAdd, Nat.reduceSub, List.replicate, List.cons_append, List.nil_append]
    obtain ⟨hpo, hw, hM, ok⟩ := id hro
    have br1 : ∀ {H' : Hp} {q : Addr} {g : V}, H' q = some (.lst [.int 1]) → BadR K H' M (.ref q) g (.ref q) := fun h => .inl ⟨⟨⟨.lst _, .of h, trivial⟩, rfl⟩, rfl⟩
    have br2 : ∀ {H' : Hp} {q : Addr}, H' q = some (.lst [.int 1]) → BadR K H' M (.int 0) (.ref q) (.ref q) := fun h => .inr ⟨0, rfl, ⟨by decide, by omega⟩, .inl ⟨⟨⟨.lst _, .of h, trivial⟩, rfl⟩, rfl⟩⟩
    have nn : ∀ {H' : Hp} {q : Addr}, H' q = some (.lst [.int 1]) → NoNu K H' ws (.ref q) := fun h => .inl ⟨⟨.lst _, .of h, trivial⟩, rfl⟩
    have f0 : (0 : Int) = 0 ∨ (0 : Int) = 1 := .inl rfl
    have f1 : (1 : Int) = 0 ∨ (1 : Int) = 1 := .inr rfl
    have e2 : (2 : Int) - 2 = 0 ∨ (2 : Int) - 2 = 1 ∨ (2 : Int) - 2 = 2 := by decide
    have e3 : (3 : Int) - 2 = 0 ∨ (3 : Int) - 2 = 1 ∨ (3 : Int) - 2 = 2 := by decide
    have e4 : (4 : Int) - 2 = 0 ∨ (4 : Int) - 2 = 1 ∨ (4 : Int) - 2 = 2 := by decide
    wtm_at "gi"
    have b1 := br1 (g := .int 0) hg
    have b2 := br2 hg
    have n1 := nn hg
    have hroN := hro.same sa
    obtain ⟨L, eL⟩ : ∃ y, y = q := ⟨_, rfl⟩
    subst eL
    have nL := hq
    have gL := hg
    have w1 : Same H HN ∧ True := ⟨sa, trivial⟩
    clear br1 br2 nn hro hq hg sa
    obtain rfl | rfl | rfl | rfl | rfl : way = 0 ∨ way = 1 ∨ way = 2 ∨ way = 3 ∨ way = 4 := by omega
    all_goals
      wtm_at "gs"
      refine i_eqG (n := 2) (.inl ⟨.of hg, .of hg⟩) (by decide) (EqVs.selfF (fun x hx => by simp at hx; rcases hx with rfl | rfl <;> rfl)) ?_
      have gt := sb _ _ (ne_of_none gL no).symm hq
      refine i_bl ?_
      rw [if_pos rfl]
      clear hq hg
      wtm_at "gs"
      exact k _ (fun b u e => sb _ _ (ne_of_none e nL) (sm _ _ (w1.1 _ _ e)))
theorem ok__law_refused (T : Txt K mg a) : FnOk P w K mg base CX0 9 a._law_refused a.d__law_refused ["roads", "members", "gone", "last"] (spRefd K a) := by
  refine fund_ok0 T.F__law_refused sc__law_refused (fun vs H Q E h => ?_) (fun cdv A outer s H vs Q E hr h => ?_)
  · obtain ⟨p, dx, w, G, M, ws, last, gs, rfl, hro, hG, hgs, hl, hl2, k⟩ := h
    rfl
  · obtain ⟨p, dx, w, G, M, ws, last, gs, rfl, hro, hG, hgs, hl, hl2, k⟩ := h
    refine ⟨_, (pss_cons (ps_for PassesOwn.never rfl (pi_listK (K := K) (pe_lst (pa_cons (pv 1) (pa_cons (pe_un un_neg pe_int) (pa_cons pe_non (pa_cons pe_bl (pa_cons pe_str (pa_cons (pe_lst (pa_cons pe_int pa_nil)) (pa_cons (pe_tup (pa_cons pe_int (pa_cons pe_int pa_nil))) (pa_cons (pe_op op_powU pe_int pe_int) (pa_cons pe_dnewK pa_nil))))))))))) (pg_name (i := 4) sc__law_refused.nd rfl (by first | exact Or.inl rfl | exact Or.inr rfl))
    (pss_one (ps_for PassesOwn.never rfl (pi_range1 (by rfl) T.b_range (pa_cons pe_int pa_nil)) (pg_name (i := 5) sc__law_refused.nd rfl (by first | exact Or.inl rfl | exact Or.inr rfl))
    (pss_cons (ps_for PassesOwn.never rfl (pi_listK (K := K) (pe_lst (pa_cons pe_int (pa_cons (pe_op op_subU (pv 1) pe_int) (pa_cons pe_non pa_nil))))) (pg_name (i := 6) sc__law_refused.nd rfl (by first | exact Or.inl rfl | exact Or.inr rfl))
    (pss_cons (ps_set (i := 7) sc__law_refused.nd rfl (by first | exact Or.inl rfl | exact Or.inr rfl) (pe_call (ok__law_road (K := K) T) (hr.mono (by decide)) (by rfl) T.m__law_road T.F__law_road.kp T.B__law_road .nil pass0 (pa_cons (pv 0) (pa_cons (pv 5) (pa_cons (pv 4) (pa_cons (pv 6) pa_nil))))))
    (pss_one (ps_if (PW.pt (pw_or (pt_not (pt_val (pe_call (ok__law_kinds (K := K) T) (hr.mono (by decide)) (by rfl) T.m__law_kinds T.F__law_kinds.kp T.B__law_kinds .nil pass0 (pa_cons (pe_ix (ix_U (K := K)) (pv 7) pe_int (fun _ _ => rfl)) (pa_cons (pv 4) pa_nil))))) (pw_or1 (pt_not (pt_truth (pe_ix (ix_U (K := K)) (pv 7) pe_int (fun _ _ => rfl)) (by intro _; rfl)))))) (pss_one (ps_ret pe_bl)) pss_nil))))
    (pss_cons (ps_set (i := 7) sc__law_refused.nd rfl (by first | exact Or.inl rfl | exact Or.inr rfl) (pe_call (ok__law_road (K := K) T) (hr.mono (by decide)) (by rfl) T.m__law_road T.F__law_road.kp T.B__law_road .nil pass0 (pa_cons (pv 0) (pa_cons (pv 5) (pa_cons (pe_op op_subU (pv 1) pe_int) (pa_cons (pv 4) pa_nil))))))
    (pss_one (ps_if (PW.pt (pw_or (pt_not (pt_val (pe_call (ok__law_kinds (K := K) T) (hr.mono (by decide)) (by rfl) T.m__law_kinds T.F__law_kinds.kp T.B__law_kinds .nil pass0 (pa_cons (pe_ix (ix_U (K := K)) (pv 7) pe_int (fun _ _ => rfl)) (pa_cons (pv 4) pa_nil))))) (pw_or1 (pt_not (pt_truth (pe_ix (ix_U (K := K)) (pv 7) pe_int (fun _ _ => rfl)) (by intro _; rfl)))))) (pss_one (ps_ret pe_bl)) pss_nil)))))))
    (pss_cons (ps_for PassesOwn.never rfl (pi_range1 (by rfl) T.b_range (pa_cons (pv 1) pa_nil)) (pg_name (i := 8) sc__law_refused.nd rfl (by first | exact Or.inl rfl | exact Or.inr rfl))
    (pss_one (ps_for PassesOwn.never rfl (pi_range1 (by rfl) T.b_range (pa_cons pe_int pa_nil)) (pg_name (i := 5) sc__law_refused.nd rfl (by first | exact Or.inl rfl | exact Or.inr rfl))
    (pss_one (ps_if (pt_cmpR (op_neU hr.units (K := K)) (pe_call (ok__law_road (K := K) T) (hr.mono (by decide)) (by rfl) T.m__law_road T.F__law_road.kp T.B__law_road .nil pass0 (pa_cons (pv 0) (pa_cons (pv 5) (pa_cons (pv 8) (pa_cons (pv 8) pa_nil))))) (pe_tup (pa_cons (pv 8) (pa_cons pe_bl pa_nil))) (nomark _)) (pss_one (ps_ret pe_bl)) pss_nil)))))
    (pss_cons (ps_for PassesOwn.never rfl (pi_listK (K := K) (pe_op (op_addU (K := K)) (pv 2) (pe_lst (pa_cons pe_int (pa_cons (pe_un un_neg pe_int) (pa_cons (pe_op (op_addU (K := K)) (pv 3) pe_int) (pa_cons pe_non (pa_cons pe_bl (pa_cons pe_bl (pa_cons pe_str (pa_cons (pe_lst (pa_cons pe_int pa_nil)) (pa_cons (pe_tup (pa_cons pe_int pa_nil)) (pa_cons (pe_op op_powU pe_int pe_int) (pa_cons pe_dnewK pa_nil)))))))))))))) (pg_name (i := 4) sc__law_refused.nd rfl (by first | exact Or.inl rfl | exact Or.inr rfl))
    (pss_one (ps_for PassesOwn.never rfl (pi_range1 (by rfl) T.b_range (pa_cons pe_int pa_nil)) (pg_name (i := 5) sc__law_refused.nd rfl (by first | exact Or.inl rfl | exact Or.inr rfl))
    (pss_cons (ps_set (i := 7) sc__law_refused.nd rfl (by first | exact Or.inl rfl | exact Or.inr rfl) (pe_call (ok__law_number (K := K) T) (hr.mono (by decide)) (by rfl) T.m__law_number T.F__law_number.kp T.B__law_number .nil pass0 (pa_cons (pv 0) (pa_cons (pv 5) (pa_cons (pv 4) pa_nil)))))
    (pss_one (ps_if (PW.pt (pw_or (pt_not (pt_val (pe_call (ok__law_kinds (K := K) T) (hr.mono (by decide)) (by rfl) T.m__law_kinds T.F__law_kinds.kp T.B__law_kinds .nil pass0 (pa_cons (pe_ix (ix_U (K := K)) (pv 7) pe_int (fun _ _ => rfl)) (pa_cons (pv 4) pa_nil))))) (pw_or1 (pt_not (pt_truth (pe_ix (ix_U (K := K)) (pv 7) pe_int (fun _ _ => rfl)) (by intro _; rfl)))))) (pss_one (ps_ret pe_bl)) pss_nil))))))
    (pss_one (ps_ret (pe_callB (cr_allK (K := K) rfl) (by rfl) T.b_all (by decide +kernel) (pa_cons (pe_lc (own := [("way", 5)]) rfl sc__law_refused.nd (pi_range1 (by rfl) T.b_range (pa_cons pe_int pa_nil)) (blkOk_by (own := [("way", 5)]) (N := ["roads", "members", "gone", "last", "thing", "way", "other", "told", "member"]) (sc := defScope s__law_refused) (by decide +kernel)) (fun _ _ _ _ _ => (pg_name (i := 5) sc__law_refused.nd rfl (by first | exact Or.inl rfl | exact Or.inr rfl))) (fun _ _ _ _ _ => pts_nil) (fun _ _ _ _ _ => (pe_call (ok__law_very (K := K) T) (hr.mono (by decide)) (by rfl) T.m__law_very T.F__law_very.kp T.B__law_very .nil pass0 (pa_cons (pv 0) (pa_cons (pv 5) pa_nil))))) pa_nil))))))), ?_⟩
    dsimp only [L2.start, List.map_cons, List.map_nil, List.map, List.length_cons, List.length_nil, Nat.reduceAdd, Nat.reduceSub, List.replicate, List.cons_append, List.nil_append]
    obtain ⟨hpo, hw, hM, ok⟩ := id hro
    wtm_at "gs"
    obtain ⟨HB, eB⟩ : ∃ y, y = HN := ⟨_, rfl⟩
    subst eB
    refine for_pred (K := K) (fun σ => ∃ v4 v5 v6 v7 v8, σ = [some (.ref p), some (.int M), some (.ref G), some (.int last), v4, v5, v6, v7, v8]) (fun H y => OddV H y ∧ isWh 0 (.int ((M : Int) - 1)) y = false) (.of hg) (fun y hy => ?c1) ⟨_, _, _, _, _, rfl⟩ (fun y σ H' py hS s1 => ?c2) (fun σ H' hS s1 => ?c3)
    case c1 =>
      simp only [List.mem_cons, List.not_mem_nil, or_false] at hy
      rcases hy with rfl | rfl | rfl | rfl | rfl | rfl | rfl | rfl | rfl
      all_goals refine ⟨?_, by first | rfl | (simp [isWh]; omega) | (simp [isWh]; done)⟩
      all_goals first
        | exact .inl rfl
        | exact .inr (.inl ⟨_, _, rfl, by wtm_at "get", fun x hx => by simp at hx; subst hx; rfl⟩)
        | exact .inr (.inr (.inl ⟨_, _, rfl, by wtm_at "get", fun x hx => by simp at hx; rcases hx with rfl | rfl <;> rfl⟩))
        | exact .inr (.inr (.inr ⟨_, rfl, by wtm_at "get"⟩))
    case c2 =>
      obtain ⟨ho, hwh⟩ := py
      obtain ⟨v4, v5, v6, v7, v8, rfl⟩ := hS
      have w1 : Same HB H' ∧ True := ⟨s1, trivial⟩
      clear s1
      have w0 : Same H HB ∧ True := ⟨by wtm_at "same", trivial⟩
      wtm_at "gs"
      refine for_rngS (n := 2) (fun σ => ∃ v5 v6 v7, σ = [some (.ref p), some (.int M), some (.ref G), some (.int last), some y, v5, v6, v7, v8]) ⟨_, _, _, rfl⟩ (fun i σ H2 hi hS2 s2 => ?d1) (fun σ H2 hS2 s2 => ?d2)
      case d1 =>
        obtain ⟨v5, v6, v7, rfl⟩ := hS2
        have w2 : Same H' H2 ∧ True := ⟨s2, trivial⟩
        have hwy : (0 + (i : Int)) = 0 ∨ (0 + (i : Int)) = 1 := by omega
        wtm_at "gs"
        refine for_pred (K := K) (fun σ => ∃ v6 v7, σ = [some (.ref p), some (.int M), some (.ref G), some (.int last), some y, some (.int (0 + (i : Int))), v6, v7, v8]) (fun H z => True) (.of hg) (fun z hz => trivial) ⟨_, _, rfl⟩ (fun z σ H3 pz hS3 s3 => ?x1) (fun σ H3 hS3 s3 => ?x2)
        case x1 =>
          obtain ⟨v6, v7, rfl⟩ := hS3
          have s5 := (w1.1.trans (w2.1.trans sa)).trans s3
          have s4 := w0.1.trans s5
          have hro3 := hro.same s4
          have ho3 := ho.same s5
          have hb3 : BadR K H3 M y z y := .inl ⟨⟨ho3.kn, hwh⟩, rfl⟩
          have w3 := s3
          clear s4 s5
          wtm_at "gs"
          exact ⟨⟨_, _, rfl⟩, w3.trans sm⟩
        case x2 =>
          obtain ⟨v6, v7, rfl⟩ := hS3
          have s5 := (w1.1.trans (w2.1.trans sa)).trans s3
          have s4 := w0.1.trans s5
          have hro3 := hro.same s4
          have ho3 := ho.same s5
          have hb3 : BadR K H3 M (.int ((M : Int) - 1)) y y := .inr ⟨_, rfl, ⟨by omega, by omega⟩, .inl ⟨⟨ho3.kn, hwh⟩, rfl⟩⟩
          have w3 := s3
          have w4 : Same H2 HN ∧ True := ⟨sa, trivial⟩
          clear s4 s5
          wtm_at "gs"
          exact ⟨⟨_, _, _, rfl⟩, (w2.1.trans w4.1).trans (w3.trans sm)⟩
      case d2 =>
        obtain ⟨v5, v6, v7, rfl⟩ := hS2
        exact ⟨⟨_, _, _, _, _, rfl⟩, w1.1.trans s2⟩
    case c3 =>
      obtain ⟨v4, v5, v6, v7, v8, rfl⟩ := hS
      have w0 : Same H H' ∧ True := ⟨by wtm_at "same", trivial⟩
      have hro3 := hro.same w0.1
      have hG3 := w0.1 _ _ hG
      clear s1 sa hg hq
      wtm_at "gs"
      rw [Int.toNat_natCast]
      refine for_rngS (n := M) (fun σ => ∃ v5 v8, σ = [some (.ref p), some (.int M), some (.ref G), some (.int last), v4, v5, v6, v7, v8]) ⟨_, _, rfl⟩ (fun i σ H2 hi hS2 s2 => ?d3) (fun σ H2 hS2 s2 => ?d4)
      case d3 =>
        obtain ⟨v5, v8, rfl⟩ := hS2
        have hro4 := hro3.same s2
        have w2 : Same H' H2 ∧ True := ⟨s2, trivial⟩
        clear s2
        wtm_at "gs"
        refine for_rngS (n := 2) (fun σ => ∃ v5, σ = [some (.ref p), some (.int M), some (.ref G), some (.int last), v4, v5, v6, v7, some (.int (0 + (i : Int)))]) ⟨_, rfl⟩ (fun j σ H3 hj hS3 s3 => ?x3) (fun σ H3 hS3 s3 => ?x4)
        case x3 =>
          obtain ⟨v5, rfl⟩ := hS3
          have hwy : (0 + (j : Int)) = 0 ∨ (0 + (j : Int)) = 1 := by omega
          have hb3 : BadR K H3 M (.int (0 + (i : Int))) (.int (0 + (i : Int))) (.int (0 + (i : Int))) := .inr ⟨_, rfl, ⟨by omega, by omega⟩, .inr ⟨rfl, rfl⟩⟩
          have hro5 := hro4.same s3
          have w3 := s3
          wtm_at "gs"
          exact ⟨⟨_, rfl⟩, w3.trans (sm.trans sa)⟩
        case x4 =>
          obtain ⟨v5, rfl⟩ := hS3
          exact ⟨⟨_, _, rfl⟩, w2.1.trans s3⟩
      case d4 =>
        obtain ⟨v5, v8, rfl⟩ := hS2
        have hro4 := hro3.same s2
        have hG4 := s2 _ _ hG3
        have w2 : Same H H2 ∧ True := ⟨w0.1.trans s2, trivial⟩
        have lg : (gs.map V.int).length = gs.length := List.length_map ..
        clear s2 w0 hro3 hG3
        wtm_at "gs"
        obtain ⟨HC, eC⟩ : ∃ y, y = HN := ⟨_, rfl⟩
        subst eC
        refine for_pred (K := K) (fun σ => ∃ v4 v5 v7, σ = [some (.ref p), some (.int M), some (.ref G), some (.int last), v4, v5, v6, v7, v8]) (fun H y => OddV H y ∧ NoNu K H ws y) (.of hg) (fun y hy => ?y1) ⟨_, _, _, rfl⟩ (fun y σ H3 py hS3 s3 => ?y2) (fun σ H3 hS3 s3 => ?y3)
        case y1 =>
          rcases List.mem_append.mp hy with hy | hy
          · obtain ⟨g, hg', rfl⟩ := List.mem_map.mp hy
            exact ⟨.inl rfl, .inr ⟨g, rfl, hgs g hg'⟩⟩
          · have e29 : (10 : Int) ^ Int.toNat 29 = 100000000000000000000000000000 := by decide +kernel
            simp only [List.mem_cons, List.not_mem_nil, or_false] at hy
            have key : OddV HC y := by
              rcases hy with rfl | rfl | rfl | rfl | rfl | rfl | rfl | rfl | rfl | rfl | rfl
              all_goals first
                | exact .inl rfl
                | exact .inr (.inl ⟨_, _, rfl, by wtm_at "get", fun x hx => by simp at hx; subst hx; rfl⟩)
                | exact .inr (.inr (.inl ⟨_, _, rfl, by wtm_at "get", fun x hx => by simp at hx; subst hx; rfl⟩))
                | exact .inr (.inr (.inr ⟨_, rfl, by wtm_at "get"⟩))
            refine ⟨key, ?_⟩
            have kk := key.kn (K := K)
            clear key
            rcases hy with rfl | rfl | rfl | rfl | rfl | rfl | rfl | rfl | rfl | rfl | rfl
            all_goals first
              | exact .inr ⟨_, rfl, ok.fresh (by omega)⟩
              | exact .inl ⟨kk, rfl⟩
        case y2 =>
          obtain ⟨ho, hn⟩ := py
          obtain ⟨v4, v5, v7, rfl⟩ := hS3
          have w3 : Same HC H3 ∧ True := ⟨s3, trivial⟩
          clear s3
          have w4 : Same H2 HC ∧ True := ⟨by wtm_at "same", trivial⟩
          clear sa hg hq
          wtm_at "gs"
          refine for_rngS (n := 3) (fun σ => ∃ v5 v7, σ = [some (.ref p), some (.int M), some (.ref G), some (.int last), some y, v5, v6, v7, v8]) ⟨_, _, rfl⟩ (fun j σ H4 hj hS4 s4 => ?z1) (fun σ H4 hS4 s4 => ?z2)
          case z1 =>
            obtain ⟨v5, v7, rfl⟩ := hS4
            have hwy : (0 + (j : Int)) = 0 ∨ (0 + (j : Int)) = 1 ∨ (0 + (j : Int)) = 2 := by omega
            have s5 := w3.1.trans s4
            have hn5 := hn.same s5
            have ho5 := ho.same s5
            have hro5 := hro4.same (w4.1.trans s5)
            have w5 := s4
            clear s5
            wtm_at "gs"
            exact ⟨⟨_, _, rfl⟩, w5.trans sm⟩
          case z2 =>
            obtain ⟨v5, v7, rfl⟩ := hS4
            exact ⟨⟨_, _, _, rfl⟩, w3.1.trans s4⟩
        case y3 =>
          obtain ⟨v4, v5, v7, rfl⟩ := hS3
          have w3 : Same HC H3 ∧ True := ⟨s3, trivial⟩
          clear s3
          have w4 : Same H2 HC ∧ True := ⟨by wtm_at "same", trivial⟩
          have w5 : Same H2 H3 ∧ True := ⟨w4.1.trans w3.1, trivial⟩
          clear sa hg hq
          wtm_at "gs"
          intro D hD
          refine' lc_rng (n := 5) (fun _ => V.bl true) (by decide) hD (fun j hj H4 Q4 R4 s4 k4 => ?r1) (fun H4 s4 e4 => ?r2)
          case r1 =>
            have hwy : 0 ≤ (0 + (j : Int)) ∧ (0 + (j : Int)) < 5 := by omega
            have hro5 := hro4.same (w5.1.trans s4)
            wtm_at "gs"
            exact k4 _ sm
          case r2 =>
            wtm_at "gs"
            refine i_all (bs := [true, true, true, true, true]) (.of e4) ?_
            exact k _ (w2.1.trans (w5.1.trans s4))
theorem ok__law_stands (T : Txt K mg a) : FnOk P w K mg base CX0 7 a._law_stands a.d__law_stands ["roads", "own"] (spStnd K a) := by
  refine fund_ok0 T.F__law_stands sc__law_stands (fun vs H Q E h => ?_) (fun cdv A outer s H vs Q E hr h => ?_)
  · obtain ⟨p, dx, w, W, M, ws, last, rfl, hro, hW, k⟩ := h
    rfl
  · obtain ⟨p, dx, w, W, M, ws, last, rfl, hro, hW, k⟩ := h
    refine ⟨_, (pss_cons (ps_setLc (i := 2) (own := [("number", 3)]) rfl sc__law_stands.nd rfl rfl (sw_true rfl rfl rfl (by decide +kernel)) (pi_listK (K := K) (pe_callB (call_sortW rfl) (by rfl) T.b_sorted (by decide +kernel) (pa_cons (pv 1) pa_nil))) (blkOk_by (own := [("number", 3)]) (N := ["roads", "own", "due", "number"]) (sc := defScope s__law_stands) (by decide +kernel)) (fun _ _ _ _ _ => (pg_name (i := 3) sc__law_stands.nd rfl (by first | exact Or.inl rfl | exact Or.inr rfl))) (fun _ _ _ _ _ => pts_nil) (fun _ _ _ _ _ => (pe_op (op_addU (K := K)) (pe_tup (pa_cons (pv 3) pa_nil)) (pe_dget (unit1 hr) (pv 1) (pv 3) (fun _ _ => rfl)))))
    (pss_one (ps_ret (pe_and (pe_cmpR (op_eqU hr.units (K := K)) (pe_meth0 (pv 0) T.c_Roads T.M_Roads_under_way (ok_Roads_under_way (K := K) T) (hr.mono (by decide)) T.B_Roads_under_way .nil pass0) (pv 2) (nomark _)) (pe_one (pe_cmpR (op_eqU hr.units (K := K)) (pe_callB (call_lenO T.M_Roads_len (ok_Roads_len (K := K) T) (hr.mono (by decide)) T.B_Roads_len pass0) (by rfl) T.b_len (by decide +kernel) (pa_cons (pv 0) pa_nil)) (pe_callB (call_lenU (K := K)) (by rfl) T.b_len (by decide +kernel) (pa_cons (pv 2) pa_nil)) (nomark _))))))), ?_⟩
    dsimp only [L2.start, List.map_cons, List.map_nil, List.map, List.length_cons, List.length_nil, Nat.reduceAdd, Nat.reduceSub, List.replicate, List.cons_append, List.nil_append]
    obtain ⟨hpo, hw, hM, ok⟩ := id hro
    wtm_at "gs"
    refine i_sortW hW ok fun p2 H2 hn2 s2 g2 => ?_
    have hW2 := hW.same s2
    have hro2 := hro.same s2
    wtm_at "gs"
    intro D hD
    refine' lc_mpL (fun _ x (z : Int × Wy) => x = .int z.1) (fun H v t => ThAt H t v) (fun z => z.2.tn z.1) (fun _ h => h) ThAt.stays (.of g2) (as := ws) ⟨by rw [List.length_map, List.length_map], fun i x z hx hz => ?e0⟩ hD (small1000 (by rw [List.length_map, List.length_map]; have := ok.len; omega)) (fun x z hz H1 Q1 R1 s1 hx hacc k1 => ?e1) (fun H1 zs s1 eD hzs => ?e2)
    case e0 =>
      rw [List.getElem?_map, List.getElem?_map, hz] at hx
      exact (Option.some.inj hx).symm
    case e1 =>
      subst hx
      have hW1 := hW2.same s1
      have hm : (z.1, z.2) ∈ ws := hz
      wtm_at "gs"
      refine i_dgW (hW1.same sa) ok hm fun v hv => ?_
      obtain ⟨qv, xv, rfl, gq, hxv⟩ := Wy.at.mp hv
      obtain ⟨HA, eA⟩ : ∃ y, y = HN := ⟨_, rfl⟩
      subst eA
      have gA := hg
      have wA : Same H1 HA ∧ True := ⟨sa, trivial⟩
      clear hg sa hq
      refine i_addT (.of gA) (.of gq) (by simp) (line_le (by simp)) (fun e => nomatch e) (fun _ b hb => ?_)
      have sB : Same HA (upd HA b (.tup ([V.int z.1] ++ [V.int z.2.s, V.int z.2.g, xv]))) := same_upd (Same.refl HA) hb
      exact k1 _ _ (wA.1.trans sB) (Wy.tnat upd_same (hxv.same sB))
    case e2 =>
      have hro3 := hro2.same s1
      have lys : zs.length = ws.length := by rw [hzs.1, List.length_map]
      wtm_at "gs"
      have le4 : ∀ t ∈ ws.map (fun z => z.2.tn z.1), Tr.le 4 t := fun t ht => by
        obtain ⟨z, hz, rfl⟩ := List.mem_map.mp ht
        exact Wy.tnle (ok.le z hz)
      refine i_eqG (n := 4) (.inl ⟨.of hl, .of (sm _ _ eD)⟩) (by decide) (ThAt.eqvs le4 hy (hzs.mono fun _ _ => ThAt.same sm)) ?_
      refine i_bl ?_
      rw [if_pos rfl]
      have hro4 := hro3.same sm
      have eD4 := sm _ _ eD
      wtm_at "gs"
      refine i_lenO hro4.hp (spRLen_u1 hro4 ⟨(ws.length : Int), rfl, by have := ok.len; omega, ?_⟩ rfl)
      wtm_at "gs"
      rw [lys, decide_eq_true rfl]
      exact k _ ((s2.trans s1).trans sm)
theorem ok__law_made (T : Txt K mg a) : FnOk P w K mg base CX0 5 a._law_made a.d__law_made ["thing"] (spMade K a) := by
  refine fund_ok0 T.F__law_made sc__law_made (fun vs H Q E h => ?_) (fun cdv A outer s H vs Q E hr h => ?_)
  · obtain ⟨v, rfl, ho, hv, k⟩ := h
    rfl
  · obtain ⟨v, rfl, ho, hv, k⟩ := h
    refine ⟨_, (pss_cons (ps_tryM rfl rfl sc__law_made.nd takes0 (fun W pn xe tk hp => (pss_one (ps_expr (pe_makeS T.mk_Roads (ok_Roads_init (K := K) T) (hr.mono (by decide)) (by rfl) T.m_Roads T.B_Roads_init .nil (passAt tk) (pa_cons (pv 0) pa_nil)))))
    (.named (i := 1) rfl rfl (.one ⟨by rfl, by decide, .inl T.m_NoNumber⟩) (fun ea oe cls ed pn hz hf => (pss_one (ps_ret (pe_and (pe_callP (pp := (ea, oe)) (okp__law_kinds (K := K) T) (roomH_suite (hr.mono (j := 1) (by decide))) List.mem_cons_self (by rfl) T.m__law_kinds T.F__law_kinds.kp T.B__law_kinds (pa_cons (pe_xfA (K := K) hz hf (pv 1)) (pa_cons (pv 0) pa_nil))) (pe_and (pe_callB (call_isX (K := K) hz hf) (by rfl) T.b_isinstance (by decide +kernel) (pa_cons (pv 1) (pa_cons (pe_glob rfl T.m_HallError (show RelV (V.ref a.HallError) _ from rfl)) pa_nil))) (pe_one (pe_not (pe_callB (call_isX (K := K) hz hf) (by rfl) T.b_isinstance (by decide +kernel) (pa_cons (pv 1) (pa_cons (pe_glob rfl T.m_NoMember (show RelV (V.ref a.NoMember) _ from rfl)) pa_nil)))))))))) .nil) pss_nil)
    (pss_one (ps_ret pe_bl))), ?_⟩
    dsimp only [L2.start, List.map_cons, List.map_nil, List.map, List.length_cons, List.length_nil, Nat.reduceAdd, Nat.reduceSub, List.replicate, List.cons_append, List.nil_append]
    have hk : Kn K H v := ho.kn
    wtm_at "gs"
    exact k _ (by wtm_at "same")
theorem ok__law_step (T : Txt K mg a) : FnOk P w K mg base CX0 9 a._law_step a.d__law_step ["roads", "own", "last", "pool"] (spStep K a) := by
  refine fund_ok0 T.F__law_step sc__law_step (fun vs H Q E h => ?_) (fun cdv A outer s H vs Q E hr h => ?_)
  · obtain ⟨p, dx, w, o, W, G, pl, M, ws, gs, last, m, rfl, hro, how, hq, nqG, nwW, hgs, hl, hl2, k⟩ := h
    rfl
  · obtain ⟨p, dx, w, o, W, G, pl, M, ws, gs, last, m, rfl, hro, how, hq, nqG, nwW, hgs, hl, hl2, k⟩ := h
    refine ⟨_, (pss_cons (ps_set (i := 4) sc__law_step.nd rfl (by first | exact Or.inl rfl | exact Or.inr rfl) (pe_call (ok__law_take (K := K) T) (hr.mono (by decide)) (by rfl) T.m__law_take T.F__law_take.kp T.B__law_take .nil pass0 (pa_cons (pv 3) (pa_cons pe_int pa_nil))))
    (pss_cons (ps_set (i := 5) sc__law_step.nd rfl (by first | exact Or.inl rfl | exact Or.inr rfl) (pe_call (ok__law_take (K := K) T) (hr.mono (by decide)) (by rfl) T.m__law_take T.F__law_take.kp T.B__law_take .nil pass0 (pa_cons (pv 3) (pa_cons pe_int pa_nil))))
    (pss_cons (ps_set (i := 6) sc__law_step.nd rfl (by first | exact Or.inl rfl | exact Or.inr rfl) (pe_op (op_addU (K := K)) pe_int (pe_dget (unit1 hr) (pv 1) pe_str (fun _ _ => rfl))))
    (pss_cons (ps_set (i := 7) sc__law_step.nd rfl (by first | exact Or.inl rfl | exact Or.inr rfl) (pe_call (ok__law_take (K := K) T) (hr.mono (by decide)) (by rfl) T.m__law_take T.F__law_take.kp T.B__law_take .nil pass0 (pa_cons (pv 3) (pa_cons (pv 6) pa_nil))))
    (pss_cons (ps_set (i := 8) sc__law_step.nd rfl (by first | exact Or.inl rfl | exact Or.inr rfl) (pe_op op_modU (pe_op (op_addU (K := K)) (pe_op (op_addU (K := K)) (pv 7) pe_int) (pe_call (ok__law_take (K := K) T) (hr.mono (by decide)) (by rfl) T.m__law_take T.F__law_take.kp T.B__law_take .nil pass0 (pa_cons (pv 3) (pa_cons (pe_op op_subU (pv 6) pe_int) pa_nil)))) (pv 6)))
    (pss_cons (ps_set (i := 9) sc__law_step.nd rfl (by first | exact Or.inl rfl | exact Or.inr rfl) (pe_callB (call_sortW rfl) (by rfl) T.b_sorted (by decide +kernel) (pa_cons (pe_dget (unit1 hr) (pv 1) pe_str (fun _ _ => rfl)) pa_nil)))
    (pss_cons (ps_set (i := 10) sc__law_step.nd rfl (by first | exact Or.inl rfl | exact Or.inr rfl) (pe_call (ok__law_take (K := K) T) (hr.mono (by decide)) (by rfl) T.m__law_take T.F__law_take.kp T.B__law_take .nil pass0 (pa_cons (pv 3) (pa_cons (pe_callB (call_maxU rfl) (by rfl) T.b_max (by decide +kernel) (pa_cons pe_int (pa_cons (pe_callB (call_lenU (K := K)) (by rfl) T.b_len (by decide +kernel) (pa_cons (pv 9) pa_nil)) pa_nil))) pa_nil))))
    (pss_cons (ps_if (PW.pt (pw_or (pt_cmpR op_ltU (pv 4) pe_int (nomark _)) (pw_or1 (pt_cmpR (op_eqU hr.units (K := K)) (pv 9) (pe_lst pa_nil) (nomark _))))) (pss_cons (ps_asg (pe_tup (pa_cons (pv 7) (pa_cons (pv 8) (pa_cons (pe_tup (pa_cons pe_str (pa_cons (pe_tup (pa_cons pe_int (pa_cons (pv 4) pa_nil))) pa_nil))) pa_nil)))) (pg_sub (pe_dget (unit1 hr) (pv 1) pe_str (fun _ _ => rfl)) (pe_op (op_addU (K := K)) (pv 2) pe_int) (set_dict (unit1 hr))))
    (pss_one (ps_ret (pe_ifExp (pt_cmpR (op_eqU hr.units (K := K)) (pe_methS (pv 0) T.c_Roads T.M_Roads_put (ok_Roads_put (K := K) T) (hr.mono (by decide)) T.B_Roads_put .nil (passAt takes0) (pa_cons (pv 7) (pa_cons (pv 8) (pa_cons (pe_tup (pa_cons pe_str (pa_cons (pe_tup (pa_cons pe_int (pa_cons (pv 4) pa_nil))) pa_nil))) pa_nil)))) (pe_op (op_addU (K := K)) (pv 2) pe_int) (nomark _)) (pe_op (op_addU (K := K)) (pv 2) pe_int) (pe_un un_neg pe_int))))) pss_nil)
    (pss_cons (ps_if (pt_cmpR (op_eqU hr.units (K := K)) (pv 4) pe_int (nomark _)) (pss_cons (ps_asg (pe_dget (unit1 hr) (pe_dget (unit1 hr) (pv 1) pe_str (fun _ _ => rfl)) (pe_ix (ix_U (K := K)) (pv 9) (pv 10) (fun _ _ => rfl)) (fun _ _ => rfl)) (pg_sub (pe_dget (unit1 hr) (pv 1) pe_str (fun _ _ => rfl)) (pe_op (op_addU (K := K)) (pv 2) pe_int) (set_dict (unit1 hr))))
    (pss_one (ps_ret (pe_ifExp (pt_cmpR (op_eqU hr.units (K := K)) (pe_methS (pv 0) T.c_Roads T.M_Roads_double (ok_Roads_double (K := K) T) (hr.mono (by decide)) T.B_Roads_double .nil (passAt takes0) (pa_cons (pe_ix (ix_U (K := K)) (pv 9) (pv 10) (fun _ _ => rfl)) pa_nil)) (pe_op (op_addU (K := K)) (pv 2) pe_int) (nomark _)) (pe_op (op_addU (K := K)) (pv 2) pe_int) (pe_un un_neg pe_int))))) pss_nil)
    (pss_cons (ps_set (i := 11) sc__law_step.nd rfl (by first | exact Or.inl rfl | exact Or.inr rfl) (pe_dpop1 (pe_dget (unit1 hr) (pv 1) pe_str (fun _ _ => rfl)) (pe_ix (ix_U (K := K)) (pv 9) (pv 10) (fun _ _ => rfl)) ⟨by rfl, by rfl, by rfl, by rfl⟩))
    (pss_cons (ps_expr (pe_appK (K := K) (pe_bm PySem.F.plainAttrs_list PySem.F.slot_list_append PySem.F.type_list_append mt_append (pe_dget (unit1 hr) (pv 1) pe_str (fun _ _ => rfl)) (pa_cons (pe_ix (ix_U (K := K)) (pv 9) (pv 10) (fun _ _ => rfl)) pa_nil))))
    (pss_cons (ps_set (i := 12) sc__law_step.nd rfl (by first | exact Or.inl rfl | exact Or.inr rfl) (pe_ifExp (pt_cmpR (op_eqU hr.units (K := K)) (pv 4) pe_int (nomark _)) (pe_methS (pv 0) T.c_Roads T.M_Roads_come (ok_Roads_come (K := K) T) (hr.mono (by decide)) T.B_Roads_come .nil (passAt takes0) (pa_cons (pe_ix (ix_U (K := K)) (pv 9) (pv 10) (fun _ _ => rfl)) pa_nil)) (pe_methS (pv 0) T.c_Roads T.M_Roads_lose (ok_Roads_lose (K := K) T) (hr.mono (by decide)) T.B_Roads_lose .nil (passAt takes0) (pa_cons (pe_ix (ix_U (K := K)) (pv 9) (pv 10) (fun _ _ => rfl)) pa_nil))))
    (pss_cons (ps_if (PW.pt (pw_or (pt_cmpR (op_neU hr.units (K := K)) (pv 12) (pv 11) (nomark _)) (pw_or1 (pt_not (pt_val (pe_call (ok__law_gone (K := K) T) (hr.mono (by decide)) (by rfl) T.m__law_gone T.F__law_gone.kp T.B__law_gone .nil pass0 (pa_cons (pv 0) (pa_cons (pe_ix (ix_U (K := K)) (pv 9) (pv 10) (fun _ _ => rfl)) (pa_cons (pv 5) pa_nil))))))))) (pss_one (ps_ret (pe_un un_neg pe_int))) pss_nil)
    (pss_one (ps_ret (pv 2)))))))))))))))), ?_⟩
    dsimp only [L2.start, List.map_cons, List.map_nil, List.map, List.length_cons, List.length_nil, Nat.reduceAdd, Nat.reduceSub, List.replicate, List.cons_append, List.nil_append]
    obtain ⟨hpo, hw, hM, ok⟩ := id hro
    obtain ⟨ho, hW, hG⟩ := id how
    have lg : (gs.map V.int).length = gs.length := List.length_map ..
    have eM : 2 + ((M : Int) - 2) = (M : Int) := by omega
    have hM0 : 0 < (M : Int) := by omega
    have hM9 : ((M : Int)).natAbs.log2 < 9000 := log2_le (by omega) (by omega)
    have hM1 : 0 < (M : Int) - 1 := by omega
    have hM8 : ((M : Int) - 1).natAbs.log2 < 9000 := log2_le (by omega) (by omega)
    wtm_at "gi"
    rw [eM]
    wtm_at "gi"
    rename_i wy m1 hw0 hw1 od m2 ho0 ho1 st m3 hs0 hs1
    obtain ⟨hg1, hg2⟩ := goal_ok (M := M) (st := st) (r := r) ⟨by omega, by omega⟩ ⟨hs0, hs1⟩ ⟨hr0, hr1⟩
    obtain ⟨gl, egl⟩ : ∃ y, y = (st + 1 + r) % (M : Int) := ⟨_, rfl⟩
    rw [← egl] at hg1 hg2 ⊢
    obtain ⟨H1, e1⟩ : ∃ y, y = upd (upd (upd (upd H pl (.lst [.int m1])) pl (.lst [.int m2])) pl (.lst [.int m3])) pl (.lst [.int m']) := ⟨_, rfl⟩
    rw [← e1]
    have s1 : SameBut pl H H1 := fun b u n e => by rw [e1, upd_ne n, upd_ne n, upd_ne n, upd_ne n]; exact e
    have hq1 : H1 pl = some (.lst [.int m']) := by rw [e1]; exact upd_same
    have tp1 := MdX.tp hq s1
    obtain ⟨kw, hkw, -⟩ := id hw
    obtain ⟨kW, hkW, -⟩ := id hW
    have npq : p ≠ pl := fun c => by rw [c, hq] at hpo; cases hpo
    have nwq : w ≠ pl := fun c => by rw [c, hq] at hkw; cases hkw
    have nWq : W ≠ pl := fun c => by rw [c, hq] at hkW; cases hkW
    have noq : o ≠ pl := fun c => by rw [c, hq] at ho; cases ho
    have nGw : G ≠ w := fun c => by rw [c, hkw] at hG; cases hG
    have nGW : G ≠ W := fun c => by rw [c, hkW] at hG; cases hG
    have npG : p ≠ G := fun c => by rw [c, hG] at hpo; cases hpo
    have npw : p ≠ w := fun c => by rw [c, hkw] at hpo; cases hpo
    have npW : p ≠ W := fun c => by rw [c, hkW] at hpo; cases hpo
    have npo : p ≠ o := fun c => by rw [c, ho] at hpo; cases hpo
    have noG : o ≠ G := fun c => by rw [c, hG] at ho; cases ho
    have now := hw.ne ho
    have noW := hW.ne ho
    have hro1 := hro.keeps tp1 (fun u e => s1 _ _ npq e) (fun u e => s1 _ _ nwq e)
    have hW1 := hW.keeps tp1 (fun u e => s1 _ _ nWq e)
    have ho1' := s1 _ _ noq ho
    have hG1 := s1 _ _ nqG.symm hG
    have w1 : SameBut pl H H1 ∧ True := ⟨s1, trivial⟩
    clear e1 s1 tp1 hkw hkW hpo hw ho hG hW how hro hq egl
    refine i_sortW hW1 ok fun N H2 hN s2 gN => ?_
    have hro2 := hro1.same s2
    have hW2 := hW1.same s2
    have ho2 := s2 _ _ ho1'
    have hG2 := s2 _ _ hG1
    have hq2 := s2 _ _ hq1
    have hpo := hro2.hp
    have w2 : Same H1 H2 ∧ True := ⟨s2, trivial⟩
    have nNq : N ≠ pl := (ne_of_none hq1 hN).symm
    have nNG : N ≠ G := (ne_of_none hG1 hN).symm
    have lN : ((ksW ws).map V.int).length = ws.length := by rw [List.length_map, List.length_map]
    clear s2 hro1 hW1 ho1' hG1 hq1 hN
    wtm_at "gi"
    rw [lN]
    have lw : ws.length ≤ 60 := by omega
    refine take_use (n := maxP 1 ws.length) hq2 (by unfold maxP; split <;> omega) (log2_le (by unfold maxP; split <;> omega) (by unfold maxP; split <;> omega)) (fun at_ m4 ha0 ha1 => ?_)
    obtain ⟨H3, e3⟩ : ∃ y, y = upd H2 pl (.lst [.int m4]) := ⟨_, rfl⟩
    rw [← e3]
    have s3 : SameBut pl H2 H3 := fun b u n e => by rw [e3, upd_ne n]; exact e
    have hq3 : H3 pl = some (.lst [.int m4]) := by rw [e3]; exact upd_same
    have tp3 := MdX.tp hq2 s3
    have hro3 := hro2.keeps tp3 (fun u e => s3 _ _ npq e) (fun u e => s3 _ _ nwq e)
    have hW3 := hW2.keeps tp3 (fun u e => s3 _ _ nWq e)
    have ho3 := s3 _ _ noq ho2
    have hG3 := s3 _ _ nqG.symm hG2
    have gN3 := s3 _ _ nNq (show H2 N = some (.lst ((ksW ws).map V.int)) by assumption)
    have hpo := hro3.hp
    have w3 : SameBut pl H H3 ∧ True := ⟨fun b u n e => s3 _ _ n (w2.1 _ _ (w1.1 _ _ n e)), trivial⟩
    clear e3 s3 tp3 hro2 hW2 ho2 hG2 hq2 w2 w1
    wtm_at "gi"
    dsimp only [List.set]
    refine ifS_join (fun b H' => Same H3 H' ∧ b = decide (wy < 2 ∨ ws = [])) (fun R hR => ?c1) (fun H4 j => ?c2) (fun H4 j => ?c3)
    case c1 =>
      wtm_at "gs"
      · exact hR _ _ ⟨Same.refl _, (decide_eq_true (.inl (by assumption))).symm⟩
      · rename_i hlt
        have e : ws = [] ↔ wy < 2 ∨ ws = [] := ⟨.inr, fun h => h.resolve_left hlt⟩
        cases ws with
        | nil =>
          refine i_eqG (n := 2) (.inl ⟨.of (sa _ _ gN3), .of hg⟩) (by decide) (EqVs.nil) ?_
          exact i_bl (hR _ _ ⟨sa, by simp⟩)
        | cons z zs =>
          refine i_eqG (n := 2) (.inl ⟨.of (sa _ _ gN3), .of hg⟩) (by decide) (EqVs.cnil) ?_
          exact i_bl (hR _ _ ⟨sa, by simp [hlt]⟩)
    case c2 =>
      obtain ⟨s4, -⟩ := j
      have hro4 := hro3.same s4
      have hW4 := hW3.same s4
      have ho4 := s4 _ _ ho3
      have hG4 := s4 _ _ hG3
      have hq4 := s4 _ _ hq3
      have hpo4 := hro4.hp
      have w4 : SameBut pl H H4 ∧ True := ⟨fun b u n e => s4 _ _ (w3.1 _ _ n e), trivial⟩
      have hs2 : 0 ≤ st ∧ st ≤ (M : Int) - 1 := by omega
      clear s4 hro3 hW3 ho3 hG3 hq3 gN3 hpo w3
      wtm_at "gs"
      rename_i qa hqa Ha saa ga qb hqb Hb sab gb
      have sF : Same H4 HN := (saa.trans sab).trans sa
      obtain ⟨t, et⟩ : ∃ t, t = Tr.tup [.flat (.str "ask"), .tup [.flat (.int 1), .flat (.int wy)]] := ⟨_, rfl⟩
      have ht : t.le 3 := by rw [et]; exact ⟨Nat.le_of_ble_eq_true rfl, fun u hu => by
        simp only [List.mem_cons, List.not_mem_nil, or_false] at hu
        rcases hu with rfl | rfl
        · exact True.intro
        · exact ⟨Nat.le_of_ble_eq_true rfl, fun u hu => by
            simp only [List.mem_cons, List.not_mem_nil, or_false] at hu
            rcases hu with rfl | rfl <;> exact True.intro⟩⟩
      have mkt : ∀ {H' : Hp} {q1 q2 : Addr}, H' q1 = some (.tup [.int 1, .int wy]) → H' q2 = some (.tup [.str "ask", .ref q1]) → ThAt H' t (.ref q2) := fun g1 g2 => by
        rw [et]
        exact thTup.mpr ⟨_, _, rfl, g2, All2.cons (thFlat.mpr ⟨rfl, rfl⟩) (All2.cons (thTup.mpr ⟨_, _, rfl, g1, All2.cons (thFlat.mpr ⟨rfl, rfl⟩) (All2.cons (thFlat.mpr ⟨rfl, rfl⟩) All2.nil)⟩) All2.nil)⟩
      have hvN : ThAt HN (⟨st, gl, t⟩ : Wy).tr (.ref q) := Wy.at.mpr ⟨q, _, rfl, hg, mkt (sa _ _ (sab _ _ ga)) (sa _ _ gb)⟩
      have hfr : last + 1 ∉ ksW ws := ok.fresh (.inl (by omega))
      obtain ⟨kW, hkW, -⟩ := id (hW4.same sF)
      refine i_setW (hW4.same sF) ok hfr hvN fun H5 sw hW5 => ?_
      have tp5 : ∀ b xs, HN b = some (.tup xs) → H5 b = some (.tup xs) := fun b xs e => sw _ _ (fun c => by rw [c, hkW] at e; cases e) e
      have hro5 := (hro4.same sF).keeps tp5 (fun u e => sw _ _ npW e) (fun u e => sw _ _ nwW e)
      have hpo5 := hro5.hp
      have ho5 := sw _ _ noW (sF _ _ ho4)
      have hG5 := sw _ _ nGW (sF _ _ hG4)
      have w5 : SameBs [W, pl] H H5 ∧ True := ⟨fun b u n e => sw _ _ (fun c => n (by simp [c])) (sF _ _ (w4.1 _ _ (fun c => n (by simp [c])) e)), trivial⟩
      have hq5 := sw _ _ nWq.symm (sF _ _ hq4)
      clear w4 sF saa sab sa hg hq hqa hqb ga gb tp5 sw hvN hro4 hpo4 hW4 ho4 hG4 hq4 hkW
      wtm_at "gs"
      rename_i qa hqa Ha saa ga
      have sG : Same H5 HN := saa.trans sa
      refine spPut_u1 (hro5.same sG) rfl rfl hs2 hg1 hg2 (mkt (sa _ _ ga) hg) ht hl (fun H6 sb hro' => ?_) (by rfl)
      obtain ⟨kw, hkw, -⟩ := id (hro5.hw.same sG)
      have hpN := sG _ _ hpo5
      have tp6 : ∀ b xs, HN b = some (.tup xs) → H6 b = some (.tup xs) := fun b xs e => sb _ _ (fun c => by
        simp only [List.mem_cons, List.not_mem_nil, or_false] at c
        rcases c with c | c
        · rw [c, hpN] at e; cases e
        · rw [c, hkw] at e; cases e) e
      have n2 : ∀ {b}, b ≠ p → b ≠ w → b ∉ [p, w] := fun a b c => by
        simp only [List.mem_cons, List.not_mem_nil, or_false] at c
        exact c.elim a b
      have fin := k H6 (ws ++ [(last + 1, ⟨st, gl, t⟩)]) gs (last + 1) m4 (fun b u n e => sb _ _ (n2 (fun c => n (by simp [c])) (fun c => n (by simp [c]))) (sG _ _ (w5.1 _ _ (fun c => n (by simp only [List.mem_cons, List.not_mem_nil, or_false] at c ⊢; rcases c with c | c <;> simp [c])) e)))
        hro' ⟨sb _ _ (n2 npo.symm now) (sG _ _ ho5), (hW5.same sG).keeps tp6 (fun u e => sb _ _ (n2 npW.symm nwW.symm) e), sb _ _ (n2 npG.symm nGw) (sG _ _ hG5)⟩ (fun g hg => ⟨notin_snoc (hgs g hg).1 (by have := (hgs g hg).2; omega), by have := (hgs g hg).2; omega⟩) (sb _ _ (n2 npq.symm nwq.symm) (sG _ _ hq5)) ⟨by rw [List.length_append]; exact Nat.le_refl _, by omega, by omega⟩
      wtm_at "gs"
      exact fin
    case c3 =>
      obtain ⟨s4, hb4⟩ := j
      have hro4 := hro3.same s4
      have hW4 := hW3.same s4
      have ho4 := s4 _ _ ho3
      have hG4 := s4 _ _ hG3
      have hq4 := s4 _ _ hq3
      have hpo4 := hro4.hp
      have gN4 := s4 _ _ gN3
      have hwy : ¬ wy < 2 ∧ ws ≠ [] := by
        have := of_decide_eq_false hb4.symm
        exact ⟨fun c => this (.inl c), fun c => this (.inr c)⟩
      have w4 : SameBut pl H H4 ∧ True := ⟨fun b u n e => s4 _ _ (w3.1 _ _ n e), trivial⟩
      have l1 : 1 ≤ ws.length := by
        cases ws with
        | nil => exact absurd rfl hwy.2
        | cons _ _ => exact Nat.le_add_left ..
      have hat : at_.toNat < ws.length := by
        have : maxP 1 (ws.length : Int) = ws.length := by unfold maxP; split <;> omega
        omega
      obtain ⟨z, hz⟩ : ∃ z, ws[at_.toNat]? = some z := ⟨_, List.getElem?_eq_getElem hat⟩
      have hm : (z.1, z.2) ∈ ws := List.mem_of_getElem? hz
      have az : atI ((ksW ws).map V.int) at_ = some (.int z.1) := by
        have e := atI_of (xs := (ksW ws).map V.int) (j := at_.toNat) (x := .int z.1) (by rw [List.getElem?_map, List.getElem?_map, hz]; rfl)
        rwa [show ((at_.toNat : Nat) : Int) = at_ by omega] at e
      clear s4 hro3 hW3 ho3 hG3 hq3 gN3 hpo w3 hb4
      obtain ⟨kW, hkW, -⟩ := id hW4
      wtm_at "gs"
      · refine i_dgW hW4 ok hm fun v hv => ?_
        wtm_at "gs"
        have hfr : last + 1 ∉ ksW ws := ok.fresh (.inl (by omega))
        refine i_setW hW4 ok hfr hv fun H5 sw hW5 => ?_
        have tp5 : ∀ b xs, H4 b = some (.tup xs) → H5 b = some (.tup xs) := fun b xs e => sw _ _ (fun c => by rw [c, hkW] at e; cases e) e
        have hro5 := hro4.keeps tp5 (fun u e => sw _ _ npW e) (fun u e => sw _ _ nwW e)
        have hpo5 := hro5.hp
        have ho5 := sw _ _ noW ho4
        have hG5 := sw _ _ nGW hG4
        have gN5 := sw _ _ (fun c => by rw [c, hkW] at gN4; cases gN4) gN4
        have w5 : SameBs [W, pl] H H5 ∧ True := ⟨fun b u n e => sw _ _ (fun c => n (by simp [c])) (w4.1 _ _ (fun c => n (by simp [c])) e), trivial⟩
        have hq5 := sw _ _ nWq.symm hq4
        obtain ⟨kw, hkw, -⟩ := id hro5.hw
        clear w4 tp5 sw hv hro4 hpo4 hW4 ho4 hG4 hq4 hkW gN4
        have hpN := hpo5
        have tp6 : ∀ b xs, H5 b = some (.tup xs) → True := fun _ _ _ => trivial
        wtm_at "gs"
        have tp6 : ∀ b xs, H5 b = some (.tup xs) → HH b = some (.tup xs) := fun b xs e => sb _ _ (fun c => by
          simp only [List.mem_cons, List.not_mem_nil, or_false] at c
          rcases c with c | c
          · rw [c, hpN] at e; cases e
          · rw [c, hkw] at e; cases e) e
        have n2 : ∀ {b}, b ≠ p → b ≠ w → b ∉ [p, w] := fun a b c => by
          simp only [List.mem_cons, List.not_mem_nil, or_false] at c
          exact c.elim a b
        exact k HH (ws ++ [(last + 1, z.2)]) gs (last + 1) m4 (fun b u n e => sb _ _ (n2 (fun c => n (by simp [c])) (fun c => n (by simp [c]))) (w5.1 _ _ (fun c => n (by simp only [List.mem_cons, List.not_mem_nil, or_false] at c ⊢; rcases c with c | c <;> simp [c])) e))
          hro' ⟨sb _ _ (n2 npo.symm now) ho5, hW5.keeps tp6 (fun u e => sb _ _ (n2 npW.symm nwW.symm) e), sb _ _ (n2 npG.symm nGw) hG5⟩ (fun g hg => ⟨notin_snoc (hgs g hg).1 (by have := (hgs g hg).2; omega), by have := (hgs g hg).2; omega⟩) (sb _ _ (n2 npq.symm nwq.symm) hq5) ⟨by rw [List.length_append]; exact Nat.le_refl _, by omega, by omega⟩
      · refine i_popD hW4 ?_
        wtm_at "gs"
        refine i_popW hW4 ok hm fun v H5 sw hW5 hv5 => ?_
        have tp5 : ∀ b xs, H4 b = some (.tup xs) → H5 b = some (.tup xs) := fun b xs e => sw _ _ (fun c => by rw [c, hkW] at e; cases e) e
        have hro5 := hro4.keeps tp5 (fun u e => sw _ _ npW e) (fun u e => sw _ _ nwW e)
        have hpo5 := hro5.hp
        have ho5 := sw _ _ noW ho4
        have hG5 := sw _ _ nGW hG4
        have gN5 := sw _ _ (fun c => by rw [c, hkW] at gN4; cases gN4) gN4
        have w5 : SameBs [W, pl] H H5 ∧ True := ⟨fun b u n e => sw _ _ (fun c => n (by simp [c])) (w4.1 _ _ (fun c => n (by simp [c])) e), trivial⟩
        have hq5 := sw _ _ nWq.symm hq4
        clear w4 tp5 sw hro4 hpo4 hW4 ho4 hG4 hq4 hkW gN4 hpo
        refine seq_rest (fun σ' H6 => σ' = [some (.ref p), some (.ref o), some (.int last), some (.ref pl), some (.int wy), some (.int od), some (.int M), some (.int st), some (.int gl), some (.ref N), some (.int at_), some v, none] ∧ H6 = H5) (fun σ' H6 hJ => ?f1) (fun R hR => ?f2)
        case f2 =>
          wtm_at "gs"
          exact hR _ _ ⟨rfl, rfl⟩
        case f1 =>
        obtain ⟨rfl, e⟩ := hJ
        rw [e]
        clear e
        refine seq_rest (fun σ' H6 => σ' = [some (.ref p), some (.ref o), some (.int last), some (.ref pl), some (.int wy), some (.int od), some (.int M), some (.int st), some (.int gl), some (.ref N), some (.int at_), some v, none] ∧ H6 G = some (.lst (gs.map V.int ++ [V.int z.1])) ∧ SameBut G H5 H6) (fun σ' H6 hJ => ?e1) (fun R hR => ?e2)
        case e2 =>
          wtm_at "gs"
          exact hR _ _ ⟨rfl, hg, sb⟩
        case e1 =>
          obtain ⟨rfl, hG6, s6⟩ := hJ
          have tp6 := MdX.tp hG5 s6
          have hro6 := hro5.keeps tp6 (fun u e => s6 _ _ npG e) (fun u e => s6 _ _ nGw.symm e)
          have hpo6 := hro6.hp
          have ho6 := s6 _ _ noG ho5
          have hW6 := hW5.keeps tp6 (fun u e => s6 _ _ nGW.symm e)
          have hq6 := s6 _ _ nqG hq5
          have gN6 : H6 N = some (.lst ((ksW ws).map V.int)) := s6 _ _ nNG gN5
          have hv6 := hv5.keeps tp6
          have w6 : SameBs [W, pl, G] H H6 ∧ True := ⟨fun b u n e => s6 _ _ (fun c => n (by simp [c])) (w5.1 _ _ (fun c => n (by simp only [List.mem_cons, List.not_mem_nil, or_false] at c ⊢; rcases c with c | c <;> simp [c])) e), trivial⟩
          clear s6 tp6 hro5 hpo5 ho5 hW5 hq5 gN5 hv5 w5 hG5
          refine seq_rest (fun σ' H7 => ∃ y, σ' = [some (.ref p), some (.ref o), some (.int last), some (.ref pl), some (.int wy), some (.int od), some (.int M), some (.int st), some (.int gl), some (.ref N), some (.int at_), some v, some y] ∧ SameBut w H6 H7 ∧ RoAt a.Roads H7 p dx w M (dropW ws z.1) last ∧ ThAt H7 z.2.tr y) (fun σ' H7 hJ => ?x1) (fun R hR => ?x2)
          case x2 =>
            wtm_at "gs"
            · exact hR _ _ ⟨_, rfl, sb, hro', hy⟩
            · exact hR _ _ ⟨_, rfl, sb, hro', hy⟩
          case x1 =>
            obtain ⟨y, rfl, s7, hro7, hy7⟩ := hJ
            obtain ⟨kw, hkw, -⟩ := id hro6.hw
            have tp7 : ∀ b xs, H6 b = some (.tup xs) → H7 b = some (.tup xs) := fun b xs e => s7 _ _ (fun c => by rw [c, hkw] at e; cases e) e
            have ho7 := s7 _ _ now ho6
            have hW7 := hW6.keeps tp7 fun u e => s7 _ _ nwW.symm e
            have hG7 := s7 _ _ nGw hG6
            have hq7 := s7 _ _ nwq.symm hq6
            have gN7 := s7 _ _ (fun c => by rw [c, hkw] at gN6; cases gN6) gN6
            have hv7 := hv6.keeps tp7
            have hpo7 := hro7.hp
            have w7 : SameBs [p, w, W, G, pl] H H7 ∧ True := ⟨fun b u n e => s7 _ _ (fun c => n (by simp [c])) (w6.1 _ _ (fun c => n (by simp only [List.mem_cons, List.not_mem_nil, or_false] at c ⊢; rcases c with c | c | c <;> simp [c])) e), trivial⟩
            have hgn : z.1 ∉ ksW (dropW ws z.1) := OkW.gone
            have hod : 0 ≤ od ∧ od < 4 := ⟨ho0, ho1⟩
            obtain ⟨q1, x1, rfl, g1, h1⟩ := Wy.at.mp hy7
            obtain ⟨q2, x2, rfl, g2, h2⟩ := Wy.at.mp hv7
            clear s7 tp7 hro6 hpo6 ho6 hW6 hG6 hq6 gN6 hv6 w6 hkw hy7 hv7
            wtm_at "gs"
            refine i_neG (n := 3) (.inr ⟨.of g1, .of g2⟩) (by decide) (EqVs.cons (.selfB rfl) (EqVs.cons (.selfB rfl) (EqVs.cons (ThAt.eqv (ok.le _ hm) h1 h2) EqVs.nil))) ?_
            refine i_bl ?_
            rw [if_neg (by decide)]
            wtm_at "gs"
            have lg2 : (gs ++ [z.1]).length = gs.length + 1 := List.length_append
            exact k _ (dropW ws z.1) (gs ++ [z.1]) last m4 (fun b u n e => sm _ _ (w7.1 _ _ n e)) (hro7.same sm) ⟨sm _ _ ho7, hW7.same sm, by rw [List.map_append]; exact sm _ _ hG7⟩ (fun g hg => by
              rcases List.mem_append.mp hg with hg | hg
              · exact ⟨OkW.keeps (hgs g hg).1, (hgs g hg).2⟩
              · rw [List.mem_singleton.mp hg]
                exact ⟨hgn, (ok.rg z hm).2⟩) (sm _ _ hq7) ⟨Nat.le_succ_of_le (List.length_filter_le ..), by omega, by omega⟩
theorem ok__law_looked (T : Txt K mg a) : FnOk P w K mg base CX0 10 a._law_looked a.d__law_looked ["roads", "own", "last"] (spLook K a) := by
  refine fund_ok0 T.F__law_looked sc__law_looked (fun vs H Q E h => ?_) (fun cdv A outer s H vs Q E hr h => ?_)
  · obtain ⟨p, dx, w, o, W, G, M, ws, gs, last, rfl, hro, how, hgs, hl, hl2, k⟩ := h
    rfl
  · obtain ⟨p, dx, w, o, W, G, M, ws, gs, last, rfl, hro, how, hgs, hl, hl2, k⟩ := h
    refine ⟨_, (pss_cons (ps_if (pt_not (pt_val (pe_call (ok__law_refused (K := K) T) (hr.mono (by decide)) (by rfl) T.m__law_refused T.F__law_refused.kp T.B__law_refused .nil pass0 (pa_cons (pv 0) (pa_cons (pe_op (op_addU (K := K)) pe_int (pe_dget (unit1 hr) (pv 1) pe_str (fun _ _ => rfl))) (pa_cons (pe_dget (unit1 hr) (pv 1) pe_str (fun _ _ => rfl)) (pa_cons (pv 2) pa_nil))))))) (pss_one (ps_ret pe_bl)) pss_nil)
    (pss_one (ps_ret (pe_call (ok__law_stands (K := K) T) (hr.mono (by decide)) (by rfl) T.m__law_stands T.F__law_stands.kp T.B__law_stands .nil pass0 (pa_cons (pv 0) (pa_cons (pe_dget (unit1 hr) (pv 1) pe_str (fun _ _ => rfl)) pa_nil)))))), ?_⟩
    dsimp only [L2.start, List.map_cons, List.map_nil, List.map, List.length_cons, List.length_nil, Nat.reduceAdd, Nat.reduceSub, List.replicate, List.cons_append, List.nil_append]
    obtain ⟨ho, hW, hG⟩ := id how
    wtm_at "gs"
    rw [show 2 + ((M : Int) - 2) = (M : Int) by omega]
    wtm_at "gs"
    exact k _ (by wtm_at "same")
end
theorem cell_use {K : PySem.W.Frag} {H : Hp} {Q : VK} {E : XK} {vs : List V} {p : Addr} {ns : List Int} {i : Int} (h1 : SqL K H p (ns.map V.int)) (h2 : 0 ≤ i) (h : ∀ n, Q (.int n) H) (he : vs = [.ref p, .int i] := by rfl) : spCell K vs H Q E := ⟨p, ns, i, he, h1, h2, h⟩
set_option hygiene false in
local macro_rules | `(tactic| wtm_at "u") => `(tactic| first | ((with_reducible refine' cell_use ?h1 ?h2 (fun cn => ?_) ?he); (case he => rfl); (case h1 => wtm_at "sq"); (case h2 => first | decide | omega)) | fail)
theorem spRI_mk {K : PySem.W.Frag} {a : Ad} {x dx : Addr} {M : Nat} {H : Hp} {R : Hp → Prop} {E : XK} {vs : List V} (nx : H x = none) (ndx : H dx = none) (hM : 2 ≤ M ∧ M ≤ 5) (k : ∀ HH w, Same H HH → H w = none → RoAt a.Roads HH x dx w M [] 0 → R HH) (he : vs = [.ref x, .int M] := by rfl) :
    spRI K a vs (upd (upd H dx (.own x)) x (.ins a.Roads dx [])) (fun v H2 => v = .non ∧ R H2) E := by
  have sL : Same H (upd (upd H dx (.own x)) x (.ins a.Roads dx [])) := fun b u e => by rw [upd_ne (ne_of_none e nx), upd_ne (ne_of_none e ndx)]; exact e
  exact spRI_u1 upd_same rfl hM (fun HH w sb nw hro => ⟨rfl, k HH w (fun b u e => sb b u (ne_of_none e nx) (sL b u e)) (none_same sL nw) hro⟩) he
set_option hygiene false in
local macro_rules | `(tactic| wtm_at "u") => `(tactic| ((with_reducible refine' spRI_mk ?g1 ?g2 ?g3 (fun HH w sm nw hro => ?_) ?he); (case he => rfl); (case g1 => wtm_at "as"); (case g2 => wtm_at "as"); (case g3 => first | wtm_at "as" | omega)))
def spLaw (K : PySem.W.Frag) : Sp := fun vs H Q _ => ∃ (p : Addr) (ns : List Int), vs = [.ref p] ∧ SqL K H p (ns.map V.int) ∧ ns.length ≤ 63 ∧ ∀ H', Q (.bl true) H'
section
variable {P : Program} {w : World} {K : PySem.W.Frag} {mg : Str → Option Value} {base : Heap} {a : Ad}
theorem ok_law (T : Txt K mg a) : FnOk P w K mg base CX0 11 a.law a.d_law ["script"] (spLaw K) := by
  refine fund_ok0 T.F_law sc_law (fun vs H Q E h => ?_) (fun cdv A outer s H vs Q E hr h => ?_)
  · obtain ⟨sp, ns, rfl, hS, hl, k⟩ := h
    rfl
  · obtain ⟨sp, ns, rfl, hS, hl, k⟩ := h
    refine ⟨_, (pss_cons (ps_set (i := 1) sc_law.nd rfl (by first | exact Or.inl rfl | exact Or.inr rfl) (pe_op (op_addU (K := K)) pe_int (pe_op op_modU (pe_call (ok__law_cell_at (K := K) T) (hr.mono (by decide)) (by rfl) T.m__law_cell_at T.F__law_cell_at.kp T.B__law_cell_at .nil pass0 (pa_cons (pv 0) (pa_cons pe_int pa_nil))) pe_int)))
    (pss_cons (ps_set (i := 2) sc_law.nd rfl (by first | exact Or.inl rfl | exact Or.inr rfl) (pe_makeS T.mk_Roads (ok_Roads_init (K := K) T) (hr.mono (by decide)) (by rfl) T.m_Roads T.B_Roads_init .nil (passAt takes0) (pa_cons (pv 1) pa_nil)))
    (pss_cons (ps_set (i := 3) sc_law.nd rfl (by first | exact Or.inl rfl | exact Or.inr rfl) (pe_disp (pps_cons pe_str pe_dnewK (pps_cons pe_str (pe_lst pa_nil) (pps_cons pe_str (pe_op op_subU (pv 1) pe_int) pps_nil))) (by rfl) (by rfl) (fun z => by cases z) (by decide)))
    (pss_cons (ps_set (i := 4) sc_law.nd rfl (by first | exact Or.inl rfl | exact Or.inr rfl) pe_int)
    (pss_cons (ps_for PassesOwn.never rfl (pi_listK (K := K) (pe_slice (sl_U (K := K)) (pv 0) (po_some pe_int) (po_some pe_int))) (pg_name (i := 5) sc_law.nd rfl (by first | exact Or.inl rfl | exact Or.inr rfl))
    (pss_cons (ps_set (i := 6) sc_law.nd rfl (by first | exact Or.inl rfl | exact Or.inr rfl) (pe_call (ok__law_pool (K := K) T) (hr.mono (by decide)) (by rfl) T.m__law_pool T.F__law_pool.kp T.B__law_pool .nil pass0 (pa_cons (pv 5) pa_nil)))
    (pss_cons (ps_set (i := 7) sc_law.nd rfl (by first | exact Or.inl rfl | exact Or.inr rfl) (pe_call (ok__law_take (K := K) T) (hr.mono (by decide)) (by rfl) T.m__law_take T.F__law_take.kp T.B__law_take .nil pass0 (pa_cons (pv 6) (pa_cons pe_int pa_nil))))
    (pss_cons (ps_set (i := 4) sc_law.nd rfl (by first | exact Or.inl rfl | exact Or.inr rfl) (pe_call (ok__law_step (K := K) T) (hr.mono (by decide)) (by rfl) T.m__law_step T.F__law_step.kp T.B__law_step .nil pass0 (pa_cons (pv 2) (pa_cons (pv 3) (pa_cons (pv 4) (pa_cons (pv 6) pa_nil))))))
    (pss_cons (ps_if (pt_cmpR op_ltU (pv 4) pe_int (nomark _)) (pss_one (ps_ret pe_bl)) pss_nil)
    (pss_cons (ps_if (PW.pt (pw_and (pt_cmpR (op_eqU hr.units (K := K)) (pv 7) pe_int (nomark _)) (pw_and1 (pt_not (pt_val (pe_call (ok__law_looked (K := K) T) (hr.mono (by decide)) (by rfl) T.m__law_looked T.F__law_looked.kp T.B__law_looked .nil pass0 (pa_cons (pv 2) (pa_cons (pv 3) (pa_cons (pv 4) pa_nil))))))))) (pss_one (ps_ret pe_bl)) pss_nil)
    (pss_one (ps_if (pt_cmpR (op_eqU hr.units (K := K)) (pv 7) pe_int (nomark _)) (pss_cons (ps_set (i := 8) sc_law.nd rfl (by first | exact Or.inl rfl | exact Or.inr rfl) (pe_meth0 (pv 2) T.c_Roads T.M_Roads_twin (ok_Roads_twin (K := K) T) (hr.mono (by decide)) T.B_Roads_twin .nil pass0))
    (pss_cons (ps_if (pt_not (pt_val (pe_call (ok__law_looked (K := K) T) (hr.mono (by decide)) (by rfl) T.m__law_looked T.F__law_looked.kp T.B__law_looked .nil pass0 (pa_cons (pv 8) (pa_cons (pv 3) (pa_cons (pv 4) pa_nil)))))) (pss_one (ps_ret pe_bl)) pss_nil)
    (pss_one (ps_set (i := 2) sc_law.nd rfl (by first | exact Or.inl rfl | exact Or.inr rfl) (pe_ix (ix_U (K := K)) (pe_lst (pa_cons (pv 2) (pa_cons (pv 8) pa_nil))) (pe_call (ok__law_take (K := K) T) (hr.mono (by decide)) (by rfl) T.m__law_take T.F__law_take.kp T.B__law_take .nil pass0 (pa_cons (pv 6) (pa_cons pe_int pa_nil))) (fun _ _ => rfl)))))) pss_nil))))))))
    (pss_cons (ps_if (pt_not (pt_val (pe_call (ok__law_looked (K := K) T) (hr.mono (by decide)) (by rfl) T.m__law_looked T.F__law_looked.kp T.B__law_looked .nil pass0 (pa_cons (pv 2) (pa_cons (pv 3) (pa_cons (pv 4) pa_nil)))))) (pss_one (ps_ret pe_bl)) pss_nil)
    (pss_one (ps_ret (pe_callB (cr_allK (K := K) rfl) (by rfl) T.b_all (by decide +kernel) (pa_cons (pe_lc (own := [("thing", 9)]) rfl sc_law.nd (pi_listK (K := K) (pe_lst (pa_cons pe_int (pa_cons pe_int (pa_cons pe_int (pa_cons (pe_un un_neg pe_int) (pa_cons pe_non (pa_cons pe_bl (pa_cons pe_str (pa_cons (pe_lst (pa_cons pe_int pa_nil)) (pa_cons (pe_op op_powU pe_int pe_int) pa_nil))))))))))) (blkOk_by (own := [("thing", 9)]) (N := ["script", "members", "roads", "own", "last", "cell", "pool", "look", "twin", "thing"]) (sc := defScope s_law) (by decide +kernel)) (fun _ _ _ _ _ => (pg_name (i := 9) sc_law.nd rfl (by first | exact Or.inl rfl | exact Or.inr rfl))) (fun _ _ _ _ _ => pts_nil) (fun _ _ _ _ _ => (pe_call (ok__law_made (K := K) T) (hr.mono (by decide)) (by rfl) T.m__law_made T.F__law_made.kp T.B__law_made .nil pass0 (pa_cons (pv 9) pa_nil)))) pa_nil)))))))))), ?_⟩
    dsimp only [L2.start, List.map_cons, List.map_nil, List.map, List.length_cons, List.length_nil, Nat.reduceAdd, Nat.reduceSub, List.replicate, List.cons_append, List.nil_append]
    wtm_at "gs"
    obtain ⟨M, eM, h0⟩ : ∃ M : Nat, 2 + cn % 4 = (M : Int) ∧ 2 ≤ M ∧ M ≤ 5 := ⟨(2 + cn % 4).toNat, by omega, by omega, by omega⟩
    rw [eM]
    wtm_at "gs"
    rename_i qd hqd W hqW HW saW hgW
    obtain ⟨G, eG⟩ : ∃ y, y = q := ⟨_, rfl⟩
    subst eG
    have nWd : W ≠ qd := fun c => by rw [c, upd_same] at hqW; cases hqW
    have gd1 : HW qd = some (.dK []) := saW _ _ upd_same
    have gd : HN qd = some (.dK []) := sa _ _ gd1
    have nGd : G ≠ qd := (ne_of_none gd1 hq).symm
    have nGW : G ≠ W := (ne_of_none hgW hq).symm
    have nWH : HH W = none := by rw [upd_ne nWd] at hqW; exact hqW
    obtain ⟨kw, hkw, -⟩ := id hro.hw
    have nwW : w ≠ W := ne_of_none hkw nWH
    refine ⟨gd, [(.inr "way", .ref W), (.inr "gone", .ref G), (.inr "members", .int ((M : Int) - 2))], rfl, Nat.le_of_ble_eq_true rfl, ?_⟩
    have sH : Same HH (upd HN qd (.dK [(.inr "way", .ref W), (.inr "gone", .ref G), (.inr "members", .int ((M : Int) - 2))])) := fun b u e => by
      have nb : b ≠ qd := ne_of_none e hqd
      rw [upd_ne nb]
      exact sa _ _ (saW _ _ (by rw [upd_ne nb]; exact e))
    obtain ⟨HF, eF⟩ : ∃ y, y = upd HN qd (.dK [(.inr "way", .ref W), (.inr "gone", .ref G), (.inr "members", .int ((M : Int) - 2))]) := ⟨_, rfl⟩
    have gF : HF qd = some (.dK [(.inr "way", .ref W), (.inr "gone", .ref G), (.inr "members", .int ((M : Int) - 2))]) := by rw [eF]; exact upd_same
    have gW : HF W = some (.dK []) := by rw [eF, upd_ne nWd]; exact sa _ _ hgW
    have gG : HF G = some (.lst []) := by rw [eF, upd_ne nGd]; exact hg
    show gName _ _ _ (upd HN qd (.dK [(.inr "way", .ref W), (.inr "gone", .ref G), (.inr "members", .int ((M : Int) - 2))])) _
    rw [← eF] at sH ⊢
    have how : OwAt HF qd W G M [] [] := ⟨gF, ⟨[], gW, All2.nil⟩, gG⟩
    have hroF := hro.same sH
    have hSF := SqL.sm (sm.trans sH) hS
    clear hS eF gd gd1 sa hg hq hqd hqW saW hgW nWH hkw hro sm sH gF gW gG nx1 nx ndx nw nex eM
    wtm_at "gs"
    obtain ⟨LC, eC⟩ : ∃ y, y = q := ⟨_, rfl⟩
    subst eC
    have nGC : G ≠ LC := ne_of_none how.hG hq
    have how1 := how.same sa
    have hro1 := hroF.same sa
    have hgC := hg
    obtain ⟨H1, eH1⟩ : ∃ y, y = HN := ⟨_, rfl⟩
    subst eH1
    have lC : (cutV (ns.map V.int) (some 1) (some 25)).length ≤ 24 := by
      have e1 : ∀ n : Nat, HT.sIx n n (some 25) = min 25 n := fun n => HT.sIx_nat n n 25
      have e2 : ∀ n : Nat, HT.sIx n 0 (some 1) = min 1 n := fun n => HT.sIx_nat n 0 1
      unfold cutV
      rw [List.length_take, List.length_drop, e1, e2]
      omega
    clear hg hq sa how hroF hSF
    refine for_list (xs := cutV (ns.map V.int) (some 1) (some 25)) (fun i σ H' => ∃ (p dx w : Addr) (ws : Ways) (gs : List Int) (last : Int) (v5 v6 v7 v8 v9 : Option V), σ = [some (.ref sp), some (.int M), some (.ref p), some (.ref qd), some (.int last), v5, v6, v7, v8, v9] ∧ RoAt a.Roads H' p dx w M ws last ∧ OwAt H' qd W G M ws gs ∧ w ≠ W ∧ (∀ g ∈ gs, g ∉ ksW ws ∧ g ≤ last) ∧ (ws.length ≤ i ∧ gs.length ≤ i ∧ last ≤ i) ∧ H' LC = some (.lst (cutV (ns.map V.int) (some 1) (some 25))))
      ⟨x, dx, w, [], [], 0, none, none, none, none, none, rfl, hro1, how1, nwW, (fun _ h => nomatch h), ⟨Nat.zero_le _, Nat.zero_le _, by omega⟩, hgC⟩ (fun i σ H' _ hJ => ?q1) (fun i x σ H' hx hJ => ?q2) (fun σ H' hJ => ?q3)
    case q1 =>
      obtain ⟨p, dx, w, ws, gs, last, v5, v6, v7, v8, v9, rfl, hro, how, nwW, hgs, hb, hC⟩ := hJ
      exact .of hC
    case q3 =>
      obtain ⟨p, dx, w, ws, gs, last, v5, v6, v7, v8, v9, rfl, hro, how, nwW, hgs, hb, hC⟩ := hJ
      have hgs2 : ∀ g ∈ gs, g ∉ ksW ws := fun g hg => (hgs g hg).1
      have l60 : gs.length ≤ 60 := by omega
      have l100 : last ≤ 100 := by omega
      clear hro1 how1 hgC
      wtm_at "gs"
      rename_i qz hqz HZ saZ hgZ
      have gz := sa _ _ hgZ
      have hT : ∀ x ∈ [V.int 1, .int 6, .int 0, .int (-2), .non, .bl true, .str "2", .ref qz, .int (10 ^ Int.toNat 29)], OddV HN x ∧ isWh 2 (.int 5) x = false := fun x hx => by
        simp only [List.mem_cons, List.not_mem_nil, or_false] at hx
        rcases hx with rfl | rfl | rfl | rfl | rfl | rfl | rfl | rfl | rfl
        all_goals refine ⟨?_, by first | rfl | decide +kernel⟩
        all_goals first
          | exact .inl rfl
          | exact .inr (.inl ⟨_, _, rfl, gz, fun x hx => by simp at hx; subst hx; rfl⟩)
      have hgQ := hg
      clear hg sa hgZ saZ hro how
      intro D2 hD2
      refine' lc_mapL (fun _ => .bl true) (.of hgQ) hD2 (Nat.le_of_ble_eq_true rfl) (fun x hx H3 Q3 R3 s3 k3 => ?u1) (fun H3 s3 e5 => ?u2)
      case u1 =>
        obtain ⟨t1, t2⟩ := hT x hx
        have ho := t1.same s3
        wtm_at "gs"
        exact k3 _ sm
      case u2 =>
        wtm_at "gs"
        refine i_all (bs := [true, true, true, true, true, true, true, true, true]) (.of e5) ?_
        exact k _
    case q2 =>
      obtain ⟨p, dx, w, ws, gs, last, v5, v6, v7, v8, v9, rfl, hro, how, nwW, hgs, hb, hC⟩ := hJ
      obtain ⟨n, _, rfl, _⟩ : ∃ n : Int, True ∧ x = .int n ∧ True := by
        have h2 := List.mem_of_getElem? hx
        obtain ⟨n, _, e⟩ := List.mem_map.mp (List.mem_of_mem_drop (List.mem_of_mem_take h2))
        exact ⟨n, trivial, e.symm, trivial⟩
      have hi : i < 24 := Nat.lt_of_lt_of_le (List.getElem?_eq_some_iff.mp hx).1 lC
      clear hro1 how1 hgC hx
      wtm_at "gi"
      obtain ⟨PL, ePL⟩ : ∃ y, y = q := ⟨_, rfl⟩
      subst ePL
      obtain ⟨Hn, en⟩ : ∃ y, y = upd (upd H' PL (.lst [.int m])) PL (.lst [.int m']) := ⟨_, rfl⟩
      have sX : Same H' Hn := fun b u e => by
        have nb : b ≠ PL := ne_of_none e hq
        rw [en, upd_ne nb, upd_ne nb]
        exact e
      have gp : Hn PL = some (.lst [.int m']) := by rw [en]; exact upd_same
      rw [← en]
      have nPG : PL ≠ G := (ne_of_none how.hG hq).symm
      have nPC : LC ≠ PL := ne_of_none hC hq
      have hro2 := hro.same sX
      have how2 := how.same sX
      have hC2 := sX _ _ hC
      have hl5 : ws.length < 60 := by omega
      have hl6 : gs.length ≤ 60 := by omega
      obtain ⟨kw, hkw, -⟩ := id hro2.hw
      obtain ⟨kW, hkW, -⟩ := id how2.hW
      clear en sX hq hro how hC
      refine spStep_u1 hro2 how2 gp nPG nwW hgs hl5 hl6 (fun HS ws' gs' last' mS sb hroS howS hgsS gpS hbS => ?_) (by rfl)
      have l0 := hroS.ok.l0
      have hCS : HS LC = some (.lst (cutV (ns.map V.int) (some 1) (some 25))) := sb _ _ (fun c => by
        simp only [List.mem_cons, List.not_mem_nil, or_false] at c
        rcases c with c | c | c | c | c
        · rw [c, hro2.hp] at hC2; cases hC2
        · rw [c, hkw] at hC2; cases hC2
        · rw [c, hkW] at hC2; cases hC2
        · exact nGC c.symm
        · exact nPC c) hC2
      have hgs2 : ∀ g ∈ gs', g ∉ ksW ws' := fun g hg => (hgsS g hg).1
      have l60 : gs'.length ≤ 60 := by omega
      have l100 : last' ≤ 100 := by omega
      have hb' : ws'.length ≤ i + 1 ∧ gs'.length ≤ i + 1 ∧ last' ≤ ((i + 1 : Nat) : Int) := by omega
      clear hro2 how2 gp hgs hl5 hl6 hb hbS sb hC2 hkw hkW
      have hpS := hroS.hp
      wtm_at "gs"
      · exact ⟨p, dx, w, ws', gs', last', _, _, _, _, _, rfl, hroS.same sm, howS.same sm, nwW, hgsS, hb', sm _ _ hCS⟩
      · have hroT : RoAt a.Roads HN x dx' w' M ws' last' := by wtm_at "ro"
        have sA : Same HS HN := by wtm_at "same"
        have gpN := sA _ _ gpS
        have nqP : PL ≠ q := ne_of_none (show HH PL = some (.lst [.int mS]) from by wtm_at "get") hq
        obtain ⟨HZ, eZ⟩ : ∃ y, y = upd HN PL (.lst [.int m']) := ⟨_, rfl⟩
        have sZ : SameBut PL HN HZ := fun b u n e => by rw [eZ, upd_ne n]; exact e
        rw [← eZ]
        have tp := MdX.tp gpN sZ
        have gq := sZ _ _ nqP.symm hg
        have kin : ∀ {b u}, HN b = some u → (∀ xs, u ≠ .lst xs) → b ≠ PL := fun e h c => by
          rw [c, gpN] at e
          exact h _ (Option.some.inj e).symm
        obtain ⟨kw1, hkw1, -⟩ := id (hroS.same sA).hw
        obtain ⟨kw2, hkw2, -⟩ := id hroT.hw
        obtain ⟨kw3, hkw3, -⟩ := id (howS.same sA).hW
        have r1 := (hroS.same sA).keeps tp (fun u e => sZ _ _ (kin (sA _ _ hpS) (fun _ h => by cases h)) e) (fun u e => sZ _ _ (kin hkw1 (fun _ h => by cases h)) e)
        have r2 := hroT.keeps tp (fun u e => sZ _ _ (kin hroT.hp (fun _ h => by cases h)) e) (fun u e => sZ _ _ (kin hkw2 (fun _ h => by cases h)) e)
        have o1 : OwAt HZ qd W G M ws' gs' := ⟨sZ _ _ (kin (sA _ _ howS.ho) (fun _ h => by cases h)) (sA _ _ howS.ho), (howS.same sA).hW.keeps tp (fun u e => sZ _ _ (kin hkw3 (fun _ h => by cases h)) e), sZ _ _ nPG.symm (sA _ _ howS.hG)⟩
        have c1 := sZ _ _ nPC (sA _ _ hCS)
        have nw2 : w' ≠ W := (ne_of_none (show HS W = some (.dK _) from howS.hW.choose_spec.1) (by assumption)).symm
        obtain rfl | rfl : r = 0 ∨ r = 1 := by omega
        · refine i_ixL (.of gq) rfl ?_
          exact ⟨p, dx, w, ws', gs', last', _, _, _, _, _, rfl, r1, o1, nwW, hgsS, hb', c1⟩
        · refine i_ixL (.of gq) rfl ?_
          exact ⟨x, dx', w', ws', gs', last', _, _, _, _, _, rfl, r2, o1, nw2, hgsS, hb', c1⟩
      · exact ⟨p, dx, w, ws', gs', last', _, _, _, _, _, rfl, hroS, howS, nwW, hgsS, hb', hCS⟩
end

set_option maxRecDepth 100000
section
variable {w : World} {K : PySem.W.Frag}
theorem z_a0 (c : hd.Says w K) : PySem.W.findIn K (.ref 57) "__init__" = some (some (.ref 54)) := c.v 0 (q := (fun K => PySem.W.findIn K (.ref 57) "__init__", some (some (.ref 54)))) (by kernel_rfl)
theorem z_a1 (c : hd.Says w K) : PySem.W.findIn K (.ref 76) "__init__" = some (some (.ref 73)) := c.v 1 (q := (fun K => PySem.W.findIn K (.ref 76) "__init__", some (some (.ref 73)))) (by kernel_rfl)
theorem z_a10 (c : hd.Says w K) : PySem.W.findIn K (.ref 209) "put_on" = some (some (.ref 159)) := c.v 2 (q := (fun K => PySem.W.findIn K (.ref 209) "put_on", some (some (.ref 159)))) (by kernel_rfl)
theorem z_a11 (c : hd.Says w K) : PySem.W.findIn K (.ref 209) "put" = some (some (.ref 166)) := c.v 3 (q := (fun K => PySem.W.findIn K (.ref 209) "put", some (some (.ref 166)))) (by kernel_rfl)
theorem z_a12 (c : hd.Says w K) : PySem.W.findIn K (.ref 209) "come" = some (some (.ref 173)) := c.v 4 (q := (fun K => PySem.W.findIn K (.ref 209) "come", some (some (.ref 173)))) (by kernel_rfl)
theorem z_a13 (c : hd.Says w K) : PySem.W.findIn K (.ref 209) "lose" = some (some (.ref 180)) := c.v 5 (q := (fun K => PySem.W.findIn K (.ref 209) "lose", some (some (.ref 180)))) (by kernel_rfl)
theorem z_a14 (c : hd.Says w K) : PySem.W.findIn K (.ref 209) "double" = some (some (.ref 187)) := c.v 6 (q := (fun K => PySem.W.findIn K (.ref 209) "double", some (some (.ref 187)))) (by kernel_rfl)
theorem z_a15 (c : hd.Says w K) : PySem.W.findIn K (.ref 209) "under_way" = some (some (.ref 194)) := c.v 7 (q := (fun K => PySem.W.findIn K (.ref 209) "under_way", some (some (.ref 194)))) (by kernel_rfl)
theorem z_a16 (c : hd.Says w K) : PySem.W.findIn K (.ref 209) "between" = some (some (.ref 199)) := c.v 8 (q := (fun K => PySem.W.findIn K (.ref 209) "between", some (some (.ref 199)))) (by kernel_rfl)
theorem z_a17 (c : hd.Says w K) : PySem.W.findIn K (.ref 209) "twin" = some (some (.ref 206)) := c.v 9 (q := (fun K => PySem.W.findIn K (.ref 209) "twin", some (some (.ref 206)))) (by kernel_rfl)
theorem z_a18 (c : hd.Says w K) : PySem.W.nsIn K mainGlobals "_law_cell_at" = some (some (.ref 220)) := c.v 10 (q := (fun K => PySem.W.nsIn K mainGlobals "_law_cell_at", some (some (.ref 220)))) (by kernel_rfl)
theorem z_a19 (c : hd.Says w K) : PySem.W.nsIn K mainGlobals "_law_pool" = some (some (.ref 227)) := c.v 11 (q := (fun K => PySem.W.nsIn K mainGlobals "_law_pool", some (some (.ref 227)))) (by kernel_rfl)
theorem z_a2 (c : hd.Says w K) : PySem.W.findIn K (.ref 95) "__init__" = some (some (.ref 92)) := c.v 12 (q := (fun K => PySem.W.findIn K (.ref 95) "__init__", some (some (.ref 92)))) (by kernel_rfl)
theorem z_a20 (c : hd.Says w K) : PySem.W.nsIn K mainGlobals "_law_take" = some (some (.ref 234)) := c.v 13 (q := (fun K => PySem.W.nsIn K mainGlobals "_law_take", some (some (.ref 234)))) (by kernel_rfl)
theorem z_a21 (c : hd.Says w K) : PySem.W.nsIn K mainGlobals "_law_road" = some (some (.ref 241)) := c.v 14 (q := (fun K => PySem.W.nsIn K mainGlobals "_law_road", some (some (.ref 241)))) (by kernel_rfl)
theorem z_a22 (c : hd.Says w K) : PySem.W.nsIn K mainGlobals "_law_number" = some (some (.ref 248)) := c.v 15 (q := (fun K => PySem.W.nsIn K mainGlobals "_law_number", some (some (.ref 248)))) (by kernel_rfl)
theorem z_a23 (c : hd.Says w K) : PySem.W.nsIn K mainGlobals "_law_kinds" = some (some (.ref 255)) := c.v 16 (q := (fun K => PySem.W.nsIn K mainGlobals "_law_kinds", some (some (.ref 255)))) (by kernel_rfl)
theorem z_a24 (c : hd.Says w K) : PySem.W.nsIn K mainGlobals "_law_gone" = some (some (.ref 262)) := c.v 17 (q := (fun K => PySem.W.nsIn K mainGlobals "_law_gone", some (some (.ref 262)))) (by kernel_rfl)
theorem z_a25 (c : hd.Says w K) : PySem.W.nsIn K mainGlobals "_law_very" = some (some (.ref 269)) := c.v 18 (q := (fun K => PySem.W.nsIn K mainGlobals "_law_very", some (some (.ref 269)))) (by kernel_rfl)
theorem z_a26 (c : hd.Says w K) : PySem.W.nsIn K mainGlobals "_law_refused" = some (some (.ref 274)) := c.v 19 (q := (fun K => PySem.W.nsIn K mainGlobals "_law_refused", some (some (.ref 274)))) (by kernel_rfl)
theorem z_a27 (c : hd.Says w K) : PySem.W.nsIn K mainGlobals "_law_stands" = some (some (.ref 279)) := c.v 20 (q := (fun K => PySem.W.nsIn K mainGlobals "_law_stands", some (some (.ref 279)))) (by kernel_rfl)
theorem z_a28 (c : hd.Says w K) : PySem.W.nsIn K mainGlobals "_law_made" = some (some (.ref 286)) := c.v 21 (q := (fun K => PySem.W.nsIn K mainGlobals "_law_made", some (some (.ref 286)))) (by kernel_rfl)
theorem z_a29 (c : hd.Says w K) : PySem.W.nsIn K mainGlobals "_law_step" = some (some (.ref 293)) := c.v 22 (q := (fun K => PySem.W.nsIn K mainGlobals "_law_step", some (some (.ref 293)))) (by kernel_rfl)
theorem z_a3 (c : hd.Says w K) : PySem.W.nsIn K mainGlobals "is_whole" = some (some (.ref 105)) := c.v 23 (q := (fun K => PySem.W.nsIn K mainGlobals "is_whole", some (some (.ref 105)))) (by kernel_rfl)
theorem z_a30 (c : hd.Says w K) : PySem.W.nsIn K mainGlobals "_law_looked" = some (some (.ref 300)) := c.v 24 (q := (fun K => PySem.W.nsIn K mainGlobals "_law_looked", some (some (.ref 300)))) (by kernel_rfl)
theorem z_a31 (c : hd.Says w K) : PySem.W.nsIn K mainGlobals "law" = some (some (.ref 305)) := c.v 25 (q := (fun K => PySem.W.nsIn K mainGlobals "law", some (some (.ref 305)))) (by kernel_rfl)
theorem z_a4 (c : hd.Says w K) : PySem.W.nsIn K mainGlobals "are_members" = some (some (.ref 112)) := c.v 26 (q := (fun K => PySem.W.nsIn K mainGlobals "are_members", some (some (.ref 112)))) (by kernel_rfl)
theorem z_a5 (c : hd.Says w K) : PySem.W.nsIn K mainGlobals "copied_thing" = some (some (.ref 117)) := c.v 27 (q := (fun K => PySem.W.nsIn K mainGlobals "copied_thing", some (some (.ref 117)))) (by kernel_rfl)
theorem z_a6 (c : hd.Says w K) : PySem.W.findIn K (.ref 209) "__init__" = some (some (.ref 131)) := c.v 28 (q := (fun K => PySem.W.findIn K (.ref 209) "__init__", some (some (.ref 131)))) (by kernel_rfl)
theorem z_a7 (c : hd.Says w K) : PySem.W.findIn K (.ref 209) "__len__" = some (some (.ref 138)) := c.v 29 (q := (fun K => PySem.W.findIn K (.ref 209) "__len__", some (some (.ref 138)))) (by kernel_rfl)
theorem z_a8 (c : hd.Says w K) : PySem.W.findIn K (.ref 209) "need_road" = some (some (.ref 145)) := c.v 30 (q := (fun K => PySem.W.findIn K (.ref 209) "need_road", some (some (.ref 145)))) (by kernel_rfl)
theorem z_a9 (c : hd.Says w K) : PySem.W.findIn K (.ref 209) "need_number" = some (some (.ref 152)) := c.v 31 (q := (fun K => PySem.W.findIn K (.ref 209) "need_number", some (some (.ref 152)))) (by kernel_rfl)
theorem z_aC0 (c : hd.Says w K) : PySem.W.nsIn K mainGlobals "HallError" = some (some (.ref 24)) := c.v 32 (q := (fun K => PySem.W.nsIn K mainGlobals "HallError", some (some (.ref 24)))) (by kernel_rfl)
theorem z_aC1 (c : hd.Says w K) : PySem.W.nsIn K mainGlobals "Missing" = some (some (.ref 37)) := c.v 33 (q := (fun K => PySem.W.nsIn K mainGlobals "Missing", some (some (.ref 37)))) (by kernel_rfl)
theorem z_aC2 (c : hd.Says w K) : PySem.W.nsIn K mainGlobals "NoNumber" = some (some (.ref 57)) := c.v 34 (q := (fun K => PySem.W.nsIn K mainGlobals "NoNumber", some (some (.ref 57)))) (by kernel_rfl)
theorem z_aC3 (c : hd.Says w K) : PySem.W.nsIn K mainGlobals "NoMember" = some (some (.ref 76)) := c.v 35 (q := (fun K => PySem.W.nsIn K mainGlobals "NoMember", some (some (.ref 76)))) (by kernel_rfl)
theorem z_aC4 (c : hd.Says w K) : PySem.W.nsIn K mainGlobals "NotOnRoad" = some (some (.ref 95)) := c.v 36 (q := (fun K => PySem.W.nsIn K mainGlobals "NotOnRoad", some (some (.ref 95)))) (by kernel_rfl)
theorem z_aC5 (c : hd.Says w K) : PySem.W.nsIn K mainGlobals "Roads" = some (some (.ref 209)) := c.v 37 (q := (fun K => PySem.W.nsIn K mainGlobals "Roads", some (some (.ref 209)))) (by kernel_rfl)
theorem z_ga0 (c : hd.Says w K) : PySem.W.findIn K (.ref 24) "__getattribute__" = some (some (.builtin "BaseException.__getattribute__")) := c.v 38 (q := (fun K => PySem.W.findIn K (.ref 24) "__getattribute__", some (some (.builtin "BaseException.__getattribute__")))) (by kernel_rfl)
theorem z_ga1 (c : hd.Says w K) : PySem.W.findIn K (.ref 37) "__getattribute__" = some (some (.builtin "BaseException.__getattribute__")) := c.v 39 (q := (fun K => PySem.W.findIn K (.ref 37) "__getattribute__", some (some (.builtin "BaseException.__getattribute__")))) (by kernel_rfl)
theorem z_ga2 (c : hd.Says w K) : PySem.W.findIn K (.ref 57) "__getattribute__" = some (some (.builtin "BaseException.__getattribute__")) := c.v 40 (q := (fun K => PySem.W.findIn K (.ref 57) "__getattribute__", some (some (.builtin "BaseException.__getattribute__")))) (by kernel_rfl)
theorem z_ga3 (c : hd.Says w K) : PySem.W.findIn K (.ref 76) "__getattribute__" = some (some (.builtin "BaseException.__getattribute__")) := c.v 41 (q := (fun K => PySem.W.findIn K (.ref 76) "__getattribute__", some (some (.builtin "BaseException.__getattribute__")))) (by kernel_rfl)
theorem z_ga4 (c : hd.Says w K) : PySem.W.findIn K (.ref 95) "__getattribute__" = some (some (.builtin "BaseException.__getattribute__")) := c.v 42 (q := (fun K => PySem.W.findIn K (.ref 95) "__getattribute__", some (some (.builtin "BaseException.__getattribute__")))) (by kernel_rfl)
theorem z_gg0 (c : hd.Says w K) : PySem.W.findIn K (.ref 24) "__getattr__" = some none := c.v 43 (q := (fun K => PySem.W.findIn K (.ref 24) "__getattr__", some none)) (by kernel_rfl)
theorem z_gg1 (c : hd.Says w K) : PySem.W.findIn K (.ref 37) "__getattr__" = some none := c.v 44 (q := (fun K => PySem.W.findIn K (.ref 37) "__getattr__", some none)) (by kernel_rfl)
theorem z_gg2 (c : hd.Says w K) : PySem.W.findIn K (.ref 57) "__getattr__" = some none := c.v 45 (q := (fun K => PySem.W.findIn K (.ref 57) "__getattr__", some none)) (by kernel_rfl)
theorem z_gg3 (c : hd.Says w K) : PySem.W.findIn K (.ref 76) "__getattr__" = some none := c.v 46 (q := (fun K => PySem.W.findIn K (.ref 76) "__getattr__", some none)) (by kernel_rfl)
theorem z_gg4 (c : hd.Says w K) : PySem.W.findIn K (.ref 95) "__getattr__" = some none := c.v 47 (q := (fun K => PySem.W.findIn K (.ref 95) "__getattr__", some none)) (by kernel_rfl)
theorem z_gl0 (c : hd.Says w K) : conB K "LEAST_MEMBERS" (V.int 2) = true := c.b 0 (q := fun K => conB K "LEAST_MEMBERS" (V.int 2)) (by kernel_rfl)
theorem z_gl1 (c : hd.Says w K) : conB K "MOST_MEMBERS" (V.int 5) = true := c.b 1 (q := fun K => conB K "MOST_MEMBERS" (V.int 5)) (by kernel_rfl)
theorem z_hd0 (c : hd.Says w K) : PySem.W.hasDictIn K 24 = true := c.b 2 (q := fun K => PySem.W.hasDictIn K 24) (by kernel_rfl)
theorem z_hd1 (c : hd.Says w K) : PySem.W.hasDictIn K 37 = true := c.b 3 (q := fun K => PySem.W.hasDictIn K 37) (by kernel_rfl)
theorem z_hd2 (c : hd.Says w K) : PySem.W.hasDictIn K 57 = true := c.b 4 (q := fun K => PySem.W.hasDictIn K 57) (by kernel_rfl)
theorem z_hd3 (c : hd.Says w K) : PySem.W.hasDictIn K 76 = true := c.b 5 (q := fun K => PySem.W.hasDictIn K 76) (by kernel_rfl)
theorem z_hd4 (c : hd.Says w K) : PySem.W.hasDictIn K 95 = true := c.b 6 (q := fun K => PySem.W.hasDictIn K 95) (by kernel_rfl)
theorem z_hd5 (c : hd.Says w K) : PySem.W.hasDictIn K 209 = true := c.b 7 (q := fun K => PySem.W.hasDictIn K 209) (by kernel_rfl)
theorem z_hf0 (c : hd.Says w K) : PySem.W.findCls K (.ref 24) (.type "type") "__init__" = some (.val (.builtin "ValueError.__init__")) := c.c 0 (q := (fun K => PySem.W.findCls K (.ref 24) (.type "type") "__init__", some (.val (.builtin "ValueError.__init__")))) (by kernel_rfl)
theorem z_hf1 (c : hd.Says w K) : PySem.W.findCls K (.ref 37) (.type "type") "__init__" = some (.val (.builtin "KeyError.__init__")) := c.c 1 (q := (fun K => PySem.W.findCls K (.ref 37) (.type "type") "__init__", some (.val (.builtin "KeyError.__init__")))) (by kernel_rfl)
theorem z_hn (c : hd.Says w K) : PySem.W.specialIn K (.builtin "object.__class__") "__get__" = some (some (.builtin "getset_descriptor.__get__")) := c.v 48 (q := (fun K => PySem.W.specialIn K (.builtin "object.__class__") "__get__", some (some (.builtin "getset_descriptor.__get__")))) (by kernel_rfl)
theorem z_hq0 (c : hd.Says w K) : PySem.W.readsIn K 24 (.type "type") = true := c.b 8 (q := fun K => PySem.W.readsIn K 24 (.type "type")) (by kernel_rfl)
theorem z_hq1 (c : hd.Says w K) : PySem.W.readsIn K 37 (.type "type") = true := c.b 9 (q := fun K => PySem.W.readsIn K 37 (.type "type")) (by kernel_rfl)
theorem z_hs0 (c : hd.Says w K) : PySem.W.specialIn K (.ref 24) "__getattribute__" = some (some (.builtin "type.__getattribute__")) := c.v 49 (q := (fun K => PySem.W.specialIn K (.ref 24) "__getattribute__", some (some (.builtin "type.__getattribute__")))) (by kernel_rfl)
theorem z_hs1 (c : hd.Says w K) : PySem.W.specialIn K (.ref 37) "__getattribute__" = some (some (.builtin "type.__getattribute__")) := c.v 50 (q := (fun K => PySem.W.specialIn K (.ref 37) "__getattribute__", some (some (.builtin "type.__getattribute__")))) (by kernel_rfl)
theorem z_htk (c : hd.Says w K) : PySem.W.takesIn K (.builtin "object.__class__") = some true := c.o 0 (q := (fun K => PySem.W.takesIn K (.builtin "object.__class__"), some true)) (by kernel_rfl)
theorem z_i0 (c : hd.Says w K) : PySem.W.isFn K (.ref 54) = true := c.b 10 (q := fun K => PySem.W.isFn K (.ref 54)) (by kernel_rfl)
theorem z_i1 (c : hd.Says w K) : PySem.W.isFn K (.ref 73) = true := c.b 11 (q := fun K => PySem.W.isFn K (.ref 73)) (by kernel_rfl)
theorem z_i10 (c : hd.Says w K) : PySem.W.isFn K (.ref 159) = true := c.b 12 (q := fun K => PySem.W.isFn K (.ref 159)) (by kernel_rfl)
theorem z_i11 (c : hd.Says w K) : PySem.W.isFn K (.ref 166) = true := c.b 13 (q := fun K => PySem.W.isFn K (.ref 166)) (by kernel_rfl)
theorem z_i12 (c : hd.Says w K) : PySem.W.isFn K (.ref 173) = true := c.b 14 (q := fun K => PySem.W.isFn K (.ref 173)) (by kernel_rfl)
theorem z_i13 (c : hd.Says w K) : PySem.W.isFn K (.ref 180) = true := c.b 15 (q := fun K => PySem.W.isFn K (.ref 180)) (by kernel_rfl)
theorem z_i14 (c : hd.Says w K) : PySem.W.isFn K (.ref 187) = true := c.b 16 (q := fun K => PySem.W.isFn K (.ref 187)) (by kernel_rfl)
theorem z_i15 (c : hd.Says w K) : PySem.W.isFn K (.ref 194) = true := c.b 17 (q := fun K => PySem.W.isFn K (.ref 194)) (by kernel_rfl)
theorem z_i16 (c : hd.Says w K) : PySem.W.isFn K (.ref 199) = true := c.b 18 (q := fun K => PySem.W.isFn K (.ref 199)) (by kernel_rfl)
theorem z_i17 (c : hd.Says w K) : PySem.W.isFn K (.ref 206) = true := c.b 19 (q := fun K => PySem.W.isFn K (.ref 206)) (by kernel_rfl)
theorem z_i2 (c : hd.Says w K) : PySem.W.isFn K (.ref 92) = true := c.b 20 (q := fun K => PySem.W.isFn K (.ref 92)) (by kernel_rfl)
theorem z_i6 (c : hd.Says w K) : PySem.W.isFn K (.ref 131) = true := c.b 21 (q := fun K => PySem.W.isFn K (.ref 131)) (by kernel_rfl)
theorem z_i7 (c : hd.Says w K) : PySem.W.isFn K (.ref 138) = true := c.b 22 (q := fun K => PySem.W.isFn K (.ref 138)) (by kernel_rfl)
theorem z_i8 (c : hd.Says w K) : PySem.W.isFn K (.ref 145) = true := c.b 23 (q := fun K => PySem.W.isFn K (.ref 145)) (by kernel_rfl)
theorem z_i9 (c : hd.Says w K) : PySem.W.isFn K (.ref 152) = true := c.b 24 (q := fun K => PySem.W.isFn K (.ref 152)) (by kernel_rfl)
theorem z_ia0 (c : hd.Says w K) : PySem.W.findIn K (.ref 24) "__class__" = some (some (.builtin "object.__class__")) := c.v 51 (q := (fun K => PySem.W.findIn K (.ref 24) "__class__", some (some (.builtin "object.__class__")))) (by kernel_rfl)
theorem z_ia1 (c : hd.Says w K) : PySem.W.findIn K (.ref 37) "__class__" = some (some (.builtin "object.__class__")) := c.v 52 (q := (fun K => PySem.W.findIn K (.ref 37) "__class__", some (some (.builtin "object.__class__")))) (by kernel_rfl)
theorem z_ia2 (c : hd.Says w K) : PySem.W.findIn K (.ref 57) "__class__" = some (some (.builtin "object.__class__")) := c.v 53 (q := (fun K => PySem.W.findIn K (.ref 57) "__class__", some (some (.builtin "object.__class__")))) (by kernel_rfl)
theorem z_ia3 (c : hd.Says w K) : PySem.W.findIn K (.ref 76) "__class__" = some (some (.builtin "object.__class__")) := c.v 54 (q := (fun K => PySem.W.findIn K (.ref 76) "__class__", some (some (.builtin "object.__class__")))) (by kernel_rfl)
theorem z_ia4 (c : hd.Says w K) : PySem.W.findIn K (.ref 95) "__class__" = some (some (.builtin "object.__class__")) := c.v 55 (q := (fun K => PySem.W.findIn K (.ref 95) "__class__", some (some (.builtin "object.__class__")))) (by kernel_rfl)
theorem z_ia5 (c : hd.Says w K) : PySem.W.findIn K (.ref 209) "__class__" = some (some (.builtin "object.__class__")) := c.v 56 (q := (fun K => PySem.W.findIn K (.ref 209) "__class__", some (some (.builtin "object.__class__")))) (by kernel_rfl)
theorem z_ic0 (c : hd.Says w K) : PySem.W.isClsIn K 24 = true := c.b 25 (q := fun K => PySem.W.isClsIn K 24) (by kernel_rfl)
theorem z_ic1 (c : hd.Says w K) : PySem.W.isClsIn K 37 = true := c.b 26 (q := fun K => PySem.W.isClsIn K 37) (by kernel_rfl)
theorem z_ic2 (c : hd.Says w K) : PySem.W.isClsIn K 57 = true := c.b 27 (q := fun K => PySem.W.isClsIn K 57) (by kernel_rfl)
theorem z_ic3 (c : hd.Says w K) : PySem.W.isClsIn K 76 = true := c.b 28 (q := fun K => PySem.W.isClsIn K 76) (by kernel_rfl)
theorem z_ic4 (c : hd.Says w K) : PySem.W.isClsIn K 95 = true := c.b 29 (q := fun K => PySem.W.isClsIn K 95) (by kernel_rfl)
theorem z_ic5 (c : hd.Says w K) : PySem.W.isClsIn K 209 = true := c.b 30 (q := fun K => PySem.W.isClsIn K 209) (by kernel_rfl)
theorem z_ii5NoneType (c : hd.Says w K) : PySem.W.subIn K (.type "NoneType") (.ref 209) = some false := c.o 1 (q := (fun K => PySem.W.subIn K (.type "NoneType") (.ref 209), some false)) (by kernel_rfl)
theorem z_ii5bool (c : hd.Says w K) : PySem.W.subIn K (.type "bool") (.ref 209) = some false := c.o 2 (q := (fun K => PySem.W.subIn K (.type "bool") (.ref 209), some false)) (by kernel_rfl)
theorem z_ii5dict (c : hd.Says w K) : PySem.W.subIn K (.type "dict") (.ref 209) = some false := c.o 3 (q := (fun K => PySem.W.subIn K (.type "dict") (.ref 209), some false)) (by kernel_rfl)
theorem z_ii5int (c : hd.Says w K) : PySem.W.subIn K (.type "int") (.ref 209) = some false := c.o 4 (q := (fun K => PySem.W.subIn K (.type "int") (.ref 209), some false)) (by kernel_rfl)
theorem z_ii5list (c : hd.Says w K) : PySem.W.subIn K (.type "list") (.ref 209) = some false := c.o 5 (q := (fun K => PySem.W.subIn K (.type "list") (.ref 209), some false)) (by kernel_rfl)
theorem z_ii5str (c : hd.Says w K) : PySem.W.subIn K (.type "str") (.ref 209) = some false := c.o 6 (q := (fun K => PySem.W.subIn K (.type "str") (.ref 209), some false)) (by kernel_rfl)
theorem z_ii5tuple (c : hd.Says w K) : PySem.W.subIn K (.type "tuple") (.ref 209) = some false := c.o 7 (q := (fun K => PySem.W.subIn K (.type "tuple") (.ref 209), some false)) (by kernel_rfl)
theorem z_im0 (c : hd.Says w K) : PySem.W.mroIn K 24 (.type "object") = some true := c.o 8 (q := (fun K => PySem.W.mroIn K 24 (.type "object"), some true)) (by kernel_rfl)
theorem z_im1 (c : hd.Says w K) : PySem.W.mroIn K 37 (.type "object") = some true := c.o 9 (q := (fun K => PySem.W.mroIn K 37 (.type "object"), some true)) (by kernel_rfl)
theorem z_im2 (c : hd.Says w K) : PySem.W.mroIn K 57 (.type "object") = some true := c.o 10 (q := (fun K => PySem.W.mroIn K 57 (.type "object"), some true)) (by kernel_rfl)
theorem z_im3 (c : hd.Says w K) : PySem.W.mroIn K 76 (.type "object") = some true := c.o 11 (q := (fun K => PySem.W.mroIn K 76 (.type "object"), some true)) (by kernel_rfl)
theorem z_im4 (c : hd.Says w K) : PySem.W.mroIn K 95 (.type "object") = some true := c.o 12 (q := (fun K => PySem.W.mroIn K 95 (.type "object"), some true)) (by kernel_rfl)
theorem z_im5 (c : hd.Says w K) : PySem.W.mroIn K 209 (.type "object") = some true := c.o 13 (q := (fun K => PySem.W.mroIn K 209 (.type "object"), some true)) (by kernel_rfl)
theorem z_io5bool (c : hd.Says w K) : PySem.W.subIn K (.ref 209) (.type "bool") = some false := c.o 14 (q := (fun K => PySem.W.subIn K (.ref 209) (.type "bool"), some false)) (by kernel_rfl)
theorem z_io5dict (c : hd.Says w K) : PySem.W.subIn K (.ref 209) (.type "dict") = some false := c.o 15 (q := (fun K => PySem.W.subIn K (.ref 209) (.type "dict"), some false)) (by kernel_rfl)
theorem z_io5int (c : hd.Says w K) : PySem.W.subIn K (.ref 209) (.type "int") = some false := c.o 16 (q := (fun K => PySem.W.subIn K (.ref 209) (.type "int"), some false)) (by kernel_rfl)
theorem z_io5list (c : hd.Says w K) : PySem.W.subIn K (.ref 209) (.type "list") = some false := c.o 17 (q := (fun K => PySem.W.subIn K (.ref 209) (.type "list"), some false)) (by kernel_rfl)
theorem z_io5str (c : hd.Says w K) : PySem.W.subIn K (.ref 209) (.type "str") = some false := c.o 18 (q := (fun K => PySem.W.subIn K (.ref 209) (.type "str"), some false)) (by kernel_rfl)
theorem z_io5tuple (c : hd.Says w K) : PySem.W.subIn K (.ref 209) (.type "tuple") = some false := c.o 19 (q := (fun K => PySem.W.subIn K (.ref 209) (.type "tuple"), some false)) (by kernel_rfl)
theorem z_it0 (c : hd.Says w K) : PySem.W.typeIn K (.ref 24) = some (.type "type") := c.u 0 (q := (fun K => PySem.W.typeIn K (.ref 24), some (.type "type"))) (by kernel_rfl)
theorem z_it1 (c : hd.Says w K) : PySem.W.typeIn K (.ref 37) = some (.type "type") := c.u 1 (q := (fun K => PySem.W.typeIn K (.ref 37), some (.type "type"))) (by kernel_rfl)
theorem z_it2 (c : hd.Says w K) : PySem.W.typeIn K (.ref 57) = some (.type "type") := c.u 2 (q := (fun K => PySem.W.typeIn K (.ref 57), some (.type "type"))) (by kernel_rfl)
theorem z_it3 (c : hd.Says w K) : PySem.W.typeIn K (.ref 76) = some (.type "type") := c.u 3 (q := (fun K => PySem.W.typeIn K (.ref 76), some (.type "type"))) (by kernel_rfl)
theorem z_it4 (c : hd.Says w K) : PySem.W.typeIn K (.ref 95) = some (.type "type") := c.u 4 (q := (fun K => PySem.W.typeIn K (.ref 95), some (.type "type"))) (by kernel_rfl)
theorem z_it5 (c : hd.Says w K) : PySem.W.typeIn K (.ref 209) = some (.type "type") := c.u 5 (q := (fun K => PySem.W.typeIn K (.ref 209), some (.type "type"))) (by kernel_rfl)
theorem z_k0 (c : hd.Says w K) : PySem.W.keepIn K (.ref 54) = true := c.b 31 (q := fun K => PySem.W.keepIn K (.ref 54)) (by kernel_rfl)
theorem z_k1 (c : hd.Says w K) : PySem.W.keepIn K (.ref 73) = true := c.b 32 (q := fun K => PySem.W.keepIn K (.ref 73)) (by kernel_rfl)
theorem z_k10 (c : hd.Says w K) : PySem.W.keepIn K (.ref 159) = true := c.b 33 (q := fun K => PySem.W.keepIn K (.ref 159)) (by kernel_rfl)
theorem z_k11 (c : hd.Says w K) : PySem.W.keepIn K (.ref 166) = true := c.b 34 (q := fun K => PySem.W.keepIn K (.ref 166)) (by kernel_rfl)
theorem z_k12 (c : hd.Says w K) : PySem.W.keepIn K (.ref 173) = true := c.b 35 (q := fun K => PySem.W.keepIn K (.ref 173)) (by kernel_rfl)
theorem z_k13 (c : hd.Says w K) : PySem.W.keepIn K (.ref 180) = true := c.b 36 (q := fun K => PySem.W.keepIn K (.ref 180)) (by kernel_rfl)
theorem z_k14 (c : hd.Says w K) : PySem.W.keepIn K (.ref 187) = true := c.b 37 (q := fun K => PySem.W.keepIn K (.ref 187)) (by kernel_rfl)
theorem z_k15 (c : hd.Says w K) : PySem.W.keepIn K (.ref 194) = true := c.b 38 (q := fun K => PySem.W.keepIn K (.ref 194)) (by kernel_rfl)
theorem z_k16 (c : hd.Says w K) : PySem.W.keepIn K (.ref 199) = true := c.b 39 (q := fun K => PySem.W.keepIn K (.ref 199)) (by kernel_rfl)
theorem z_k17 (c : hd.Says w K) : PySem.W.keepIn K (.ref 206) = true := c.b 40 (q := fun K => PySem.W.keepIn K (.ref 206)) (by kernel_rfl)
theorem z_k18 (c : hd.Says w K) : PySem.W.keepIn K (.ref 220) = true := c.b 41 (q := fun K => PySem.W.keepIn K (.ref 220)) (by kernel_rfl)
theorem z_k19 (c : hd.Says w K) : PySem.W.keepIn K (.ref 227) = true := c.b 42 (q := fun K => PySem.W.keepIn K (.ref 227)) (by kernel_rfl)
theorem z_k2 (c : hd.Says w K) : PySem.W.keepIn K (.ref 92) = true := c.b 43 (q := fun K => PySem.W.keepIn K (.ref 92)) (by kernel_rfl)
theorem z_k20 (c : hd.Says w K) : PySem.W.keepIn K (.ref 234) = true := c.b 44 (q := fun K => PySem.W.keepIn K (.ref 234)) (by kernel_rfl)
theorem z_k21 (c : hd.Says w K) : PySem.W.keepIn K (.ref 241) = true := c.b 45 (q := fun K => PySem.W.keepIn K (.ref 241)) (by kernel_rfl)
theorem z_k22 (c : hd.Says w K) : PySem.W.keepIn K (.ref 248) = true := c.b 46 (q := fun K => PySem.W.keepIn K (.ref 248)) (by kernel_rfl)
theorem z_k23 (c : hd.Says w K) : PySem.W.keepIn K (.ref 255) = true := c.b 47 (q := fun K => PySem.W.keepIn K (.ref 255)) (by kernel_rfl)
theorem z_k24 (c : hd.Says w K) : PySem.W.keepIn K (.ref 262) = true := c.b 48 (q := fun K => PySem.W.keepIn K (.ref 262)) (by kernel_rfl)
theorem z_k25 (c : hd.Says w K) : PySem.W.keepIn K (.ref 269) = true := c.b 49 (q := fun K => PySem.W.keepIn K (.ref 269)) (by kernel_rfl)
theorem z_k26 (c : hd.Says w K) : PySem.W.keepIn K (.ref 274) = true := c.b 50 (q := fun K => PySem.W.keepIn K (.ref 274)) (by kernel_rfl)
theorem z_k27 (c : hd.Says w K) : PySem.W.keepIn K (.ref 279) = true := c.b 51 (q := fun K => PySem.W.keepIn K (.ref 279)) (by kernel_rfl)
theorem z_k28 (c : hd.Says w K) : PySem.W.keepIn K (.ref 286) = true := c.b 52 (q := fun K => PySem.W.keepIn K (.ref 286)) (by kernel_rfl)
theorem z_k29 (c : hd.Says w K) : PySem.W.keepIn K (.ref 293) = true := c.b 53 (q := fun K => PySem.W.keepIn K (.ref 293)) (by kernel_rfl)
theorem z_k3 (c : hd.Says w K) : PySem.W.keepIn K (.ref 105) = true := c.b 54 (q := fun K => PySem.W.keepIn K (.ref 105)) (by kernel_rfl)
theorem z_k30 (c : hd.Says w K) : PySem.W.keepIn K (.ref 300) = true := c.b 55 (q := fun K => PySem.W.keepIn K (.ref 300)) (by kernel_rfl)
theorem z_k31 (c : hd.Says w K) : PySem.W.keepIn K (.ref 305) = true := c.b 56 (q := fun K => PySem.W.keepIn K (.ref 305)) (by kernel_rfl)
theorem z_k4 (c : hd.Says w K) : PySem.W.keepIn K (.ref 112) = true := c.b 57 (q := fun K => PySem.W.keepIn K (.ref 112)) (by kernel_rfl)
theorem z_k5 (c : hd.Says w K) : PySem.W.keepIn K (.ref 117) = true := c.b 58 (q := fun K => PySem.W.keepIn K (.ref 117)) (by kernel_rfl)
theorem z_k6 (c : hd.Says w K) : PySem.W.keepIn K (.ref 131) = true := c.b 59 (q := fun K => PySem.W.keepIn K (.ref 131)) (by kernel_rfl)
theorem z_k7 (c : hd.Says w K) : PySem.W.keepIn K (.ref 138) = true := c.b 60 (q := fun K => PySem.W.keepIn K (.ref 138)) (by kernel_rfl)
theorem z_k8 (c : hd.Says w K) : PySem.W.keepIn K (.ref 145) = true := c.b 61 (q := fun K => PySem.W.keepIn K (.ref 145)) (by kernel_rfl)
theorem z_k9 (c : hd.Says w K) : PySem.W.keepIn K (.ref 152) = true := c.b 62 (q := fun K => PySem.W.keepIn K (.ref 152)) (by kernel_rfl)
theorem z_kc2 (c : hd.Says w K) : PySem.W.keepIn K (.ref 57) = true := c.b 63 (q := fun K => PySem.W.keepIn K (.ref 57)) (by kernel_rfl)
theorem z_kc3 (c : hd.Says w K) : PySem.W.keepIn K (.ref 76) = true := c.b 64 (q := fun K => PySem.W.keepIn K (.ref 76)) (by kernel_rfl)
theorem z_kc4 (c : hd.Says w K) : PySem.W.keepIn K (.ref 95) = true := c.b 65 (q := fun K => PySem.W.keepIn K (.ref 95)) (by kernel_rfl)
theorem z_kc5 (c : hd.Says w K) : PySem.W.keepIn K (.ref 209) = true := c.b 66 (q := fun K => PySem.W.keepIn K (.ref 209)) (by kernel_rfl)
theorem z_mk5 (c : hd.Says w K) : PySem.W.makesIn K 209 = true := c.b 67 (q := fun K => PySem.W.makesIn K 209) (by kernel_rfl)
theorem z_n2_found (c : hd.Says w K) : PySem.W.findIn K (.ref 57) "found" = some none := c.v 57 (q := (fun K => PySem.W.findIn K (.ref 57) "found", some none)) (by kernel_rfl)
theorem z_n3_found (c : hd.Says w K) : PySem.W.findIn K (.ref 76) "found" = some none := c.v 58 (q := (fun K => PySem.W.findIn K (.ref 76) "found", some none)) (by kernel_rfl)
theorem z_n4_found (c : hd.Says w K) : PySem.W.findIn K (.ref 95) "found" = some none := c.v 59 (q := (fun K => PySem.W.findIn K (.ref 95) "found", some none)) (by kernel_rfl)
theorem z_n5_kept_members (c : hd.Says w K) : PySem.W.findIn K (.ref 209) "kept_members" = some none := c.v 60 (q := (fun K => PySem.W.findIn K (.ref 209) "kept_members", some none)) (by kernel_rfl)
theorem z_n5_kept_way (c : hd.Says w K) : PySem.W.findIn K (.ref 209) "kept_way" = some none := c.v 61 (q := (fun K => PySem.W.findIn K (.ref 209) "kept_way", some none)) (by kernel_rfl)
theorem z_n5_last_number (c : hd.Says w K) : PySem.W.findIn K (.ref 209) "last_number" = some none := c.v 62 (q := (fun K => PySem.W.findIn K (.ref 209) "last_number", some none)) (by kernel_rfl)
theorem z_ne2_0 (_ : hd.Says w K) : (Value.ref 57 == Value.ref 24) = false := by rfl
theorem z_ne2_1 (_ : hd.Says w K) : (Value.ref 57 == Value.ref 37) = false := by rfl
theorem z_ne2_3 (_ : hd.Says w K) : (Value.ref 57 == Value.ref 76) = false := by rfl
theorem z_ne2_4 (_ : hd.Says w K) : (Value.ref 57 == Value.ref 95) = false := by rfl
theorem z_ne3_0 (_ : hd.Says w K) : (Value.ref 76 == Value.ref 24) = false := by rfl
theorem z_ne3_1 (_ : hd.Says w K) : (Value.ref 76 == Value.ref 37) = false := by rfl
theorem z_ne3_2 (_ : hd.Says w K) : (Value.ref 76 == Value.ref 57) = false := by rfl
theorem z_ne3_4 (_ : hd.Says w K) : (Value.ref 76 == Value.ref 95) = false := by rfl
theorem z_ne4_0 (_ : hd.Says w K) : (Value.ref 95 == Value.ref 24) = false := by rfl
theorem z_ne4_1 (_ : hd.Says w K) : (Value.ref 95 == Value.ref 37) = false := by rfl
theorem z_ne4_2 (_ : hd.Says w K) : (Value.ref 95 == Value.ref 57) = false := by rfl
theorem z_ne4_3 (_ : hd.Says w K) : (Value.ref 95 == Value.ref 76) = false := by rfl
theorem z_pg5 (c : hd.Says w K) : PySem.W.plainGet K 209 Str.empty = true := c.b 68 (q := fun K => PySem.W.plainGet K 209 Str.empty) (by kernel_rfl)
theorem z_po5 (c : hd.Says w K) : PySem.W.plainOver K 209 = true := c.b 69 (q := fun K => PySem.W.plainOver K 209) (by kernel_rfl)
theorem z_sa2 (c : hd.Says w K) : PySem.W.findIn K (.ref 57) "__setattr__" = some (some (.builtin "object.__setattr__")) := c.v 63 (q := (fun K => PySem.W.findIn K (.ref 57) "__setattr__", some (some (.builtin "object.__setattr__")))) (by kernel_rfl)
theorem z_sa3 (c : hd.Says w K) : PySem.W.findIn K (.ref 76) "__setattr__" = some (some (.builtin "object.__setattr__")) := c.v 64 (q := (fun K => PySem.W.findIn K (.ref 76) "__setattr__", some (some (.builtin "object.__setattr__")))) (by kernel_rfl)
theorem z_sa4 (c : hd.Says w K) : PySem.W.findIn K (.ref 95) "__setattr__" = some (some (.builtin "object.__setattr__")) := c.v 65 (q := (fun K => PySem.W.findIn K (.ref 95) "__setattr__", some (some (.builtin "object.__setattr__")))) (by kernel_rfl)
theorem z_sa5 (c : hd.Says w K) : PySem.W.findIn K (.ref 209) "__setattr__" = some (some (.builtin "object.__setattr__")) := c.v 66 (q := (fun K => PySem.W.findIn K (.ref 209) "__setattr__", some (some (.builtin "object.__setattr__")))) (by kernel_rfl)
theorem z_sx0 (c : hd.Says w K) : PySem.W.subIn K (.ref 24) (.type "BaseException") = some true := c.o 20 (q := (fun K => PySem.W.subIn K (.ref 24) (.type "BaseException"), some true)) (by kernel_rfl)
theorem z_sx1 (c : hd.Says w K) : PySem.W.subIn K (.ref 37) (.type "BaseException") = some true := c.o 21 (q := (fun K => PySem.W.subIn K (.ref 37) (.type "BaseException"), some true)) (by kernel_rfl)
theorem z_sx2 (c : hd.Says w K) : PySem.W.subIn K (.ref 57) (.type "BaseException") = some true := c.o 22 (q := (fun K => PySem.W.subIn K (.ref 57) (.type "BaseException"), some true)) (by kernel_rfl)
theorem z_sx3 (c : hd.Says w K) : PySem.W.subIn K (.ref 76) (.type "BaseException") = some true := c.o 23 (q := (fun K => PySem.W.subIn K (.ref 76) (.type "BaseException"), some true)) (by kernel_rfl)
theorem z_sx4 (c : hd.Says w K) : PySem.W.subIn K (.ref 95) (.type "BaseException") = some true := c.o 24 (q := (fun K => PySem.W.subIn K (.ref 95) (.type "BaseException"), some true)) (by kernel_rfl)
theorem z_tf0 (c : hd.Says w K) : PySem.W.typeIn K (.ref 54) = some (.type "function") := c.u 6 (q := (fun K => PySem.W.typeIn K (.ref 54), some (.type "function"))) (by kernel_rfl)
theorem z_tf1 (c : hd.Says w K) : PySem.W.typeIn K (.ref 73) = some (.type "function") := c.u 7 (q := (fun K => PySem.W.typeIn K (.ref 73), some (.type "function"))) (by kernel_rfl)
theorem z_tf2 (c : hd.Says w K) : PySem.W.typeIn K (.ref 92) = some (.type "function") := c.u 8 (q := (fun K => PySem.W.typeIn K (.ref 92), some (.type "function"))) (by kernel_rfl)
theorem z_x2_0 (c : hd.Says w K) : PySem.W.subIn K (.ref 57) (.ref 24) = some true := c.o 25 (q := (fun K => PySem.W.subIn K (.ref 57) (.ref 24), some true)) (by kernel_rfl)
theorem z_x2_1 (c : hd.Says w K) : PySem.W.subIn K (.ref 57) (.ref 37) = some false := c.o 26 (q := (fun K => PySem.W.subIn K (.ref 57) (.ref 37), some false)) (by kernel_rfl)
theorem z_x2_2 (c : hd.Says w K) : PySem.W.subIn K (.ref 57) (.ref 57) = some true := c.o 27 (q := (fun K => PySem.W.subIn K (.ref 57) (.ref 57), some true)) (by kernel_rfl)
theorem z_x2_3 (c : hd.Says w K) : PySem.W.subIn K (.ref 57) (.ref 76) = some false := c.o 28 (q := (fun K => PySem.W.subIn K (.ref 57) (.ref 76), some false)) (by kernel_rfl)
theorem z_x2_4 (c : hd.Says w K) : PySem.W.subIn K (.ref 57) (.ref 95) = some false := c.o 29 (q := (fun K => PySem.W.subIn K (.ref 57) (.ref 95), some false)) (by kernel_rfl)
theorem z_x3_0 (c : hd.Says w K) : PySem.W.subIn K (.ref 76) (.ref 24) = some true := c.o 30 (q := (fun K => PySem.W.subIn K (.ref 76) (.ref 24), some true)) (by kernel_rfl)
theorem z_x3_1 (c : hd.Says w K) : PySem.W.subIn K (.ref 76) (.ref 37) = some false := c.o 31 (q := (fun K => PySem.W.subIn K (.ref 76) (.ref 37), some false)) (by kernel_rfl)
theorem z_x3_2 (c : hd.Says w K) : PySem.W.subIn K (.ref 76) (.ref 57) = some false := c.o 32 (q := (fun K => PySem.W.subIn K (.ref 76) (.ref 57), some false)) (by kernel_rfl)
theorem z_x3_3 (c : hd.Says w K) : PySem.W.subIn K (.ref 76) (.ref 76) = some true := c.o 33 (q := (fun K => PySem.W.subIn K (.ref 76) (.ref 76), some true)) (by kernel_rfl)
theorem z_x3_4 (c : hd.Says w K) : PySem.W.subIn K (.ref 76) (.ref 95) = some false := c.o 34 (q := (fun K => PySem.W.subIn K (.ref 76) (.ref 95), some false)) (by kernel_rfl)
theorem z_x4_0 (c : hd.Says w K) : PySem.W.subIn K (.ref 95) (.ref 24) = some false := c.o 35 (q := (fun K => PySem.W.subIn K (.ref 95) (.ref 24), some false)) (by kernel_rfl)
theorem z_x4_1 (c : hd.Says w K) : PySem.W.subIn K (.ref 95) (.ref 37) = some true := c.o 36 (q := (fun K => PySem.W.subIn K (.ref 95) (.ref 37), some true)) (by kernel_rfl)
theorem z_x4_2 (c : hd.Says w K) : PySem.W.subIn K (.ref 95) (.ref 57) = some false := c.o 37 (q := (fun K => PySem.W.subIn K (.ref 95) (.ref 57), some false)) (by kernel_rfl)
theorem z_x4_3 (c : hd.Says w K) : PySem.W.subIn K (.ref 95) (.ref 76) = some false := c.o 38 (q := (fun K => PySem.W.subIn K (.ref 95) (.ref 76), some false)) (by kernel_rfl)
theorem z_x4_4 (c : hd.Says w K) : PySem.W.subIn K (.ref 95) (.ref 95) = some true := c.o 39 (q := (fun K => PySem.W.subIn K (.ref 95) (.ref 95), some true)) (by kernel_rfl)
theorem z_xy4 (c : hd.Says w K) : PySem.W.subIn K (.ref 95) (.type "KeyError") = some true := c.o 40 (q := (fun K => PySem.W.subIn K (.ref 95) (.type "KeyError"), some true)) (by kernel_rfl)
theorem z_z1 (c : hd.Says w K) : PySem.W.nsIn K mainGlobals "KeyError" = some none := c.v 67 (q := (fun K => PySem.W.nsIn K mainGlobals "KeyError", some none)) (by kernel_rfl)
theorem z_z22 (c : hd.Says w K) : PySem.W.nsIn K mainGlobals "all" = some none := c.v 68 (q := (fun K => PySem.W.nsIn K mainGlobals "all", some none)) (by kernel_rfl)
theorem z_z24 (c : hd.Says w K) : PySem.W.nsIn K mainGlobals "bool" = some none := c.v 69 (q := (fun K => PySem.W.nsIn K mainGlobals "bool", some none)) (by kernel_rfl)
theorem z_z26 (c : hd.Says w K) : PySem.W.nsIn K mainGlobals "dict" = some none := c.v 70 (q := (fun K => PySem.W.nsIn K mainGlobals "dict", some none)) (by kernel_rfl)
theorem z_z27 (c : hd.Says w K) : PySem.W.nsIn K mainGlobals "int" = some none := c.v 71 (q := (fun K => PySem.W.nsIn K mainGlobals "int", some none)) (by kernel_rfl)
theorem z_z29 (c : hd.Says w K) : PySem.W.nsIn K mainGlobals "isinstance" = some none := c.v 72 (q := (fun K => PySem.W.nsIn K mainGlobals "isinstance", some none)) (by kernel_rfl)
theorem z_z30 (c : hd.Says w K) : PySem.W.nsIn K mainGlobals "len" = some none := c.v 73 (q := (fun K => PySem.W.nsIn K mainGlobals "len", some none)) (by kernel_rfl)
theorem z_z31 (c : hd.Says w K) : PySem.W.nsIn K mainGlobals "list" = some none := c.v 74 (q := (fun K => PySem.W.nsIn K mainGlobals "list", some none)) (by kernel_rfl)
theorem z_z32 (c : hd.Says w K) : PySem.W.nsIn K mainGlobals "max" = some none := c.v 75 (q := (fun K => PySem.W.nsIn K mainGlobals "max", some none)) (by kernel_rfl)
theorem z_z33 (c : hd.Says w K) : PySem.W.nsIn K mainGlobals "range" = some none := c.v 76 (q := (fun K => PySem.W.nsIn K mainGlobals "range", some none)) (by kernel_rfl)
theorem z_z34 (c : hd.Says w K) : PySem.W.nsIn K mainGlobals "sorted" = some none := c.v 77 (q := (fun K => PySem.W.nsIn K mainGlobals "sorted", some none)) (by kernel_rfl)
theorem z_z35 (c : hd.Says w K) : PySem.W.nsIn K mainGlobals "tuple" = some none := c.v 78 (q := (fun K => PySem.W.nsIn K mainGlobals "tuple", some none)) (by kernel_rfl)
theorem zF_NoMember_init (c : hd.Says w K) : FunD K "__init__" "NoMember.__init__" (defArgs s_NoMember_init) (defBody s_NoMember_init) (defScope s_NoMember_init) [] [] 73 (fdAt K 73) := c.f 0 (d := ⟨fun _ => 73, "__init__", "NoMember.__init__", defArgs s_NoMember_init, defBody s_NoMember_init, defScope s_NoMember_init, [], []⟩) (by kernel_rfl)
theorem zF_NoNumber_init (c : hd.Says w K) : FunD K "__init__" "NoNumber.__init__" (defArgs s_NoNumber_init) (defBody s_NoNumber_init) (defScope s_NoNumber_init) [] [] 54 (fdAt K 54) := c.f 1 (d := ⟨fun _ => 54, "__init__", "NoNumber.__init__", defArgs s_NoNumber_init, defBody s_NoNumber_init, defScope s_NoNumber_init, [], []⟩) (by kernel_rfl)
theorem zF_NotOnRoad_init (c : hd.Says w K) : FunD K "__init__" "NotOnRoad.__init__" (defArgs s_NotOnRoad_init) (defBody s_NotOnRoad_init) (defScope s_NotOnRoad_init) [] [] 92 (fdAt K 92) := c.f 2 (d := ⟨fun _ => 92, "__init__", "NotOnRoad.__init__", defArgs s_NotOnRoad_init, defBody s_NotOnRoad_init, defScope s_NotOnRoad_init, [], []⟩) (by kernel_rfl)
theorem zF_Roads_between (c : hd.Says w K) : FunD K "between" "Roads.between" (defArgs s_Roads_between) (defBody s_Roads_between) (defScope s_Roads_between) [] [] 199 (fdAt K 199) := c.f 3 (d := ⟨fun _ => 199, "between", "Roads.between", defArgs s_Roads_between, defBody s_Roads_between, defScope s_Roads_between, [], []⟩) (by kernel_rfl)
theorem zF_Roads_come (c : hd.Says w K) : FunD K "come" "Roads.come" (defArgs s_Roads_come) (defBody s_Roads_come) (defScope s_Roads_come) [] [] 173 (fdAt K 173) := c.f 4 (d := ⟨fun _ => 173, "come", "Roads.come", defArgs s_Roads_come, defBody s_Roads_come, defScope s_Roads_come, [], []⟩) (by kernel_rfl)
theorem zF_Roads_double (c : hd.Says w K) : FunD K "double" "Roads.double" (defArgs s_Roads_double) (defBody s_Roads_double) (defScope s_Roads_double) [] [] 187 (fdAt K 187) := c.f 5 (d := ⟨fun _ => 187, "double", "Roads.double", defArgs s_Roads_double, defBody s_Roads_double, defScope s_Roads_double, [], []⟩) (by kernel_rfl)
theorem zF_Roads_init (c : hd.Says w K) : FunD K "__init__" "Roads.__init__" (defArgs s_Roads_init) (defBody s_Roads_init) (defScope s_Roads_init) [] [] 131 (fdAt K 131) := c.f 6 (d := ⟨fun _ => 131, "__init__", "Roads.__init__", defArgs s_Roads_init, defBody s_Roads_init, defScope s_Roads_init, [], []⟩) (by kernel_rfl)
theorem zF_Roads_len (c : hd.Says w K) : FunD K "__len__" "Roads.__len__" (defArgs s_Roads_len) (defBody s_Roads_len) (defScope s_Roads_len) [] [] 138 (fdAt K 138) := c.f 7 (d := ⟨fun _ => 138, "__len__", "Roads.__len__", defArgs s_Roads_len, defBody s_Roads_len, defScope s_Roads_len, [], []⟩) (by kernel_rfl)
theorem zF_Roads_lose (c : hd.Says w K) : FunD K "lose" "Roads.lose" (defArgs s_Roads_lose) (defBody s_Roads_lose) (defScope s_Roads_lose) [] [] 180 (fdAt K 180) := c.f 8 (d := ⟨fun _ => 180, "lose", "Roads.lose", defArgs s_Roads_lose, defBody s_Roads_lose, defScope s_Roads_lose, [], []⟩) (by kernel_rfl)
theorem zF_Roads_need_number (c : hd.Says w K) : FunD K "need_number" "Roads.need_number" (defArgs s_Roads_need_number) (defBody s_Roads_need_number) (defScope s_Roads_need_number) [] [] 152 (fdAt K 152) := c.f 9 (d := ⟨fun _ => 152, "need_number", "Roads.need_number", defArgs s_Roads_need_number, defBody s_Roads_need_number, defScope s_Roads_need_number, [], []⟩) (by kernel_rfl)
theorem zF_Roads_need_road (c : hd.Says w K) : FunD K "need_road" "Roads.need_road" (defArgs s_Roads_need_road) (defBody s_Roads_need_road) (defScope s_Roads_need_road) [] [] 145 (fdAt K 145) := c.f 10 (d := ⟨fun _ => 145, "need_road", "Roads.need_road", defArgs s_Roads_need_road, defBody s_Roads_need_road, defScope s_Roads_need_road, [], []⟩) (by kernel_rfl)
theorem zF_Roads_put (c : hd.Says w K) : FunD K "put" "Roads.put" (defArgs s_Roads_put) (defBody s_Roads_put) (defScope s_Roads_put) [] [] 166 (fdAt K 166) := c.f 11 (d := ⟨fun _ => 166, "put", "Roads.put", defArgs s_Roads_put, defBody s_Roads_put, defScope s_Roads_put, [], []⟩) (by kernel_rfl)
theorem zF_Roads_put_on (c : hd.Says w K) : FunD K "put_on" "Roads.put_on" (defArgs s_Roads_put_on) (defBody s_Roads_put_on) (defScope s_Roads_put_on) [] [] 159 (fdAt K 159) := c.f 12 (d := ⟨fun _ => 159, "put_on", "Roads.put_on", defArgs s_Roads_put_on, defBody s_Roads_put_on, defScope s_Roads_put_on, [], []⟩) (by kernel_rfl)
theorem zF_Roads_twin (c : hd.Says w K) : FunD K "twin" "Roads.twin" (defArgs s_Roads_twin) (defBody s_Roads_twin) (defScope s_Roads_twin) [] [] 206 (fdAt K 206) := c.f 13 (d := ⟨fun _ => 206, "twin", "Roads.twin", defArgs s_Roads_twin, defBody s_Roads_twin, defScope s_Roads_twin, [], []⟩) (by kernel_rfl)
theorem zF_Roads_under_way (c : hd.Says w K) : FunD K "under_way" "Roads.under_way" (defArgs s_Roads_under_way) (defBody s_Roads_under_way) (defScope s_Roads_under_way) [] [] 194 (fdAt K 194) := c.f 14 (d := ⟨fun _ => 194, "under_way", "Roads.under_way", defArgs s_Roads_under_way, defBody s_Roads_under_way, defScope s_Roads_under_way, [], []⟩) (by kernel_rfl)
theorem zF__law_cell_at (c : hd.Says w K) : FunD K "_law_cell_at" "_law_cell_at" (defArgs s__law_cell_at) (defBody s__law_cell_at) (defScope s__law_cell_at) [] [] 220 (fdAt K 220) := c.f 15 (d := ⟨fun _ => 220, "_law_cell_at", "_law_cell_at", defArgs s__law_cell_at, defBody s__law_cell_at, defScope s__law_cell_at, [], []⟩) (by kernel_rfl)
theorem zF__law_gone (c : hd.Says w K) : FunD K "_law_gone" "_law_gone" (defArgs s__law_gone) (defBody s__law_gone) (defScope s__law_gone) [] [] 262 (fdAt K 262) := c.f 16 (d := ⟨fun _ => 262, "_law_gone", "_law_gone", defArgs s__law_gone, defBody s__law_gone, defScope s__law_gone, [], []⟩) (by kernel_rfl)
theorem zF__law_kinds (c : hd.Says w K) : FunD K "_law_kinds" "_law_kinds" (defArgs s__law_kinds) (defBody s__law_kinds) (defScope s__law_kinds) [] [] 255 (fdAt K 255) := c.f 17 (d := ⟨fun _ => 255, "_law_kinds", "_law_kinds", defArgs s__law_kinds, defBody s__law_kinds, defScope s__law_kinds, [], []⟩) (by kernel_rfl)
theorem zF__law_looked (c : hd.Says w K) : FunD K "_law_looked" "_law_looked" (defArgs s__law_looked) (defBody s__law_looked) (defScope s__law_looked) [] [] 300 (fdAt K 300) := c.f 18 (d := ⟨fun _ => 300, "_law_looked", "_law_looked", defArgs s__law_looked, defBody s__law_looked, defScope s__law_looked, [], []⟩) (by kernel_rfl)
theorem zF__law_made (c : hd.Says w K) : FunD K "_law_made" "_law_made" (defArgs s__law_made) (defBody s__law_made) (defScope s__law_made) [] [] 286 (fdAt K 286) := c.f 19 (d := ⟨fun _ => 286, "_law_made", "_law_made", defArgs s__law_made, defBody s__law_made, defScope s__law_made, [], []⟩) (by kernel_rfl)
theorem zF__law_number (c : hd.Says w K) : FunD K "_law_number" "_law_number" (defArgs s__law_number) (defBody s__law_number) (defScope s__law_number) [] [] 248 (fdAt K 248) := c.f 20 (d := ⟨fun _ => 248, "_law_number", "_law_number", defArgs s__law_number, defBody s__law_number, defScope s__law_number, [], []⟩) (by kernel_rfl)
theorem zF__law_pool (c : hd.Says w K) : FunD K "_law_pool" "_law_pool" (defArgs s__law_pool) (defBody s__law_pool) (defScope s__law_pool) [] [] 227 (fdAt K 227) := c.f 21 (d := ⟨fun _ => 227, "_law_pool", "_law_pool", defArgs s__law_pool, defBody s__law_pool, defScope s__law_pool, [], []⟩) (by kernel_rfl)
theorem zF__law_refused (c : hd.Says w K) : FunD K "_law_refused" "_law_refused" (defArgs s__law_refused) (defBody s__law_refused) (defScope s__law_refused) [] [] 274 (fdAt K 274) := c.f 22 (d := ⟨fun _ => 274, "_law_refused", "_law_refused", defArgs s__law_refused, defBody s__law_refused, defScope s__law_refused, [], []⟩) (by kernel_rfl)
theorem zF__law_road (c : hd.Says w K) : FunD K "_law_road" "_law_road" (defArgs s__law_road) (defBody s__law_road) (defScope s__law_road) [] [] 241 (fdAt K 241) := c.f 23 (d := ⟨fun _ => 241, "_law_road", "_law_road", defArgs s__law_road, defBody s__law_road, defScope s__law_road, [], []⟩) (by kernel_rfl)
theorem zF__law_stands (c : hd.Says w K) : FunD K "_law_stands" "_law_stands" (defArgs s__law_stands) (defBody s__law_stands) (defScope s__law_stands) [] [] 279 (fdAt K 279) := c.f 24 (d := ⟨fun _ => 279, "_law_stands", "_law_stands", defArgs s__law_stands, defBody s__law_stands, defScope s__law_stands, [], []⟩) (by kernel_rfl)
theorem zF__law_step (c : hd.Says w K) : FunD K "_law_step" "_law_step" (defArgs s__law_step) (defBody s__law_step) (defScope s__law_step) [] [] 293 (fdAt K 293) := c.f 25 (d := ⟨fun _ => 293, "_law_step", "_law_step", defArgs s__law_step, defBody s__law_step, defScope s__law_step, [], []⟩) (by kernel_rfl)
theorem zF__law_take (c : hd.Says w K) : FunD K "_law_take" "_law_take" (defArgs s__law_take) (defBody s__law_take) (defScope s__law_take) [] [] 234 (fdAt K 234) := c.f 26 (d := ⟨fun _ => 234, "_law_take", "_law_take", defArgs s__law_take, defBody s__law_take, defScope s__law_take, [], []⟩) (by kernel_rfl)
theorem zF__law_very (c : hd.Says w K) : FunD K "_law_very" "_law_very" (defArgs s__law_very) (defBody s__law_very) (defScope s__law_very) [] [] 269 (fdAt K 269) := c.f 27 (d := ⟨fun _ => 269, "_law_very", "_law_very", defArgs s__law_very, defBody s__law_very, defScope s__law_very, [], []⟩) (by kernel_rfl)
theorem zF_are_members (c : hd.Says w K) : FunD K "are_members" "are_members" (defArgs s_are_members) (defBody s_are_members) (defScope s_are_members) [] [] 112 (fdAt K 112) := c.f 28 (d := ⟨fun _ => 112, "are_members", "are_members", defArgs s_are_members, defBody s_are_members, defScope s_are_members, [], []⟩) (by kernel_rfl)
theorem zF_copied_thing (c : hd.Says w K) : FunD K "copied_thing" "copied_thing" (defArgs s_copied_thing) (defBody s_copied_thing) (defScope s_copied_thing) [] [] 117 (fdAt K 117) := c.f 29 (d := ⟨fun _ => 117, "copied_thing", "copied_thing", defArgs s_copied_thing, defBody s_copied_thing, defScope s_copied_thing, [], []⟩) (by kernel_rfl)
theorem zF_is_whole (c : hd.Says w K) : FunD K "is_whole" "is_whole" (defArgs s_is_whole) (defBody s_is_whole) (defScope s_is_whole) [V.non] [] 105 (fdAt K 105) := c.f 30 (d := ⟨fun _ => 105, "is_whole", "is_whole", defArgs s_is_whole, defBody s_is_whole, defScope s_is_whole, [.non], []⟩) (by kernel_rfl)
theorem zF_law (c : hd.Says w K) : FunD K "law" "law" (defArgs s_law) (defBody s_law) (defScope s_law) [] [] 305 (fdAt K 305) := c.f 31 (d := ⟨fun _ => 305, "law", "law", defArgs s_law, defBody s_law, defScope s_law, [], []⟩) (by kernel_rfl)
theorem z_zx2 (c : hd.Says w K) : oexB K 57 = true := c.b 70 (q := fun K => oexB K 57) (by kernel_rfl)
theorem z_zx3 (c : hd.Says w K) : oexB K 76 = true := c.b 71 (q := fun K => oexB K 76) (by kernel_rfl)
theorem z_zx4 (c : hd.Says w K) : oexBK K 95 = true := c.b 72 (q := fun K => oexBK K 95) (by kernel_rfl)
end
def adOf (K : PySem.W.Frag) : Ad := { HallError := 24, Missing := 37, NoNumber := 57, NoMember := 76, NotOnRoad := 95, Roads := 209, NoNumber_init := 54, d_NoNumber_init := fdAt K 54, NoMember_init := 73, d_NoMember_init := fdAt K 73, NotOnRoad_init := 92, d_NotOnRoad_init := fdAt K 92, is_whole := 105, d_is_whole := fdAt K 105, are_members := 112, d_are_members := fdAt K 112, copied_thing := 117, d_copied_thing := fdAt K 117, Roads_init := 131, d_Roads_init := fdAt K 131, Roads_len := 138, d_Roads_len := fdAt K 138, Roads_need_road := 145, d_Roads_need_road := fdAt K 145, Roads_need_number := 152, d_Roads_need_number := fdAt K 152, Roads_put_on := 159, d_Roads_put_on := fdAt K 159, Roads_put := 166, d_Roads_put := fdAt K 166, Roads_come := 173, d_Roads_come := fdAt K 173, Roads_lose := 180, d_Roads_lose := fdAt K 180, Roads_double := 187, d_Roads_double := fdAt K 187, Roads_under_way := 194, d_Roads_under_way := fdAt K 194, Roads_between := 199, d_Roads_between := fdAt K 199, Roads_twin := 206, d_Roads_twin := fdAt K 206, _law_cell_at := 220, d__law_cell_at := fdAt K 220, _law_pool := 227, d__law_pool := fdAt K 227, _law_take := 234, d__law_take := fdAt K 234, _law_road := 241, d__law_road := fdAt K 241, _law_number := 248, d__law_number := fdAt K 248, _law_kinds := 255, d__law_kinds := fdAt K 255, _law_gone := 262, d__law_gone := fdAt K 262, _law_very := 269, d__law_very := fdAt K 269, _law_refused := 274, d__law_refused := fdAt K 274, _law_stands := 279, d__law_stands := fdAt K 279, _law_made := 286, d__law_made := fdAt K 286, _law_step := 293, d__law_step := fdAt K 293, _law_looked := 300, d__law_looked := fdAt K 300, law := 305, d_law := fdAt K 305 }
theorem txt_of {w : World} {K : PySem.W.Frag} {h : Heap} {mg : Str → Option Value} (X : K.In h) (G : h.Ns mainGlobals mg) (c : hd.Says w K) : Txt K mg (adOf K) := {
    m_HallError := PySem.W.mg_of X G (z_aC0 c),
    e_HallError := ⟨(z_ga0 c), (z_gg0 c), (z_sx0 c), (z_hd0 c), (z_ia0 c), (z_hn c), (z_htk c), (z_im0 c), (z_it0 c)⟩,
    hs_HallError := (z_hs0 c),
    hq_HallError := (z_hq0 c),
    hf_HallError := (z_hf0 c),
    m_Missing := PySem.W.mg_of X G (z_aC1 c),
    e_Missing := ⟨(z_ga1 c), (z_gg1 c), (z_sx1 c), (z_hd1 c), (z_ia1 c), (z_hn c), (z_htk c), (z_im1 c), (z_it1 c)⟩,
    hs_Missing := (z_hs1 c),
    hq_Missing := (z_hq1 c),
    hf_Missing := (z_hf1 c),
    m_NoNumber := PySem.W.mg_of X G (z_aC2 c),
    n_NoNumber_found := (z_n2_found c),
    e_NoNumber := ⟨(z_ga2 c), (z_gg2 c), (z_sx2 c), (z_hd2 c), (z_ia2 c), (z_hn c), (z_htk c), (z_im2 c), (z_it2 c)⟩,
    o_NoNumber := ⟨oexB_ok (z_zx2 c), (z_sa2 c), (z_sx2 c), (z_it2 c), (z_kc2 c)⟩,
    oi_NoNumber := (z_a0 c),
    ot_NoNumber := (z_tf0 c),
    u_NoNumber_HallError := (z_x2_0 c),
    u_NoNumber_Missing := (z_x2_1 c),
    u_NoNumber_NoNumber := (z_x2_2 c),
    u_NoNumber_NoMember := (z_x2_3 c),
    u_NoNumber_NotOnRoad := (z_x2_4 c),
    x_NoNumber_HallError := kit_in (z_ne2_0 c) (z_ic0 c) (z_it0 c) (z_x2_0 c),
    x_NoNumber_Missing := kit_in (z_ne2_1 c) (z_ic1 c) (z_it1 c) (z_x2_1 c),
    x_NoNumber_NoMember := kit_in (z_ne2_3 c) (z_ic3 c) (z_it3 c) (z_x2_3 c),
    x_NoNumber_NotOnRoad := kit_in (z_ne2_4 c) (z_ic4 c) (z_it4 c) (z_x2_4 c),
    m_NoMember := PySem.W.mg_of X G (z_aC3 c),
    n_NoMember_found := (z_n3_found c),
    e_NoMember := ⟨(z_ga3 c), (z_gg3 c), (z_sx3 c), (z_hd3 c), (z_ia3 c), (z_hn c), (z_htk c), (z_im3 c), (z_it3 c)⟩,
    o_NoMember := ⟨oexB_ok (z_zx3 c), (z_sa3 c), (z_sx3 c), (z_it3 c), (z_kc3 c)⟩,
    oi_NoMember := (z_a1 c),
    ot_NoMember := (z_tf1 c),
    u_NoMember_HallError := (z_x3_0 c),
    u_NoMember_Missing := (z_x3_1 c),
    u_NoMember_NoNumber := (z_x3_2 c),
    u_NoMember_NoMember := (z_x3_3 c),
    u_NoMember_NotOnRoad := (z_x3_4 c),
    x_NoMember_HallError := kit_in (z_ne3_0 c) (z_ic0 c) (z_it0 c) (z_x3_0 c),
    x_NoMember_Missing := kit_in (z_ne3_1 c) (z_ic1 c) (z_it1 c) (z_x3_1 c),
    x_NoMember_NoNumber := kit_in (z_ne3_2 c) (z_ic2 c) (z_it2 c) (z_x3_2 c),
    x_NoMember_NotOnRoad := kit_in (z_ne3_4 c) (z_ic4 c) (z_it4 c) (z_x3_4 c),
    m_NotOnRoad := PySem.W.mg_of X G (z_aC4 c),
    n_NotOnRoad_found := (z_n4_found c),
    xy_NotOnRoad := kit_out (by decide +kernel) (z_xy4 c),
    e_NotOnRoad := ⟨(z_ga4 c), (z_gg4 c), (z_sx4 c), (z_hd4 c), (z_ia4 c), (z_hn c), (z_htk c), (z_im4 c), (z_it4 c)⟩,
    o_NotOnRoad := ⟨oexBT_ok (z_zx4 c), (z_sa4 c), (z_sx4 c), (z_it4 c), (z_kc4 c)⟩,
    oi_NotOnRoad := (z_a2 c),
    ot_NotOnRoad := (z_tf2 c),
    u_NotOnRoad_HallError := (z_x4_0 c),
    u_NotOnRoad_Missing := (z_x4_1 c),
    u_NotOnRoad_NoNumber := (z_x4_2 c),
    u_NotOnRoad_NoMember := (z_x4_3 c),
    u_NotOnRoad_NotOnRoad := (z_x4_4 c),
    x_NotOnRoad_HallError := kit_in (z_ne4_0 c) (z_ic0 c) (z_it0 c) (z_x4_0 c),
    x_NotOnRoad_Missing := kit_in (z_ne4_1 c) (z_ic1 c) (z_it1 c) (z_x4_1 c),
    x_NotOnRoad_NoNumber := kit_in (z_ne4_2 c) (z_ic2 c) (z_it2 c) (z_x4_2 c),
    x_NotOnRoad_NoMember := kit_in (z_ne4_3 c) (z_ic3 c) (z_it3 c) (z_x4_3 c),
    m_Roads := PySem.W.mg_of X G (z_aC5 c),
    c_Roads := ⟨(z_pg5 c), (z_hd5 c), (z_po5 c), (z_sa5 c)⟩,
    i_Roads := ⟨(z_ia5 c), (z_hn c), (z_htk c), (z_im5 c), fun d => by cases d <;> first | exact kit_out (by decide +kernel) (z_io5int c) | exact kit_out (by decide +kernel) (z_io5bool c) | exact kit_out (by decide +kernel) (z_io5str c) | exact kit_out (by decide +kernel) (z_io5list c) | exact kit_out (by decide +kernel) (z_io5tuple c) | exact kit_out (by decide +kernel) (z_io5dict c), fun t ht => by
      simp only [List.mem_cons, List.not_mem_nil, or_false] at ht
      rcases ht with rfl | rfl | rfl | rfl | rfl | rfl | rfl
      all_goals first | exact kit_in rfl (z_ic5 c) (z_it5 c) (z_ii5NoneType c) | exact kit_in rfl (z_ic5 c) (z_it5 c) (z_ii5int c) | exact kit_in rfl (z_ic5 c) (z_it5 c) (z_ii5bool c) | exact kit_in rfl (z_ic5 c) (z_it5 c) (z_ii5str c) | exact kit_in rfl (z_ic5 c) (z_it5 c) (z_ii5list c) | exact kit_in rfl (z_ic5 c) (z_it5 c) (z_ii5tuple c) | exact kit_in rfl (z_ic5 c) (z_it5 c) (z_ii5dict c)⟩,
    mk_Roads := ⟨(z_mk5 c), (z_a6 c), (z_i6 c), (z_kc5 c)⟩,
    n_Roads_kept_members := (z_n5_kept_members c),
    n_Roads_kept_way := (z_n5_kept_way c),
    n_Roads_last_number := (z_n5_last_number c),
    F_NoNumber_init := (zF_NoNumber_init c),
    B_NoNumber_init := fund_all0 (zF_NoNumber_init c) (fun _ _ _ _ _ _ us hl => match us, hl with | [_, _], _ => rfl),
    F_NoMember_init := (zF_NoMember_init c),
    B_NoMember_init := fund_all0 (zF_NoMember_init c) (fun _ _ _ _ _ _ us hl => match us, hl with | [_, _], _ => rfl),
    F_NotOnRoad_init := (zF_NotOnRoad_init c),
    B_NotOnRoad_init := fund_all0 (zF_NotOnRoad_init c) (fun _ _ _ _ _ _ us hl => match us, hl with | [_, _], _ => rfl),
    F_is_whole := (zF_is_whole c),
    B_is_whole := fund_allD (zF_is_whole c) (by simp) (fun _ _ _ _ _ _ _ us its hl h2 => match us, its, hl, h2 with | [_, _, _], [_], _, _ => ⟨_, rfl, rfl⟩),
    m_is_whole := PySem.W.mg_of X G (z_a3 c),
    B1_is_whole := FunD.binds1 (zF_is_whole c) 2 0 (by simp) (by decide) (fun _ _ _ _ _ _ _ us its h1 h2 => match us, its, h1, h2 with | [_, _], [_], _, _ => ⟨_, rfl, rfl⟩),
    F_are_members := (zF_are_members c),
    B_are_members := fund_all0 (zF_are_members c) (fun _ _ _ _ _ _ us hl => match us, hl with | [_], _ => rfl),
    m_are_members := PySem.W.mg_of X G (z_a4 c),
    F_copied_thing := (zF_copied_thing c),
    B_copied_thing := fund_all0 (zF_copied_thing c) (fun _ _ _ _ _ _ us hl => match us, hl with | [_], _ => rfl),
    m_copied_thing := PySem.W.mg_of X G (z_a5 c),
    F_Roads_init := (zF_Roads_init c),
    B_Roads_init := fund_all0 (zF_Roads_init c) (fun _ _ _ _ _ _ us hl => match us, hl with | [_, _], _ => rfl),
    F_Roads_len := (zF_Roads_len c),
    B_Roads_len := fund_all0 (zF_Roads_len c) (fun _ _ _ _ _ _ us hl => match us, hl with | [_], _ => rfl),
    M_Roads_len := ⟨(z_a7 c), (z_i7 c), (z_k7 c)⟩,
    F_Roads_need_road := (zF_Roads_need_road c),
    B_Roads_need_road := fund_all0 (zF_Roads_need_road c) (fun _ _ _ _ _ _ us hl => match us, hl with | [_, _, _], _ => rfl),
    M_Roads_need_road := ⟨(z_a8 c), (z_i8 c), (z_k8 c)⟩,
    F_Roads_need_number := (zF_Roads_need_number c),
    B_Roads_need_number := fund_all0 (zF_Roads_need_number c) (fun _ _ _ _ _ _ us hl => match us, hl with | [_, _], _ => rfl),
    M_Roads_need_number := ⟨(z_a9 c), (z_i9 c), (z_k9 c)⟩,
    F_Roads_put_on := (zF_Roads_put_on c),
    B_Roads_put_on := fund_all0 (zF_Roads_put_on c) (fun _ _ _ _ _ _ us hl => match us, hl with | [_, _], _ => rfl),
    M_Roads_put_on := ⟨(z_a10 c), (z_i10 c), (z_k10 c)⟩,
    F_Roads_put := (zF_Roads_put c),
    B_Roads_put := fund_all0 (zF_Roads_put c) (fun _ _ _ _ _ _ us hl => match us, hl with | [_, _, _, _], _ => rfl),
    M_Roads_put := ⟨(z_a11 c), (z_i11 c), (z_k11 c)⟩,
    F_Roads_come := (zF_Roads_come c),
    B_Roads_come := fund_all0 (zF_Roads_come c) (fun _ _ _ _ _ _ us hl => match us, hl with | [_, _], _ => rfl),
    M_Roads_come := ⟨(z_a12 c), (z_i12 c), (z_k12 c)⟩,
    F_Roads_lose := (zF_Roads_lose c),
    B_Roads_lose := fund_all0 (zF_Roads_lose c) (fun _ _ _ _ _ _ us hl => match us, hl with | [_, _], _ => rfl),
    M_Roads_lose := ⟨(z_a13 c), (z_i13 c), (z_k13 c)⟩,
    F_Roads_double := (zF_Roads_double c),
    B_Roads_double := fund_all0 (zF_Roads_double c) (fun _ _ _ _ _ _ us hl => match us, hl with | [_, _], _ => rfl),
    M_Roads_double := ⟨(z_a14 c), (z_i14 c), (z_k14 c)⟩,
    F_Roads_under_way := (zF_Roads_under_way c),
    B_Roads_under_way := fund_all0 (zF_Roads_under_way c) (fun _ _ _ _ _ _ us hl => match us, hl with | [_], _ => rfl),
    M_Roads_under_way := ⟨(z_a15 c), (z_i15 c), (z_k15 c)⟩,
    F_Roads_between := (zF_Roads_between c),
    B_Roads_between := fund_all0 (zF_Roads_between c) (fun _ _ _ _ _ _ us hl => match us, hl with | [_, _, _], _ => rfl),
    M_Roads_between := ⟨(z_a16 c), (z_i16 c), (z_k16 c)⟩,
    F_Roads_twin := (zF_Roads_twin c),
    B_Roads_twin := fund_all0 (zF_Roads_twin c) (fun _ _ _ _ _ _ us hl => match us, hl with | [_], _ => rfl),
    M_Roads_twin := ⟨(z_a17 c), (z_i17 c), (z_k17 c)⟩,
    F__law_cell_at := (zF__law_cell_at c),
    B__law_cell_at := fund_all0 (zF__law_cell_at c) (fun _ _ _ _ _ _ us hl => match us, hl with | [_, _], _ => rfl),
    m__law_cell_at := PySem.W.mg_of X G (z_a18 c),
    F__law_pool := (zF__law_pool c),
    B__law_pool := fund_all0 (zF__law_pool c) (fun _ _ _ _ _ _ us hl => match us, hl with | [_], _ => rfl),
    m__law_pool := PySem.W.mg_of X G (z_a19 c),
    F__law_take := (zF__law_take c),
    B__law_take := fund_all0 (zF__law_take c) (fun _ _ _ _ _ _ us hl => match us, hl with | [_, _], _ => rfl),
    m__law_take := PySem.W.mg_of X G (z_a20 c),
    F__law_road := (zF__law_road c),
    B__law_road := fund_all0 (zF__law_road c) (fun _ _ _ _ _ _ us hl => match us, hl with | [_, _, _, _], _ => rfl),
    m__law_road := PySem.W.mg_of X G (z_a21 c),
    F__law_number := (zF__law_number c),
    B__law_number := fund_all0 (zF__law_number c) (fun _ _ _ _ _ _ us hl => match us, hl with | [_, _, _], _ => rfl),
    m__law_number := PySem.W.mg_of X G (z_a22 c),
    F__law_kinds := (zF__law_kinds c),
    B__law_kinds := fund_all0 (zF__law_kinds c) (fun _ _ _ _ _ _ us hl => match us, hl with | [_, _], _ => rfl),
    m__law_kinds := PySem.W.mg_of X G (z_a23 c),
    F__law_gone := (zF__law_gone c),
    B__law_gone := fund_all0 (zF__law_gone c) (fun _ _ _ _ _ _ us hl => match us, hl with | [_, _, _], _ => rfl),
    m__law_gone := PySem.W.mg_of X G (z_a24 c),
    F__law_very := (zF__law_very c),
    B__law_very := fund_all0 (zF__law_very c) (fun _ _ _ _ _ _ us hl => match us, hl with | [_, _], _ => rfl),
    m__law_very := PySem.W.mg_of X G (z_a25 c),
    F__law_refused := (zF__law_refused c),
    B__law_refused := fund_all0 (zF__law_refused c) (fun _ _ _ _ _ _ us hl => match us, hl with | [_, _, _, _], _ => rfl),
    m__law_refused := PySem.W.mg_of X G (z_a26 c),
    F__law_stands := (zF__law_stands c),
    B__law_stands := fund_all0 (zF__law_stands c) (fun _ _ _ _ _ _ us hl => match us, hl with | [_, _], _ => rfl),
    m__law_stands := PySem.W.mg_of X G (z_a27 c),
    F__law_made := (zF__law_made c),
    B__law_made := fund_all0 (zF__law_made c) (fun _ _ _ _ _ _ us hl => match us, hl with | [_], _ => rfl),
    m__law_made := PySem.W.mg_of X G (z_a28 c),
    F__law_step := (zF__law_step c),
    B__law_step := fund_all0 (zF__law_step c) (fun _ _ _ _ _ _ us hl => match us, hl with | [_, _, _, _], _ => rfl),
    m__law_step := PySem.W.mg_of X G (z_a29 c),
    F__law_looked := (zF__law_looked c),
    B__law_looked := fund_all0 (zF__law_looked c) (fun _ _ _ _ _ _ us hl => match us, hl with | [_, _, _], _ => rfl),
    m__law_looked := PySem.W.mg_of X G (z_a30 c),
    F_law := (zF_law c),
    g_LEAST_MEMBERS := (conB_ok (z_gl0 c)).elim fun _ h => ⟨_, PySem.W.mg_of X G h.1, h.2⟩,
    g_MOST_MEMBERS := (conB_ok (z_gl1 c)).elim fun _ h => ⟨_, PySem.W.mg_of X G h.1, h.2⟩,
    b_KeyError := PySem.W.mg_none_of X G (z_z1 c),
    b_all := PySem.W.mg_none_of X G (z_z22 c),
    b_bool := PySem.W.mg_none_of X G (z_z24 c),
    b_dict := PySem.W.mg_none_of X G (z_z26 c),
    b_int := PySem.W.mg_none_of X G (z_z27 c),
    b_isinstance := PySem.W.mg_none_of X G (z_z29 c),
    b_len := PySem.W.mg_none_of X G (z_z30 c),
    b_list := PySem.W.mg_none_of X G (z_z31 c),
    b_max := PySem.W.mg_none_of X G (z_z32 c),
    b_range := PySem.W.mg_none_of X G (z_z33 c),
    b_sorted := PySem.W.mg_none_of X G (z_z34 c),
    b_tuple := PySem.W.mg_none_of X G (z_z35 c)
  }
theorem law_of {l : PySem.W.OpenLaw} {w : World} {K : PySem.W.Frag} {h : Heap} {mg : Str → Option Value} {fa : Addr} (X : K.In h) (G : h.Ns mainGlobals mg) (c : hd.Says w K) (hfa : mg "law" = some (.ref fa)) :
    ∃ (K : PySem.W.Frag) (fd : FuncData) (sp : Sp), K.In h ∧ (∀ (s : Shared) (u : Value), BindsTo s fd ⟨[u], []⟩ [("script", u)]) ∧
      (∀ (H : Hp) (a : Addr) (ns : List Int), ns.length ≤ 63 → Only H → SqL K H a (ns.map V.int) → sp [.ref a] H (fun v _ => v = .bl true) fun _ _ _ => False) ∧
      ∀ base : Heap, K.In base → base.Ns mainGlobals mg → FnOk l.prog w K mg base CX0 11 fa fd ["script"] sp := by
  have e := hfa.symm.trans (PySem.W.mg_of X G (z_a31 c))
  cases e
  have T := txt_of X G c
  exact ⟨K, _, spLaw K, X, fun s v => (zF_law c).bindsA (ps := ["script"]) (fun _ _ _ _ _ _ us hl => match us, hl with | [_], _ => rfl) s [v] rfl, fun H a ns hl _ hS => ⟨a, ns, rfl, hS, hl, fun _ => rfl⟩, fun base _ _ => ok_law T⟩
end My
open PySem PySem.W PyProof.Rows
set_option maxRecDepth 100000 in
set_option maxHeartbeats 0 in
theorem PySem.Challenge.cw_causehall_k34_roads_refused_holds : PySem.Challenge.rw_causehall_k34_roads_refused.Holds := by
  w_on; o_law
  refine HeadRun.head_any (r := OpenLaw.row PySem.Challenge.rw_causehall_k34_roads_refused) (q := My.hdQ) (H := My.hd.hook) (ob := My.hd.ob) (M := 2883) (loose := My.hdLoose) (d := HeadRun.topDef (OpenLaw.row PySem.Challenge.rw_causehall_k34_roads_refused).prog 28) (kwd := []) My.hd.ob_eq (by kernel_rfl) (fun s => by kernel_rfl) My.run0 (by kernel_rfl) (by kernel_rfl) (by kernel_rfl) (by rfl) (by first | assumption | decide +kernel) (by decide +kernel) ⟨rfl, rfl, rfl, rfl, rfl, by decide +kernel⟩ ?hw ?hc
  case hw => w_witness2
  case hc =>
    refine L2.walk_ofE (l := PySem.Challenge.rw_causehall_k34_roads_refused) (n := 63) (k := 11) (x := "script") (CX := L2.CX0) rfl (by decide) (by kernel_rfl) ⟨rfl, by decide, by decide⟩ ?F (fun _ _ _ _ z => z)
    intro w mg fa h Y G hmg0
    obtain ⟨K, KX, c⟩ := Y
    have hmg : mg ("law" : PySem.Str) = some (.ref fa) := by
      have e : (HeadRun.topDef (OpenLaw.row PySem.Challenge.rw_causehall_k34_roads_refused).prog 28).name = ("law" : PySem.Str) := by kernel_rfl
      rw [← e]
      exact hmg0
    exact My.law_of KX G c hmg
#print axioms PySem.Challenge.cw_causehall_k34_roads_refused_holds

