import PyProof.Rows.All
import Wide.All
import OpenK.AllK
import Wide.FinOn
import KE.KTryDeep
import KE.KNest
import KE.KLam
import KE.KEqDat
import PyProof.WalksPairs
import Lean
import PySem.Challenge.RW_xw0157_01
set_option Elab.async false
section
open PySem PySem.W PyProof.Rows
namespace Mine
noncomputable def topQ : {F : Program → World → Nat → Shared → Option Shared // topFrom treeTable = F} := by
  refine ⟨?F, ?h⟩
  rotate_left
  · delta topFrom
    rw [PySem.W.Fast.te14082659384304107361, PySem.W.Fast.te14364793385576792824]
theorem pw_opening : opening PySem.Challenge.rw_xw0157_01.row.prog = plainProg PySem.Challenge.rw_xw0157_01.row.prog.main.scope.names := by kernel_rfl
theorem pw_fence (s : Shared) : fenceModules? PySem.Challenge.rw_xw0157_01.row.prog s = some s := by kernel_rfl
theorem shared_of {s : Shared} {h : Heap} {g : Array GenState} {d : Drawn} {k : Nat} (e : (s.heap, s.gens, s.drawn, s.toks) = (h, g, d, k)) : s = ⟨h, g, d, k, s.os⟩ := by
  cases s
  simp only [Prod.mk.injEq] at e
  obtain ⟨rfl, rfl, rfl, rfl⟩ := e
  rfl
theorem law_said : OpenLaw.wellSaid PySem.Challenge.rw_xw0157_01 = true := by
  rw [PySem.W.Fast.te9446332074065402090]
  kernel_rfl
end Mine
theorem Mine.PySem.W.holds_open {q : Program} {loose : List Str} {Xt : Shared → Bool} {XP : (Str → Option Value) → Heap → Prop} {α : Type} {Yf : Shared → α} {Ya : World → α} {YP : World → Heap → Prop} {d : DefRec} {kwd : List (Str × Expr)} {N : Nat}
    (left : ∀ w : World, (fun os => (topQ.1 PySem.Challenge.rw_xw0157_01.row.prog w (600 + N) ⟨boot_heap w.params, Array.mk [], boot_drawn, boot_toks, os⟩).map (fun s => (PySem.W.Fast.tw4187177175401517315 q loose (importedModules PySem.Challenge.rw_xw0157_01.row.prog.main.body) Xt true s, Yf s))) = fun _ => some (openGood q loose, Ya w))
    (hY : ∀ w s, Yf s = Ya w → YP w s.heap) (hYk : ∀ w h h', YP w h → (∀ b o, h.get? b = some o → h'.get? b = some o) → YP w h')
    (hX : ∀ s, Xt s = true → XP (s.heap.nsMap mainGlobals) s.heap) (hXk : ∀ mg h h', XP mg h → (∀ b o, h.get? b = some o → h'.get? b = some o) → XP mg h')
    (hdef : defOf q PySem.Challenge.rw_xw0157_01.row.name = some (d, kwd)) (hp : PySem.Challenge.rw_xw0157_01.row.prog.theDef PySem.Challenge.rw_xw0157_01.row.name = some (d.params, d.body, d.scope)) (hk : kwWritten? d.params.kwonlyargs d.params.kw_defaults = some kwd)
    (hRf : ∀ s, Xt s = true → RecFacts PySem.Challenge.rw_xw0157_01.row.records s.heap) (hwr : (!PySem.Challenge.rw_xw0157_01.row.writes || PySem.Challenge.rw_xw0157_01.row.records.isEmpty) = true)
    (_ : true = true) (ok : (chainsOk q && opensWell PySem.Challenge.rw_xw0157_01.row.prog && (frees PySem.Challenge.rw_xw0157_01.row.toRowW && PySem.Challenge.rw_xw0157_01.row.within.isEmpty)) = true) (hb : PySem.Challenge.rw_xw0157_01.row.prog.bare) (hw : PySem.Challenge.rw_xw0157_01.row.toRowW.promised)
    (call : WalkO q loose XP YP PySem.Challenge.rw_xw0157_01.row.toRowW d kwd fun f vs => PySem.call f vs) : PySem.Challenge.rw_xw0157_01.row.Holds := by
  refine _root_.PySem.W.holds_open (N := 600 + N) (Yf := Yf) (Ya := Ya) (Xt := Xt) (loose := loose) (fun w => ?_) hY hYk hX hXk hdef hp hk hRf hwr (row_said law_said) ok hb hw call
  obtain ⟨s₀, h1, h2⟩ := Option.map_eq_some_iff.mp (boot_open (N := 600 + N) pw_opening (by rw [Nat.ble_eq]; omega) pw_fence w)
  have h3 := congrFun (left w) s₀.os
  rw [← shared_of h2, ← topQ.2, ← PySem.W.Fast.te4187177175401517315] at h3
  unfold openEnds
  rw [h1]
  exact h3
namespace Mine
set_option maxRecDepth 100000 in
set_option maxHeartbeats 8000000 in
open_top hd for PySem.Challenge.rw_xw0157_01.row
def Flush : Prop := True
theorem room_le {k a b R : Nat} (h : k + b < R) (e : Nat.ble a b = true) : k + a < R := Nat.lt_of_le_of_lt (Nat.add_le_add_left (Nat.le_of_ble_eq_true e) k) h
end Mine
end
open PySem PySem.W PyProof.Rows PySem.Calls Mine
local macro_rules | `(tactic| walk_at $s:str) => `(tactic| k_extra $(Lean.Syntax.mkStrLit ("mine " ++ s.getString)))
local macro_rules | `(tactic| ktr_room) => `(tactic| k_extra "mine ktr_room")
local macro_rules | `(tactic| ktr_units) => `(tactic| k_extra "mine ktr_units")
local macro_rules | `(tactic| k_mem) => `(tactic| k_extra "mine k_mem")
local macro_rules | `(tactic| k_all) => `(tactic| k_extra "mine k_all")
local macro_rules | `(tactic| k_ne) => `(tactic| k_extra "mine k_ne")
local macro_rules | `(tactic| size_fits) => `(tactic| k_extra "mine size_fits")
section
open PySem PySem.W PyProof.Rows
namespace Mine
noncomputable abbrev LZ0 : List Str := looseW hd.view_1 [Str.ofString "LendError", Str.ofString "NAME_BEGINS", Str.ofString "NAME_SIGNS", Str.ofString "MOST_VALUE"]
noncomputable abbrev LZ : List Str := LZ0 ++ List.map (fun x => x.name) (recsOf hd.view_1) ++ List.map (fun x => x.fst) (litsOf hd.view_1) ++ List.map (fun x => x.name) (clssOf hd.view_1 LZ0)
section
variable {M : Model} {A : Around} {E : Value → Shared → Prop} {s : Shared} {env : Env}
theorem args_s1 {x0 : Str} {k0 : Nat} {p0 : Pos} {rest : List Expr} {pos : Pos} {Q : List Value → Shared → Prop}
    (h : wpAny M A (spliced (backTo pos (starEach rest env))) (fun vs s₂ => Q (.str x0 s.toks :: vs) s₂) E { s with toks := s.toks + 1 }) : wpAny M A (spliced (backTo pos (starEach (.Constant (.str x0) k0 p0 :: rest) env))) Q E s := args_cons (PySem.Calls.Constant_str h)
theorem args_s2 {x0 x1 : Str} {k0 k1 : Nat} {p0 p1 : Pos} {rest : List Expr} {pos : Pos} {Q : List Value → Shared → Prop}
    (h : wpAny M A (spliced (backTo pos (starEach rest env))) (fun vs s₂ => Q (.str x0 s.toks :: .str x1 (s.toks + 1) :: vs) s₂) E { s with toks := s.toks + 2 }) : wpAny M A (spliced (backTo pos (starEach (.Constant (.str x0) k0 p0 :: .Constant (.str x1) k1 p1 :: rest) env))) Q E s := args_s1 (args_s1 h)
theorem args_s4 {x0 x1 x2 x3 : Str} {k0 k1 k2 k3 : Nat} {p0 p1 p2 p3 : Pos} {rest : List Expr} {pos : Pos} {Q : List Value → Shared → Prop}
    (h : wpAny M A (spliced (backTo pos (starEach rest env))) (fun vs s₂ => Q (.str x0 s.toks :: .str x1 (s.toks + 1) :: .str x2 (s.toks + 2) :: .str x3 (s.toks + 3) :: vs) s₂) E { s with toks := s.toks + 4 }) : wpAny M A (spliced (backTo pos (starEach (.Constant (.str x0) k0 p0 :: .Constant (.str x1) k1 p1 :: .Constant (.str x2) k2 p2 :: .Constant (.str x3) k3 p3 :: rest) env))) Q E s := args_s2 (args_s2 h)
theorem args_s8 {x0 x1 x2 x3 x4 x5 x6 x7 : Str} {k0 k1 k2 k3 k4 k5 k6 k7 : Nat} {p0 p1 p2 p3 p4 p5 p6 p7 : Pos} {rest : List Expr} {pos : Pos} {Q : List Value → Shared → Prop}
    (h : wpAny M A (spliced (backTo pos (starEach rest env))) (fun vs s₂ => Q (.str x0 s.toks :: .str x1 (s.toks + 1) :: .str x2 (s.toks + 2) :: .str x3 (s.toks + 3) :: .str x4 (s.toks + 4) :: .str x5 (s.toks + 5) :: .str x6 (s.toks + 6) :: .str x7 (s.toks + 7) :: vs) s₂) E { s with toks := s.toks + 8 }) : wpAny M A (spliced (backTo pos (starEach (.Constant (.str x0) k0 p0 :: .Constant (.str x1) k1 p1 :: .Constant (.str x2) k2 p2 :: .Constant (.str x3) k3 p3 :: .Constant (.str x4) k4 p4 :: .Constant (.str x5) k5 p5 :: .Constant (.str x6) k6 p6 :: .Constant (.str x7) k7 p7 :: rest) env))) Q E s := args_s4 (args_s4 h)
theorem args_i1 {i : Int} {k : Nat} {p : Pos} {rest : List Expr} {pos : Pos} {Q : List Value → Shared → Prop}
    (h : wpAny M A (spliced (backTo pos (starEach rest env))) (fun vs s₂ => Q (.int i s.toks :: vs) s₂) E { s with toks := s.toks + 1 }) : wpAny M A (spliced (backTo pos (starEach (.Constant (.int i) k p :: rest) env))) Q E s := args_cons (wpAny_Constant_int h)
end
end Mine
end
section
open PySem PySem.W PyProof.Rows PySem.Calls
namespace Mine
def defOf : Option Stmt → Option DefRec
  | some (.FunctionDef name args body _ _ _ scope _ _ pos) => some ⟨name, args, body, scope, pos⟩
  | _ => none
noncomputable def lawDef : Option DefRec := defOf PySem.Challenge.pw_xw0157_01.main.body.getLast?
set_option maxRecDepth 100000 in
theorem lawDef_open {P : DefRec → Prop} {r : DefRec} (hr : lawDef = some r) (h : ∀ r', lawDef = some r' → P r') : P r := h r hr
end Mine
end
section
open PySem PySem.W PyProof.Rows
namespace Mine
abbrev cs (x : Str) : List Nat := x.cps.toList
theorem cs_length (x : Str) : (cs x).length = x.length := by simp [PySem.Str.length]
theorem str_ext {x y : Str} (h : cs x = cs y) : x = y := by
  obtain ⟨⟨x⟩⟩ := x; obtain ⟨⟨y⟩⟩ := y; simpa [cs] using h
theorem clip_eq (i n : Int) (h : 0 ≤ i) (hn : 0 ≤ n) : max 0 (min (if i < 0 then i + n else i) n) = max 0 (min (if min i n < 0 then min i n + n else min i n) n) := by
  rw [if_neg (Int.not_lt.mpr h), if_neg (Int.not_lt.mpr (Int.le_min.mpr ⟨h, hn⟩)), Int.min_assoc, Int.min_self]
theorem slice_clip (x : Str) {i j : Int} (h0 : 0 ≤ i) (h1 : i ≤ j) : Txt.slice x (some i) (some j) = Txt.slice x (some (min i x.length)) (some (min j x.length)) := by
  have e : PySem.Builtin.Str.strSliceIndices (some i) (some j) 1 x.length = PySem.Builtin.Str.strSliceIndices (some (min i x.length)) (some (min j x.length)) 1 x.length := by
    unfold PySem.Builtin.Str.strSliceIndices
    simp only [show (1:Int) > 0 from by decide, if_true]
    rw [clip_eq i _ h0 (Int.natCast_nonneg _), clip_eq j _ (Int.le_trans h0 h1) (Int.natCast_nonneg _)]
  unfold Txt.slice
  rw [e]
theorem clip_list {α : Type} (l : List α) (a b : Nat) : (l.drop (min a l.length)).take (min b l.length - min a l.length) = (l.drop a).take (b - a) := by
  rcases Nat.le_total a l.length with h | h
  · rw [Nat.min_eq_left h]
    rcases Nat.le_total b l.length with h' | h'
    · rw [Nat.min_eq_left h']
    · rw [Nat.min_eq_right h', List.take_of_length_le (Nat.le_of_eq (List.length_drop ..)), List.take_of_length_le (by rw [List.length_drop]; exact Nat.sub_le_sub_right h' a)]
  · rw [Nat.min_eq_right h, List.drop_of_length_le (Nat.le_refl _), List.drop_of_length_le h, List.take_nil, List.take_nil]
theorem cast_min (a b : Nat) : ((min a b : Nat) : Int) = min (a : Int) b := by
  rcases Nat.le_total a b with h | h
  · rw [Nat.min_eq_left h, Int.min_eq_left (Int.ofNat_le.mpr h)]
  · rw [Nat.min_eq_right h, Int.min_eq_right (Int.ofNat_le.mpr h)]
theorem slice_list (x : Str) {i j : Int} (h0 : 0 ≤ i) (h1 : i ≤ j) : Txt.slice x (some i) (some j) = ⟨(((cs x).drop i.toNat).take (j - i).toNat).toArray⟩ := by
  rw [slice_clip x h0 h1]
  obtain ⟨a, rfl⟩ := Int.eq_ofNat_of_zero_le h0
  obtain ⟨b, rfl⟩ := Int.eq_ofNat_of_zero_le (Int.le_trans h0 h1)
  have h2 := Int.ofNat_le.mp h1
  rw [← cast_min, ← cast_min, ← cs_length]
  have := slice_closesL (x := x) (i := ((min a (cs x).length : Nat) : Int)) (j := ((min b (cs x).length : Nat) : Int)) (Int.natCast_nonneg _) (Int.ofNat_le.mpr (Nat.le_min.mpr ⟨Nat.le_trans (Nat.min_le_left _ _) h2, Nat.min_le_right _ _⟩)) (by rw [← cs_length]; exact Int.ofNat_le.mpr (Nat.min_le_right _ _))
  rw [beq_iff_eq] at this
  rw [this, Int.toNat_natCast, Int.toNat_natCast, Int.toNat_sub, Int.toNat_sub]
  exact congrArg _ (congrArg _ (clip_list _ _ _))
theorem cs_slice (x : Str) {i j : Int} (h0 : 0 ≤ i) (h1 : i ≤ j) : cs (Txt.slice x (some i) (some j)) = ((cs x).drop i.toNat).take (j - i).toNat := by rw [slice_list x h0 h1]
theorem slice_beq (x y : Str) {i j : Int} (h0 : 0 ≤ i) (h1 : i ≤ j) : (Txt.slice x (some i) (some j) == y) = decide (((cs x).drop i.toNat).take (j - i).toNat = cs y) := by
  rw [Bool.eq_iff_iff, beq_iff_eq, decide_eq_true_eq]
  exact ⟨fun e => by rw [← e, cs_slice x h0 h1], fun e => str_ext (by rw [cs_slice x h0 h1, e])⟩
theorem item_list (x : Str) {i : Int} (h0 : 0 ≤ i) (h1 : i < x.length) : Txt.item x i = ⟨#[(cs x)[i.toNat]'(by rw [cs_length]; omega)]⟩ := by
  unfold Txt.item Txt.charAt
  have : seqIndex? i x.length = some i.toNat := by
    unfold seqIndex?
    simp only [show ¬ i < 0 from by omega, if_false]
    rw [if_pos (by simp only [Bool.and_eq_true, decide_eq_true_eq]; omega)]
  rw [this]
  simp only [Option.bind_some]
  rw [Array.getElem?_eq_getElem (by simp [PySem.Str.length] at h1; omega)]
  simp
theorem drop_cons (x : Str) {i : Int} (h0 : 0 ≤ i) (h1 : i < x.length) : (cs x).drop i.toNat = (cs x)[i.toNat]'(by rw [cs_length]; omega) :: (cs x).drop (i + 1).toNat := by
  rw [show (i + 1).toNat = i.toNat + 1 from by omega]
  exact List.drop_eq_getElem_cons _
theorem in_one (y : Str) (c : Nat) : (!(PySem.Builtin.Str.occurrences y ⟨#[c]⟩ 0 y.length 1).isEmpty) = decide (c ∈ cs y) := StrLaws.found_one y c
theorem drop_end (x : Str) {i : Int} (h1 : (x.length : Int) ≤ i) : (cs x).drop i.toNat = [] := List.drop_of_length_le (by rw [cs_length]; omega)
end Mine
end
section
open PySem PySem.W PyProof.Rows PySem.Calls
namespace Mine
section
variable {M : Model} {A : Around} {E : Value → Shared → Prop} {s : Shared} {base : Heap} {env : Env} {outer : List Env} {L e d : Addr}

def Marked (h base : Heap) (e d : Addr) (fl : Value) : Prop :=
  ∃ oe vs T oT ts, h.get? e = some oe ∧ (oe.cls = .ref 45 ∧ oe.dict = some d) ∧ oe.data = .fields vs ∧ vs[1]? = some (.ref T) ∧ base.get? T = none ∧ T ≠ e ∧ h.get? T = some oT ∧ oT.data = .fields ts ∧ ts[3]? = some fl

theorem Marked.elim {P : Prop} {h base : Heap} {e d : Addr} {fl : Value} (M : Marked h base e d fl)
    (k : ∀ (oe : Obj) (vs : Array Value) (T : Addr) (oT : Obj) (ts : Array Value), h.get? e = some oe → oe.cls = .ref 45 → oe.dict = some d → oe.data = .fields vs → vs[1]? = some (.ref T) → base.get? T = none → T ≠ e → h.get? T = some oT → oT.data = .fields ts → ts[3]? = some fl → P) : P := by
  obtain ⟨oe, vs, T, oT, ts, a, ⟨b, b'⟩, c, d, e, f, g, h, i⟩ := M
  exact k oe vs T oT ts a b b' c d e f g h i
theorem not_rec {h : Heap} {b c : Addr} {o oc : Obj} {vs : Array Value} (hb : h.get? b = some o) (hn : ∀ vs, o.data ≠ .fields vs) (hc : h.get? c = some oc) (hd : oc.data = .fields vs) : b ≠ c := fun q => by
  subst q; rw [hb] at hc; cases hc; exact hn vs hd

theorem mark_new {oe : Obj} {vs : Array Value} {head : Value} {hadNext : Bool} {Q : Unit → Shared → Prop}
    (hfr : A.frames = some (env :: outer)) (hl : s.heap.FunFrames base (env :: outer)) (hf : env.frame = some L)
    (he : s.heap.get? e = some oe) (hc : oe.cls = .ref 45 ∧ oe.dict = some d) (hkb : base.StaysIn s.heap) (hen : base.get? e = none) (hd : oe.data = .fields vs) (hsz : 1 < vs.size)
    (h : ∀ h', base.StaysIn h' → h'.FunFrames base (env :: outer) → Marked h' base e d (rawInt L) → s.heap.UpToSlots h' → Q () { s with heap := h' }) :
    wpAny M A (do let a ← frameOf env; let pl ← entryPlaceOf L hadNext; let b ← EntryCells.newEntry head a .none (rawInt L) .none pl; setField (.ref e) 1 b) Q E s := by
  refine wpAny_bind (wpAny_frameOf_fun hfr hl hf fun h₁ hs₁ => ?_)
  refine wpAny_bind (wpAny_entryPlaceOf fun pl hpl => ?_)
  unfold EntryCells.newEntry newFields
  refine wpAny_bind (wpAny_newObj_type ?_ (hpl.sizeOk5 _ _ _ _ _))
  have hene : e ∉ (env :: outer).filterMap (·.frame) := fun hm => by
    obtain ⟨_, o, ho, hnf⟩ := hl.mem hm
    exact not_rec ho hnf he hd rfl
  have he₁ : h₁.get? e = some oe := (hs₁.2.1 e hene).trans he
  have kb₁ : base.StaysIn h₁ := fun b o hbo => (hs₁.2.1 b fun hm => by rw [(hl.mem hm).1] at hbo; cases hbo).trans (hkb b o hbo)
  generalize hO : ({ cls := .type "traceback", dict := none, data := .fields ([head, .ref L, .none, rawInt L, .none] ++ (if pl.isEmpty then List.replicate 6 Value.none else pl)).toArray } : Obj) = O
  have he₂ := Heap.get?_push_of_some (h := h₁) O he₁
  refine wpAny_setField he₂ hd hsz ?_
  have hTe : h₁.objs.size ≠ e := Nat.ne_of_gt (Heap.lt_size he₁)
  have hd₃ := Obj.data_mapFields hd (·.setIfInBounds 1 (Value.ref h₁.objs.size))
  have keep : ∀ b o, b ≠ e → h₁.get? b = some o → ((h₁.push O).update e (Obj.mapFields (·.setIfInBounds 1 (Value.ref h₁.objs.size)))).get? b = some o := fun b o hbe hb => by
    rw [Heap.get?_update_other _ _ (Ne.symm hbe)]; exact Heap.get?_push_of_some _ hb
  refine h _ (fun b o hbo => keep b o (fun q => by rw [q, hen] at hbo; cases hbo) (kb₁ b o hbo)) (hl.of_keeps fun b o hb hnf => ?_) ?_ fun b o hb hnf => ?_
  · obtain ⟨sl, hs⟩ := hs₁.2.2 b o hb
    exact ⟨_, keep b _ (not_rec hb hnf he hd) hs, rfl⟩
  · refine ⟨_, _, h₁.objs.size, O, _, Heap.get?_update_self _ he₂ (Obj.isFreed_of_fields hd₃), ⟨(Obj.cls_mapFields _ _).trans hc.1, ?_⟩, hd₃, by simp [hsz], kb₁.fresh, hTe, ?_, by rw [← hO], ?_⟩
    · rw [← hc.2]; obtain ⟨_, _, dt, _⟩ := oe; cases hd; rfl
    · rw [Heap.get?_update_other _ _ (Ne.symm hTe)]; exact Heap.get?_push_size h₁ (by rw [← hO]; rfl)
    · simp
  · obtain ⟨sl, hs⟩ := hs₁.2.2 b o hb
    exact ⟨sl, keep b _ (not_rec hb hnf he hd) hs⟩

theorem note_first {oe : Obj} {vs : Array Value} {Q : Unit → Shared → Prop}
    (hfr : A.frames = some (env :: outer)) (hl : s.heap.FunFrames base (env :: outer)) (hf : env.frame = some L)
    (he : s.heap.get? e = some oe) (hc : oe.cls = .ref 45 ∧ oe.dict = some d) (hkb : base.StaysIn s.heap) (hen : base.get? e = none) (hd : oe.data = .fields vs) (h1 : vs[1]? = some .none)
    (h : ∀ h', base.StaysIn h' → h'.FunFrames base (env :: outer) → Marked h' base e d (rawInt L) → s.heap.UpToSlots h' → Q () { s with heap := h' }) :
    wpAny M A (noteFrame (.ref e) env) Q E s := by
  unfold noteFrame
  simp only [hf]
  refine wpAny_bind (wpAny_field he hd h1 ?_)
  rw [if_neg (by decide)]
  exact mark_new hfr hl hf he hc hkb hen hd (Array.getElem?_eq_some_iff.mp h1).1 h

theorem note_next {Q : Unit → Shared → Prop}
    (hfr : A.frames = some (env :: outer)) (hl : s.heap.FunFrames base (env :: outer)) (hf : env.frame = some L)
    (ht : Marked s.heap base e d .none) (hkb : base.StaysIn s.heap) (hen : base.get? e = none)
    (h : ∀ h', base.StaysIn h' → h'.FunFrames base (env :: outer) → Marked h' base e d (rawInt L) → s.heap.UpToSlots h' → Q () { s with heap := h' }) :
    wpAny M A (noteFrame (.ref e) env) Q E s := by
  obtain ⟨oe, vs, T, oT, ts, he, hc, hd, h1, hnT, hTe, hT, hdT, h3⟩ := ht
  unfold noteFrame
  simp only [hf]
  refine wpAny_bind (wpAny_field he hd h1 ?_)
  rw [if_pos (show (Value.ref T != Value.none) = true from by simp)]
  refine wpAny_bind (wpAny_field hT hdT h3 ?_)
  rw [if_neg (show ¬ ((Value.none == rawInt L) = true) from by simp [rawInt])]
  refine wpAny_bind (wpAny_setField hT hdT (Array.getElem?_eq_some_iff.mp h3).1 ?_)
  have other : ∀ b, b ≠ T → (s.heap.update T (Obj.mapFields (·.setIfInBounds 3 Value.none))).get? b = s.heap.get? b := fun b hb => Heap.get?_update_other _ _ (Ne.symm hb)
  refine mark_new hfr (hl.of_keeps fun b o hb hnf => ⟨o, (other b (not_rec hb hnf hT hdT)).trans hb, rfl⟩) hf ((other e (Ne.symm hTe)).trans he) hc
    (fun b o hbo => (other b fun q => by rw [q, hnT] at hbo; cases hbo).trans (hkb b o hbo)) hen hd (Array.getElem?_eq_some_iff.mp h1).1
    fun h' k1 k2 k3 k4 => h h' k1 k2 k3 fun b o hb hnf => k4 b o ((other b (not_rec hb hnf hT hdT)).trans hb) hnf

theorem flight_on {l : List Env} {fl : Value} {Q : Unit → Shared → Prop}
    (hkb : base.StaysIn s.heap) (hl : s.heap.FunFrames base l) (ht : Marked s.heap base e d fl)
    (h : ∀ h', base.StaysIn h' → h'.FunFrames base l → Marked h' base e d .none → (∀ b o, s.heap.get? b = some o → (∀ vs, o.data ≠ .fields vs) → h'.get? b = some o) → Q () { s with heap := h' }) :
    wpAny M A (setFlight (.ref e) none) Q E s := by
  obtain ⟨oe, vs, T, oT, ts, he, hc, hd, h1, hnT, hTe, hT, hdT, h3⟩ := ht
  unfold setFlight
  refine wpAny_bind (wpAny_field he hd h1 ?_)
  rw [if_pos (show (Value.ref T != Value.none) = true from by simp)]
  have hsz3 : 3 < ts.size := (Array.getElem?_eq_some_iff.mp h3).1
  have other : ∀ b, b ≠ T → (s.heap.update T (Obj.mapFields (·.setIfInBounds 3 ((none : Option Addr).elim Value.none fun f => rawInt f)))).get? b = s.heap.get? b :=
    fun b hb => Heap.get?_update_other _ _ (Ne.symm hb)
  refine wpAny_setField hT hdT hsz3 (h _ (fun b o hbo => (other b fun q => by rw [q, hnT] at hbo; cases hbo).trans (hkb b o hbo))
    (hl.of_keeps fun b o hb hnf => ⟨o, (other b (not_rec hb hnf hT hdT)).trans hb, rfl⟩) ?_ fun b o hb hnf => (other b (not_rec hb hnf hT hdT)).trans hb)
  exact ⟨oe, vs, T, _, _, (other e (Ne.symm hTe)).trans he, hc, hd, h1, hnT, hTe, Heap.get?_update_self _ hT (Obj.isFreed_of_fields (Obj.data_mapFields hdT _)), Obj.data_mapFields hdT _, by simp [hsz3]⟩


theorem frames_tail {h base : Heap} (x : h.FunFrames base (env :: outer)) : h.FunFrames base outer := x.2.2

theorem leave_first {oe : Obj} {vs : Array Value} {Q : Unit → Shared → Prop}
    (hfr : A.frames = some (env :: outer)) (hl : s.heap.FunFrames base (env :: outer)) (hf : env.frame = some L)
    (he : s.heap.get? e = some oe) (hc : oe.cls = .ref 45 ∧ oe.dict = some d) (hkb : base.StaysIn s.heap) (hen : base.get? e = none) (hd : oe.data = .fields vs) (h1 : vs[1]? = some .none)
    (h : ∀ h', base.StaysIn h' → h'.FunFrames base outer → Marked h' base e d .none → s.heap.UpToSlots h' → Q () { s with heap := h' }) :
    wpAny M A (leaving env (.ref e)) Q E s := by
  unfold leaving
  refine wpAny_bind (note_first hfr hl hf he hc hkb hen hd h1 fun h₁ k1 k2 k3 k4 => ?_)
  exact flight_on k1 k2 k3 fun h' j1 j2 j3 j4 => h h' j1 (frames_tail j2) j3 (k4.trans (fun b o hb hn => ⟨o.slots, j4 b o hb hn⟩))
theorem leave_next {Q : Unit → Shared → Prop}
    (hfr : A.frames = some (env :: outer)) (hl : s.heap.FunFrames base (env :: outer)) (hf : env.frame = some L)
    (ht : Marked s.heap base e d .none) (hkb : base.StaysIn s.heap) (hen : base.get? e = none)
    (h : ∀ h', base.StaysIn h' → h'.FunFrames base outer → Marked h' base e d .none → s.heap.UpToSlots h' → Q () { s with heap := h' }) :
    wpAny M A (leaving env (.ref e)) Q E s := by
  unfold leaving
  refine wpAny_bind (note_next hfr hl hf ht hkb hen fun h₁ k1 k2 k3 k4 => ?_)
  exact flight_on k1 k2 k3 fun h' j1 j2 j3 j4 => h h' j1 (frames_tail j2) j3 (k4.trans (fun b o hb hn => ⟨o.slots, j4 b o hb hn⟩))
end
end Mine
end
section
open PySem PySem.W PyProof.Rows PySem.Calls
namespace Mine
abbrev exObj (t : Addr) : Obj := { cls := .ref 45, data := .fields #[.ref t, .none, .none, .none, .bool false, .none] }
abbrev exObj2 (t d : Addr) : Obj := { cls := .ref 45, dict := some d, data := .fields #[.ref t, .none, .none, .none, .bool false, .none] }
def SpotDict (o : Obj) (i : Int) : Prop := ∃ h1 t0 v h2 t2 t3 n, o = dictOf [⟨h1, .str (Str.ofString "message") t0, v⟩, ⟨h2, .str (Str.ofString "spot") t2, .int i t3⟩] n
theorem SpotDict.notRec {o : Obj} {i : Int} (h : SpotDict o i) : ∀ vs, o.data ≠ .fields vs := by
  obtain ⟨_, _, _, _, _, _, _, rfl⟩ := h
  intro vs q; cases q

structure RaisedF (base G : Heap) (l : List Env) (e : Addr) (i : Int) (news : List (Addr × Obj)) (h : Heap) : Prop where
  up : G.UpToSlots h
  ex : ∃ (B : Heap) (d : Addr) (od : Obj), base.StaysIn B ∧ (∀ b o, G.get? b = some o → b ∉ l.filterMap (·.frame) → B.get? b = some o) ∧ (∀ q ∈ news, B.get? q.1 = some q.2 ∧ G.get? q.1 = none ∧ base.get? q.1 = none) ∧
    SpotDict od i ∧ B.get? d = some od ∧ G.get? d = none ∧ B.StaysIn h ∧ B.get? e = none ∧ G.get? e = none ∧ h.FunFrames B l ∧ Marked h B e d .none
theorem RaisedF.elim {P : Prop} {base G : Heap} {l : List Env} {e : Addr} {i : Int} {news : List (Addr × Obj)} {h : Heap} (R : RaisedF base G l e i news h)
    (k : ∀ (B : Heap) (d : Addr) (od : Obj), G.UpToSlots h → base.StaysIn B → (∀ b o, G.get? b = some o → b ∉ l.filterMap (·.frame) → B.get? b = some o) → (∀ q ∈ news, B.get? q.1 = some q.2 ∧ G.get? q.1 = none ∧ base.get? q.1 = none) →
      SpotDict od i → B.get? d = some od → G.get? d = none → B.StaysIn h → B.get? e = none → G.get? e = none → h.FunFrames B l → Marked h B e d .none → P) : P := by
  obtain ⟨up, B, d, od, a1, a2, a3, a4, a5, a6, a7, a8, a9, b1, b2⟩ := R
  exact k B d od up a1 a2 a3 a4 a5 a6 a7 a8 a9 b1 b2

section
variable {M : Model} {A : Around} {E : Value → Shared → Prop} {s' : Shared} {base g g₂ : Heap} {outer : List Env} {L a e d t : Addr} {m : Str → Option Value} {name : Str} {scope : Scope} {cd : Value} {Q : Unit → Shared → Prop} {news : List (Addr × Obj)} {od : Obj} {i : Int}

theorem leave_raiseF (K : Below A base outer g) (F : Fr g L s'.heap m) (N : News g L s'.heap ((e, exObj2 t d) :: (d, od) :: news)) (hs : SpotDict od i) (hde : d ≠ e) (hne : ∀ q ∈ news, q.1 ≠ e)
    (hQ : ∀ h', RaisedF base g outer e i news h' → Q () { s' with heap := h' }) (hk : scope.kind = .function := by rfl) :
    wpAny M (A.deeper (envOf name scope L a cd)) (leaving (envOf name scope L a cd) (.ref e)) Q E s' := by
  have K' := K.push (name := name) (a := a) (cd := cd) F hk
  have He := N (e, exObj2 t d) (.head _)
  have Hd := N (d, od) (.tail _ (.head _))
  dsimp only at He Hd
  -- the ground: all but e and the frames
  have nof : ∀ {b o}, s'.heap.get? b = some o → g.get? b = none → b ≠ L → b ∉ (envOf name scope L a cd :: outer).filterMap (·.frame) := fun {b o} hb hg hl hm => by
    rcases kts_mem hm with z | z
    · exact hl z
    · obtain ⟨_, o', ho', _⟩ := K.frames.mem z
      rw [hg] at ho'; cases ho'
  have hin : ∀ env ∈ (envOf name scope L a cd :: outer), ∀ b, env.frame = some b → b ∈ e :: (envOf name scope L a cd :: outer).filterMap (·.frame) := fun env he b hb => .tail _ (List.mem_filterMap.mpr ⟨env, he, hb⟩)
  have st : base.StaysIn (hideAll s'.heap (e :: (envOf name scope L a cd :: outer).filterMap (·.frame))) := fun b o q => hideAll_get _ (K'.stays b o q) fun hm => by
    rcases List.mem_cons.mp hm with z | z
    · subst z; rw [fresh_of_stays K.stays He.2.2] at q; cases q
    · rw [(K'.frames.mem z).1] at q; cases q
  refine leave_first (base := hideAll s'.heap (e :: (envOf name scope L a cd :: outer).filterMap (·.frame))) K'.stack (funFrames_hide K'.frames hin) rfl He.1 ⟨rfl, rfl⟩ (fun b o q => of_hideAll _ q) (hideAll_none _ (.head _)) rfl rfl fun h' k1 k2 k3 k4 => ?_
  refine hQ h' ⟨(Heap.UpToSlots.of_keeps F.keep).trans k4, _, d, od, st, fun b o q nm => hideAll_get _ (F.keep b o q) fun hm => ?_, fun q hq => ⟨hideAll_get _ (N q (.tail _ (.tail _ hq))).1 fun hm => ?_, (N q (.tail _ (.tail _ hq))).2.2, fresh_of_stays K.stays (N q (.tail _ (.tail _ hq))).2.2⟩, hs, hideAll_get _ Hd.1 fun hm => ?_, Hd.2.2, k1, hideAll_none _ (.head _), He.2.2, k2, k3⟩
  · rcases List.mem_cons.mp hm with z | z
    · subst z; rw [He.2.2] at q; cases q
    · rcases kts_mem z with z | z
      · rw [z, kts_self F] at q; cases q
      · exact nm z
  · rcases List.mem_cons.mp hm with z | z
    · exact hne q hq z
    · exact nof (N q (.tail _ (.tail _ hq))).1 (N q (.tail _ (.tail _ hq))).2.2 (N q (.tail _ (.tail _ hq))).2.1 z
  · rcases List.mem_cons.mp hm with z | z
    · exact hde z
    · exact nof Hd.1 Hd.2.2 Hd.2.1 z

theorem leave_onF (K : Below A base outer g) (F : Fr g L g₂ m) (R : RaisedF base g₂ (envOf name scope L a cd :: outer) e i news s'.heap) (hn : ∀ q ∈ news, g.get? q.1 = none)
    (hQ : ∀ h', RaisedF base g outer e i news h' → Q () { s' with heap := h' }) :
    wpAny M (A.deeper (envOf name scope L a cd)) (leaving (envOf name scope L a cd) (.ref e)) Q E s' := by
  obtain ⟨up, B, d, od, hB, hBG, hl, hs, hBd, hGd, k1, hBe, hGe, k2, k3⟩ := R
  refine leave_next (Around.frames_deeper K.stack) k2 rfl k3 k1 hBe fun h' j1 j2 j3 j4 => ?_
  refine hQ h' ⟨(Heap.UpToSlots.of_keeps F.keep).trans (up.trans j4), B, d, od, hB, fun b o q nm => hBG b o (F.keep b o q) fun hm => ?_, fun q hq => ⟨(hl q hq).1, hn q hq, (hl q hq).2.2⟩, hs, hBd, kts_none F.keep hGd, j1, hBe, kts_none F.keep hGe, j2, j3⟩
  rcases kts_mem hm with z | z
  · rw [z, kts_self F] at q; cases q
  · exact nm z
end
end Mine
end
section
open PySem PySem.W PyProof.Rows PySem.Calls
namespace Mine
abbrev prg := PySem.Challenge.rw_xw0157_01.row.prog
abbrev wfObj : Obj := excClassObj "WordFault" "WordFault" 45 44 [.ref 32] [.ref 32, .type "Exception", .type "BaseException", .type "object"] true [] [] false none none (some (.ref 36)) none (some (.str "WordFault" 221)) (some (.str "WordFault" 229)) (some (.bool true)) "Exception.__new__"
theorem wf_at {w : World} {h : Heap} (X : (hd.heap_1 w.params).In h) : h.get? 45 = some wfObj := X 45 _ (by with_unfolding_all rfl)
section
variable {w : World} {A : Around} {E : Value → Shared → Prop} {h : Heap} {g : Array GenState} {d : Drawn} {t : Nat} {os : OsState} {rest : List Value}
theorem wf_B : (Value.ref 45 :: [.ref 32, .type "Exception", .type "BaseException", .type "object"]).contains (.type "Exception") = true := by rfl
theorem wf_A : (Value.ref 45 :: [.ref 32, .type "Exception", .type "BaseException", .type "object"]).contains (.type "AttributeError") = false := by rfl
theorem wf_N : (Value.ref 45 :: [.ref 32, .type "Exception", .type "BaseException", .type "object"]).contains (.type "NameError") = false := by rfl
theorem wf_C : (Value.ref 45 :: [.ref 32, .type "Exception", .type "BaseException", .type "object"]).contains (.ref 45) = true := by rfl
set_option maxRecDepth 100000 in
set_option maxHeartbeats 8000000 in
theorem wf_new {R : Result → Shared → Prop} (hC : h.get? 45 = some wfObj) (hrest : rest.length ≤ sizeLine)
    (hq : R (.ok (.ret (.ref (h.objs.size + 1)))) ⟨(h.push { cls := .type "tuple", data := .seq rest.toArray }).push (exObj h.objs.size), g, d, t, os⟩) :
    codeAny (model prg w) A (.builtin "Exception.__new__" ⟨.ref 45 :: rest, []⟩) R ⟨h, g, d, t, os⟩ := by
  have FB := PySem.F.excBase_Exception
  have hends := FB.ends
  refine codeAny_builtinAt FB.entry ?_
  unfold Builtin.«BaseException.__new__»
  refine _root_.PySem.wpAt_bind ?_
  show _root_.PySem.wpAt _ _ _ (stack >>= _) _ _ _
  refine _root_.PySem.wpAt_bind (_root_.PySem.wpAt_stack fun p below => _root_.PySem.wpAt_of_wpAny ?_)
  wp_walk
  refine _root_.PySem.wpAt_of_wpAny ?_
  rw [FB.owner]
  repeat (first | with_reducible refine wpAny_madeHere_exc FB.canon hC ?_ | with_reducible refine wpAny_loadPart_at hC ?_ | (with_reducible refine wpAny_isSubtype_exc hC ?_; first | rw [wf_B] | rw [wf_A] | rw [wf_N]) | wp_step)
  show R _ _
  rw [Heap.size_push]
  exact hq
set_option maxRecDepth 100000 in
set_option maxHeartbeats 8000000 in
theorem wf_check_new {M : Model} {Q : Unit → Shared → Prop} (hC : h.get? 45 = some wfObj) (hq : Q () ⟨h, g, d, t, os⟩) : wpAny M A (checkBuiltinCall "Exception.__new__" ⟨.ref 45 :: rest, []⟩) Q E ⟨h, g, d, t, os⟩ := by
  have FB := PySem.F.excBase_Exception
  have hstar := FB.noStar
  simp only [checkBuiltinCall, FB.newKind, FB.newSplit, FB.newRow]
  repeat (first | refine wpAny_loadPart_at hC ?_ | (refine wpAny_isSubtype_exc hC ?_; rw [wf_B]) | refine wpAny_staticBase_exc hC ?_ | refine wpAny_madeBy_exc hC ?_ | wp_step)
  exact hq

set_option maxRecDepth 100000 in
set_option maxHeartbeats 8000000 in
theorem wf_type_call {Q : Fin → Shared → Prop} (X : (hd.heap_1 w.params).In h) (hrest : rest.length ≤ sizeLine)
    (hq : wpAny (model prg w) A (call (.ref 29) (.ref (h.objs.size + 1) :: rest)) (fun r s' => r = .none ∧ Q (.done (.ret (.ref (h.objs.size + 1)))) s') E ⟨(h.push { cls := .type "tuple", data := .seq rest.toArray }).push (exObj h.objs.size), g, d, t, os⟩) :
    wpAny (model prg w) A (Builtin.«type.__call__» ⟨.ref 45 :: rest, []⟩) Q E ⟨h, g, d, t, os⟩ := by
  have FB := PySem.F.excBase_Exception
  have hC := wf_at X
  repeat (first | with_reducible refine wpAny_loadPart_at hC ?_ | with_reducible refine wpAny_madeBy_exc hC ?_ | wp_step)
  refine codeAny_call_builtin_code (Code.quiet_builtin _ FB.quiet) (wf_check_new hC ?_)
  refine wf_new hC hrest ?_
  show wpAny _ _ _ _ _ _
  have kp : ∀ b o, h.get? b = some o → ((h.push { cls := .type "tuple", data := .seq rest.toArray }).push (exObj h.objs.size)).get? b = some o := fun b o e => Heap.get?_push_of_some _ (Heap.get?_push_of_some _ e)
  have X₁ := X.keeps kp
  have hC₁ := kp _ _ hC
  have hget : ((h.push { cls := .type "tuple", data := .seq rest.toArray }).push (exObj h.objs.size)).get? (h.objs.size + 1) = some (exObj h.objs.size) := by heap_get
  unfold isInstance
  repeat (first | with_reducible refine wpAny_loadPart_at hget ?_ | (with_reducible refine wpAny_isSubtype_exc hC₁ ?_; rw [wf_C]) | wp_step)
  show wpAny _ _ (typeLookup (.ref 45) _) _ _ _
  refine Looks.here (M := model prg w) (looks_findIn X₁ (r := some (.ref 29)) (by with_unfolding_all rfl)) ?_
  refine wpAny_holding (wpAny_bind ?_)
  refine Looks.here (M := model prg w) (bind_fn X₁ (f := 29) (.ref (h.objs.size + 1)) (by with_unfolding_all rfl)) ?_
  refine wpAny_bind (wpAny_mono hq (fun r s' hr => ?_) fun _ _ x => x)
  obtain ⟨rfl, hQ⟩ := hr
  wp_walk
  exact hQ
set_option maxRecDepth 100000 in
set_option maxHeartbeats 8000000 in
theorem wf_call {Q : Value → Shared → Prop} (X : (hd.heap_1 w.params).In h) (hrest : rest.length ≤ sizeLine)
    (hq : wpAny (model prg w) (A.under (.builtin "type.__call__" ⟨.ref 45 :: rest, []⟩)) (call (.ref 29) (.ref (h.objs.size + 1) :: rest)) (fun r s' => r = .none ∧ Q (.ref (h.objs.size + 1)) s') E ⟨(h.push { cls := .type "tuple", data := .seq rest.toArray }).push (exObj h.objs.size), g, d, t, os⟩) :
    wpAny (model prg w) A (call (.ref 45) rest) Q E ⟨h, g, d, t, os⟩ := by
  have f1 := tc_lookup
  have f2 := tc_bind (.ref 45)
  have hC := wf_at X
  have hT : (⟨h, g, d, t, os⟩ : Shared).TypeIs (.ref 45) "type" := ⟨_, hC, rfl⟩
  refine wpAny_call (codeAny_of_tree ?_)
  show wpAny _ _ (callAny (.ref 45) _) _ _ _
  repeat (any_goals (first | assumption | with_reducible refine wpAny_loadPart_at hC ?_ | wp_step))
  refine ⟨rfl, ?_⟩
  refine codeAny_call_builtin_at (Code.quiet_builtin _ (by decide +kernel)) entry_typeCall (wpAny_check_type_call_sub hC (wf_type_call X hrest ?_))
  exact hq
end
theorem meta_exc : typeOf (.type "Exception") = pure (.type "type") := by kernel_rfl
theorem exc_init_call {w : World} {A : Around} {Q E : Value → Shared → Prop} {s : Shared} {e d : Addr} {v : Value}
    (X : (hd.heap_1 w.params).In s.heap) (he : s.heap.get? e = some (exObj d))
    (h : ∀ h', h' = (s.heap.push { cls := .type "tuple", data := .seq #[v] }).update e (Obj.mapFields (·.setIfInBounds 0 (.ref s.heap.objs.size))) → Q .none { s with heap := h' }) :
    wpAny (model prg w) A (call (.builtin "Exception.__init__") [.ref e, v]) Q E s := by
  have FB := PySem.F.excBase_Exception
  have hs : subIn (hd.heap_1 w.params) (.ref 45) (.type "Exception") = some true := by with_unfolding_all rfl
  refine wpAny_call (codeAny_call_builtin FB.init.plain FB.initEntry ?_)
  have hshort := FB.noStar
  simp only [checkBuiltinCall, FB.initKind, FB.initSplit, FB.initRow]
  have hC := X 45 _ (by with_unfolding_all rfl)
  repeat (first | with_reducible refine wpAny_loadPart_at he ?_ | with_reducible refine wpAny_load hC ?_ | with_reducible refine wpAny_loadPart_at hC ?_ | (refine (looks_subIn X hs).here ?_) | wp_step)
  exact h _ rfl
set_option maxRecDepth 100000 in
set_option maxHeartbeats 8000000 in
theorem set_first {w : World} {A : Around} {Q : Unit → Shared → Prop} {E : Value → Shared → Prop} {s : Shared} {e d : Addr} {v : Value} 
    (X : (hd.heap_1 w.params).In s.heap) (he : s.heap.get? e = some (exObj d))
    (h : Q () { s with heap := (((s.heap.push { cls := .type "dict", data := .dict #[] }).update e fun o => { cls := o.cls, dict := some s.heap.objs.size, data := o.data, slots := o.slots }).update s.heap.objs.size (Obj.putName (Str.ofString "message") (PyData.keyHash w.params (Str.ofString "message")) (.str (Str.ofString "message") (s.toks + 1)) v)), toks := s.toks + 1 + 1 }) :
    wpAny (model prg w) A (setAttr (.ref e) (Str.ofString "message") v) Q E s := by
  have I : InstAt s.heap e (exObj d) 45 none := ⟨he, rfl, rfl, trivial⟩
  have hf : findIn (hd.heap_1 w.params) (.ref 45) "__setattr__" = some (some (.builtin "object.__setattr__")) := by with_unfolding_all rfl
  have hm : findIn (hd.heap_1 w.params) (.ref 45) (Str.ofString "message") = some none := by with_unfolding_all rfl
  refine set_plain X I hf ?_
  have SF := PySem.F.store_object
  have sub : Looks (model prg w) s.heap (isInstance (.ref e) (.type "object")) true := I.type.andThen (looks_subIn X (by with_unfolding_all rfl))
  refine codeAny_call_builtin SF.slot.plain SF.entry (@check_slot (model prg w) _ _ { s with toks := s.toks + 1 } "object.__setattr__" "object" "__setattr__" (.ref e) [.str (Str.ofString "message") s.toks, v] [] _ SF.kind SF.split sub (SF.args (.ref e) (.str (Str.ofString "message") s.toks) v) ?_)
  rw [osa_eq, refuse_eq]
  have hC := X 45 _ (by with_unfolding_all rfl)
  repeat (first | with_reducible refine wpAny_loadPart_at he ?_ | with_reducible refine wpAny_load hC ?_ | with_reducible refine wpAny_loadPart_at hC ?_ | ((with_reducible show wpAny _ _ (typeLookup _ _) _ _ _); refine Looks.here (M := model prg w) (t := typeLookup (.ref 45) (Str.ofString "message")) (looks_findIn X hm) ?_) | wp_step)
  have lt := Heap.lt_size he
  have he1 := Heap.get?_push_of_some { cls := .type "dict", data := .dict #[] } he
  have D : ((s.heap.push { cls := .type "dict", data := .dict #[] }).update e fun o => { cls := o.cls, dict := some s.heap.objs.size, data := o.data, slots := o.slots }).get? s.heap.objs.size = some (dictOf [] 0) := by
    rw [Heap.get?_update_other _ _ (Nat.ne_of_lt lt), Heap.get?_push_size _ rfl]
  have D2 := Heap.get?_update_self (Obj.putName (Str.ofString "message") (PyData.keyHash w.params (Str.ofString "message")) (.str (Str.ofString "message") (s.toks + 1)) v) D rfl
  refine wpAny_askSetting (wpAny_pure (wpAny_bind (wpAny_mkText (wpAny_bind (wpAny_loadPart D ?_)))))
  dsimp only
  rw [if_neg (by rw [aRefKeyMayBeTheName_at]; simp)]
  refine wpAny_updatePart D ?_
  refine wpAny_bind (wpAny_lookBehind D2 (pastItsLine_dict (by rw [sizeLine_eq]; exact Nat.le_of_ble_eq_true rfl)) ?_)
  refine wpAny_pure ?_
  exact h
set_option maxRecDepth 100000 in
set_option maxHeartbeats 8000000 in
theorem set_second {w : World} {A : Around} {Q : Unit → Shared → Prop} {E : Value → Shared → Prop} {s : Shared} {e d t : Addr} {v v0 : Value} {hh : Int} {tk : Tok} {n : Nat}
    (X : (hd.heap_1 w.params).In s.heap) (he : s.heap.get? e = some (exObj2 t d)) (D : s.heap.get? d = some (dictOf [⟨hh, .str (Str.ofString "message") tk, v0⟩] n))
    (h : Q () { s with heap := s.heap.update d (Obj.putName (Str.ofString "spot") (PyData.keyHash w.params (Str.ofString "spot")) (.str (Str.ofString "spot") (s.toks + 1)) v), toks := s.toks + 1 + 1 }) :
    wpAny (model prg w) A (setAttr (.ref e) (Str.ofString "spot") v) Q E s := by
  have I : InstAt s.heap e (exObj2 t d) 45 (some (dictOf [⟨hh, .str (Str.ofString "message") tk, v0⟩] n)) := ⟨he, rfl, rfl, D⟩
  have hf : findIn (hd.heap_1 w.params) (.ref 45) "__setattr__" = some (some (.builtin "object.__setattr__")) := by with_unfolding_all rfl
  have hm : findIn (hd.heap_1 w.params) (.ref 45) (Str.ofString "spot") = some none := by with_unfolding_all rfl
  refine set_plain X I hf ?_
  have SF := PySem.F.store_object
  have sub : Looks (model prg w) s.heap (isInstance (.ref e) (.type "object")) true := I.type.andThen (looks_subIn X (by with_unfolding_all rfl))
  refine codeAny_call_builtin SF.slot.plain SF.entry (@check_slot (model prg w) _ _ { s with toks := s.toks + 1 } "object.__setattr__" "object" "__setattr__" (.ref e) [.str (Str.ofString "spot") s.toks, v] [] _ SF.kind SF.split sub (SF.args (.ref e) (.str (Str.ofString "spot") s.toks) v) ?_)
  rw [osa_eq, refuse_eq]
  have hC := X 45 _ (by with_unfolding_all rfl)
  have D2 := Heap.get?_update_self (Obj.putName (Str.ofString "spot") (PyData.keyHash w.params (Str.ofString "spot")) (.str (Str.ofString "spot") (s.toks + 1)) v) D rfl
  repeat (first | with_reducible refine wpAny_loadPart_at he ?_ | with_reducible refine wpAny_load hC ?_ | with_reducible refine wpAny_loadPart_at hC ?_ | ((with_reducible show wpAny _ _ (typeLookup _ _) _ _ _); refine Looks.here (M := model prg w) (t := typeLookup (.ref 45) (Str.ofString "spot")) (looks_findIn X hm) ?_) | wp_step)
  refine wpAny_askSetting (wpAny_pure (wpAny_bind (wpAny_mkText (wpAny_bind (wpAny_loadPart D ?_)))))
  dsimp only
  rw [if_neg (by rw [aRefKeyMayBeTheName_at]; simp [DictEntry.refKey])]
  refine wpAny_updatePart D ?_
  refine wpAny_bind (wpAny_lookBehind D2 (pastItsLine_dict (by rw [sizeLine_eq]; exact Nat.le_of_ble_eq_true rfl)) ?_)
  refine wpAny_pure ?_
  exact h

theorem put_first (P : Params) (v : Value) (tk : Tok) : Obj.putName (Str.ofString "message") (PyData.keyHash P (Str.ofString "message")) (.str (Str.ofString "message") tk) v (dictOf [] 0) = dictOf [⟨PyData.keyHash P (Str.ofString "message"), .str (Str.ofString "message") tk, v⟩] 1 := by rfl
theorem put_second (P : Params) (v v0 : Value) (hh : Int) (t0 tk : Tok) (n : Nat) : Obj.putName (Str.ofString "spot") (PyData.keyHash P (Str.ofString "spot")) (.str (Str.ofString "spot") tk) v (dictOf [⟨hh, .str (Str.ofString "message") t0, v0⟩] n) = dictOf [⟨hh, .str (Str.ofString "message") t0, v0⟩, ⟨PyData.keyHash P (Str.ofString "spot"), .str (Str.ofString "spot") tk, v⟩] (n + 1) := by rfl
end Mine
end
section
open PySem PySem.W PyProof.Rows PySem.Calls
namespace Mine
section
variable {h₀ h : Heap} {L e d t : Addr} {v : Value} {m : Str → Option Value} {news : List (Addr × Obj)} {o o' : Obj}
theorem upd_head {f : Obj → Obj} (F : Fr h₀ L h m) (N : News h₀ L h ((e, o) :: news)) (hn : ∀ p ∈ news, p.1 ≠ e) (hf : f o = o') (hx : o'.isFreed = false) :
    Fr h₀ L (h.update e f) m ∧ News h₀ L (h.update e f) ((e, o') :: news) := by
  have He := N (e, o) (.head _)
  dsimp only at He
  have hs : Heap.SameBut e h (h.update e f) := Heap.SameBut.update ..
  refine ⟨F.change hs He.2.1 He.2.2, fun p hp => ?_⟩
  rcases List.mem_cons.mp hp with rfl | hp
  · exact ⟨hf ▸ Heap.get?_update_self f He.1 (by rw [hf]; exact hx), He.2⟩
  · have := N p (.tail _ hp)
    exact ⟨(hs.2 _ (hn p hp)).trans this.1, this.2⟩
theorem News.swap {p q : Addr × Obj} (N : News h₀ L h (p :: q :: news)) : News h₀ L h (q :: p :: news) := fun x hx => N x (by
  rcases List.mem_cons.mp hx with rfl | hx
  · exact .tail _ (.head _)
  · rcases List.mem_cons.mp hx with rfl | hx
    · exact .head _
    · exact .tail _ (.tail _ hx))
theorem News.rest {p : Addr × Obj} (N : News h₀ L h (p :: news)) : News h₀ L h news := fun x hx => N x (.tail _ hx)
theorem News.drop2 {p q : Addr × Obj} (N : News h₀ L h (p :: q :: news)) : News h₀ L h (p :: news) := fun x hx => N x (by
  rcases List.mem_cons.mp hx with rfl | hx
  · exact .head _
  · exact .tail _ (.tail _ hx))
theorem News.lt (N : News h₀ L h news) : ∀ p ∈ news, p.1 < h.objs.size := fun p hp => Heap.lt_size (N p hp).1
theorem News.ltn (N : News h₀ L h news) : ∀ p ∈ news, p.1 ≠ h.objs.size := fun p hp => Nat.ne_of_lt (Heap.lt_size (N p hp).1)
end
section
variable {w : World} {A : Around} {E : Value → Shared → Prop} {s : Shared} {h₀ : Heap} {L e d t : Addr} {v : Value} {m : Str → Option Value} {news : List (Addr × Obj)}
theorem exc_init_N {Q : Value → Shared → Prop} (F : Fr h₀ L s.heap m) (X : (hd.heap_1 w.params).In h₀) (N : News h₀ L s.heap ((e, exObj t) :: news)) (hn : ∀ p ∈ news, p.1 ≠ e)
    (h : ∀ t' h', Fr h₀ L h' m → News h₀ L h' ((e, exObj t') :: news) → Q .none { s with heap := h' }) : wpAny (model prg w) A (call (.builtin "Exception.__init__") [.ref e, v]) Q E s := by
  refine exc_init_call (X.keeps F.keep) (N (e, exObj t) (.head _)).1 fun h' eh => ?_
  subst eh
  have lt := News.lt N (e, exObj t) (.head _)
  have N1 := News.swap (N.push F { cls := .type "tuple", data := .seq #[v] } rfl)
  obtain ⟨F', N'⟩ := upd_head (F.push { cls := .type "tuple", data := .seq #[v] }) N1 (fun p hp => by
    rcases List.mem_cons.mp hp with rfl | hp
    · exact Nat.ne_of_gt lt
    · exact hn p hp) (o' := exObj s.heap.objs.size) (f := Obj.mapFields (·.setIfInBounds 0 (.ref s.heap.objs.size))) rfl rfl
  exact h _ _ F' (News.drop2 N')
theorem set_first_N {Q : Unit → Shared → Prop} (F : Fr h₀ L s.heap m) (X : (hd.heap_1 w.params).In h₀) (N : News h₀ L s.heap ((e, exObj t) :: news)) (hn : ∀ p ∈ news, p.1 ≠ e)
    (h : ∀ d h' hh tk n tk', Fr h₀ L h' m → News h₀ L h' ((e, exObj2 t d) :: (d, dictOf [⟨hh, .str (Str.ofString "message") tk, v⟩] n) :: news) → e < d → (∀ p ∈ news, p.1 < d) → Q () { s with heap := h', toks := tk' }) : wpAny (model prg w) A (setAttr (.ref e) (Str.ofString "message") v) Q E s := by
  refine set_first (X.keeps F.keep) (N (e, exObj t) (.head _)).1 ?_
  have lt := News.lt N (e, exObj t) (.head _)
  have N1 := News.swap (N.push F { cls := .type "dict", data := .dict #[] } rfl)
  obtain ⟨F', N'⟩ := upd_head (F.push { cls := .type "dict", data := .dict #[] }) N1 (fun p hp => by
    rcases List.mem_cons.mp hp with rfl | hp
    · exact Nat.ne_of_gt lt
    · exact hn p hp) (o' := exObj2 t s.heap.objs.size) (f := fun o => { cls := o.cls, dict := some s.heap.objs.size, data := o.data, slots := o.slots }) rfl rfl
  obtain ⟨F2, N2⟩ := upd_head F' (News.swap N') (fun p hp => by
    rcases List.mem_cons.mp hp with rfl | hp
    · exact Nat.ne_of_lt lt
    · exact News.ltn N p (.tail _ hp)) (put_first w.params v (s.toks + 1)) rfl
  exact h _ _ _ _ _ _ F2 (News.swap N2) lt fun p hp => News.lt N p (.tail _ hp)
theorem set_second_N {Q : Unit → Shared → Prop} {hh : Int} {tk : Tok} {n : Nat} {v0 : Value} (F : Fr h₀ L s.heap m) (X : (hd.heap_1 w.params).In h₀) (N : News h₀ L s.heap ((e, exObj2 t d) :: (d, dictOf [⟨hh, .str (Str.ofString "message") tk, v0⟩] n) :: news)) (hne : e ≠ d) (hn : ∀ p ∈ news, p.1 ≠ d)
    (h : ∀ h' h2 t2 n tk', Fr h₀ L h' m → News h₀ L h' ((e, exObj2 t d) :: (d, dictOf [⟨hh, .str (Str.ofString "message") tk, v0⟩, ⟨h2, .str (Str.ofString "spot") t2, v⟩] n) :: news) → Q () { s with heap := h', toks := tk' }) : wpAny (model prg w) A (setAttr (.ref e) (Str.ofString "spot") v) Q E s := by
  refine set_second (X.keeps F.keep) (N (e, exObj2 t d) (.head _)).1 (N (d, _) (.tail _ (.head _))).1 ?_
  obtain ⟨F2, N2⟩ := upd_head F (News.swap N) (fun p hp => by
    rcases List.mem_cons.mp hp with rfl | hp
    · exact hne
    · exact hn p hp) (put_second w.params v v0 hh tk (s.toks + 1) n) rfl
  exact h _ _ _ _ _ F2 (News.swap N2)
end
section
variable {w : World} {mean : ExcName → Option Value} {mg mb : Str → Option Value} {dp un : Nat} {gd : Option (List Code)} {cn : Str} {cs : Scope} {a : Addr} {ccd : Value} {cl : List (Str × Addr)} {outer : List Env} {A₀ : Around} {base h₀ : Heap} {L : Addr} {m : Str → Option Value} {s : Shared} {Q E : Value → Shared → Prop} {news : List (Addr × Obj)}


theorem words_Fault2_1 : Flush := by
  (try w_top off)
  k_with_none
  k_with "mine k_ne" => (refine neN ?_; (try dsimp only); first | (refine Nat.ne_of_lt ?_; (repeat (first | exact Nat.lt_add_one _ | refine Nat.lt.step ?_)); done) | (refine Nat.ne_of_gt ?_; (repeat (first | exact Nat.lt_add_one _ | refine Nat.lt.step ?_)); done) | omega)
  k_with "mine getMethod type:Exception" => (k_here; refine' method_type ?Fz1 ?Xz1 ?mz1 (by decide +kernel) ?ez1 ?hz1 ?_; (case Fz1 => k_asm); (case Xz1 => k_asm); (case mz1 => exact meta_exc); (case ez1 => k_dflt k_is); (case hz1 => k_handed))
  k_with "mine call builtin:Exception.__init__" => (k_here; refine' exc_init_N ?Fz2 ?Xz2 ?Nz2 ?nz2 ?_; (case Fz2 => k_asm); (case Xz2 => k_asm); (case Nz2 => k_asm); (case nz2 => assumption); intro t'q9 h'q9 F'q9 N'q9)
  k_with "mine setAttr ref" => (k_here; refine' set_first_N ?Fz3 ?Xz3 ?Nz3 ?nz3 ?_; (case Fz3 => k_asm); (case Xz3 => k_asm); (case Nz3 => k_asm); (case nz3 => assumption); intro d'q9 h'q9 hh'q9 tk'q9 n'q9 tk2'q9 F'q9 N'q9 lt'q9 ltn'q9)
  k_with "mine setAttr ref" => (k_here; refine' set_second_N ?Fz4 ?Xz4 ?Nz4 ?ez4 ?nz4 ?_; (case Fz4 => k_asm); (case Xz4 => k_asm); (case Nz4 => k_asm); (case ez4 => exact Nat.ne_of_lt (by assumption)); (case nz4 => exact fun p hp => Nat.ne_of_lt ((by assumption : ∀ p ∈ _, p.1 < _) p hp)); intro h'q9 hh'q9 tk'q9 n'q9 tk2'q9 F'q9 N'q9)
  exact trivial
set_option maxRecDepth 100000 in
set_option maxHeartbeats 8000000 in
theorem init_spec {e t : Addr} {msg : Str} {i : Int} {t1 t2 : Tok}
   (B : Below A₀ base outer h₀) (F : Fr h₀ L s.heap m) (X : (hd.heap_1 w.params).In h₀) (N : News h₀ L s.heap ((e, exObj t) :: news)) (hne : ∀ p ∈ news, p.1 ≠ e) (T : Top topProg LZ mean mg mb h₀) (hk : cs.kind = .function)
   (hdp : dp + 1 < recursionLimit) (hun : un + 8 < cLine)
   (hret : ∀ (h' : Heap) (tk' : Nat) (t d : Addr) (od : Obj), Fr h₀ L h' m → SpotDict od i → News h₀ L h' ((e, exObj2 t d) :: (d, od) :: news) → d ≠ e → Q .none { s with heap := h', toks := tk' }) :
   wpAny (model prg w) (ktrTop dp un gd cn cs L a ccd cl outer) (call (.ref 29) [.ref e, .str msg t1, .int i t2]) Q E s := by
  refine wpAny_call ?_
  k_dflt (refine' code_def ?k1 ?k2 ?k3 ?k4 ?k5 ?kA ?kF ?kK ?k6 ?k7 ?k8 ?k9 ?kB ?_ ?c2 ?c3 ?c4 ?c5; (case kA => exact rfl); (case kF => exact rfl); (case kK => assumption); (case k1 => k_asm); (case k2 => k_asm); (case k3 => k_asm); (case k4 => k_asm); (case k5 => k_asm); (case k6 => k_is); (case k7 => k_is); (case k8 => ktr_room); (case k9 => (refine' kp_binds ?kx ?ke; (case kx => k_in); (case ke => exact fun _ => rfl))); (case c5 => decide); (case kB => exact locs rfl); (case c2 => exact rfl); (case c3 => exact rfl); (case c4 => exact rfl); k_whole; intro g' L' h' FG' F' N' B' X' T'; (try dsimp only); (try k_lift B'); (try k_fold))
  k_steps
  exact hret _ _ _ _ _ (by assumption) ⟨_, _, _, _, _, _, _, rfl⟩ (by assumption) (Nat.ne_of_gt (by assumption))

theorem fault_make {msg : Str} {i : Int} {t1 t2 : Tok}
   (B : Below A₀ base outer h₀) (F : Fr h₀ L s.heap m) (X : (hd.heap_1 w.params).In h₀) (N : News h₀ L s.heap news) (T : Top topProg LZ mean mg mb h₀) (hk : cs.kind = .function)
   (hdp : dp + 2 < recursionLimit) (hun : un + 20 < cLine)
   (hret : ∀ (h' : Heap) (tk' : Nat) (e t d : Addr) (od : Obj), Fr h₀ L h' m → SpotDict od i → News h₀ L h' ((e, exObj2 t d) :: (d, od) :: news) → d ≠ e → (∀ p ∈ news, p.1 ≠ e) → Q (.ref e) { s with heap := h', toks := tk' }) :
   wpAny (model prg w) (ktrTop dp un gd cn cs L a ccd cl outer) (call (.ref 45) [.str msg t1, .int i t2]) Q E s := by
  have F1 := F.push { cls := .type "tuple", data := .seq #[.str msg t1, .int i t2] }
  have N1 := News.rest (N.push F { cls := .type "tuple", data := .seq #[.str msg t1, .int i t2] } rfl)
  have F2 := F1.push (exObj s.heap.objs.size)
  have N2 := N1.push F1 (exObj s.heap.objs.size) rfl
  refine wf_call (X.keeps F.keep) (by rw [sizeLine_eq]; exact Nat.le_of_ble_eq_true rfl) ?_
  rw [Heap.size_push] at N2
  exact init_spec (dp := dp + 1) (un := un + 1) B F2 X N2 (fun p hp => Nat.ne_of_lt (Nat.lt_succ_of_lt (News.lt N p hp))) T hk (by omega) (by omega)
    fun h' tk' t d od F' hs N' hde => ⟨rfl, hret h' tk' _ t d od F' hs N' hde fun p hp => Nat.ne_of_lt (Nat.lt_succ_of_lt (News.lt N p hp))⟩
end
end Mine
end
section
open PySem PySem.W PyProof.Rows PySem.Calls
namespace Mine
def RaisableF (w : World) (E : Value → Shared → Prop) (v : Value) (s₁ : Shared) : Prop :=
  ∃ e oe vs, v = .ref e ∧ s₁.heap.get? e = some oe ∧ oe.cls = .ref 45 ∧ oe.data = .fields vs ∧ vs[1]? = some .none ∧ (hd.heap_1 w.params).In s₁.heap ∧ E (.ref e) s₁
theorem raise_fault {w : World} {A : Around} {E : Value → Shared → Prop} {s : Shared} {ex : Expr} {pos : Pos} {env : Env} {Q : Flow → Shared → Prop} (hh : A.handled = none)
    (h : wpAny (model prg w) A (eval ex env) (RaisableF w E) E s) : wpAny (model prg w) A (exec (.Raise (some ex) none pos) env) Q E s := by
  show wpAny (model prg w) A (do standAt pos; raiseStmt env (some (do let v ← eval ex env; standAt pos; pure v)) none) Q E s
  refine wpAny_bind (wpAny_standAt ?_)
  unfold raiseStmt
  dsimp only
  refine wpAny_bind (wpAny_bind (wpAny_mono h (fun v s₁ h₁ => wpAny_bind (wpAny_standAt (wpAny_pure ?_))) fun _ _ x => x))
  obtain ⟨e, oe, vs, rfl, he, hcls, hd, h1, X, hE⟩ := h₁
  have hnt : ∀ {Q' : Bool → Shared → Prop}, Q' false s₁ → wpAny (model prg w) A (isType (.ref e)) Q' E s₁ := by
    intro Q' hq
    simp only [isType, loadHead]
    refine wpAny_bind (wpAny_loadPart he ?_)
    rw [hd]; exact wpAny_pure hq
  have hty : Looks (model prg w) s₁.heap (typeOf (.ref e)) (.ref 45) := fun A' Q' E' s' k q => by
    show wpAny _ _ (do return (← loadPart e (some headPart)).cls) _ _ _
    refine wpAny_bind (wpAny_loadPart (k _ _ he) ?_)
    rw [hcls]; exact wpAny_pure q
  have hin : Looks (model prg w) s₁.heap (isInstance (.ref e) (.type "BaseException")) true := hty.andThen (looks_subIn X (by with_unfolding_all rfl))
  have htt : Looks (model prg w) s₁.heap (typeOf (.ref 45)) (.type "type") := looks_typeIn X (by with_unfolding_all rfl)
  refine wpAny_bind (wpAny_pure ?_)
  dsimp only
  refine wpAny_bind (wpAny_holding ?_)
  unfold excFromValue isExcClass
  refine wpAny_bind (wpAny_bind (hnt ?_))
  simp only [Bool.false_eq_true, if_false]
  refine wpAny_pure ?_
  simp only [Bool.false_eq_true, if_false]
  refine wpAny_bind (hin.here ?_)
  simp only [if_true]
  refine wpAny_pure ?_
  refine wpAny_bind (hnt ?_)
  simp only [Bool.false_eq_true, if_false]
  unfold raisedInstance
  refine wpAny_bind (wpAny_bind (hty.here (wpAny_bind (htt.here ?_))))
  rw [if_pos (by decide)]
  refine wpAny_pure ?_
  unfold setFlight raiseNew
  refine wpAny_bind (wpAny_bind (wpAny_field he hd h1 ?_))
  rw [if_neg (by decide)]
  refine wpAny_pure (wpAny_bind (wpAny_handled ?_))
  rw [hh]
  first
    | exact wpAny_throw hE
    | exact wpAny_bind (wpAny_pure (wpAny_throw hE))
end Mine
end
section
open PySem PySem.W PyProof.Rows
namespace Mine
def runA (signs : List Nat) : List Nat → Nat → Nat
  | [], j => j
  | c :: r, j => if c ∈ signs then runA signs r (j + 1) else j
def RunP (text signs : Str) (i j : Int) : Prop := i ≤ j ∧ runA (cs signs) ((cs text).drop j.toNat) j.toNat = runA (cs signs) ((cs text).drop i.toNat) i.toNat
theorem RunP.start (text signs : Str) (i : Int) : RunP text signs i i := ⟨Int.le_refl _, rfl⟩
theorem RunP.step {text signs : Str} {i j : Int} (h : RunP text signs i j) (hi : 0 ≤ i) (h1 : j < text.length) (h2 : (PySem.Builtin.Str.occurrences signs (Txt.item text j) 0 signs.length 1).isEmpty = false) : RunP text signs i (j + 1) := by
  obtain ⟨a, b⟩ := h
  refine ⟨by omega, b ▸ ?_⟩
  have hm := in_one signs ((cs text)[j.toNat]'(by rw [cs_length]; omega))
  rw [← item_list text (by omega) h1, h2] at hm
  rw [drop_cons text (i := j) (by omega) h1, runA, if_pos (of_decide_eq_true hm.symm), show (j + 1).toNat = j.toNat + 1 from by omega]
theorem RunP.stop {text signs : Str} {i j : Int} (h : RunP text signs i j) (hi : 0 ≤ i) (h1 : j < text.length) (h2 : (PySem.Builtin.Str.occurrences signs (Txt.item text j) 0 signs.length 1).isEmpty = true) : j = (runA (cs signs) ((cs text).drop i.toNat) i.toNat : Nat) := by
  obtain ⟨a, b⟩ := h
  have hm := in_one signs ((cs text)[j.toNat]'(by rw [cs_length]; omega))
  rw [← item_list text (by omega) h1, h2] at hm
  rw [← b, drop_cons text (i := j) (by omega) h1, runA, if_neg (of_decide_eq_false hm.symm)]
  omega
theorem RunP.last {text signs : Str} {i j : Int} (h : RunP text signs i j) (hi : 0 ≤ i) (h1 : ¬ j < text.length) : j = (runA (cs signs) ((cs text).drop i.toNat) i.toNat : Nat) := by
  obtain ⟨a, b⟩ := h
  rw [← b, drop_end text (by omega), runA]
  omega
def remA : List Nat → Nat → Int → Option Nat
  | 47 :: 42 :: r, j, d => remA r (j + 2) (d + 1)
  | 42 :: 47 :: r, j, d => if d - 1 = 0 then some (j + 2) else remA r (j + 2) (d - 1)
  | _ :: r, j, d => remA r (j + 1) d
  | [], _, _ => none
def RemP (text : Str) (i j d : Int) : Prop := i ≤ j ∧ remA ((cs text).drop j.toNat) j.toNat d = remA ((cs text).drop i.toNat) i.toNat 0
theorem RemP.start (text : Str) (i : Int) : RemP text i i 0 := ⟨Int.le_refl _, rfl⟩
theorem cs_open : cs (Str.ofString "/*") = [47, 42] := by decide +kernel
theorem cs_shut : cs (Str.ofString "*/") = [42, 47] := by decide +kernel
theorem take2 {l : List Nat} {a b : Nat} (h : l.take 2 = [a, b]) : l = a :: b :: l.drop 2 := by
  match l, h with
  | x :: y :: r, h => simp at h; obtain ⟨rfl, rfl⟩ := h; rfl
theorem drop_two {text : Str} {j : Int} {a b : Nat} (hj : 0 ≤ j) (h : ((cs text).drop j.toNat).take 2 = [a, b]) : (cs text).drop j.toNat = a :: b :: (cs text).drop (j + 2).toNat := by
  have := take2 h
  rw [List.drop_drop] at this
  rw [this, show (j + 2).toNat = j.toNat + 2 from by omega]
theorem sl2 {text y : Str} {j : Int} (hj : 0 ≤ j) : (Txt.slice text (some j) (some (j + 2)) == y) = decide (((cs text).drop j.toNat).take 2 = cs y) := by
  rw [slice_beq text y hj (by omega), show (j + 2 - j).toNat = 2 from by omega]
theorem RemP.deeper {text : Str} {i j d : Int} (h : RemP text i j d) (hi : 0 ≤ i) (h2 : (Txt.slice text (some j) (some (j + 2)) == Str.ofString "/*") = true) : RemP text i (j + 2) (d + 1) := by
  obtain ⟨a, b⟩ := h
  rw [sl2 (by omega), cs_open, decide_eq_true_eq] at h2
  refine ⟨by omega, b ▸ ?_⟩
  rw [drop_two (by omega) h2, remA, show (j + 2).toNat = j.toNat + 2 from by omega]
theorem RemP.shut {text : Str} {i j d : Int} (h : RemP text i j d) (hi : 0 ≤ i) (h2 : (Txt.slice text (some j) (some (j + 2)) == Str.ofString "*/") = true) (h3 : d - 1 = 0) : remA ((cs text).drop i.toNat) i.toNat 0 = some (j + 2).toNat := by
  obtain ⟨a, b⟩ := h
  rw [sl2 (by omega), cs_shut, decide_eq_true_eq] at h2
  rw [← b, drop_two (by omega) h2, remA, if_pos h3, show (j + 2).toNat = j.toNat + 2 from by omega]
theorem RemP.less {text : Str} {i j d : Int} (h : RemP text i j d) (hi : 0 ≤ i) (h2 : (Txt.slice text (some j) (some (j + 2)) == Str.ofString "*/") = true) (h3 : ¬ d - 1 = 0) : RemP text i (j + 2) (d - 1) := by
  obtain ⟨a, b⟩ := h
  rw [sl2 (by omega), cs_shut, decide_eq_true_eq] at h2
  refine ⟨by omega, b ▸ ?_⟩
  rw [drop_two (by omega) h2, remA, if_neg h3, show (j + 2).toNat = j.toNat + 2 from by omega]
theorem remA_other {c : Nat} {r : List Nat} {j : Nat} {d : Int} (h1 : ¬ (c :: r).take 2 = [47, 42]) (h2 : ¬ (c :: r).take 2 = [42, 47]) : remA (c :: r) j d = remA r (j + 1) d := by
  rw [remA]
  · intro r' e1 e2; subst e1 e2; exact h1 rfl
  · intro r' e1 e2; subst e1 e2; exact h2 rfl
theorem RemP.on {text : Str} {i j d : Int} (h : RemP text i j d) (hi : 0 ≤ i) (h0 : j < text.length) (h1 : (Txt.slice text (some j) (some (j + 2)) == Str.ofString "/*") = false) (h2 : (Txt.slice text (some j) (some (j + 2)) == Str.ofString "*/") = false) : RemP text i (j + 1) d := by
  obtain ⟨a, b⟩ := h
  rw [sl2 (by omega), cs_open, decide_eq_false_iff_not] at h1
  rw [sl2 (by omega), cs_shut, decide_eq_false_iff_not] at h2
  refine ⟨by omega, b ▸ ?_⟩
  rw [drop_cons text (i := j) (by omega) h0] at h1 h2 ⊢
  rw [remA_other h1 h2, show (j + 1).toNat = j.toNat + 1 from by omega]
theorem RemP.none {text : Str} {i j d : Int} (h : RemP text i j d) (h0 : ¬ j < text.length) : remA ((cs text).drop i.toNat) i.toNat 0 = none := by
  obtain ⟨a, b⟩ := h
  rw [← b, drop_end text (by omega), remA]
end Mine
namespace Mine
theorem RunP.le {text signs : Str} {i j : Int} (h : RunP text signs i j) : i ≤ j := h.1
theorem RemP.le {text : Str} {i j d : Int} (h : RemP text i j d) : i ≤ j := h.1
end Mine
namespace Mine
theorem runA_le (S : List Nat) : ∀ (l : List Nat) (j : Nat), j ≤ runA S l j ∧ runA S l j ≤ j + l.length
  | [], j => by simp [runA]
  | c :: r, j => by
    rw [runA]
    split
    · have := runA_le S r (j + 1); simp only [List.length_cons]; omega
    · simp
theorem runA_fits {text signs : Str} {i : Int} (hi : 0 ≤ i) : i ≤ (runA (cs signs) ((cs text).drop i.toNat) i.toNat : Nat) ∧ (((runA (cs signs) ((cs text).drop i.toNat) i.toNat : Nat) : Int) ≤ text.length ∨ ((runA (cs signs) ((cs text).drop i.toNat) i.toNat : Nat) : Int) = i) := by
  have h := runA_le (cs signs) ((cs text).drop i.toNat) i.toNat
  have hl : ((cs text).drop i.toNat).length = text.length - i.toNat := by rw [List.length_drop, cs_length]
  refine ⟨by omega, ?_⟩
  by_cases q : i.toNat ≤ text.length
  · left; omega
  · right; omega
end Mine
end
section
open PySem PySem.W PyProof.Rows PySem.Calls
namespace Mine
theorem News.mk {h₀ h : Heap} {L : Addr} {news : List (Addr × Obj)} (N : News h₀ L h news) : ∀ q ∈ news, h.get? q.1 = some q.2 ∧ q.1 ≠ L ∧ h₀.get? q.1 = none := N
theorem RaisedF.mono {base G : Heap} {l : List Env} {e : Addr} {i : Int} {news news' : List (Addr × Obj)} {h : Heap} (R : RaisedF base G l e i news' h) (hs : ∀ q ∈ news, q ∈ news') : RaisedF base G l e i news h := by
  obtain ⟨up, B, d, od, hB, hBG, hl, r⟩ := R
  exact ⟨up, B, d, od, hB, hBG, fun q hq => hl q (hs q hq), r⟩
theorem News.few {h₀ h : Heap} {L : Addr} {news news' : List (Addr × Obj)} (N : News h₀ L h news') (hs : ∀ q ∈ news, q ∈ news') : News h₀ L h news := fun q hq => N q (hs q hq)
theorem raised_cast {base G : Heap} {l : List Env} {e : Addr} {i j : Int} {news : List (Addr × Obj)} {h : Heap} (R : RaisedF base G l e i news h) (e' : j = i) : RaisedF base G l e j news h := e' ▸ R
theorem cast_ret {Q : Value → Shared → Prop} {k : Nat} {j : Int} {t : Tok} {s : Shared} (h : Q (.int (k : Int) t) s) (e : (k : Int) = j) : Q (.int j t) s := e ▸ h
abbrev tupO (vs : List Value) : Obj := { cls := .type "tuple", data := .seq vs.toArray }
theorem look3 (x a b c : Str) (ta tb tc : Tok) (va vb vc : Value) : (Spec.lookup (.str x) (strData [(.str a ta, va), (.str b tb, vb), (.str c tc, vc)])).isSome = decide (x = a ∨ x = b ∨ x = c) := by
  have same (p q : Str) : Spec.same (.str p) (.str q) = decide (p = q) := by by_cases h : p = q <;> simp [Spec.same, h]
  simp only [strData, Spec.lookup, same, decide_eq_true_eq]
  rw [Bool.eq_iff_iff, decide_eq_true_eq]
  by_cases h1 : a = x
  · simp [h1]
  · by_cases h2 : b = x
    · simp [h1, h2]
    · by_cases h3 : c = x
      · simp [h1, h2, h3]
      · simp [h1, h2, h3, Ne.symm h1, Ne.symm h2, Ne.symm h3]
theorem cast_retI {Q : Value → Shared → Prop} {k j : Int} {t : Tok} {s : Shared} (h : Q (.int k t) s) (e : k = j) : Q (.int j t) s := e ▸ h
theorem News.swap_drop {h₀ h : Heap} {L : Addr} {news : List (Addr × Obj)} {p q : Addr × Obj} (N : News h₀ L h (p :: q :: news)) : News h₀ L h (p :: news) := News.drop2 N
theorem lt_all {d : Addr} : ∀ {l : List (Addr × Obj)}, AllLt d l → ∀ p ∈ l, p.1 < d
  | [], _, p, hp => nomatch hp
  | q :: r, ⟨h1, h2⟩, p, hp => by
    rcases List.mem_cons.mp hp with rfl | hp
    · exact h1
    · exact lt_all h2 p hp
theorem beq_bne {x y : Str} (h : (x == y) = true) (h' : (x != y) = true) : False := by simp_all
theorem beq_bne' {x y : Str} (h : (x == y) = false) (h' : (x != y) = false) : False := by simp_all
theorem News.heads2 {h₀ h : Heap} {L : Addr} {news more : List (Addr × Obj)} {p q : Addr × Obj} (N : News h₀ L h (p :: q :: more)) (hs : ∀ x ∈ news, x ∈ more) : News h₀ L h (p :: q :: news) := fun x hx => N x (by
  rcases List.mem_cons.mp hx with rfl | hx
  · exact .head _
  · rcases List.mem_cons.mp hx with rfl | hx
    · exact .tail _ (.head _)
    · exact .tail _ (.tail _ (hs _ hx)))
theorem News.heads1 {h₀ h : Heap} {L : Addr} {news more : List (Addr × Obj)} {p : Addr × Obj} (N : News h₀ L h (p :: more)) (hs : ∀ x ∈ news, x ∈ more) : News h₀ L h (p :: news) := fun x hx => N x (by
  rcases List.mem_cons.mp hx with rfl | hx
  · exact .head _
  · exact .tail _ (hs _ hx))
abbrev ground_of {g h : Heap} {L : Addr} {m : Str → Option Value} (_ : Fr g L h m) : Heap := g
end Mine
end
section
open PySem PySem.W PyProof.Rows PySem.Calls
namespace Mine
theorem exc_matches {w : World} {A : Around} {E : Value → Shared → Prop} {s : Shared} {e : Addr} {oe : Obj} {Q : Bool → Shared → Prop} (X : (hd.heap_1 w.params).In s.heap) (he : s.heap.get? e = some oe) (hc : oe.cls = .ref 45)
    (h : Q true s) : wpAny (model prg w) A (excMatches (.ref e) (.ref 45)) Q E s := by
  have hty : Looks (model prg w) s.heap (typeOf (.ref e)) (.ref 45) := fun A' Q' E' s' k q => by
    show wpAny _ _ (do return (← loadPart e (some headPart)).cls) _ _ _
    refine wpAny_bind (wpAny_loadPart (k _ _ he) ?_)
    rw [hc]; exact wpAny_pure q
  have htt : Looks (model prg w) s.heap (typeOf (.ref 45)) (.type "type") := looks_typeIn X (by with_unfolding_all rfl)
  have hnt : Looks (model prg w) s.heap (isSubtype (.type "type") (.type "tuple")) false := looks_subIn X (by with_unfolding_all rfl)
  have hin : Looks (model prg w) s.heap (isInstance (.ref 45) (.type "tuple")) false := htt.andThen hnt
  have hsb : Looks (model prg w) s.heap (isSubtype (.ref 45) (.type "BaseException")) true := looks_subIn X (by with_unfolding_all rfl)
  have hss : Looks (model prg w) s.heap (isSubtype (.ref 45) (.ref 45)) true := looks_subIn X (by with_unfolding_all rfl)
  have hC := X 45 _ (by with_unfolding_all rfl)
  unfold excMatches
  refine wpAny_bind (hin.here ?_)
  simp only [Bool.false_eq_true, if_false]
  unfold isExcClass
  repeat (first | with_reducible refine wpAny_loadPart_at hC ?_ | (refine hsb.here ?_) | (refine hty.here ?_) | (refine hss.here ?_) | wp_step)
  exact h

section
variable {w : World} {mean : ExcName → Option Value} {mg mb : Str → Option Value} {A₀ : Around} {E : Value → Shared → Prop} {s' : Shared} {base g G : Heap} {outer : List Env} {L a e : Addr} {m : Str → Option Value} {name : Str} {scope : Scope} {cd : Value}
  {n : Str} {b₀ : Stmt} {suite : List Stmt} {pos np : Pos} {rest : List ExceptHandler} {Q : Flow → Shared → Prop} {news : List (Addr × Obj)} {i : Int}
theorem fly_frame {B h : Heap} {l : List Env} {b : Addr} {o : Obj} {vs : Array Value} (x : h.FunFrames B l) (hb : h.get? b = some o) (hd : o.data = .fields vs) : b ∉ l.filterMap (·.frame) := fun hm => by
  obtain ⟨_, o', ho', hnf⟩ := x.mem hm
  exact not_rec ho' hnf hb hd rfl
theorem caughtF (R : RaisedF base G (envOf name scope L a cd :: outer) e i news s'.heap) (F : Fr g L G m) (K : Below A₀ base outer g) (XB : (hd.heap_1 w.params).In base) (TB : Top topProg LZ mean mg mb base)
    (k : ∀ h' g' tk d od oe, KtsTurn (outer.filterMap (·.frame)) g g' → Fr g' L h' (fun y => if y = n then some (.ref e) else m y) → News g' L h' ((e, oe) :: (d, od) :: news) → SpotDict od i → (∃ vs sl, oe = ⟨.ref 45, some d, .fields vs, sl⟩) → Below A₀ base outer g' →
      wpAny (model prg w) ((A₀.deeper (envOf name scope L a cd)).mark (some (.ref e))) (execs (b₀ :: suite) (envOf name scope L a cd))
        (fun f s₄ => wpAny (model prg w) (A₀.deeper (envOf name scope L a cd)) (do bindName (envOf name scope L a cd) n .none; unbindBehindTheSuite (envOf name scope L a cd) n pos) (fun _ s₅ => Q f s₅) E s₄)
        (AsSuiteRaised (model prg w) ((A₀.deeper (envOf name scope L a cd)).mark (some (.ref e))) (envOf name scope L a cd) n pos (notedBy (model prg w) ((A₀.deeper (envOf name scope L a cd)).mark (some (.ref e))) (envOf name scope L a cd) (cameBackBy (model prg w) (A₀.deeper (envOf name scope L a cd)) (envOf name scope L a cd) E)))
        { s' with heap := h', toks := tk })
    (hk : scope.kind = .function := by rfl) (hlo : (envOf name scope L a cd).kindOf n = some .local := by rfl) (hx : (envOf name scope L a cd).kindOf (Str.ofString "WordFault") = some .globalImplicit := by rfl) :
    wpAny (model prg w) (A₀.deeper (envOf name scope L a cd)) (noteFrame (.ref e) (envOf name scope L a cd))
      (fun _ s₂ => wpAny (model prg w) (A₀.deeper (envOf name scope L a cd)) (setFlight (.ref e) none) (fun _ s₃ =>
        wpAny (model prg w) (A₀.deeper (envOf name scope L a cd)) (handleBy (.ref e) (envOf name scope L a cd) (.ExceptHandler (some (.Name (Str.ofString "WordFault") np)) (some n) (b₀ :: suite) pos :: rest)) Q E s₃) E s₂) E s' := by
  refine RaisedF.elim R ?_
  clear R
  intro B d od up hB hBG hl hs hBd hGd k1 hBe hGe k2 k3
  have hL : B.get? L = none := (k2.mem (List.mem_filterMap.mpr ⟨_, .head _, rfl⟩)).1
  refine note_next (Around.frames_deeper K.stack) k2 rfl k3 k1 hBe fun h₁ a1 a2 a3 a4 => ?_
  refine flight_on a1 a2 a3 fun h₂ b1 b2 b3 b4 => ?_
  have up₂ : G.UpToSlots h₂ := (up.trans a4).trans fun b o hb hn => ⟨o.slots, b4 b o hb hn⟩
  obtain ⟨g₂, T₂, F₂, K₂⟩ := kts_ground K F hBG b1 up₂
  have X₂ := XB.keeps K₂.stays
  refine Marked.elim b3 ?_
  intro oe vs T oT ts he hc hc2 hd' _ _ _ _ _ _
  refine wpAny_handleBy_cons (codeAny_handlers_test (name_K F₂ X₂ (topRead_of (TB.keeps K₂.stays)) (v := .ref 45) (by with_unfolding_all rfl) ?_ hk hx (by decide))) (by intro q; cases q)
  refine exc_matches (X₂.keeps F₂.keep) he hc (codeAny_handlers_suite_as ?_)
  refine flight_on b1 b2 b3 fun h₃ c1 c2 c3 c4 => ?_
  have up₃ : G.UpToSlots h₃ := up₂.trans fun b o hb hn => ⟨o.slots, c4 b o hb hn⟩
  obtain ⟨g₃, T₃, F₃, K₃⟩ := kts_ground K F hBG c1 up₃
  refine Marked.elim c3 ?_
  clear he hc hc2 hd'
  intro oe vs T oT ts he hcls hdict hd' _ _ _ _ _ _
  have none_g : ∀ {b}, G.get? b = none → g₃.get? b = none := fun q => T₃.none_ _ (kts_none F.keep q)
  have ne : e ≠ L := fun q => fly_frame c2 he hd' (List.mem_filterMap.mpr ⟨_, .head _, by rw [q]; rfl⟩)
  have nB : ∀ {b o}, B.get? b = some o → b ≠ L := fun hb q => by rw [q, hL] at hb; cases hb
  have N₃ : News g₃ L h₃ ((e, oe) :: (d, od) :: news) := fun q hq => by
    rcases List.mem_cons.mp hq with rfl | hq
    · exact ⟨he, ne, none_g hGe⟩
    · rcases List.mem_cons.mp hq with rfl | hq
      · exact ⟨c1 _ _ hBd, nB hBd, none_g hGd⟩
      · exact ⟨c1 _ _ (hl q hq).1, nB (hl q hq).1, none_g (hl q hq).2.1⟩
  refine stN F₃ N₃ (fun h₄ F₄ N₄ => ?_) hk hlo
  refine k h₄ g₃ _ d od oe T₃ F₄ N₄ hs ⟨vs, oe.slots, ?_⟩ K₃
  obtain ⟨c, dd, dt, sl⟩ := oe
  dsimp only at hcls hdict hd'
  rw [hcls, hdict, hd']
end
end Mine
end
section
open PySem PySem.W PyProof.Rows PySem.Calls
namespace Mine
def LeaveT (A₀ : Around) (base : Heap) (outer : List Env) (fs : List Addr) (h₀ : Heap) (L : Addr) (m : Str → Option Value) (g : Heap) (R : Result → Shared → Prop) (v : Value) (s' : Shared) : Prop :=
  ∃ g' L' m' news', KtsTurn fs g g' ∧ Fr g' L' s'.heap m' ∧ News g' L' s'.heap news' ∧ ∀ h₀', KtsTurn (outer.filterMap (·.frame)) h₀ h₀' → Fr h₀' L s'.heap m → News h₀' L s'.heap news' → Below A₀ base outer h₀' → R (.ok (.ret v)) s'
section
variable {w : World} {A₀ A : Around} {s : Shared} {base h₀ : Heap} {outer : List Env} {L : Addr} {m : Str → Option Value} {env : Env} {news : List (Addr × Obj)} {K : Frag} {prog : Program}
  {R : Result → Shared → Prop} {name qual : Str} {params : Arguments} {body : List Stmt} {scope : Scope} {cl : List (Str × Addr)} {dV kV doc pm cdv ct oc : Value} {an od : Option Addr} {osl : Array (Option Value)} {fo : Obj} {f : Addr} {args : Args} {binds : List (Str × Value)}
theorem leaveT_ {fs : List Addr} {g g' : Heap} {L' : Addr} {m' : Str → Option Value} {news' : List (Addr × Obj)} {v : Value} {s' : Shared} (F' : Fr g' L' s'.heap m') (N' : News g' L' s'.heap news') (T : KtsTurn fs g g')
    (k : ∀ h₀', KtsTurn (outer.filterMap (·.frame)) h₀ h₀' → Fr h₀' L s'.heap m → News h₀' L s'.heap news' → Below A₀ base outer h₀' → R (.ok (.ret v)) s') : LeaveT A₀ base outer fs h₀ L m g R v s' := ⟨g', L', m', news', T, F', N', k⟩
theorem groundT (B : Below A₀ base outer h₀) (F : Fr h₀ L s.heap m) (N : News h₀ L s.heap news) (hA : A.frames = some (env :: outer)) (hf : env.frame = some L) (hke : env.scope.kind = .function) :
    Fr h₀ L (hideAll s.heap (news.map (·.1))) m ∧ Below A base (env :: outer) (hideAll s.heap (news.map (·.1))) ∧ h₀.StaysIn (hideAll s.heap (news.map (·.1))) ∧
      ∀ v s', LeaveT A₀ base outer ((env :: outer).filterMap (·.frame)) h₀ L m (hideAll s.heap (news.map (·.1))) R v s' → R (.ok (.ret v)) s' := by
  obtain ⟨FG, BG, st, _⟩ := groundX (R := R) B F N hA hf hke
  refine ⟨FG, BG, st, fun v s' hl => ?_⟩
  obtain ⟨oL, es, ep, hLg, hLd, hLk, hLf⟩ := FG.ns
  have nL₀ : h₀.get? L = none := kts_self F
  have mem : ∀ {b}, b ∈ (env :: outer).filterMap (·.frame) → b = L ∨ b ∈ outer.filterMap (·.frame) := fun hm => by
    obtain ⟨e', he, hf'⟩ := List.mem_filterMap.mp hm
    rcases List.mem_cons.mp he with rfl | he
    · exact .inl (Option.some.inj (hf.symm.trans hf')).symm
    · exact .inr (List.mem_filterMap.mpr ⟨e', he, hf'⟩)
  obtain ⟨g', L', m', news', T', F', N', k⟩ := hl
  obtain ⟨sl, hs⟩ := T'.up hLg
  obtain ⟨T₁, S₁⟩ := kts_turn_at (h := s'.heap) (fs := outer.filterMap (·.frame)) (g := h₀)
    (fun b hb => by
      obtain ⟨_, o, ho', _⟩ := B.frames.mem hb
      exact ⟨o, ho'⟩)
    (fun b o e nmem => F'.keep b o (T'.other b o (st b o e) (fun q => by
      rcases mem q with z | z
      · rw [z, nL₀] at e
        cases e
      · exact nmem z)))
    (fun b o e hm => by
      obtain ⟨sl', hs'⟩ := T'.up (st b o e)
      exact ⟨sl', F'.keep _ _ hs'⟩)
  have B₃ : Below A₀ base outer (ktsHeap s'.heap (outer.filterMap (·.frame)) h₀) := ⟨B.stack, fun b o e => T₁.other b o (B.stays b o e) (fun hm => by
    rw [(B.frames.mem hm).1] at e
    cases e), B.frames.of_keeps fun b o e _ => by
    obtain ⟨sl', hs'⟩ := T₁.up e
    exact ⟨_, hs', rfl⟩⟩
  refine k _ T₁ ⟨⟨_, es, ep, F'.keep _ _ hs, hLd, hLk, hLf⟩, S₁, by rw [T₁.size]; exact F.above⟩ (fun p hp => ⟨(N' p hp).1, fun q => ?_, ?_⟩) B₃
  · have := (N' p hp).2.2; rw [q, hs] at this; cases this
  · refine T₁.none_ _ ?_
    cases q : h₀.get? p.1 with
    | none => rfl
    | some o =>
      obtain ⟨sl', hs'⟩ := T'.up (st _ _ q)
      have := (N' p hp).2.2
      rw [hs'] at this
      cases this

theorem callT_plain (B : Below A₀ base outer h₀) (F : Fr h₀ L s.heap m) (N : News h₀ L s.heap news) (hlim : h₀.NoLimit) (hA : A.frames = some (env :: outer)) (hf : env.frame = some L) (hke : env.scope.kind = .function)
    (ho : s.heap.get? f = some fo) (hd : fo.data = .func (fnX name qual params body scope cl dV kV doc pm an cdv ct)) (hcd : s.heap.CodeRec cdv qual) (hroom : A.depth < recursionLimit)
    (hbind : BindsTo s (fnX name qual params body scope cl dV kV doc pm an cdv ct) args binds) (hloc : ∀ y ∈ binds, scope.names.lookup y.1 = some .local)
    (h : ∀ g L' h₁, Fr h₀ L g m → Fr g L' h₁ (fun y => binds.reverse.lookup y) → News g L' h₁ news → Below A base (env :: outer) g → h₀.StaysIn g → (∀ p ∈ news, p.1 < L') →
      wpAny (model prog w) (A.deeper (envX qual scope L' f cdv cl)) (execs body (envX qual scope L' f cdv cl))
        (fun fl s' => LeaveT A₀ base outer ((env :: outer).filterMap (·.frame)) h₀ L m g R (match fl with | .ret v => v | _ => .none) s')
        (fun e s' => wpAny (model prog w) (A.deeper (envX qual scope L' f cdv cl)) (leaving (envX qual scope L' f cdv cl) e) (fun _ s'' => R (.error e) s'') (fun e' s'' => R (.error e') s'') s')
        { s with heap := h₁, toks := s.toks + binds.length })
    (hcell : ∀ x ∈ scope.names, x.2 ≠ .cell) (hco : scope.isCoroutine = false := by rfl) (hgen : scope.isGenerator = false := by rfl) (hk : scope.kind = .function := by rfl) : codeAny (model prog w) A (.call (.ref f) args) R s := by
  obtain ⟨FG, BG, st, lv⟩ := groundT (R := R) B F N hA hf hke
  refine codeAny_call_def (fd := fnX name qual params body scope cl dV kV doc pm an cdv ct) (body := body) (binds := binds) hroom ho hd (hlim.keeps F.keep) hcd rfl hbind hcell hloc (fun h₁ hns hk₁ => ?_) hco hgen hk
  exact wpAny_mono (h _ s.heap.objs.size h₁ FG ⟨hns, fun b o e => hk₁ b o (of_hideAll _ e), Nat.le_of_eq (hideAll_size _ _)⟩
    (fun p hp => ⟨hk₁ _ _ (N p hp).1, Nat.ne_of_lt (Heap.lt_size (N p hp).1), hideAll_none _ (List.mem_map_of_mem hp)⟩) BG st (fun p hp => Heap.lt_size (N p hp).1)) (fun fl s' hl => lv _ _ hl) fun _ _ y => y
theorem callT_cells (B : Below A₀ base outer h₀) (F : Fr h₀ L s.heap m) (N : News h₀ L s.heap news) (hlim : h₀.NoLimit) (hA : A.frames = some (env :: outer)) (hf : env.frame = some L) (hke : env.scope.kind = .function)
    (ho : s.heap.get? f = some fo) (hd : fo.data = .func (fnX name qual params body scope [] dV kV doc pm an cdv ct)) (hcd : s.heap.CodeRec cdv qual) (hroom : A.depth < recursionLimit)
    (hbind : BindsTo s (fnX name qual params body scope [] dV kV doc pm an cdv ct) args binds)
    (hkind : ∀ n, ∀ x ∈ binds, scope.names.lookup x.1 = some .local ∨ (scope.names.lookup x.1 = some .cell ∧ ((cellsFrom n scope.names []).lookup x.1).isSome = true))
    (hnd : ((cellsFrom 0 scope.names []).map (·.1)).Nodup)
    (h : ∀ g L' h₁ tk cells, Fr h₀ L g m → Fr g L' h₁ (bindL (envOfC qual scope L' f cdv).kindOf binds fun _ => none) → News g L' h₁ (cells ++ news) →
      CellsAre (bindC (envOfC qual scope L' f cdv).kindOf binds fun _ => none) (cellsFrom (L' + 1) scope.names []) cells → Below A base (env :: outer) g → h₀.StaysIn g → (∀ p ∈ news, p.1 < L') →
      wpAny (model prog w) (A.deeper (envOfC qual scope L' f cdv)) (execs body (envOfC qual scope L' f cdv))
        (fun fl s' => LeaveT A₀ base outer ((env :: outer).filterMap (·.frame)) h₀ L m g R (match fl with | .ret v => v | _ => .none) s')
        (fun e s' => wpAny (model prog w) (A.deeper (envOfC qual scope L' f cdv)) (leaving (envOfC qual scope L' f cdv) e) (fun _ s'' => R (.error e) s'') (fun e' s'' => R (.error e') s'') s')
        { s with heap := h₁, toks := tk })
    (hco : scope.isCoroutine = false := by rfl) (hgen : scope.isGenerator = false := by rfl) (hk : scope.kind = .function := by rfl) : codeAny (model prog w) A (.call (.ref f) args) R s := by
  obtain ⟨FG, BG, st, lv⟩ := groundT (R := R) B F N hA hf hke
  refine codeAny_call_function hroom ho hd hco hgen rfl hcd (hbind _ _ _ _ ?_)
  refine wpAny_newFunctionEnv_cells hk (hkind _) fun env' he s' x => ?_
  subst he
  refine ⟨(hlim.keeps F.keep).keeps x.toInCall.keep, codeAny_func ?_⟩
  obtain ⟨h₁, tk, rfl, _⟩ := x.done
  have hk₁ := x.toInCall.keep
  obtain ⟨cells, NC, Y⟩ := Cl.news (h₀ := s.heap) (Nat.le_refl _) fun n c hm => ⟨x.cell n c (lookup_of_mem_nodup (cellsFrom_names scope.names 0 (s.heap.objs.size + 1) [] [] rfl ▸ hnd) hm), x.above n c hm⟩
  refine wpAny_mono (h _ s.heap.objs.size h₁ tk cells FG ⟨x.toInCall.ns, fun b o e => hk₁ b o (of_hideAll _ e), Nat.le_of_eq (hideAll_size _ _)⟩ (fun p hp => ?_) Y BG st (fun p hp => Heap.lt_size (N p hp).1)) (fun fl s' hl => lv _ _ hl) fun _ _ y => y
  rcases List.mem_append.mp hp with hp | hp
  · refine ⟨(NC p hp).1, (NC p hp).2.1, ?_⟩
    cases q : (hideAll s.heap (news.map (·.1))).get? p.1 with
    | none => rfl
    | some o => have := of_hideAll _ q; rw [(NC p hp).2.2] at this; cases this
  · exact ⟨hk₁ _ _ (N p hp).1, Nat.ne_of_lt (Heap.lt_size (N p hp).1), hideAll_none _ (List.mem_map_of_mem hp)⟩
end
section
variable {w : World} {A₀ A : Around} {s : Shared} {base h₀ : Heap} {outer : List Env} {L : Addr} {m mg mb : Str → Option Value} {env : Env} {news : List (Addr × Obj)} {K : Frag} {prog p : Program} {loose : List Str} {mean : ExcName → Option Value}
  {R : Result → Shared → Prop} {name qual : Str} {params : Arguments} {body : List Stmt} {scope : Scope} {dV kV doc pm cdv ct oc : Value} {an od : Option Addr} {osl : Array (Option Value)} {f : Addr} {args : Args} {binds : List (Str × Value)}
theorem codeT_def (B : Below A₀ base outer h₀) (F : Fr h₀ L s.heap m) (X₀ : K.In h₀) (N : News h₀ L s.heap news) (T : Top p loose mean mg mb h₀) (hA : A.frames = some (env :: outer)) (hf : env.frame = some L) (hke : env.scope.kind = .function)
    (ho : K.lookup f = some ⟨oc, od, .func (fnOf name qual params body scope dV kV doc pm an cdv ct), osl⟩) (hcd : codeIn K cdv qual = true) (hroom : A.depth < recursionLimit)
    (hbind : BindsTo s (fnOf name qual params body scope dV kV doc pm an cdv ct) args binds) (hloc : ∀ y ∈ binds, scope.names.lookup y.1 = some .local)
    (h : ∀ g L' h₁, Fr h₀ L g m → Fr g L' h₁ (fun y => binds.reverse.lookup y) → News g L' h₁ news → Below A base (env :: outer) g → K.In g → Top p loose mean mg mb g → (∀ p ∈ news, p.1 < L') →
      wpAny (model prog w) (A.deeper (envOf qual scope L' f cdv)) (execs body (envOf qual scope L' f cdv))
        (fun fl s' => LeaveT A₀ base outer ((env :: outer).filterMap (·.frame)) h₀ L m g R (match fl with | .ret v => v | _ => .none) s')
        (fun e s' => wpAny (model prog w) (A.deeper (envOf qual scope L' f cdv)) (leaving (envOf qual scope L' f cdv) e) (fun _ s'' => R (.error e) s'') (fun e' s'' => R (.error e') s'') s')
        { s with heap := h₁, toks := s.toks + binds.length })
    (hco : scope.isCoroutine = false) (hgen : scope.isGenerator = false) (hk : scope.kind = .function)
    (hcell : ∀ x ∈ scope.names, x.2 ≠ .cell) : codeAny (model prog w) A (.call (.ref f) args) R s :=
  callT_plain (cl := []) B F N T.nolimit hA hf hke ((X₀.keeps F.keep) _ _ ho) rfl (codeRec_of (X₀.keeps F.keep) hcd) hroom hbind hloc (fun g L' h₁ FG F' N' B' st l => h g L' h₁ FG F' N' B' (X₀.keeps st) (T.keeps st) l) hcell hco hgen hk
theorem codeT_defC (B : Below A₀ base outer h₀) (F : Fr h₀ L s.heap m) (X₀ : K.In h₀) (N : News h₀ L s.heap news) (T : Top p loose mean mg mb h₀) (hA : A.frames = some (env :: outer)) (hf : env.frame = some L) (hke : env.scope.kind = .function)
    (ho : K.lookup f = some ⟨oc, od, .func (fnOf name qual params body scope dV kV doc pm an cdv ct), osl⟩) (hcd : codeIn K cdv qual = true) (hroom : A.depth < recursionLimit)
    (hbind : BindsTo s (fnOf name qual params body scope dV kV doc pm an cdv ct) args binds) (hkind : (binds.all fun y => scope.names.lookup y.1 == some .local || scope.names.lookup y.1 == some .cell) = true)
    (hnd : ((cellsFrom 0 scope.names []).map (·.1)).Nodup)
    (h : ∀ g L' h₁ tk cells, Fr h₀ L g m → Fr g L' h₁ (bindL (envOfC qual scope L' f cdv).kindOf binds fun _ => none) → News g L' h₁ (cells ++ news) →
      CellsAre (bindC (envOfC qual scope L' f cdv).kindOf binds fun _ => none) (cellsFrom (L' + 1) scope.names []) cells → Below A base (env :: outer) g → K.In g → Top p loose mean mg mb g → (∀ p ∈ news, p.1 < L') →
      wpAny (model prog w) (A.deeper (envOfC qual scope L' f cdv)) (execs body (envOfC qual scope L' f cdv))
        (fun fl s' => LeaveT A₀ base outer ((env :: outer).filterMap (·.frame)) h₀ L m g R (match fl with | .ret v => v | _ => .none) s')
        (fun e s' => wpAny (model prog w) (A.deeper (envOfC qual scope L' f cdv)) (leaving (envOfC qual scope L' f cdv) e) (fun _ s'' => R (.error e) s'') (fun e' s'' => R (.error e') s'') s')
        { s with heap := h₁, toks := tk })
    (hco : scope.isCoroutine = false) (hgen : scope.isGenerator = false) (hk : scope.kind = .function) : codeAny (model prog w) A (.call (.ref f) args) R s :=
  callT_cells B F N T.nolimit hA hf hke ((X₀.keeps F.keep) _ _ ho) rfl (codeRec_of (X₀.keeps F.keep) hcd) hroom hbind (kindsX hkind) hnd (fun g L' h₁ tk cells FG F' N' Y B' st l => h g L' h₁ tk cells FG F' N' Y B' (X₀.keeps st) (T.keeps st) l) hco hgen hk
end
end Mine
end
section
open PySem PySem.W PyProof.Rows PySem.Calls
namespace Mine

section
variable {w : World} {mean : ExcName → Option Value} {mg mb : Str → Option Value} {dp un : Nat} {gd : Option (List Code)} {cn : Str} {cs₁ : Scope} {a : Addr} {ccd : Value} {cl : List (Str × Addr)} {outer : List Env} {A₀ : Around} {base h₀ : Heap} {L : Addr} {m : Str → Option Value} {s : Shared} {Q E : Value → Shared → Prop} {news : List (Addr × Obj)}

theorem words_F1_1 : Flush := by
  (try w_top off)
  k_with_none
  k_with "mine k_ne" => (refine neN ?_; (try dsimp only); first | (refine Nat.ne_of_lt ?_; (repeat (first | exact Nat.lt_add_one _ | refine Nat.lt.step ?_)); done) | (refine Nat.ne_of_gt ?_; (repeat (first | exact Nat.lt_add_one _ | refine Nat.lt.step ?_)); done) | omega)
  k_with "mine spliced" => (k_here; with_reducible (first | refine args_s8 ?_ | refine args_s4 ?_ | refine args_s2 ?_ | refine args_s1 ?_ | refine args_i1 ?_))
  k_with "mine ktr_room" => ((try dsimp only [ktrTop, Around.deeper]); (try simp only [depth_under_make, depth_under_kw, depth_in1, depth_deeper, depth_caller, depth_mark]); (try dsimp only [ktrTop]); first | ((simp only [Nat.add_assoc]); exact room_le (by assumption) (by rfl)) | omega)
  k_with "mine ktr_units" => ((try dsimp only [ktrTop, Around.deeper]); (try simp only [units_in1, units_deeper, Around.mark_units, units_caller]); (try dsimp only [ktrTop]); first | ((simp only [Nat.add_assoc]); exact room_le (by assumption) (by rfl)) | omega)
  k_with "mine exec Raise some none" => (k_here; k_dflt (refine' raise_fault ?hhz1 ?_; (case hhz1 => first | exact rfl | assumption); k_whole))
  k_with "mine call ref" => (k_here; (with_reducible show wpAny _ _ (call (Value.ref 45) [_, _]) _ _ _); k_dflt (refine' fault_make ?k1z2 ?k2z2 ?k3z2 ?k4z2 ?k5z2 ?kKz2 ?kdz2 ?kuz2 ?_; (case k1z2 => k_asm); (case k2z2 => k_asm); (case k3z2 => k_asm); (case k4z2 => k_asm); (case k5z2 => k_asm); (case kKz2 => first | exact rfl | assumption); (case kdz2 => ktr_room); (case kuz2 => ktr_units)); intro h'q9 tk'q9 e'q9 t'q9 d'q9 od'q9 F'q9 hs'q9 N'q9 ne1'q9 ne2'q9; (refine ⟨_, _, _, rfl, (N'q9 _ (.head _)).1, rfl, rfl, rfl, Frag.In.keeps (by k_asm) (Fr.keep F'q9), ?_⟩); (try dsimp only))
  k_with "mine leaving ref" => (k_here; (refine' leave_onF ?k1z3 ?k2z3 ?k3z3 ?k4z3 ?_; (case k3z3 => assumption); (case k1z3 => assumption); (case k2z3 => assumption); (case k4z3 => exact fun q hq => (News.mk (by k_asm) q hq).2.2); intro h'q9 R'q9; (try dsimp only)))
  k_with "mine leaving ref" => (k_here; (refine' leave_raiseF ?k1z4 ?k2z4 ?k3z4 ?k4z4 ?k5z4 ?k6z4 ?_; (case k1z4 => assumption); (case k2z4 => assumption); (case k3z4 => assumption); (case k4z4 => assumption); (case k5z4 => assumption); (case k6z4 => assumption); intro h'q9 R'q9; (try dsimp only)))
  exact trivial
set_option maxRecDepth 100000 in
set_option maxHeartbeats 8000000 in
theorem run_end_spec {text signs : Str} {i : Int} {t1 t2 t3 : Tok}
   (B : Below A₀ base outer h₀) (F : Fr h₀ L s.heap m) (X : (hd.heap_1 w.params).In h₀) (N : News h₀ L s.heap news) (T : Top topProg LZ mean mg mb h₀) (hk : cs₁.kind = .function)
   (hdp : dp + 4 < recursionLimit) (hun : un + 40 < cLine)
   (hi : 0 ≤ i) (hl : text.length ≤ 1048576)
   (hret : i ≤ (runA (cs signs) ((cs text).drop i.toNat) i.toNat : Nat) → ((runA (cs signs) ((cs text).drop i.toNat) i.toNat : Nat) : Int) ≤ text.length ∨ ((runA (cs signs) ((cs text).drop i.toNat) i.toNat : Nat) : Int) = i → ∀ (t : Tok) (h' : Heap) (tk' : Nat), Fr h₀ L h' m → News h₀ L h' news → Q (.int (runA (cs signs) ((cs text).drop i.toNat) i.toNat : Nat) t) { s with heap := h', toks := tk' }) :
   wpAny (model prg w) (ktrTop dp un gd cn cs₁ L a ccd cl outer) (call (.ref 56) [.str text t1, .int i t2, .str signs t3]) Q E s := by
  refine wpAny_call ?_
  k_dflt cell_enter
  skip
  k_with "exec While BoolOp cons nil" => k_while_given ["text", "signs"] (fun text signs script j => i ≤ j ∧ RunP text signs i j) (fun text signs script j => text.length - j.toNat) "at"
  k_with "state" => first | exact ⟨Int.le_refl _, RunP.start _ _ _⟩ | exact ⟨by omega, RunP.step (by assumption) hi (by assumption) (by assumption)⟩
  k_steps
  · have hz := RunP.stop (by assumption) hi (by assumption) (by assumption)
    exact cast_ret (hret (runA_fits hi).1 (runA_fits hi).2 _ _ _ (by assumption) (by assumption)) hz.symm
  · have hz := RunP.last (by assumption) hi (by assumption)
    exact cast_ret (hret (runA_fits hi).1 (runA_fits hi).2 _ _ _ (by assumption) (by assumption)) hz.symm

theorem words_F1_2 : Flush := by
  (try w_top off)
  k_with_none
  k_with "mine k_ne" => (refine neN ?_; (try dsimp only); first | (refine Nat.ne_of_lt ?_; (repeat (first | exact Nat.lt_add_one _ | refine Nat.lt.step ?_)); done) | (refine Nat.ne_of_gt ?_; (repeat (first | exact Nat.lt_add_one _ | refine Nat.lt.step ?_)); done) | omega)
  k_with "mine spliced" => (k_here; with_reducible (first | refine args_s8 ?_ | refine args_s4 ?_ | refine args_s2 ?_ | refine args_s1 ?_ | refine args_i1 ?_))
  k_with "mine ktr_room" => ((try dsimp only [ktrTop, Around.deeper]); (try simp only [depth_under_make, depth_under_kw, depth_in1, depth_deeper, depth_caller, depth_mark]); (try dsimp only [ktrTop]); first | ((simp only [Nat.add_assoc]); exact room_le (by assumption) (by rfl)) | omega)
  k_with "mine ktr_units" => ((try dsimp only [ktrTop, Around.deeper]); (try simp only [units_in1, units_deeper, Around.mark_units, units_caller]); (try dsimp only [ktrTop]); first | ((simp only [Nat.add_assoc]); exact room_le (by assumption) (by rfl)) | omega)
  k_with "mine exec Raise some none" => (k_here; k_dflt (refine' raise_fault ?hhz1 ?_; (case hhz1 => first | exact rfl | assumption); k_whole))
  k_with "mine call ref" => (k_here; (with_reducible show wpAny _ _ (call (Value.ref 45) [_, _]) _ _ _); k_dflt (refine' fault_make ?k1z2 ?k2z2 ?k3z2 ?k4z2 ?k5z2 ?kKz2 ?kdz2 ?kuz2 ?_; (case k1z2 => k_asm); (case k2z2 => k_asm); (case k3z2 => k_asm); (case k4z2 => k_asm); (case k5z2 => k_asm); (case kKz2 => first | exact rfl | assumption); (case kdz2 => ktr_room); (case kuz2 => ktr_units)); intro h'q9 tk'q9 e'q9 t'q9 d'q9 od'q9 F'q9 hs'q9 N'q9 ne1'q9 ne2'q9; (refine ⟨_, _, _, rfl, (N'q9 _ (.head _)).1, rfl, rfl, rfl, Frag.In.keeps (by k_asm) (Fr.keep F'q9), ?_⟩); (try dsimp only))
  k_with "mine leaving ref" => (k_here; (refine' leave_onF ?k1z3 ?k2z3 ?k3z3 ?k4z3 ?_; (case k3z3 => assumption); (case k1z3 => assumption); (case k2z3 => assumption); (case k4z3 => exact fun q hq => (News.mk (by k_asm) q hq).2.2); intro h'q9 R'q9; (try dsimp only)))
  k_with "mine leaving ref" => (k_here; (refine' leave_raiseF ?k1z4 ?k2z4 ?k3z4 ?k4z4 ?k5z4 ?k6z4 ?_; (case k1z4 => assumption); (case k2z4 => assumption); (case k3z4 => assumption); (case k4z4 => assumption); (case k5z4 => assumption); (case k6z4 => assumption); intro h'q9 R'q9; (try dsimp only)))
  exact trivial
set_option maxRecDepth 100000 in
set_option maxHeartbeats 8000000 in
theorem remark_end_spec {text : Str} {i : Int} {t1 t2 : Tok}
   (B : Below A₀ base outer h₀) (F : Fr h₀ L s.heap m) (X : (hd.heap_1 w.params).In h₀) (N : News h₀ L s.heap news) (T : Top topProg LZ mean mg mb h₀) (hk : cs₁.kind = .function)
   (hdp : dp + 4 < recursionLimit) (hun : un + 40 < cLine)
   (hi : 0 ≤ i) (hl : text.length ≤ 1048576)
   (hret : ∀ k : Nat, remA ((cs text).drop i.toNat) i.toNat 0 = some k → ∀ (t : Tok) (h' : Heap) (tk' : Nat), Fr h₀ L h' m → News h₀ L h' news → Q (.int k t) { s with heap := h', toks := tk' })
   (hexc : remA ((cs text).drop i.toNat) i.toNat 0 = none → ∀ (e : Addr) (g₂ h' : Heap) (tk' : Nat), Fr h₀ L g₂ m → RaisedF base g₂ (envX cn cs₁ L a ccd cl :: outer) e i news h' → E (.ref e) { s with heap := h', toks := tk' }) :
   wpAny (model prg w) (ktrTop dp un gd cn cs₁ L a ccd cl outer) (call (.ref 63) [.str text t1, .int i t2]) Q E s := by
  refine wpAny_call ?_
  k_dflt cell_enter
  skip
  k_with "exec While Compare cons nil" => k_while_given ["text"] (fun text script j d => i ≤ j ∧ RemP text i j d) (fun text script j d => text.length - j.toNat) "at" "depth"
  k_with "state" => first | exact ⟨Int.le_refl _, RemP.start _ _⟩ | exact ⟨by omega, RemP.deeper (by assumption) hi (by assumption)⟩ | exact ⟨by omega, RemP.less (by assumption) hi (by assumption) (by assumption)⟩ | exact ⟨by omega, RemP.on (by assumption) hi (by assumption) (by assumption) (by assumption)⟩
  k_steps
  · have hz := RemP.shut (by assumption) hi (by assumption) (by assumption)
    exact cast_ret (hret _ hz _ _ _ (by assumption) (News.few (by assumption) (fun q hq => by repeat (first | exact hq | apply List.Mem.tail)))) (by omega)
  · exact hexc (RemP.none (by assumption) (by assumption)) _ _ _ _ (by assumption) (RaisedF.mono (by assumption) (fun q hq => by repeat (first | exact hq | apply List.Mem.tail)))
end
end Mine
end
section
open PySem PySem.W PyProof.Rows
namespace Mine
abbrev BL : List Nat := [32, 9, 13, 10, 11, 12, 133, 8206, 8207, 8232, 8233]
theorem cs_blanks : cs (Str.ofString " \t\r\n\x0b\x0c\u0085\u200e\u200f\u2028\u2029") = BL := by decide +kernel
theorem cs_line : cs (Str.ofString "//") = [47, 47] := by decide +kernel
inductive BM where
  | norm
  | line
  | rem (b : Nat) (d : Int)
def bl : BM → List Nat → Nat → Except Nat Nat
  | .norm, 47 :: 47 :: r, j => bl .line r (j + 2)
  | .norm, 47 :: 42 :: r, j => bl (.rem j 1) r (j + 2)
  | .norm, c :: r, j => if c ∈ BL then bl .norm r (j + 1) else .ok j
  | .norm, [], j => .ok j
  | .line, c :: r, j => if c = 10 then bl .norm r (j + 1) else bl .line r (j + 1)
  | .line, [], j => .ok j
  | .rem b d, 47 :: 42 :: r, j => bl (.rem b (d + 1)) r (j + 2)
  | .rem b d, 42 :: 47 :: r, j => if d - 1 = 0 then bl .norm r (j + 2) else bl (.rem b (d - 1)) r (j + 2)
  | .rem b d, _ :: r, j => bl (.rem b d) r (j + 1)
  | .rem b _, [], _ => .error b
theorem bl_one {c : Nat} {r : List Nat} {j : Nat} (h1 : ¬ (c :: r).take 2 = [47, 47]) (h2 : ¬ (c :: r).take 2 = [47, 42]) : bl .norm (c :: r) j = if c ∈ BL then bl .norm r (j + 1) else .ok j := by
  rw [bl]
  · intro r' e1 e2; subst e1 e2; exact h1 rfl
  · intro r' e1 e2; subst e1 e2; exact h2 rfl
theorem bl_blank {c : Nat} {r : List Nat} {j : Nat} (h : c ∈ BL) : bl .norm (c :: r) j = bl .norm r (j + 1) := by
  have hc : c ≠ 47 := by rintro rfl; revert h; decide
  rw [bl_one (by intro e; simp at e; exact hc e.1) (by intro e; simp at e; exact hc e.1), if_pos h]
theorem bl_run : ∀ (l : List Nat) (j : Nat), bl .norm l j = bl .norm (l.drop (runA BL l j - j)) (runA BL l j)
  | [], j => by simp [runA]
  | c :: r, j => by
    rw [runA]
    split
    · rename_i h
      have := runA_le BL r (j + 1)
      rw [bl_blank h, bl_run r (j + 1), show runA BL r (j + 1) - j = (runA BL r (j + 1) - (j + 1)) + 1 from by omega, List.drop_succ_cons]
    · simp
theorem remA_le : ∀ (l : List Nat) (j : Nat) (d : Int) (k : Nat), remA l j d = some k → j + 2 ≤ k ∧ k ≤ j + l.length := by
  intro l j d
  fun_induction remA l j d with
  | case1 r j d ih => intro k h; have := ih k h; simp only [List.length_cons]; omega
  | case2 r j d h => intro k h; cases h; simp only [List.length_cons]; omega
  | case3 r j d h ih => intro k h; have := ih k h; simp only [List.length_cons]; omega
  | case4 c r j d h1 h2 ih => intro k h; have := ih k h; simp only [List.length_cons]; omega
  | case5 j d => intro k h; cases h
theorem bl_rem (b : Nat) : ∀ (l : List Nat) (j : Nat) (d : Int), bl (.rem b d) l j = match remA l j d with | none => .error b | some k => bl .norm (l.drop (k - j)) k := by
  intro l j d
  fun_induction remA l j d with
  | case1 r j d ih =>
    rw [bl, ih]
    cases h : remA r (j + 2) (d + 1) with
    | none => rfl
    | some k => have := remA_le _ _ _ _ h; simp only; rw [show k - j = k - (j + 2) + 2 from by omega]; rfl
  | case2 r j d h => rw [bl, if_pos h]; simp
  | case3 r j d h ih =>
    rw [bl, if_neg h, ih]
    cases h : remA r (j + 2) (d - 1) with
    | none => rfl
    | some k => have := remA_le _ _ _ _ h; simp only; rw [show k - j = k - (j + 2) + 2 from by omega]; rfl
  | case4 c r j d h1 h2 ih =>
    rw [bl, ih]
    · cases h : remA r (j + 1) d with
      | none => rfl
      | some k => have := remA_le _ _ _ _ h; simp only; rw [show k - j = k - (j + 1) + 1 from by omega]; rfl
    · exact h1
    · exact h2
  | case5 j d => rw [bl]
def nlA : List Nat → Nat → Nat
  | [], j => j
  | c :: r, j => if c = 10 then j else nlA r (j + 1)
theorem nlA_spec : ∀ (l : List Nat) (j : Nat), j ≤ nlA l j ∧ nlA l j ≤ j + l.length ∧ (∀ k, j ≤ k → k < nlA l j → l[k - j]? ≠ some 10) ∧ (nlA l j < j + l.length → l[nlA l j - j]? = some 10)
  | [], j => by simp [nlA]
  | c :: r, j => by
    rw [nlA]
    split
    · rename_i h; subst h; simp; intro k h1 h2; omega
    · rename_i h
      obtain ⟨a, b, c', d⟩ := nlA_spec r (j + 1)
      refine ⟨by omega, by simp only [List.length_cons]; omega, fun k h1 h2 => ?_, fun h3 => ?_⟩
      · by_cases e : k = j
        · subst e; simpa using h
        · rw [show k - j = k - (j + 1) + 1 from by omega, List.getElem?_cons_succ]
          exact c' k (by omega) h2
      · rw [show nlA r (j + 1) - j = nlA r (j + 1) - (j + 1) + 1 from by omega, List.getElem?_cons_succ]
        exact d (by simp only [List.length_cons] at h3; omega)
theorem bl_line : ∀ (l : List Nat) (j : Nat), bl .line l j = bl .norm (l.drop (nlA l j - j)) (nlA l j)
  | [], j => by simp [nlA, bl]
  | c :: r, j => by
    rw [nlA, bl]
    split
    · rename_i h; subst h; rw [Nat.sub_self, List.drop_zero, bl_blank (by decide)]
    · have := (nlA_spec r (j + 1)).1
      rw [bl_line r (j + 1), show nlA r (j + 1) - j = nlA r (j + 1) - (j + 1) + 1 from by omega, List.drop_succ_cons]
theorem find_nl (x : Str) {j : Int} (h0 : 0 ≤ j) (h1 : j ≤ x.length) : (Txt.find3 x (Str.ofString "\n") j < 0 → ((nlA ((cs x).drop j.toNat) j.toNat : Nat) : Int) = x.length) ∧ (¬ Txt.find3 x (Str.ofString "\n") j < 0 → ((nlA ((cs x).drop j.toNat) j.toNat : Nat) : Int) = Txt.find3 x (Str.ofString "\n") j) := by
  rw [show Str.ofString "\n" = ⟨#[10]⟩ from by decide +kernel]
  have hl : x.cps.toList.length = x.length := cs_length x
  obtain ⟨a, b, c, d⟩ := nlA_spec ((cs x).drop j.toNat) j.toNat
  have hlen : ((cs x).drop j.toNat).length = x.length - j.toNat := by rw [List.length_drop, cs_length]
  have get : ∀ k, j.toNat ≤ k → ((cs x).drop j.toNat)[k - j.toNat]? = (cs x)[k]? := fun k hk => by rw [List.getElem?_drop, show j.toNat + (k - j.toNat) = k from by omega]
  unfold Txt.find3
  rw [show fromIndex x.length j = j.toNat from by unfold fromIndex; rw [if_neg (by omega)]; omega]
  rcases StrLaws.occ_head_from x ⟨#[10]⟩ j.toNat 1 (by decide) with ⟨e, hn⟩ | ⟨i, r, e, hi, hAt, hlt⟩
  · rw [e]
    refine ⟨fun _ => ?_, fun h => absurd (show (-1 : Int) < 0 from by decide) h⟩
    by_cases q : nlA ((cs x).drop j.toNat) j.toNat < j.toNat + ((cs x).drop j.toNat).length
    · have h10 := d q
      rw [get _ a] at h10
      exact absurd ((StrLaws.subAt_one x 10 _).mpr h10) (hn _ a)
    · omega
  · rw [e]
    have h10 := (StrLaws.subAt_one x 10 i).mp hAt
    refine ⟨fun h => absurd h (by simp only; omega), fun _ => ?_⟩
    have hlt' : i < x.length := by
      have := (List.getElem?_eq_some_iff.mp h10).1; omega
    have n1 : ¬ i < nlA ((cs x).drop j.toNat) j.toNat := fun q => c i hi q (by rw [get i hi]; exact h10)
    have n2 : ¬ nlA ((cs x).drop j.toNat) j.toNat < i := fun q => by
      have h10' := d (by omega)
      rw [get _ a] at h10'
      exact hlt _ a q ((StrLaws.subAt_one x 10 _).mpr h10')
    simp only
    omega

def BlP (text : Str) (i j : Int) : Prop := bl .norm ((cs text).drop j.toNat) j.toNat = bl .norm ((cs text).drop i.toNat) i.toNat
theorem BlP.start (text : Str) (i : Int) : BlP text i i := rfl
theorem in_blanks {text : Str} {j : Int} {b : Bool} (hj : 0 ≤ j) (h1 : j < text.length) (h2 : (PySem.Builtin.Str.occurrences (Str.ofString " \t\r\n\x0b\x0c\u0085\u200e\u200f\u2028\u2029") (Txt.item text j) 0 (Str.ofString " \t\r\n\x0b\x0c\u0085\u200e\u200f\u2028\u2029").length 1).isEmpty = b) :
    decide ((cs text)[j.toNat]'(by rw [cs_length]; omega) ∈ BL) = !b := by
  have hm := in_one (Str.ofString " \t\r\n\x0b\x0c\u0085\u200e\u200f\u2028\u2029") ((cs text)[j.toNat]'(by rw [cs_length]; omega))
  rw [← item_list text (by omega) h1, h2, cs_blanks] at hm
  exact hm.symm
theorem drop_nat {l : List Nat} {a b : Nat} (h : a ≤ b) : (l.drop a).drop (b - a) = l.drop b := by rw [List.drop_drop, show a + (b - a) = b from by omega]
theorem BlP.blank {text : Str} {i j : Int} (h : BlP text i j) (hj : 0 ≤ j) : BlP text i (runA (cs (Str.ofString " \t\r\n\x0b\x0c\u0085\u200e\u200f\u2028\u2029")) ((cs text).drop j.toNat) j.toNat : Nat) := by
  unfold BlP at *
  rw [cs_blanks, Int.toNat_natCast, ← h, bl_run ((cs text).drop j.toNat) j.toNat, drop_nat (runA_le BL _ _).1]
theorem run_grows {text : Str} {j : Int} (h1 : j < text.length) (h2 : (PySem.Builtin.Str.occurrences (Str.ofString " \t\r\n\x0b\x0c\u0085\u200e\u200f\u2028\u2029") (Txt.item text j) 0 (Str.ofString " \t\r\n\x0b\x0c\u0085\u200e\u200f\u2028\u2029").length 1).isEmpty = false) (hj : 0 ≤ j) : j < (runA (cs (Str.ofString " \t\r\n\x0b\x0c\u0085\u200e\u200f\u2028\u2029")) ((cs text).drop j.toNat) j.toNat : Nat) := by
  have hm := in_blanks hj h1 h2
  rw [cs_blanks, drop_cons text (i := j) (by omega) h1, runA, if_pos (of_decide_eq_true hm)]
  have := (runA_le BL ((cs text).drop (j + 1).toNat) (j.toNat + 1)).1
  omega
theorem bl_slash {text : Str} {j : Int} (hj : 0 ≤ j) (h : (Txt.slice text (some j) (some (j + 2)) == Str.ofString "//") = true) : bl .norm ((cs text).drop j.toNat) j.toNat = bl .norm ((cs text).drop (nlA ((cs text).drop j.toNat) j.toNat)) (nlA ((cs text).drop j.toNat) j.toNat) ∧ j + 2 ≤ (nlA ((cs text).drop j.toNat) j.toNat : Nat) := by
  rw [sl2 hj, cs_line, decide_eq_true_eq] at h
  have e := drop_two hj h
  have n : nlA ((cs text).drop j.toNat) j.toNat = nlA ((cs text).drop (j + 2).toNat) (j + 2).toNat := by
    rw [e, nlA, if_neg (by decide), nlA, if_neg (by decide), show (j + 2).toNat = j.toNat + 1 + 1 from by omega]
  have le := (nlA_spec ((cs text).drop (j + 2).toNat) (j + 2).toNat).1
  rw [n]
  refine ⟨?_, by omega⟩
  conv => lhs; rw [e]
  rw [bl, show j.toNat + 2 = (j + 2).toNat from by omega, bl_line, drop_nat le]
theorem BlP.line0 {text : Str} {i j : Int} (h : BlP text i j) (hj : 0 ≤ j) (h0 : j < text.length) (h1 : (Txt.slice text (some j) (some (j + 2)) == Str.ofString "//") = true) (h2 : Txt.find3 text (Str.ofString "\n") j < 0) : BlP text i text.length := by
  have e := (find_nl text hj (by omega)).1 h2
  have q := bl_slash hj h1
  unfold BlP at *
  rw [← h, q.1]
  rw [show nlA ((cs text).drop j.toNat) j.toNat = text.length from by omega, Int.toNat_natCast]
theorem BlP.line1 {text : Str} {i j : Int} (h : BlP text i j) (hj : 0 ≤ j) (h0 : j < text.length) (h1 : (Txt.slice text (some j) (some (j + 2)) == Str.ofString "//") = true) (h2 : ¬ Txt.find3 text (Str.ofString "\n") j < 0) : BlP text i (Txt.find3 text (Str.ofString "\n") j) := by
  have e := (find_nl text hj (by omega)).2 h2
  have q := bl_slash hj h1
  unfold BlP at *
  rw [← h, q.1, ← e, Int.toNat_natCast]
theorem line_grows {text : Str} {j : Int} (h0 : j < text.length) (h1 : (Txt.slice text (some j) (some (j + 2)) == Str.ofString "//") = true) (h2 : ¬ Txt.find3 text (Str.ofString "\n") j < 0) (hj : 0 ≤ j) : j + 2 ≤ Txt.find3 text (Str.ofString "\n") j := by
  have e := (find_nl text hj (by omega)).2 h2
  have q := bl_slash hj h1
  omega
theorem bl_star {text : Str} {j : Int} (hj : 0 ≤ j) (h : (Txt.slice text (some j) (some (j + 2)) == Str.ofString "/*") = true) : bl .norm ((cs text).drop j.toNat) j.toNat = match remA ((cs text).drop j.toNat) j.toNat 0 with | none => .error j.toNat | some k => bl .norm ((cs text).drop k) k := by
  rw [sl2 hj, cs_open, decide_eq_true_eq] at h
  have e := drop_two hj h
  conv => lhs; rw [e]
  rw [bl, bl_rem, e, remA, show j.toNat + 2 = (j + 2).toNat from by omega, Int.zero_add]
  cases q : remA ((cs text).drop (j + 2).toNat) (j + 2).toNat 1 with
  | none => rfl
  | some k => have := remA_le _ _ _ _ q; simp only; rw [drop_nat (by omega)]
theorem BlP.rem {text : Str} {i j : Int} {k : Nat} (h : BlP text i j) (hj : 0 ≤ j) (h1 : (Txt.slice text (some j) (some (j + 2)) == Str.ofString "/*") = true) (h2 : remA ((cs text).drop j.toNat) j.toNat 0 = some k) : BlP text i k := by
  have q := bl_star hj h1
  rw [h2] at q
  unfold BlP at *
  rw [← h, q, Int.toNat_natCast]
theorem rem_grows {text : Str} {j : Int} {k : Nat} (h2 : remA ((cs text).drop j.toNat) j.toNat 0 = some k) (hj : 0 ≤ j) : j + 2 ≤ k := by
  have := remA_le _ _ _ _ h2; omega
theorem BlP.open {text : Str} {i j : Int} (h : BlP text i j) (hj : 0 ≤ j) (h1 : (Txt.slice text (some j) (some (j + 2)) == Str.ofString "/*") = true) (h2 : remA ((cs text).drop j.toNat) j.toNat 0 = none) : bl .norm ((cs text).drop i.toNat) i.toNat = .error j.toNat := by
  have q := bl_star hj h1
  rw [h2] at q
  unfold BlP at h
  rw [← h, q]
theorem BlP.stop {text : Str} {i j : Int} (h : BlP text i j) (hj : 0 ≤ j) (h0 : j < text.length) (h2 : (PySem.Builtin.Str.occurrences (Str.ofString " \t\r\n\x0b\x0c\u0085\u200e\u200f\u2028\u2029") (Txt.item text j) 0 (Str.ofString " \t\r\n\x0b\x0c\u0085\u200e\u200f\u2028\u2029").length 1).isEmpty = true)
    (h3 : (Txt.slice text (some j) (some (j + 2)) == Str.ofString "//") = false) (h4 : (Txt.slice text (some j) (some (j + 2)) == Str.ofString "/*") = false) : bl .norm ((cs text).drop i.toNat) i.toNat = .ok j.toNat := by
  have hm := in_blanks hj h0 h2
  rw [sl2 hj, cs_line, decide_eq_false_iff_not] at h3
  rw [sl2 hj, cs_open, decide_eq_false_iff_not] at h4
  unfold BlP at h
  rw [← h]
  rw [drop_cons text (i := j) (by omega) h0] at h3 h4 ⊢
  rw [bl_one h3 h4, if_neg (of_decide_eq_false hm)]
theorem BlP.last {text : Str} {i j : Int} (h : BlP text i j) (h0 : ¬ j < text.length) : bl .norm ((cs text).drop i.toNat) i.toNat = .ok j.toNat := by
  unfold BlP at h
  rw [← h, drop_end text (by omega), bl]
end Mine
end
section
open PySem PySem.W PyProof.Rows PySem.Calls
namespace Mine


section
variable {w : World} {mean : ExcName → Option Value} {mg mb : Str → Option Value} {dp un : Nat} {gd : Option (List Code)} {cn : Str} {cs₁ : Scope} {a : Addr} {ccd : Value} {cl : List (Str × Addr)} {outer : List Env} {A₀ : Around} {base h₀ : Heap} {L : Addr} {m : Str → Option Value} {s : Shared} {Q E : Value → Shared → Prop} {news : List (Addr × Obj)}

theorem words_F2_1 : Flush := by
  (try w_top off)
  k_with_none
  k_with "mine k_ne" => (refine neN ?_; (try dsimp only); first | (refine Nat.ne_of_lt ?_; (repeat (first | exact Nat.lt_add_one _ | refine Nat.lt.step ?_)); done) | (refine Nat.ne_of_gt ?_; (repeat (first | exact Nat.lt_add_one _ | refine Nat.lt.step ?_)); done) | omega)
  k_with "mine spliced" => (k_here; with_reducible (first | refine args_s8 ?_ | refine args_s4 ?_ | refine args_s2 ?_ | refine args_s1 ?_ | refine args_i1 ?_))
  k_with "mine ktr_room" => ((try dsimp only [ktrTop, Around.deeper]); (try simp only [depth_under_make, depth_under_kw, depth_in1, depth_deeper, depth_caller, depth_mark]); (try dsimp only [ktrTop]); first | ((simp only [Nat.add_assoc]); exact room_le (by assumption) (by rfl)) | omega)
  k_with "mine ktr_units" => ((try dsimp only [ktrTop, Around.deeper]); (try simp only [units_in1, units_deeper, Around.mark_units, units_caller]); (try dsimp only [ktrTop]); first | ((simp only [Nat.add_assoc]); exact room_le (by assumption) (by rfl)) | omega)
  k_with "mine exec Raise some none" => (k_here; k_dflt (refine' raise_fault ?hhz1 ?_; (case hhz1 => first | exact rfl | assumption); k_whole))
  k_with "mine call ref" => (k_here; (with_reducible show wpAny _ _ (call (Value.ref 45) [_, _]) _ _ _); k_dflt (refine' fault_make ?k1z2 ?k2z2 ?k3z2 ?k4z2 ?k5z2 ?kKz2 ?kdz2 ?kuz2 ?_; (case k1z2 => k_asm); (case k2z2 => k_asm); (case k3z2 => k_asm); (case k4z2 => k_asm); (case k5z2 => k_asm); (case kKz2 => first | exact rfl | assumption); (case kdz2 => ktr_room); (case kuz2 => ktr_units)); intro h'q9 tk'q9 e'q9 t'q9 d'q9 od'q9 F'q9 hs'q9 N'q9 ne1'q9 ne2'q9; (refine ⟨_, _, _, rfl, (N'q9 _ (.head _)).1, rfl, rfl, rfl, Frag.In.keeps (by k_asm) (Fr.keep F'q9), ?_⟩); (try dsimp only))
  k_with "mine leaving ref" => (k_here; (refine' leave_onF ?k1z3 ?k2z3 ?k3z3 ?k4z3 ?_; (case k3z3 => assumption); (case k1z3 => assumption); (case k2z3 => assumption); (case k4z3 => exact fun q hq => (News.mk (by k_asm) q hq).2.2); intro h'q9 R'q9; (try dsimp only)))
  k_with "mine leaving ref" => (k_here; (refine' leave_raiseF ?k1z4 ?k2z4 ?k3z4 ?k4z4 ?k5z4 ?k6z4 ?_; (case k1z4 => assumption); (case k2z4 => assumption); (case k3z4 => assumption); (case k4z4 => assumption); (case k5z4 => assumption); (case k6z4 => assumption); intro h'q9 R'q9; (try dsimp only)))
  k_with "mine call ref" => (k_here; (with_reducible show wpAny _ _ (call (Value.ref 56) _) _ _ _); k_dflt (refine' run_end_spec ?k1z5 ?k2z5 ?k3z5 ?k4z5 ?k5z5 ?kKz5 ?kdz5 ?kuz5 ?p0z5 ?p1z5 ?_; (case k1z5 => k_asm); (case k2z5 => k_asm); (case k3z5 => k_asm); (case k4z5 => k_asm); (case k5z5 => k_asm); (case kKz5 => first | exact rfl | assumption); (case kdz5 => ktr_room); (case kuz5 => ktr_units); (case p0z5 => first | assumption | omega | (size_fits; done)); (case p1z5 => first | assumption | omega | (size_fits; done)); skip); (intro hr1'q9 hr2'q9 t'q9 h'q9 tk'q9 F'q9 N'q9; (try dsimp only); (try k_fold)))
  k_with "mine call ref" => (k_here; (with_reducible show wpAny _ _ (call (Value.ref 63) _) _ _ _); k_dflt (refine' remark_end_spec ?k1z6 ?k2z6 ?k3z6 ?k4z6 ?k5z6 ?kKz6 ?kdz6 ?kuz6 ?p0z6 ?p1z6 ?_ ?_; (case k1z6 => k_asm); (case k2z6 => k_asm); (case k3z6 => k_asm); (case k4z6 => k_asm); (case k5z6 => k_asm); (case kKz6 => first | exact rfl | assumption); (case kdz6 => ktr_room); (case kuz6 => ktr_units); (case p0z6 => first | assumption | omega | (size_fits; done)); (case p1z6 => first | assumption | omega | (size_fits; done)); skip); (intro k'q9 hz'q9 t'q9 h'q9 tk'q9 F'q9 N'q9; (try dsimp only); (try k_fold)); rotate_left; (intro hz'q9 e'q9 g'q9 h'q9 tk'q9 G'q9 R'q9; (try dsimp only)); rotate_left)
  exact trivial
set_option maxRecDepth 100000 in
set_option maxHeartbeats 8000000 in
theorem blank_end_spec {text : Str} {i : Int} {t1 t2 : Tok}
   (B : Below A₀ base outer h₀) (F : Fr h₀ L s.heap m) (X : (hd.heap_1 w.params).In h₀) (N : News h₀ L s.heap news) (T : Top topProg LZ mean mg mb h₀) (hk : cs₁.kind = .function)
   (hdp : dp + 6 < recursionLimit) (hun : un + 60 < cLine)
   (hi : 0 ≤ i) (hl : text.length ≤ 1048576)
   (hret : ∀ k : Nat, bl .norm ((cs text).drop i.toNat) i.toNat = .ok k → ∀ (t : Tok) (h' : Heap) (tk' : Nat), Fr h₀ L h' m → News h₀ L h' news → Q (.int k t) { s with heap := h', toks := tk' })
   (hexc : ∀ p : Nat, bl .norm ((cs text).drop i.toNat) i.toNat = .error p → ∀ (e : Addr) (g₂ h' : Heap) (tk' : Nat), Fr h₀ L g₂ m → RaisedF base g₂ (envX cn cs₁ L a ccd cl :: outer) e p news h' → E (.ref e) { s with heap := h', toks := tk' }) :
   wpAny (model prg w) (ktrTop dp un gd cn cs₁ L a ccd cl outer) (call (.ref 70) [.str text t1, .int i t2]) Q E s := by
  refine wpAny_call ?_
  k_dflt cell_enter
  skip
  k_with "exec While Compare cons nil" => k_while_given ["text"] (fun text script j => i ≤ j ∧ BlP text i j) (fun text script j => text.length - j.toNat) "at"
  k_with "state" => (try dsimp only) <;> first
    | exact ⟨Int.le_refl _, BlP.start _ _⟩
    | (have hz := run_grows (by assumption) (by assumption) (by omega); exact ⟨by omega, BlP.blank (by assumption) (by omega)⟩)
    | (have hz := line_grows (by assumption) (by assumption) (by assumption) (by omega); exact ⟨by omega, BlP.line1 (by assumption) (by omega) (by assumption) (by assumption) (by assumption)⟩)
    | exact ⟨by omega, BlP.line0 (by assumption) (by omega) (by assumption) (by assumption) (by assumption)⟩
    | (have hz := rem_grows (by assumption) (by omega); exact ⟨by omega, BlP.rem (by assumption) (by omega) (by assumption) (by assumption)⟩)
  k_with "measure" => first
    | omega
    | (have hz := run_grows (by assumption) (by assumption) (by omega); omega)
    | (have hz := line_grows (by assumption) (by assumption) (by assumption) (by omega); omega)
    | (have hz := rem_grows (by assumption) (by omega); omega)
  k_steps
  · exact hexc _ (BlP.open (by assumption) (by omega) (by assumption) (by assumption)) _ _ _ _ (by assumption) (raised_cast (by assumption) (by omega))
  · have hz := BlP.stop (by assumption) (by omega) (by assumption) (by assumption) (by assumption) (by assumption)
    exact cast_ret (hret _ hz _ _ _ (by assumption) (by assumption)) (by omega)
  · have hz := BlP.last (by assumption) (by assumption)
    exact cast_ret (hret _ hz _ _ _ (by assumption) (by assumption)) (by omega)
end
end Mine
end
section
open PySem PySem.W PyProof.Rows
namespace Mine
def worthS (sign : Str) : Int := if 0 ≤ Txt.find (Str.ofString "0123456789abcdef") (Txt.lower sign) then Txt.find (Str.ofString "0123456789abcdef") (Txt.lower sign) else 99
def baseA : List Nat → Int × Nat
  | 48 :: 120 :: _ => (16, 2)
  | 48 :: 111 :: _ => (8, 2)
  | 48 :: 98 :: _ => (2, 2)
  | _ => (10, 0)
theorem cs_0x : cs (Str.ofString "0x") = [48, 120] := by decide +kernel
theorem cs_0o : cs (Str.ofString "0o") = [48, 111] := by decide +kernel
theorem cs_0b : cs (Str.ofString "0b") = [48, 98] := by decide +kernel
theorem base_of {text y : Str} {i : Int} {c : Nat} (h : Txt.slice text (some i) (some (i + 2)) = y) (hi : 0 ≤ i) (hy : cs y = [48, c]) : (cs text).drop i.toNat = 48 :: c :: ((cs text).drop i.toNat).drop 2 := by
  have : (Txt.slice text (some i) (some (i + 2)) == y) = true := beq_iff_eq.mpr h
  rw [sl2 hi, decide_eq_true_eq, hy] at this
  exact take2 this
theorem base_x {text : Str} {i : Int} (h : Txt.slice text (some i) (some (i + 2)) = Str.ofString "0x") (hi : 0 ≤ i) : baseA ((cs text).drop i.toNat) = (16, 2) := by
  rw [base_of h hi cs_0x]; rfl
theorem base_o {text : Str} {i : Int} (h : Txt.slice text (some i) (some (i + 2)) = Str.ofString "0o") (hi : 0 ≤ i) : baseA ((cs text).drop i.toNat) = (8, 2) := by
  rw [base_of h hi cs_0o]; rfl
theorem base_b {text : Str} {i : Int} (h : Txt.slice text (some i) (some (i + 2)) = Str.ofString "0b") (hi : 0 ≤ i) : baseA ((cs text).drop i.toNat) = (2, 2) := by
  rw [base_of h hi cs_0b]; rfl
theorem base_10 {text : Str} {i : Int} (h : ¬ (Txt.slice text (some i) (some (i + 2)) = Str.ofString "0x" ∨ Txt.slice text (some i) (some (i + 2)) = Str.ofString "0o" ∨ Txt.slice text (some i) (some (i + 2)) = Str.ofString "0b")) (hi : 0 ≤ i) : baseA ((cs text).drop i.toNat) = (10, 0) := by
  have key : ∀ (y : Str) (c : Nat), cs y = [48, c] → ¬ Txt.slice text (some i) (some (i + 2)) = y → ¬ ((cs text).drop i.toNat).take 2 = [48, c] := fun y c hy hn q => hn (beq_iff_eq.mp (by rw [sl2 hi, decide_eq_true_eq, hy]; exact q))
  have k1 := key _ _ cs_0x fun q => h (.inl q)
  have k2 := key _ _ cs_0o fun q => h (.inr (.inl q))
  have k3 := key _ _ cs_0b fun q => h (.inr (.inr q))
  unfold baseA
  split
  · rename_i e; rw [e] at k1; simp at k1
  · rename_i e; rw [e] at k2; simp at k2
  · rename_i e; rw [e] at k3; simp at k3
  · rfl
end Mine
end
section
open PySem PySem.W PyProof.Rows PySem.Calls
namespace Mine

section
variable {w : World} {mean : ExcName → Option Value} {mg mb : Str → Option Value} {dp un : Nat} {gd : Option (List Code)} {cn : Str} {cs₁ : Scope} {a : Addr} {ccd : Value} {cl : List (Str × Addr)} {outer : List Env} {A₀ : Around} {base h₀ : Heap} {L : Addr} {m : Str → Option Value} {s : Shared} {Q E : Value → Shared → Prop} {news : List (Addr × Obj)}

theorem words_F3_1 : Flush := by
  (try w_top off)
  k_with_none
  k_with "mine k_ne" => (refine neN ?_; (try dsimp only); first | (refine Nat.ne_of_lt ?_; (repeat (first | exact Nat.lt_add_one _ | refine Nat.lt.step ?_)); done) | (refine Nat.ne_of_gt ?_; (repeat (first | exact Nat.lt_add_one _ | refine Nat.lt.step ?_)); done) | omega)
  k_with "mine spliced" => (k_here; with_reducible (first | refine args_s8 ?_ | refine args_s4 ?_ | refine args_s2 ?_ | refine args_s1 ?_ | refine args_i1 ?_))
  k_with "mine ktr_room" => ((try dsimp only [ktrTop, Around.deeper]); (try simp only [depth_under_make, depth_under_kw, depth_in1, depth_deeper, depth_caller, depth_mark]); (try dsimp only [ktrTop]); first | ((simp only [Nat.add_assoc]); exact room_le (by assumption) (by rfl)) | omega)
  k_with "mine ktr_units" => ((try dsimp only [ktrTop, Around.deeper]); (try simp only [units_in1, units_deeper, Around.mark_units, units_caller]); (try dsimp only [ktrTop]); first | ((simp only [Nat.add_assoc]); exact room_le (by assumption) (by rfl)) | omega)
  k_with "mine exec Raise some none" => (k_here; k_dflt (refine' raise_fault ?hhz1 ?_; (case hhz1 => first | exact rfl | assumption); k_whole))
  k_with "mine call ref" => (k_here; (with_reducible show wpAny _ _ (call (Value.ref 45) [_, _]) _ _ _); k_dflt (refine' fault_make ?k1z2 ?k2z2 ?k3z2 ?k4z2 ?k5z2 ?kKz2 ?kdz2 ?kuz2 ?_; (case k1z2 => k_asm); (case k2z2 => k_asm); (case k3z2 => k_asm); (case k4z2 => k_asm); (case k5z2 => k_asm); (case kKz2 => first | exact rfl | assumption); (case kdz2 => ktr_room); (case kuz2 => ktr_units)); intro h'q9 tk'q9 e'q9 t'q9 d'q9 od'q9 F'q9 hs'q9 N'q9 ne1'q9 ne2'q9; (refine ⟨_, _, _, rfl, (N'q9 _ (.head _)).1, rfl, rfl, rfl, Frag.In.keeps (by k_asm) (Fr.keep F'q9), ?_⟩); (try dsimp only))
  k_with "mine leaving ref" => (k_here; (refine' leave_onF ?k1z3 ?k2z3 ?k3z3 ?k4z3 ?_; (case k3z3 => assumption); (case k1z3 => assumption); (case k2z3 => assumption); (case k4z3 => exact fun q hq => (News.mk (by k_asm) q hq).2.2); intro h'q9 R'q9; (try dsimp only)))
  k_with "mine leaving ref" => (k_here; (refine' leave_raiseF ?k1z4 ?k2z4 ?k3z4 ?k4z4 ?k5z4 ?k6z4 ?_; (case k1z4 => assumption); (case k2z4 => assumption); (case k3z4 => assumption); (case k4z4 => assumption); (case k5z4 => assumption); (case k6z4 => assumption); intro h'q9 R'q9; (try dsimp only)))
  exact trivial
set_option maxRecDepth 100000 in
set_option maxHeartbeats 8000000 in
theorem figure_worth_spec {sign : Str} {t1 : Tok}
   (B : Below A₀ base outer h₀) (F : Fr h₀ L s.heap m) (X : (hd.heap_1 w.params).In h₀) (N : News h₀ L s.heap news) (T : Top topProg LZ mean mg mb h₀) (hk : cs₁.kind = .function)
   (hdp : dp + 4 < recursionLimit) (hun : un + 40 < cLine)
   (hl : sign.length ≤ 1048576)
   (hret : ∀ (t : Tok) (h' : Heap) (tk' : Nat), Fr h₀ L h' m → News h₀ L h' news → Q (.int (worthS sign) t) { s with heap := h', toks := tk' }) :
   wpAny (model prg w) (ktrTop dp un gd cn cs₁ L a ccd cl outer) (call (.ref 77) [.str sign t1]) Q E s := by
  refine wpAny_call ?_
  k_dflt cell_enter
  skip
  k_steps
  · refine cast_retI (hret _ _ _ (by assumption) (by assumption)) ?_
    unfold worthS; rw [if_pos (by assumption)]
  · refine cast_retI (hret _ _ _ (by assumption) (by assumption)) ?_
    unfold worthS; rw [if_neg (by assumption)]
set_option maxRecDepth 100000 in
set_option maxHeartbeats 8000000 in
theorem base_at_spec {text : Str} {i : Int} {t1 t2 : Tok}
   (B : Below A₀ base outer h₀) (F : Fr h₀ L s.heap m) (X : (hd.heap_1 w.params).In h₀) (N : News h₀ L s.heap news) (T : Top topProg LZ mean mg mb h₀) (hk : cs₁.kind = .function)
   (hdp : dp + 4 < recursionLimit) (hun : un + 40 < cLine)
   (hl : text.length ≤ 1048576) (hi : 0 ≤ i)
   (hret : ∀ (D : Addr) (b j : Int) (tb tj : Tok) (h' : Heap) (tk' : Nat), (baseA ((cs text).drop i.toNat)).1 = b → 2 ≤ b → b ≤ 16 → i + (baseA ((cs text).drop i.toNat)).2 = j → Fr h₀ L h' m → News h₀ L h' ((D, tupO [.int b tb, .int j tj]) :: news) → (∀ p ∈ news, p.1 < D) → Q (.ref D) { s with heap := h', toks := tk' }) :
   wpAny (model prg w) (ktrTop dp un gd cn cs₁ L a ccd cl outer) (call (.ref 84) [.str text t1, .int i t2]) Q E s := by
  refine wpAny_call ?_
  k_dflt cell_enter
  skip
  k_steps
  · have hz := base_x (by assumption) hi
    exact hret _ _ _ _ _ _ _ (by rw [hz]) (by decide) (by decide) (by rw [hz]) (by assumption) (News.swap_drop (by assumption)) (lt_all (And.right (by assumption)))
  · have hz := base_o (by assumption) hi
    exact hret _ _ _ _ _ _ _ (by rw [hz]) (by decide) (by decide) (by rw [hz]) (by assumption) (News.swap_drop (by assumption)) (lt_all (And.right (by assumption)))
  · have hz := base_b (by assumption) hi
    exact hret _ _ _ _ _ _ _ (by rw [hz]) (by decide) (by decide) (by rw [hz]) (by assumption) (News.swap_drop (by assumption)) (lt_all (And.right (by assumption)))
  · rename (Option.isSome _ = true) => hq
    rw [look3] at hq
    simp_all
  · rename (Option.isSome _ = false) => hq
    rw [look3] at hq
    have hz := base_10 (of_decide_eq_false hq) hi
    exact hret _ _ i _ _ _ _ (by rw [hz]) (by decide) (by decide) (by rw [hz]; simp) (by assumption) (News.swap_drop (by assumption)) (lt_all (And.right (by assumption)))
end
end Mine
end
section
open PySem PySem.W PyProof.Rows PySem.Calls
namespace Mine
abbrev NS : List Nat := cs (Str.ofString "abcdefghijklmnopqrstuvwxyzABCDEFGHIJKLMNOPQRSTUVWXYZ_0123456789")
abbrev KINDS : List Str := [Str.ofString "i8", Str.ofString "i16", Str.ofString "i32", Str.ofString "i64", Str.ofString "u8", Str.ofString "u16", Str.ofString "u32", Str.ofString "u64", Str.ofString "usize"]
structure Wd where
  tag : Str
  txt : List Nat
  at_ : Int
  val : Option Int
  kind : Option (List Nat)
deriving DecidableEq
abbrev optI : Option Int → Tok → Value
  | none, _ => .none
  | some v, t => .int v t
abbrev optS : Option (List Nat) → Tok → Value
  | none, _ => .none
  | some v, t => .str ⟨v.toArray⟩ t
abbrev wordO (wd : Wd) (t1 t2 t3 t4 t5 : Tok) : Obj := tupO [.str wd.tag t1, .str ⟨wd.txt.toArray⟩ t2, .int wd.at_ t3, optI wd.val t4, optS wd.kind t5]
def figA (b : Int) : List Nat → Nat → Int → Int → Option (Nat × Int × Int)
  | [], j, v, m => some (j, v, m)
  | c :: r, j, v, m =>
    if c = 95 then (if v ≥ 10000000000000000000000000000000000000000 then none else figA b r (j + 1) v m)
    else if worthS ⟨#[c]⟩ < b then (if v * b + worthS ⟨#[c]⟩ ≥ 10000000000000000000000000000000000000000 then none else figA b r (j + 1) (v * b + worthS ⟨#[c]⟩) (m + 1))
    else some (j, v, m)
def intA (l : List Nat) (i : Nat) : Except Nat (Wd × Nat) :=
  match figA (baseA l).1 (l.drop (baseA l).2) (i + (baseA l).2) 0 0 with
  | none => .error i
  | some (j, v, m) => if m = 0 then .error i else
    if (l.drop (j - i)).take (runA NS (l.drop (j - i)) j - j) ≠ [] ∧ KINDS.any (fun k => cs k == (l.drop (j - i)).take (runA NS (l.drop (j - i)) j - j)) = false then .error j
    else .ok (⟨Str.ofString "int", l.take (runA NS (l.drop (j - i)) j - i), i, some v, if (l.drop (j - i)).take (runA NS (l.drop (j - i)) j - j) = [] then none else some ((l.drop (j - i)).take (runA NS (l.drop (j - i)) j - j))⟩, runA NS (l.drop (j - i)) j)
def FigP (text : Str) (b j0 j v m : Int) : Prop := figA b ((cs text).drop j.toNat) j.toNat v m = figA b ((cs text).drop j0.toNat) j0.toNat 0 0
theorem FigP.start (text : Str) (b j0 : Int) : FigP text b j0 j0 0 0 := rfl
theorem item_eq {text : Str} {j : Int} (h0 : 0 ≤ j) (h1 : j < text.length) (c : Nat) : (Txt.item text j == ⟨#[c]⟩) = decide ((cs text)[j.toNat]'(by rw [cs_length]; omega) = c) := by
  rw [item_list text h0 h1, Bool.eq_iff_iff, beq_iff_eq, decide_eq_true_eq]
  constructor
  · intro e; cases e; rfl
  · intro e; rw [e]
theorem us_str : Str.ofString "_" = ⟨#[95]⟩ := by decide +kernel
theorem FigP.us {text : Str} {b j0 j v m : Int} (h : FigP text b j0 j v m) (h1 : j < text.length) (h2 : (Txt.item text j == Str.ofString "_") = true) (h3 : ¬ v ≥ 10000000000000000000000000000000000000000) (h0 : 0 ≤ j) : FigP text b j0 (j + 1) v m := by
  rw [us_str, item_eq h0 h1, decide_eq_true_eq] at h2
  unfold FigP at *
  rw [← h, drop_cons text h0 h1, figA, if_pos h2, if_neg h3, show (j + 1).toNat = j.toNat + 1 from by omega]
theorem FigP.us_over {text : Str} {b j0 j v m : Int} (h : FigP text b j0 j v m) (h1 : j < text.length) (h2 : (Txt.item text j == Str.ofString "_") = true) (h3 : v ≥ 10000000000000000000000000000000000000000) (h0 : 0 ≤ j) : figA b ((cs text).drop j0.toNat) j0.toNat 0 0 = none := by
  rw [us_str, item_eq h0 h1, decide_eq_true_eq] at h2
  unfold FigP at *
  rw [← h, drop_cons text h0 h1, figA, if_pos h2, if_pos h3]
theorem FigP.fig {text : Str} {b j0 j v m : Int} (h : FigP text b j0 j v m) (h1 : j < text.length) (h2 : (Txt.item text j == Str.ofString "_") = false) (h4 : worthS (Txt.item text j) < b) (h3 : ¬ v * b + worthS (Txt.item text j) ≥ 10000000000000000000000000000000000000000) (h0 : 0 ≤ j) : FigP text b j0 (j + 1) (v * b + worthS (Txt.item text j)) (m + 1) := by
  rw [us_str, item_eq h0 h1, decide_eq_false_iff_not] at h2
  unfold FigP at *
  rw [item_list text h0 h1] at *
  rw [← h, drop_cons text h0 h1, figA, if_neg h2, if_pos h4, if_neg h3, show (j + 1).toNat = j.toNat + 1 from by omega]
theorem FigP.over {text : Str} {b j0 j v m : Int} (h : FigP text b j0 j v m) (h1 : j < text.length) (h2 : (Txt.item text j == Str.ofString "_") = false) (h4 : worthS (Txt.item text j) < b) (h3 : v * b + worthS (Txt.item text j) ≥ 10000000000000000000000000000000000000000) (h0 : 0 ≤ j) : figA b ((cs text).drop j0.toNat) j0.toNat 0 0 = none := by
  rw [us_str, item_eq h0 h1, decide_eq_false_iff_not] at h2
  unfold FigP at *
  rw [item_list text h0 h1] at *
  rw [← h, drop_cons text h0 h1, figA, if_neg h2, if_pos h4, if_pos h3]
theorem FigP.stop {text : Str} {b j0 j v m : Int} (h : FigP text b j0 j v m) (h1 : j < text.length) (h2 : (Txt.item text j == Str.ofString "_") = false) (h4 : ¬ worthS (Txt.item text j) < b) (h0 : 0 ≤ j) : figA b ((cs text).drop j0.toNat) j0.toNat 0 0 = some (j.toNat, v, m) := by
  rw [us_str, item_eq h0 h1, decide_eq_false_iff_not] at h2
  unfold FigP at *
  rw [item_list text h0 h1] at *
  rw [← h, drop_cons text h0 h1, figA, if_neg h2, if_neg h4]
theorem FigP.last {text : Str} {b j0 j v m : Int} (h : FigP text b j0 j v m) (h1 : ¬ j < text.length) : figA b ((cs text).drop j0.toNat) j0.toNat 0 0 = some (j.toNat, v, m) := by
  unfold FigP at *
  rw [← h, drop_end text (by omega), figA]
theorem mul_small {prog : Program} {w : World} {A : Around} {E : Value → Shared → Prop} {s : Shared} {a b : Int} {t u : Tok} {Q : Value → Shared → Prop} (h : Q (.int (a * b) s.toks) { s with toks := s.toks + 1 }) (h1 : 0 ≤ b) (h2 : b < 2 ^ 63) :
    wpAny (model prog w) A (binaryOp .Mult (.int a t) (.int b u)) Q E s := PyProof.Rows.mul_int h (IntMulOk.of_right (intBits_le_64 (by omega) (by omega)))
theorem notin_kinds {w : World} {A : Around} {E : Value → Shared → Prop} {s : Shared} {x : Str} {t : Tok} {Q : Value → Shared → Prop} (X : (hd.heap_1 w.params).In s.heap) (h : Q (.bool (!KINDS.any (· == x))) s) :
    wpAny (model prg w) A (compareOp .NotIn (.str x t) (.ref 48)) Q E s := by
  have hT := X 48 _ (by with_unfolding_all rfl)
  refine SeqAt.notIn_tupleAt (fun y => match y with | .str a _ => a == x | _ => false) ⟨_, hT, rfl, _, rfl⟩ (fun y hy => ?_) (by simpa using h)
  simp only [List.mem_toArray, List.mem_cons, List.not_mem_nil, or_false] at hy
  rcases hy with rfl | rfl | rfl | rfl | rfl | rfl | rfl | rfl | rfl <;> exact SeqAt.EqAt.str_str _ _ _ _
theorem fig_core {text : Str} {i b : Int} (hi : 0 ≤ i) (hb : (baseA ((cs text).drop i.toNat)).1 = b) :
    figA (baseA ((cs text).drop i.toNat)).1 (((cs text).drop i.toNat).drop (baseA ((cs text).drop i.toNat)).2) (i.toNat + (baseA ((cs text).drop i.toNat)).2) 0 0 = figA b ((cs text).drop (i + ((baseA ((cs text).drop i.toNat)).2 : Nat)).toNat) (i + ((baseA ((cs text).drop i.toNat)).2 : Nat)).toNat 0 0 := by
  rw [hb, List.drop_drop, show (i + ((baseA ((cs text).drop i.toNat)).2 : Nat)).toNat = i.toNat + (baseA ((cs text).drop i.toNat)).2 from by omega]
theorem intA_over {text : Str} {i b : Int} (hb : (baseA ((cs text).drop i.toNat)).1 = b) (h : figA b ((cs text).drop (i + ((baseA ((cs text).drop i.toNat)).2 : Nat)).toNat) (i + ((baseA ((cs text).drop i.toNat)).2 : Nat)).toNat 0 0 = none) (hi : 0 ≤ i) : intA ((cs text).drop i.toNat) i.toNat = .error i.toNat := by
  unfold intA
  rw [fig_core hi hb, h]
theorem intA_none {text : Str} {i b v m : Int} {j : Nat} (hb : (baseA ((cs text).drop i.toNat)).1 = b) (h : figA b ((cs text).drop (i + ((baseA ((cs text).drop i.toNat)).2 : Nat)).toNat) (i + ((baseA ((cs text).drop i.toNat)).2 : Nat)).toNat 0 0 = some (j, v, m)) (hm : m = 0) (hi : 0 ≤ i) : intA ((cs text).drop i.toNat) i.toNat = .error i.toNat := by
  unfold intA
  rw [fig_core hi hb, h]
  simp only
  rw [if_pos hm]
theorem kind_list {text : Str} {i j : Int} (hi : 0 ≤ i) (hj : i ≤ j) : (((cs text).drop i.toNat).drop (j.toNat - i.toNat)).take (runA NS (((cs text).drop i.toNat).drop (j.toNat - i.toNat)) j.toNat - j.toNat) = cs (Txt.slice text (some j) (some (runA NS ((cs text).drop j.toNat) j.toNat : Nat))) := by
  have h := (runA_le NS ((cs text).drop j.toNat) j.toNat).1
  rw [drop_nat (by omega), cs_slice text (by omega) (by omega), show ((runA NS ((cs text).drop j.toNat) j.toNat : Nat) - j : Int).toNat = runA NS ((cs text).drop j.toNat) j.toNat - j.toNat from by omega]
theorem kinds_any (x : Str) : KINDS.any (fun k => cs k == cs x) = KINDS.any (· == x) := by
  congr 1
  funext k
  rw [Bool.eq_iff_iff, beq_iff_eq, beq_iff_eq]
  exact ⟨str_ext, fun e => by rw [e]⟩
theorem cs_nil : cs (Str.ofString "") = [] := by decide +kernel
theorem ne_nil (x : Str) : (x != Str.ofString "") = decide (cs x ≠ []) := by
  rw [Bool.eq_iff_iff, bne_iff_ne, decide_eq_true_eq, ← cs_nil]
  exact ⟨fun h e => h (str_ext e), fun h e => h (by rw [e])⟩
theorem eq_nil (x : Str) : (x == Str.ofString "") = decide (cs x = []) := by
  rw [Bool.eq_iff_iff, beq_iff_eq, decide_eq_true_eq, ← cs_nil]
  exact ⟨fun e => by rw [e], fun h => str_ext h⟩
theorem intA_bad {text : Str} {i b v m j : Int} (hb : (baseA ((cs text).drop i.toNat)).1 = b) (h : figA b ((cs text).drop (i + ((baseA ((cs text).drop i.toNat)).2 : Nat)).toNat) (i + ((baseA ((cs text).drop i.toNat)).2 : Nat)).toNat 0 0 = some (j.toNat, v, m)) (hm : m ≠ 0)
    (h1 : (Txt.slice text (some j) (some (runA NS ((cs text).drop j.toNat) j.toNat : Nat)) != Str.ofString "") = true) (h2 : KINDS.any (· == Txt.slice text (some j) (some (runA NS ((cs text).drop j.toNat) j.toNat : Nat))) = false) (hi : 0 ≤ i) (hj : i ≤ j) : intA ((cs text).drop i.toNat) i.toNat = .error j.toNat := by
  unfold intA
  rw [fig_core hi hb, h]
  simp only
  rw [if_neg hm, kind_list hi hj, if_pos ⟨by rw [ne_nil] at h1; exact of_decide_eq_true h1, by rw [kinds_any]; exact h2⟩]
theorem intA_ok {text : Str} {i b v m j : Int} (hb : (baseA ((cs text).drop i.toNat)).1 = b) (h : figA b ((cs text).drop (i + ((baseA ((cs text).drop i.toNat)).2 : Nat)).toNat) (i + ((baseA ((cs text).drop i.toNat)).2 : Nat)).toNat 0 0 = some (j.toNat, v, m)) (hm : m ≠ 0)
    (h2 : (Txt.slice text (some j) (some (runA NS ((cs text).drop j.toNat) j.toNat : Nat)) == Str.ofString "") = true ∨ KINDS.any (· == Txt.slice text (some j) (some (runA NS ((cs text).drop j.toNat) j.toNat : Nat))) = true) (hi : 0 ≤ i) (hj : i ≤ j) :
    intA ((cs text).drop i.toNat) i.toNat = .ok (⟨Str.ofString "int", cs (Txt.slice text (some i) (some (runA NS ((cs text).drop j.toNat) j.toNat : Nat))), i, some v, if (Txt.slice text (some j) (some (runA NS ((cs text).drop j.toNat) j.toNat : Nat)) == Str.ofString "") = true then none else some (cs (Txt.slice text (some j) (some (runA NS ((cs text).drop j.toNat) j.toNat : Nat))))⟩, runA NS ((cs text).drop j.toNat) j.toNat) := by
  have hr := (runA_le NS ((cs text).drop j.toNat) j.toNat).1
  unfold intA
  rw [fig_core hi hb, h]
  simp only
  rw [if_neg hm, kind_list hi hj, drop_nat (by omega), kinds_any, eq_nil] at *
  rw [if_neg (by
    rintro ⟨a, b⟩
    rcases h2 with h2 | h2
    · exact a (of_decide_eq_true h2)
    · rw [h2] at b; cases b)]
  simp only [decide_eq_true_eq]
  rw [cs_slice text hi (by omega), show ((runA NS ((cs text).drop j.toNat) j.toNat : Nat) - i : Int).toNat = runA NS ((cs text).drop j.toNat) j.toNat - i.toNat from by omega, Int.toNat_of_nonneg hi]
theorem intA_ok0 {text : Str} {i b v m j : Int} (hb : (baseA ((cs text).drop i.toNat)).1 = b) (h : figA b ((cs text).drop (i + ((baseA ((cs text).drop i.toNat)).2 : Nat)).toNat) (i + ((baseA ((cs text).drop i.toNat)).2 : Nat)).toNat 0 0 = some (j.toNat, v, m)) (hm : m ≠ 0)
    (h2 : (Txt.slice text (some j) (some (runA NS ((cs text).drop j.toNat) j.toNat : Nat)) == Str.ofString "") = true) (hi : 0 ≤ i) (hj : i ≤ j) :
    intA ((cs text).drop i.toNat) i.toNat = .ok (⟨Str.ofString "int", cs (Txt.slice text (some i) (some (runA NS ((cs text).drop j.toNat) j.toNat : Nat))), i, some v, none⟩, runA NS ((cs text).drop j.toNat) j.toNat) := by
  rw [intA_ok hb h hm (.inl h2) hi hj, if_pos h2]
theorem intA_ok1 {text : Str} {i b v m j : Int} (hb : (baseA ((cs text).drop i.toNat)).1 = b) (h : figA b ((cs text).drop (i + ((baseA ((cs text).drop i.toNat)).2 : Nat)).toNat) (i + ((baseA ((cs text).drop i.toNat)).2 : Nat)).toNat 0 0 = some (j.toNat, v, m)) (hm : m ≠ 0)
    (h2 : (Txt.slice text (some j) (some (runA NS ((cs text).drop j.toNat) j.toNat : Nat)) == Str.ofString "") = false) (h3 : KINDS.any (· == Txt.slice text (some j) (some (runA NS ((cs text).drop j.toNat) j.toNat : Nat))) = true) (hi : 0 ≤ i) (hj : i ≤ j) :
    intA ((cs text).drop i.toNat) i.toNat = .ok (⟨Str.ofString "int", cs (Txt.slice text (some i) (some (runA NS ((cs text).drop j.toNat) j.toNat : Nat))), i, some v, some (cs (Txt.slice text (some j) (some (runA NS ((cs text).drop j.toNat) j.toNat : Nat))))⟩, runA NS ((cs text).drop j.toNat) j.toNat) := by
  rw [intA_ok hb h hm (.inr h3) hi hj, if_neg (by rw [h2]; exact Bool.false_ne_true)]
end Mine
end
section
open PySem PySem.W PyProof.Rows PySem.Calls
namespace Mine
def SeekEnd (h₀ : Heap) (L : Addr) (x : Str) (m₀ : Str → Option Value) (nw : List (Addr × Obj)) (I : Prop) (s₁ s₂ : Shared) : Prop :=
  ∃ h' tk m', s₂ = { s₁ with heap := h', toks := tk } ∧ Fr h₀ L h' m' ∧ (∀ y, y ≠ x → m' y = m₀ y) ∧ News h₀ L h' nw ∧ I
def SeekPost (h₀ : Heap) (L : Addr) (x : Str) (m₀ : Str → Option Value) (nw : List (Addr × Obj)) (I : Prop) (s₁ : Shared) (Q : Flow → Shared → Prop) (f : Flow) (s₂ : Shared) : Prop :=
  match f with
  | .ret v => Q (.ret v) s₂
  | .brk => Q .next s₂
  | _ => SeekEnd h₀ L x m₀ nw I s₁ s₂
theorem iter_seek {prog : Program} {w : World} {A : Around} {E : Value → Shared → Prop} {Q : Flow → Shared → Prop} {s : Shared} {env : Env} {h₀ : Heap} {x : Str} {body : List Stmt} {l : Addr} {items : Array Value} {m₀ : Str → Option Value} {news : List (Addr × Obj)}
    (I : Nat → Prop) (hh : A.handled = none) (hl : h₀.IsTuple l items) (F : Fr h₀ env.locals s.heap m₀) (N : News h₀ env.locals s.heap news) (h0 : I 0)
    (turn : ∀ i v nw h tk, items[i]? = some v → (∀ p ∈ news, p ∈ nw) → I i → Fr h₀ env.locals h (fun y => if y = x then some v else m₀ y) → News h₀ env.locals h nw →
      wpAny (model prog w) A (execs body env) (SeekPost h₀ env.locals x m₀ nw (I (i + 1)) { s with heap := h, toks := tk } Q) E { s with heap := h, toks := tk })
    (done : ∀ (u : Option Value) h tk, I items.size → Fr h₀ env.locals h (fun y => if y = x then u else m₀ y) → News h₀ env.locals h news → Q .next { s with heap := h, toks := tk }) :
    wpAny (model prog w) A (pyIter (.ref l)) (fun it s₂ => LoopAtV prog w A h₀ env x body Q E it s₂) E s := by
  obtain ⟨ol, hol, hlc⟩ := id hl
  have hls : s.heap.IsTuple l items := ⟨ol, F.keep l ol hol, hlc⟩
  have hlt : l < h₀.objs.size := Heap.lt_size hol
  have hne : l ≠ s.heap.objs.size := Nat.ne_of_lt (Nat.lt_trans (Nat.lt_of_lt_of_le hlt F.above) F.ns.lt)
  refine wpAny_pyIter_tuple hls ?_
  have W := Walks.tuple (prog := prog) (w := w) hh s.heap.objs.size l hne items
  refine ⟨_, _, _, items.size, _, _, m₀, news, fun i m₁ news₁ => news₁ = news ∧ (∀ y, y ≠ x → m₁ y = m₀ y) ∧ I i, rfl, W, ?_, ?_, ?_, ⟨⟨_, Heap.get?_push_size _ rfl, rfl, rfl⟩, ⟨ol, Heap.get?_push_of_some _ (F.keep l ol hol), hlc⟩⟩, F.push _, (fun p hp => ⟨Heap.get?_push_of_some _ (N p hp).1, (N p hp).2⟩), ⟨rfl, fun _ _ => rfl, h0⟩, ?_, ?_⟩
  · intro hm
    rcases List.mem_cons.mp hm with e | hm
    · exact absurd F.ns.lt (e ▸ Nat.lt_irrefl _)
    · exact absurd (Nat.lt_of_lt_of_le hlt F.above) ((List.mem_singleton.mp hm) ▸ Nat.lt_irrefl _)
  · intro b hb
    rw [List.mem_singleton.mp hb]
    exact next_is_new F
  · intro p hp hI
    exact absurd (Heap.lt_size (N p hp).1) ((List.mem_singleton.mp hI) ▸ Nat.lt_irrefl _)
  · rintro i v m₁ news₁ s₁ own ⟨hh', tk', rfl⟩ hin hP ⟨hnw, hm, hJ⟩ hoff hown _ _ _ F₁ N₁
    subst hnw
    have em : (fun y => if y = x then some v else m₁ y) = fun y => if y = x then some v else m₀ y := by
      funext y
      by_cases e : y = x
      · simp [e]
      · simp [e, hm y e]
    rw [em] at F₁
    refine wpAny_mono (turn i v (own ++ news₁) hh' tk' hP (fun p hp => List.mem_append_right _ hp) hJ F₁ N₁) (fun f s₂ p => ?_) fun _ _ e => e
    have fin : SeekEnd h₀ env.locals x m₀ (own ++ news₁) (I (i + 1)) { s with heap := hh', toks := tk' } s₂ → LoopStepU h₀ env.locals [s.heap.objs.size] own (fun m₁ news₂ => news₂ = news₁ ∧ (∀ y, y ≠ x → m₁ y = m₀ y) ∧ I (i + 1)) { s with heap := hh', toks := tk' } .next s₂ := by
      rintro ⟨h', tk, m', e, F', hm', N', hI⟩
      exact ⟨rfl, h', tk, m', news₁, e, F', N', hoff, rfl, hm', hI⟩
    cases f with
    | ret v => exact .ret p
    | brk => exact .brk p
    | next => exact .next (fin p)
    | cont => exact .cont (fin p)
  · rintro h' tk m' news' F' N' _ ⟨hnw, hm, hJ⟩
    subst hnw
    have em : m' = fun y => if y = x then m' x else m₀ y := by
      funext y
      by_cases e : y = x
      · simp [e]
      · simp [e, hm y e]
    rw [em] at F'
    exact done (m' x) h' tk hJ F' N'
end Mine
end
section
open PySem PySem.W PyProof.Rows PySem.Calls
namespace Mine
abbrev WordRet (h₀ : Heap) (L : Addr) (m : Str → Option Value) (news : List (Addr × Obj)) (s : Shared) (Q : Value → Shared → Prop) (res : Except Nat (Wd × Nat)) : Prop :=
  ∀ (wd : Wd) (e : Nat), res = .ok (wd, e) → ∀ (ei : Int), ei = e → ∀ (D W : Addr) (t1 t2 t3 t4 t5 te : Tok) (h' : Heap) (tk' : Nat), Fr h₀ L h' m → News h₀ L h' ((D, tupO [.ref W, .int ei te]) :: (W, wordO wd t1 t2 t3 t4 t5) :: news) → (∀ p ∈ news, p.1 < W) → W < D → Q (.ref D) { s with heap := h', toks := tk' }
abbrev FaultTo (base h₀ : Heap) (L : Addr) (m : Str → Option Value) (fs : List Env) (news : List (Addr × Obj)) (s : Shared) (E : Value → Shared → Prop) (p : Nat) : Prop :=
  ∀ (e : Addr) (g₂ h' : Heap) (tk' : Nat), Fr h₀ L g₂ m → RaisedF base g₂ fs e p news h' → E (.ref e) { s with heap := h', toks := tk' }
abbrev SIGNS : List Str := [Str.ofString "<<=", Str.ofString ">>=", Str.ofString "..=", Str.ofString "::", Str.ofString "->", Str.ofString "=>", Str.ofString "==", Str.ofString "!=", Str.ofString "<=", Str.ofString ">=", Str.ofString "&&", Str.ofString "||", Str.ofString "<<", Str.ofString ">>", Str.ofString "..", Str.ofString "+=", Str.ofString "-=", Str.ofString "*=", Str.ofString "/=", Str.ofString "%=", Str.ofString "&=", Str.ofString "|=", Str.ofString "^=", Str.ofString "(", Str.ofString ")", Str.ofString "{", Str.ofString "}", Str.ofString "[", Str.ofString "]", Str.ofString ",", Str.ofString ";", Str.ofString ":", Str.ofString ".", Str.ofString "=", Str.ofString "<", Str.ofString ">", Str.ofString "+", Str.ofString "-", Str.ofString "*", Str.ofString "/", Str.ofString "%", Str.ofString "&", Str.ofString "|", Str.ofString "^", Str.ofString "!", Str.ofString "@"]
def signA (l : List Nat) (i : Nat) : Except Nat (Wd × Nat) :=
  match SIGNS.find? (fun sg => decide (l.take sg.length = cs sg)) with
  | some sg => .ok (⟨Str.ofString "sign", cs sg, i, none, none⟩, i + sg.length)
  | none => .error i
theorem signs_len : ∀ sg ∈ SIGNS, 1 ≤ sg.length ∧ sg.length ≤ 3 := by decide +kernel
def NoSign (l : List Nat) (k : Nat) : Prop := ∀ j, j < k → ∀ sg, SIGNS[j]? = some sg → l.take sg.length ≠ cs sg
theorem NoSign.zero (l : List Nat) : NoSign l 0 := fun _ h => absurd h (Nat.not_lt_zero _)
theorem NoSign.more {l : List Nat} {k : Nat} {sg : Str} (h : NoSign l k) (hk : SIGNS[k]? = some sg) (hn : l.take sg.length ≠ cs sg) : NoSign l (k + 1) := fun j hj sg' hs => by
  by_cases e : j = k
  · subst e; rw [hk] at hs; cases hs; exact hn
  · exact h j (by omega) sg' hs
theorem signA_hit {l : List Nat} {i k : Nat} {sg : Str} (h : NoSign l k) (hk : SIGNS[k]? = some sg) (hm : l.take sg.length = cs sg) : signA l i = .ok (⟨Str.ofString "sign", cs sg, i, none, none⟩, i + sg.length) := by
  have : SIGNS.find? (fun sg => decide (l.take sg.length = cs sg)) = some sg := by
    rw [List.find?_eq_some_iff_getElem]
    obtain ⟨hlt, he⟩ := List.getElem?_eq_some_iff.mp hk
    refine ⟨decide_eq_true hm, k, hlt, he, fun j hj => ?_⟩
    have := h j hj _ (List.getElem?_eq_getElem (by omega))
    simpa using this
  unfold signA
  rw [this]
theorem signA_hitI {l : List Nat} {i : Int} {k : Nat} {sg : Str} (hi : 0 ≤ i) (h : NoSign l k) (hk : SIGNS[k]? = some sg) (hm : l.take sg.length = cs sg) : signA l i.toNat = .ok (⟨Str.ofString "sign", cs sg, i, none, none⟩, i.toNat + sg.length) := by
  rw [signA_hit h hk hm, Int.toNat_of_nonneg hi]
theorem signA_none {l : List Nat} {i : Nat} (h : NoSign l SIGNS.length) : signA l i = .error i := by
  have : SIGNS.find? (fun sg => decide (l.take sg.length = cs sg)) = none := by
    rw [List.find?_eq_none]
    intro sg hs
    obtain ⟨j, hj⟩ := List.mem_iff_getElem?.mp hs
    have := h j (List.getElem?_eq_some_iff.mp hj).1 sg hj
    simpa using this
  unfold signA
  rw [this]
theorem sl_sign {text sg : Str} {i : Int} {b : Bool} (h : (Txt.slice text (some i) (some (i + (sg.length : Int))) == sg) = b) (hi : 0 ≤ i) : decide (((cs text).drop i.toNat).take sg.length = cs sg) = b := by
  rw [slice_beq text sg hi (by omega), show (i + (sg.length : Int) - i).toNat = sg.length from by omega] at h
  exact h
end Mine
end
section
open PySem PySem.W PyProof.Rows PySem.Calls
namespace Mine


section
variable {w : World} {mean : ExcName → Option Value} {mg mb : Str → Option Value} {dp un : Nat} {gd : Option (List Code)} {cn : Str} {cs₁ : Scope} {a : Addr} {ccd : Value} {cl : List (Str × Addr)} {outer : List Env} {A₀ : Around} {base h₀ : Heap} {L : Addr} {m : Str → Option Value} {s : Shared} {Q E : Value → Shared → Prop} {news : List (Addr × Obj)}

theorem words_F4_1 : Flush := by
  (try w_top off)
  k_with_none
  k_with "mine k_ne" => (refine neN ?_; (try dsimp only); first | (refine Nat.ne_of_lt ?_; (repeat (first | exact Nat.lt_add_one _ | refine Nat.lt.step ?_)); done) | (refine Nat.ne_of_gt ?_; (repeat (first | exact Nat.lt_add_one _ | refine Nat.lt.step ?_)); done) | omega)
  k_with "mine spliced" => (k_here; with_reducible (first | refine args_s8 ?_ | refine args_s4 ?_ | refine args_s2 ?_ | refine args_s1 ?_ | refine args_i1 ?_))
  k_with "mine ktr_room" => ((try dsimp only [ktrTop, Around.deeper]); (try simp only [depth_under_make, depth_under_kw, depth_in1, depth_deeper, depth_caller, depth_mark]); (try dsimp only [ktrTop]); first | ((simp only [Nat.add_assoc]); exact room_le (by assumption) (by rfl)) | omega)
  k_with "mine ktr_units" => ((try dsimp only [ktrTop, Around.deeper]); (try simp only [units_in1, units_deeper, Around.mark_units, units_caller]); (try dsimp only [ktrTop]); first | ((simp only [Nat.add_assoc]); exact room_le (by assumption) (by rfl)) | omega)
  k_with "mine exec Raise some none" => (k_here; k_dflt (refine' raise_fault ?hhz1 ?_; (case hhz1 => first | exact rfl | assumption); k_whole))
  k_with "mine call ref" => (k_here; (with_reducible show wpAny _ _ (call (Value.ref 45) [_, _]) _ _ _); k_dflt (refine' fault_make ?k1z2 ?k2z2 ?k3z2 ?k4z2 ?k5z2 ?kKz2 ?kdz2 ?kuz2 ?_; (case k1z2 => k_asm); (case k2z2 => k_asm); (case k3z2 => k_asm); (case k4z2 => k_asm); (case k5z2 => k_asm); (case kKz2 => first | exact rfl | assumption); (case kdz2 => ktr_room); (case kuz2 => ktr_units)); intro h'q9 tk'q9 e'q9 t'q9 d'q9 od'q9 F'q9 hs'q9 N'q9 ne1'q9 ne2'q9; (refine ⟨_, _, _, rfl, (N'q9 _ (.head _)).1, rfl, rfl, rfl, Frag.In.keeps (by k_asm) (Fr.keep F'q9), ?_⟩); (try dsimp only))
  k_with "mine leaving ref" => (k_here; (refine' leave_onF ?k1z3 ?k2z3 ?k3z3 ?k4z3 ?_; (case k3z3 => assumption); (case k1z3 => assumption); (case k2z3 => assumption); (case k4z3 => exact fun q hq => (News.mk (by k_asm) q hq).2.2); intro h'q9 R'q9; (try dsimp only)))
  k_with "mine leaving ref" => (k_here; (refine' leave_raiseF ?k1z4 ?k2z4 ?k3z4 ?k4z4 ?k5z4 ?k6z4 ?_; (case k1z4 => assumption); (case k2z4 => assumption); (case k3z4 => assumption); (case k4z4 => assumption); (case k5z4 => assumption); (case k6z4 => assumption); intro h'q9 R'q9; (try dsimp only)))
  k_with "mine call ref" => (k_here; (with_reducible show wpAny _ _ (call (Value.ref 56) _) _ _ _); k_dflt (refine' run_end_spec ?k1z5 ?k2z5 ?k3z5 ?k4z5 ?k5z5 ?kKz5 ?kdz5 ?kuz5 ?p0z5 ?p1z5 ?_; (case k1z5 => k_asm); (case k2z5 => k_asm); (case k3z5 => k_asm); (case k4z5 => k_asm); (case k5z5 => k_asm); (case kKz5 => first | exact rfl | assumption); (case kdz5 => ktr_room); (case kuz5 => ktr_units); (case p0z5 => first | assumption | omega | (size_fits; done)); (case p1z5 => first | assumption | omega | (size_fits; done)); skip); (intro hr1'q9 hr2'q9 t'q9 h'q9 tk'q9 F'q9 N'q9; (try dsimp only); (try k_fold)))
  k_with "mine call ref" => (k_here; (with_reducible show wpAny _ _ (call (Value.ref 77) _) _ _ _); k_dflt (refine' figure_worth_spec ?k1z6 ?k2z6 ?k3z6 ?k4z6 ?k5z6 ?kKz6 ?kdz6 ?kuz6 ?p0z6 ?_; (case k1z6 => k_asm); (case k2z6 => k_asm); (case k3z6 => k_asm); (case k4z6 => k_asm); (case k5z6 => k_asm); (case kKz6 => first | exact rfl | assumption); (case kdz6 => ktr_room); (case kuz6 => ktr_units); (case p0z6 => first | assumption | omega | (size_fits; done)); skip); (intro t'q9 h'q9 tk'q9 F'q9 N'q9; (try dsimp only); (try k_fold)))
  k_with "mine call ref" => (k_here; (with_reducible show wpAny _ _ (call (Value.ref 84) _) _ _ _); k_dflt (refine' base_at_spec ?k1z7 ?k2z7 ?k3z7 ?k4z7 ?k5z7 ?kKz7 ?kdz7 ?kuz7 ?p0z7 ?p1z7 ?_; (case k1z7 => k_asm); (case k2z7 => k_asm); (case k3z7 => k_asm); (case k4z7 => k_asm); (case k5z7 => k_asm); (case kKz7 => first | exact rfl | assumption); (case kdz7 => ktr_room); (case kuz7 => ktr_units); (case p0z7 => first | assumption | omega | (size_fits; done)); (case p1z7 => first | assumption | omega | (size_fits; done)); skip); (intro D'q9 b'q9 j'q9 tb'q9 tj'q9 h'q9 tk'q9 hb'q9 hb1'q9 hb2'q9 hj'q9 F'q9 N'q9 lt'q9; (try k_lt lt'q9); (try dsimp only); (try k_fold)))
  k_with "mine binaryOp Mult int int" => (k_here; refine' mul_small ?_ ?h1z8 ?h2z8; rotate_left; omega; omega)
  k_with "mine compareOp NotIn str ref" => (k_here; (with_reducible show wpAny _ _ (compareOp CmpOp.NotIn _ (Value.ref 48)) _ _ _); k_dflt (refine' notin_kinds ?h1z9 ?_; (case h1z9 => k_in)))
  exact trivial
set_option maxRecDepth 100000 in
set_option maxHeartbeats 8000000 in
theorem read_int_spec {text : Str} {i : Int} {t1 t2 : Tok}
   (B : Below A₀ base outer h₀) (F : Fr h₀ L s.heap m) (X : (hd.heap_1 w.params).In h₀) (N : News h₀ L s.heap news) (T : Top topProg LZ mean mg mb h₀) (hk : cs₁.kind = .function)
   (hdp : dp + 7 < recursionLimit) (hun : un + 70 < cLine)
   (hl : text.length ≤ 1048576) (hi : 0 ≤ i)
   (hret : WordRet h₀ L m news s Q (intA ((cs text).drop i.toNat) i.toNat))
   (hexc : ∀ p : Nat, intA ((cs text).drop i.toNat) i.toNat = .error p → FaultTo base h₀ L m (envX cn cs₁ L a ccd cl :: outer) news s E p) :
   wpAny (model prg w) (ktrTop dp un gd cn cs₁ L a ccd cl outer) (call (.ref 91) [.str text t1, .int i t2]) Q E s := by
  refine wpAny_call ?_
  k_dflt cell_enter
  skip
  k_with "exec While BoolOp cons nil" => k_while_given ["text", "base"] (fun text base script j v n => i ≤ j ∧ FigP text base (i + ((baseA ((cs text).drop i.toNat)).2 : Nat)) j v n) (fun text base script j v n => text.length - j.toNat) "at" "value" "many"
  k_with "state" => (try dsimp only) <;> first
    | (refine ⟨by omega, ?_⟩; rename (i + _ = _) => hq; subst hq; exact FigP.start _ _ _)
    | exact ⟨by omega, FigP.us (by assumption) (by assumption) (by assumption) (by assumption) (by omega)⟩
    | exact ⟨by omega, FigP.fig (by assumption) (by assumption) (by assumption) (by assumption) (by assumption) (by omega)⟩
  k_steps
  · exact (beq_bne (by assumption) (by assumption)).elim
  · exact hexc _ (intA_over (by assumption) (FigP.us_over (by assumption) (by assumption) (by assumption) (by assumption) (by omega)) hi) _ _ _ _ (by assumption) (raised_cast (RaisedF.mono (by assumption) (fun q hq => by repeat (first | exact hq | apply List.Mem.tail))) (by omega))
  · exact hexc _ (intA_over (by assumption) (FigP.over (by assumption) (by assumption) (by assumption) (by assumption) (by assumption) (by omega)) hi) _ _ _ _ (by assumption) (raised_cast (RaisedF.mono (by assumption) (fun q hq => by repeat (first | exact hq | apply List.Mem.tail))) (by omega))
  · exact (beq_bne' (by assumption) (by assumption)).elim
  · exact hexc _ (intA_none (by assumption) (FigP.stop (by assumption) (by assumption) (by assumption) (by assumption) (by omega)) (by assumption) hi) _ _ _ _ (by assumption) (raised_cast (RaisedF.mono (by assumption) (fun q hq => by repeat (first | exact hq | apply List.Mem.tail))) (by omega))
  · exact (beq_bne (by assumption) (by assumption)).elim
  · exact hret _ _ (intA_ok1 (by assumption) (FigP.stop (by assumption) (by assumption) (by assumption) (by assumption) (by omega)) (by assumption) (by assumption) (by assumption) hi (by omega)) _ rfl _ _ _ _ _ _ _ _ _ _ (by assumption) (News.heads2 (by assumption) (fun q hq => by repeat (first | exact hq | apply List.Mem.tail))) (by first | assumption | exact lt_all (by assumption) | exact lt_all (And.right (by assumption)) | exact lt_all (And.right (And.right (by assumption))) | exact lt_all (And.right (And.right (And.right (by assumption)))) | exact lt_all (And.right (And.right (And.right (And.right (by assumption)))))) (And.left (by assumption))
  · exact hexc _ (intA_bad (by assumption) (FigP.stop (by assumption) (by assumption) (by assumption) (by assumption) (by omega)) (by assumption) (by assumption) (by assumption) hi (by omega)) _ _ _ _ (by assumption) (raised_cast (RaisedF.mono (by assumption) (fun q hq => by repeat (first | exact hq | apply List.Mem.tail))) (by omega))
  · exact hret _ _ (intA_ok0 (by assumption) (FigP.stop (by assumption) (by assumption) (by assumption) (by assumption) (by omega)) (by assumption) (by assumption) hi (by omega)) _ rfl _ _ _ _ _ _ 0 _ _ _ (by assumption) (News.heads2 (by assumption) (fun q hq => by repeat (first | exact hq | apply List.Mem.tail))) (by first | assumption | exact lt_all (by assumption) | exact lt_all (And.right (by assumption)) | exact lt_all (And.right (And.right (by assumption))) | exact lt_all (And.right (And.right (And.right (by assumption)))) | exact lt_all (And.right (And.right (And.right (And.right (by assumption)))))) (And.left (by assumption))
  · exact (beq_bne' (by assumption) (by assumption)).elim
  · exact hexc _ (intA_none (by assumption) (FigP.last (by assumption) (by assumption)) (by assumption) hi) _ _ _ _ (by assumption) (raised_cast (RaisedF.mono (by assumption) (fun q hq => by repeat (first | exact hq | apply List.Mem.tail))) (by omega))
  · exact (beq_bne (by assumption) (by assumption)).elim
  · exact hret _ _ (intA_ok1 (by assumption) (FigP.last (by assumption) (by assumption)) (by assumption) (by assumption) (by assumption) hi (by omega)) _ rfl _ _ _ _ _ _ _ _ _ _ (by assumption) (News.heads2 (by assumption) (fun q hq => by repeat (first | exact hq | apply List.Mem.tail))) (by first | assumption | exact lt_all (by assumption) | exact lt_all (And.right (by assumption)) | exact lt_all (And.right (And.right (by assumption))) | exact lt_all (And.right (And.right (And.right (by assumption)))) | exact lt_all (And.right (And.right (And.right (And.right (by assumption)))))) (And.left (by assumption))
  · exact hexc _ (intA_bad (by assumption) (FigP.last (by assumption) (by assumption)) (by assumption) (by assumption) (by assumption) hi (by omega)) _ _ _ _ (by assumption) (raised_cast (RaisedF.mono (by assumption) (fun q hq => by repeat (first | exact hq | apply List.Mem.tail))) (by omega))
  · exact hret _ _ (intA_ok0 (by assumption) (FigP.last (by assumption) (by assumption)) (by assumption) (by assumption) hi (by omega)) _ rfl _ _ _ _ _ _ 0 _ _ _ (by assumption) (News.heads2 (by assumption) (fun q hq => by repeat (first | exact hq | apply List.Mem.tail))) (by first | assumption | exact lt_all (by assumption) | exact lt_all (And.right (by assumption)) | exact lt_all (And.right (And.right (by assumption))) | exact lt_all (And.right (And.right (And.right (by assumption)))) | exact lt_all (And.right (And.right (And.right (And.right (by assumption)))))) (And.left (by assumption))
  · exact (beq_bne' (by assumption) (by assumption)).elim
end
end Mine
end
section
open PySem PySem.W PyProof.Rows PySem.Calls
namespace Mine

theorem signs_item {w : World} {h : Heap} (X : (hd.heap_1 w.params).In h) : ∃ items : Array Value, h.IsTuple 49 items ∧ items.size = SIGNS.length ∧ ∀ (i : Nat) (v : Value), items[i]? = some v → ∃ sg t, v = .str sg t ∧ SIGNS[i]? = some sg := by
  refine ⟨_, ⟨_, X 49 _ (by with_unfolding_all rfl), rfl, _, rfl⟩, rfl, fun i v hv => ?_⟩
  have hi : i < 46 := by
    have := (Array.getElem?_eq_some_iff.mp hv).1
    simpa using this
  have key : ∀ (L : List (Str × Tok)) (i : Nat) (v : Value), (L.map fun p => Value.str p.1 p.2).toArray[i]? = some v → ∃ sg t, v = .str sg t ∧ (L.map (·.1))[i]? = some sg := by
    intro L i v h
    simp only [List.getElem?_toArray, List.getElem?_map, Option.map_eq_some_iff] at h
    obtain ⟨p, hp, rfl⟩ := h
    exact ⟨p.1, p.2, rfl, by rw [List.getElem?_map, hp]; rfl⟩
  exact key [(Str.ofString "<<=", _), (Str.ofString ">>=", _), (Str.ofString "..=", _), (Str.ofString "::", _), (Str.ofString "->", _), (Str.ofString "=>", _), (Str.ofString "==", _), (Str.ofString "!=", _), (Str.ofString "<=", _), (Str.ofString ">=", _), (Str.ofString "&&", _), (Str.ofString "||", _), (Str.ofString "<<", _), (Str.ofString ">>", _), (Str.ofString "..", _), (Str.ofString "+=", _), (Str.ofString "-=", _), (Str.ofString "*=", _), (Str.ofString "/=", _), (Str.ofString "%=", _), (Str.ofString "&=", _), (Str.ofString "|=", _), (Str.ofString "^=", _), (Str.ofString "(", _), (Str.ofString ")", _), (Str.ofString "{", _), (Str.ofString "}", _), (Str.ofString "[", _), (Str.ofString "]", _), (Str.ofString ",", _), (Str.ofString ";", _), (Str.ofString ":", _), (Str.ofString ".", _), (Str.ofString "=", _), (Str.ofString "<", _), (Str.ofString ">", _), (Str.ofString "+", _), (Str.ofString "-", _), (Str.ofString "*", _), (Str.ofString "/", _), (Str.ofString "%", _), (Str.ofString "&", _), (Str.ofString "|", _), (Str.ofString "^", _), (Str.ofString "!", _), (Str.ofString "@", _)] i v hv
section
variable {w : World} {mean : ExcName → Option Value} {mg mb : Str → Option Value} {dp un : Nat} {gd : Option (List Code)} {cn : Str} {cs₁ : Scope} {a : Addr} {ccd : Value} {cl : List (Str × Addr)} {outer : List Env} {A₀ : Around} {base h₀ : Heap} {L : Addr} {m : Str → Option Value} {s : Shared} {Q E : Value → Shared → Prop} {news : List (Addr × Obj)}

theorem words_F5_1 : Flush := by
  (try w_top off)
  k_with_none
  k_with "mine k_ne" => (refine neN ?_; (try dsimp only); first | (refine Nat.ne_of_lt ?_; (repeat (first | exact Nat.lt_add_one _ | refine Nat.lt.step ?_)); done) | (refine Nat.ne_of_gt ?_; (repeat (first | exact Nat.lt_add_one _ | refine Nat.lt.step ?_)); done) | omega)
  k_with "mine spliced" => (k_here; with_reducible (first | refine args_s8 ?_ | refine args_s4 ?_ | refine args_s2 ?_ | refine args_s1 ?_ | refine args_i1 ?_))
  k_with "mine ktr_room" => ((try dsimp only [ktrTop, Around.deeper]); (try simp only [depth_under_make, depth_under_kw, depth_in1, depth_deeper, depth_caller, depth_mark]); (try dsimp only [ktrTop]); first | ((simp only [Nat.add_assoc]); exact room_le (by assumption) (by rfl)) | omega)
  k_with "mine ktr_units" => ((try dsimp only [ktrTop, Around.deeper]); (try simp only [units_in1, units_deeper, Around.mark_units, units_caller]); (try dsimp only [ktrTop]); first | ((simp only [Nat.add_assoc]); exact room_le (by assumption) (by rfl)) | omega)
  k_with "mine exec Raise some none" => (k_here; k_dflt (refine' raise_fault ?hhz1 ?_; (case hhz1 => first | exact rfl | assumption); k_whole))
  k_with "mine call ref" => (k_here; (with_reducible show wpAny _ _ (call (Value.ref 45) [_, _]) _ _ _); k_dflt (refine' fault_make ?k1z2 ?k2z2 ?k3z2 ?k4z2 ?k5z2 ?kKz2 ?kdz2 ?kuz2 ?_; (case k1z2 => k_asm); (case k2z2 => k_asm); (case k3z2 => k_asm); (case k4z2 => k_asm); (case k5z2 => k_asm); (case kKz2 => first | exact rfl | assumption); (case kdz2 => ktr_room); (case kuz2 => ktr_units)); intro h'q9 tk'q9 e'q9 t'q9 d'q9 od'q9 F'q9 hs'q9 N'q9 ne1'q9 ne2'q9; (refine ⟨_, _, _, rfl, (N'q9 _ (.head _)).1, rfl, rfl, rfl, Frag.In.keeps (by k_asm) (Fr.keep F'q9), ?_⟩); (try dsimp only))
  k_with "mine leaving ref" => (k_here; (refine' leave_onF ?k1z3 ?k2z3 ?k3z3 ?k4z3 ?_; (case k3z3 => assumption); (case k1z3 => assumption); (case k2z3 => assumption); (case k4z3 => exact fun q hq => (News.mk (by k_asm) q hq).2.2); intro h'q9 R'q9; (try dsimp only)))
  k_with "mine leaving ref" => (k_here; (refine' leave_raiseF ?k1z4 ?k2z4 ?k3z4 ?k4z4 ?k5z4 ?k6z4 ?_; (case k1z4 => assumption); (case k2z4 => assumption); (case k3z4 => assumption); (case k4z4 => assumption); (case k5z4 => assumption); (case k6z4 => assumption); intro h'q9 R'q9; (try dsimp only)))
  k_with "mine SeekPost" => (dsimp only [SeekPost])
  exact trivial
set_option maxRecDepth 100000 in
set_option maxHeartbeats 8000000 in
theorem read_sign_spec {text : Str} {i : Int} {t1 t2 : Tok}
   (B : Below A₀ base outer h₀) (F : Fr h₀ L s.heap m) (X : (hd.heap_1 w.params).In h₀) (N : News h₀ L s.heap news) (T : Top topProg LZ mean mg mb h₀) (hk : cs₁.kind = .function)
   (hdp : dp + 4 < recursionLimit) (hun : un + 40 < cLine)
   (hl : text.length ≤ 1048576) (hi : 0 ≤ i) (hi2 : i < text.length)
   (hret : WordRet h₀ L m news s Q (signA ((cs text).drop i.toNat) i.toNat))
   (hexc : signA ((cs text).drop i.toNat) i.toNat = .error i.toNat → FaultTo base h₀ L m (envX cn cs₁ L a ccd cl :: outer) news s E i.toNat) :
   wpAny (model prg w) (ktrTop dp un gd cn cs₁ L a ccd cl outer) (call (.ref 98) [.str text t1, .int i t2]) Q E s := by
  refine wpAny_call ?_
  k_dflt cell_enter
  skip
  walk1; walk1
  (rename (hd.heap_1 w.params).In _ => X₂); (rename Fr _ _ _ _ => F₂); (rename News _ _ _ _ => N₂)
  refine For_invV (ground_of F₂) rfl rfl ?_
  k_steps
  obtain ⟨items, hT, hsz, hit⟩ := signs_item X₂
  refine iter_seek (NoSign ((cs text).drop i.toNat)) rfl hT F₂ N₂ (NoSign.zero _) ?_ ?_
  · intro k v nw hh tk hv hnw hI F₃ N₃
    obtain ⟨sg, t, rfl, hsg⟩ := hit k v hv
    have hlen := signs_len sg (List.mem_of_getElem? hsg)
    k_steps
    · have hz := signA_hitI hi hI hsg (of_decide_eq_true (sl_sign (by assumption) hi))
      exact hret _ _ hz (i + (sg.length : Int)) (by omega) _ _ _ _ _ 0 0 _ _ _ (by assumption) (News.heads2 (by assumption) (by assumption)) (fun p hp => (by assumption : ∀ p ∈ nw, p.1 < _) p (hnw p hp)) (And.left (by assumption))
    · exact ⟨_, _, _, rfl, by assumption, fun y hy => if_neg hy, by assumption, NoSign.more hI hsg (of_decide_eq_false (sl_sign (by assumption) hi))⟩
  · intro u hh tk hI F₃ N₃
    rw [hsz] at hI
    have hE := signA_none (i := i.toNat) hI
    k_steps
    exact hexc hE _ _ _ _ (by assumption) (raised_cast (RaisedF.mono (by assumption) (fun q hq => by repeat (first | exact hq | apply List.Mem.tail))) (by omega))
end
end Mine
end
section
open PySem PySem.W PyProof.Rows PySem.Calls
namespace Mine
abbrev NB : List Nat := cs (Str.ofString "abcdefghijklmnopqrstuvwxyzABCDEFGHIJKLMNOPQRSTUVWXYZ_")
abbrev FG : List Nat := cs (Str.ofString "0123456789")
def wordA : List Nat → Nat → Except Nat (Wd × Nat)
  | [], i => .error i
  | c :: r, i =>
    if c ∈ NB then
      (if ((c :: r).drop (runA NS (c :: r) i - i)).take 1 = [39] then .error i
      else .ok (⟨Str.ofString "name", (c :: r).take (runA NS (c :: r) i - i), i, none, none⟩, runA NS (c :: r) i))
    else if c ∈ FG then intA (c :: r) i
    else if c = 39 then
      (if runA NS r (i + 1) = i + 1 ∨ (∃ d, r.head? = some d ∧ d ∈ FG) then .error i
      else .ok (⟨Str.ofString "region", (c :: r).take (runA NS r (i + 1) - i), i, none, none⟩, runA NS r (i + 1)))
    else signA (c :: r) i
theorem cs_quote : cs (Str.ofString "'") = [39] := by decide +kernel
theorem quote_str : Str.ofString "'" = ⟨#[39]⟩ := by decide +kernel
theorem has_of {text S : Str} {i : Int} {b : Bool} (h0 : 0 ≤ i) (h1 : i < text.length) (h : (PySem.Builtin.Str.occurrences S (Txt.item text i) 0 S.length 1).isEmpty = b) : decide ((cs text)[i.toNat]'(by rw [cs_length]; omega) ∈ cs S) = !b := by
  rw [item_list text h0 h1] at h
  rw [← in_one, h]
theorem sl1 {text y : Str} {j : Int} {b : Bool} (h : (Txt.slice text (some j) (some (j + 1)) == y) = b) (hj : 0 ≤ j) : decide (((cs text).drop j.toNat).take 1 = cs y) = b := by
  rw [slice_beq text y hj (by omega), show (j + 1 - j).toNat = 1 from by omega] at h
  exact h
theorem wa_name_bad {text : Str} {i : Int} (h1 : (PySem.Builtin.Str.occurrences (Str.ofString "abcdefghijklmnopqrstuvwxyzABCDEFGHIJKLMNOPQRSTUVWXYZ_") (Txt.item text i) 0 (Str.ofString "abcdefghijklmnopqrstuvwxyzABCDEFGHIJKLMNOPQRSTUVWXYZ_").length 1).isEmpty = false)
    (h2 : (Txt.slice text (some (runA NS ((cs text).drop i.toNat) i.toNat : Nat)) (some ((runA NS ((cs text).drop i.toNat) i.toNat : Nat) + 1)) == Str.ofString "'") = true) (hi : 0 ≤ i) (hi2 : i < text.length) :
    wordA ((cs text).drop i.toNat) i.toNat = .error i.toNat := by
  have hr := (runA_le NS ((cs text).drop i.toNat) i.toNat).1
  have h1 := has_of hi hi2 h1
  have h2 := sl1 h2 (by omega)
  rw [cs_quote, Int.toNat_natCast, ← drop_nat hr] at h2
  simp only [decide_eq_true_eq, Bool.not_false] at h1 h2
  rw [drop_cons text hi hi2] at h2 ⊢
  rw [wordA, if_pos h1, if_pos h2]
theorem wa_name {text : Str} {i : Int} (h1 : (PySem.Builtin.Str.occurrences (Str.ofString "abcdefghijklmnopqrstuvwxyzABCDEFGHIJKLMNOPQRSTUVWXYZ_") (Txt.item text i) 0 (Str.ofString "abcdefghijklmnopqrstuvwxyzABCDEFGHIJKLMNOPQRSTUVWXYZ_").length 1).isEmpty = false)
    (h2 : (Txt.slice text (some (runA NS ((cs text).drop i.toNat) i.toNat : Nat)) (some ((runA NS ((cs text).drop i.toNat) i.toNat : Nat) + 1)) == Str.ofString "'") = false) (hi : 0 ≤ i) (hi2 : i < text.length) :
    wordA ((cs text).drop i.toNat) i.toNat = .ok (⟨Str.ofString "name", cs (Txt.slice text (some i) (some (runA NS ((cs text).drop i.toNat) i.toNat : Nat))), i, none, none⟩, runA NS ((cs text).drop i.toNat) i.toNat) := by
  have hr := (runA_le NS ((cs text).drop i.toNat) i.toNat).1
  have h1 := has_of hi hi2 h1
  have h2 := sl1 h2 (by omega)
  rw [cs_quote, Int.toNat_natCast, ← drop_nat hr] at h2
  simp only [decide_eq_true_eq, decide_eq_false_iff_not, Bool.not_false] at h1 h2
  rw [cs_slice text hi (by omega), show ((runA NS ((cs text).drop i.toNat) i.toNat : Nat) - i : Int).toNat = runA NS ((cs text).drop i.toNat) i.toNat - i.toNat from by omega]
  rw [drop_cons text hi hi2] at h2 ⊢
  rw [wordA, if_pos h1, if_neg h2, Int.toNat_of_nonneg hi]
theorem wa_int {text : Str} {i : Int} (h1 : (PySem.Builtin.Str.occurrences (Str.ofString "abcdefghijklmnopqrstuvwxyzABCDEFGHIJKLMNOPQRSTUVWXYZ_") (Txt.item text i) 0 (Str.ofString "abcdefghijklmnopqrstuvwxyzABCDEFGHIJKLMNOPQRSTUVWXYZ_").length 1).isEmpty = true)
    (h2 : (PySem.Builtin.Str.occurrences (Str.ofString "0123456789") (Txt.item text i) 0 (Str.ofString "0123456789").length 1).isEmpty = false) (hi : 0 ≤ i) (hi2 : i < text.length) :
    wordA ((cs text).drop i.toNat) i.toNat = intA ((cs text).drop i.toNat) i.toNat := by
  have h1 := has_of hi hi2 h1
  have h2 := has_of hi hi2 h2
  simp only [decide_eq_true_eq, decide_eq_false_iff_not, Bool.not_false, Bool.not_true] at h1 h2
  rw [drop_cons text hi hi2, wordA, if_neg h1, if_pos h2]
theorem wa_sign {text : Str} {i : Int} (h1 : (PySem.Builtin.Str.occurrences (Str.ofString "abcdefghijklmnopqrstuvwxyzABCDEFGHIJKLMNOPQRSTUVWXYZ_") (Txt.item text i) 0 (Str.ofString "abcdefghijklmnopqrstuvwxyzABCDEFGHIJKLMNOPQRSTUVWXYZ_").length 1).isEmpty = true)
    (h2 : (PySem.Builtin.Str.occurrences (Str.ofString "0123456789") (Txt.item text i) 0 (Str.ofString "0123456789").length 1).isEmpty = true) (h3 : (Txt.item text i == Str.ofString "'") = false) (hi : 0 ≤ i) (hi2 : i < text.length) :
    wordA ((cs text).drop i.toNat) i.toNat = signA ((cs text).drop i.toNat) i.toNat := by
  have h1 := has_of hi hi2 h1
  have h2 := has_of hi hi2 h2
  rw [quote_str, item_eq hi hi2] at h3
  simp only [decide_eq_true_eq, decide_eq_false_iff_not, Bool.not_false, Bool.not_true] at h1 h2 h3
  rw [drop_cons text hi hi2, wordA, if_neg h1, if_neg h2, if_neg h3]
theorem wa_reg0 {text : Str} {i : Int} (h1 : (PySem.Builtin.Str.occurrences (Str.ofString "abcdefghijklmnopqrstuvwxyzABCDEFGHIJKLMNOPQRSTUVWXYZ_") (Txt.item text i) 0 (Str.ofString "abcdefghijklmnopqrstuvwxyzABCDEFGHIJKLMNOPQRSTUVWXYZ_").length 1).isEmpty = true)
    (h2 : (PySem.Builtin.Str.occurrences (Str.ofString "0123456789") (Txt.item text i) 0 (Str.ofString "0123456789").length 1).isEmpty = true) (h3 : (Txt.item text i == Str.ofString "'") = true)
    (h4 : ((runA NS ((cs text).drop (i + 1).toNat) (i + 1).toNat : Nat) : Int) = i + 1) (hi : 0 ≤ i) (hi2 : i < text.length) :
    wordA ((cs text).drop i.toNat) i.toNat = .error i.toNat := by
  have h1 := has_of hi hi2 h1
  have h2 := has_of hi hi2 h2
  rw [quote_str, item_eq hi hi2] at h3
  simp only [decide_eq_true_eq, decide_eq_false_iff_not, Bool.not_false, Bool.not_true] at h1 h2 h3
  rw [drop_cons text hi hi2, wordA, if_neg h1, if_neg h2, if_pos h3, if_pos]
  left
  rw [show i.toNat + 1 = (i + 1).toNat from by omega]
  omega
theorem wa_regF {text : Str} {i : Int} (h1 : (PySem.Builtin.Str.occurrences (Str.ofString "abcdefghijklmnopqrstuvwxyzABCDEFGHIJKLMNOPQRSTUVWXYZ_") (Txt.item text i) 0 (Str.ofString "abcdefghijklmnopqrstuvwxyzABCDEFGHIJKLMNOPQRSTUVWXYZ_").length 1).isEmpty = true)
    (h2 : (PySem.Builtin.Str.occurrences (Str.ofString "0123456789") (Txt.item text i) 0 (Str.ofString "0123456789").length 1).isEmpty = true) (h3 : (Txt.item text i == Str.ofString "'") = true)
    (h4 : (PySem.Builtin.Str.occurrences (Str.ofString "0123456789") (Txt.item text (i + 1)) 0 (Str.ofString "0123456789").length 1).isEmpty = false) (hi : 0 ≤ i) (hi2 : i + 1 < text.length) :
    wordA ((cs text).drop i.toNat) i.toNat = .error i.toNat := by
  have h1 := has_of hi (by omega) h1
  have h2 := has_of hi (by omega) h2
  have h4 := has_of (by omega) hi2 h4
  rw [quote_str, item_eq hi (by omega)] at h3
  simp only [decide_eq_true_eq, decide_eq_false_iff_not, Bool.not_false, Bool.not_true] at h1 h2 h3 h4
  rw [drop_cons text hi (by omega), wordA, if_neg h1, if_neg h2, if_pos h3, if_pos]
  right
  refine ⟨_, ?_, h4⟩
  rw [drop_cons text (by omega) hi2]
  rfl
theorem wa_reg {text : Str} {i : Int} (h1 : (PySem.Builtin.Str.occurrences (Str.ofString "abcdefghijklmnopqrstuvwxyzABCDEFGHIJKLMNOPQRSTUVWXYZ_") (Txt.item text i) 0 (Str.ofString "abcdefghijklmnopqrstuvwxyzABCDEFGHIJKLMNOPQRSTUVWXYZ_").length 1).isEmpty = true)
    (h2 : (PySem.Builtin.Str.occurrences (Str.ofString "0123456789") (Txt.item text i) 0 (Str.ofString "0123456789").length 1).isEmpty = true) (h3 : (Txt.item text i == Str.ofString "'") = true)
    (h5 : ((runA NS ((cs text).drop (i + 1).toNat) (i + 1).toNat : Nat) : Int) ≠ i + 1)
    (h4 : (PySem.Builtin.Str.occurrences (Str.ofString "0123456789") (Txt.item text (i + 1)) 0 (Str.ofString "0123456789").length 1).isEmpty = true) (hi : 0 ≤ i) (hi2 : i + 1 < text.length) :
    wordA ((cs text).drop i.toNat) i.toNat = .ok (⟨Str.ofString "region", cs (Txt.slice text (some i) (some (runA NS ((cs text).drop (i + 1).toNat) (i + 1).toNat : Nat))), i, none, none⟩, runA NS ((cs text).drop (i + 1).toNat) (i + 1).toNat) := by
  have hr := (runA_le NS ((cs text).drop (i + 1).toNat) (i + 1).toNat).1
  have h1 := has_of hi (by omega) h1
  have h2 := has_of hi (by omega) h2
  have h4 := has_of (by omega) hi2 h4
  rw [quote_str, item_eq hi (by omega)] at h3
  simp only [decide_eq_true_eq, decide_eq_false_iff_not, Bool.not_false, Bool.not_true] at h1 h2 h3 h4
  rw [cs_slice text hi (by omega), show ((runA NS ((cs text).drop (i + 1).toNat) (i + 1).toNat : Nat) - i : Int).toNat = runA NS ((cs text).drop (i + 1).toNat) (i + 1).toNat - i.toNat from by omega]
  rw [drop_cons text hi (by omega), wordA, if_neg h1, if_neg h2, if_pos h3, if_neg, show i.toNat + 1 = (i + 1).toNat from by omega, Int.toNat_of_nonneg hi]
  rintro (e | ⟨d, hd, hm⟩)
  · rw [show i.toNat + 1 = (i + 1).toNat from by omega] at e; omega
  · rw [drop_cons text (by omega) hi2] at hd
    simp only [List.head?_cons, Option.some.injEq] at hd
    exact h4 (hd ▸ hm)
end Mine
end
section
open PySem PySem.W PyProof.Rows PySem.Calls
namespace Mine


section
variable {w : World} {mean : ExcName → Option Value} {mg mb : Str → Option Value} {dp un : Nat} {gd : Option (List Code)} {cn : Str} {cs₁ : Scope} {a : Addr} {ccd : Value} {cl : List (Str × Addr)} {outer : List Env} {A₀ : Around} {base h₀ : Heap} {L : Addr} {m : Str → Option Value} {s : Shared} {Q E : Value → Shared → Prop} {news : List (Addr × Obj)}

theorem words_F6_1 : Flush := by
  (try w_top off)
  k_with_none
  k_with "mine k_ne" => (refine neN ?_; (try dsimp only); first | (refine Nat.ne_of_lt ?_; (repeat (first | exact Nat.lt_add_one _ | refine Nat.lt.step ?_)); done) | (refine Nat.ne_of_gt ?_; (repeat (first | exact Nat.lt_add_one _ | refine Nat.lt.step ?_)); done) | omega)
  k_with "mine spliced" => (k_here; with_reducible (first | refine args_s8 ?_ | refine args_s4 ?_ | refine args_s2 ?_ | refine args_s1 ?_ | refine args_i1 ?_))
  k_with "mine ktr_room" => ((try dsimp only [ktrTop, Around.deeper]); (try simp only [depth_under_make, depth_under_kw, depth_in1, depth_deeper, depth_caller, depth_mark]); (try dsimp only [ktrTop]); first | ((simp only [Nat.add_assoc]); exact room_le (by assumption) (by rfl)) | omega)
  k_with "mine ktr_units" => ((try dsimp only [ktrTop, Around.deeper]); (try simp only [units_in1, units_deeper, Around.mark_units, units_caller]); (try dsimp only [ktrTop]); first | ((simp only [Nat.add_assoc]); exact room_le (by assumption) (by rfl)) | omega)
  k_with "mine exec Raise some none" => (k_here; k_dflt (refine' raise_fault ?hhz1 ?_; (case hhz1 => first | exact rfl | assumption); k_whole))
  k_with "mine call ref" => (k_here; (with_reducible show wpAny _ _ (call (Value.ref 45) [_, _]) _ _ _); k_dflt (refine' fault_make ?k1z2 ?k2z2 ?k3z2 ?k4z2 ?k5z2 ?kKz2 ?kdz2 ?kuz2 ?_; (case k1z2 => k_asm); (case k2z2 => k_asm); (case k3z2 => k_asm); (case k4z2 => k_asm); (case k5z2 => k_asm); (case kKz2 => first | exact rfl | assumption); (case kdz2 => ktr_room); (case kuz2 => ktr_units)); intro h'q9 tk'q9 e'q9 t'q9 d'q9 od'q9 F'q9 hs'q9 N'q9 ne1'q9 ne2'q9; (refine ⟨_, _, _, rfl, (N'q9 _ (.head _)).1, rfl, rfl, rfl, Frag.In.keeps (by k_asm) (Fr.keep F'q9), ?_⟩); (try dsimp only))
  k_with "mine leaving ref" => (k_here; (refine' leave_onF ?k1z3 ?k2z3 ?k3z3 ?k4z3 ?_; (case k3z3 => assumption); (case k1z3 => assumption); (case k2z3 => assumption); (case k4z3 => exact fun q hq => (News.mk (by k_asm) q hq).2.2); intro h'q9 R'q9; (try dsimp only)))
  k_with "mine leaving ref" => (k_here; (refine' leave_raiseF ?k1z4 ?k2z4 ?k3z4 ?k4z4 ?k5z4 ?k6z4 ?_; (case k1z4 => assumption); (case k2z4 => assumption); (case k3z4 => assumption); (case k4z4 => assumption); (case k5z4 => assumption); (case k6z4 => assumption); intro h'q9 R'q9; (try dsimp only)))
  k_with "mine call ref" => (k_here; (with_reducible show wpAny _ _ (call (Value.ref 56) _) _ _ _); k_dflt (refine' run_end_spec ?k1z5 ?k2z5 ?k3z5 ?k4z5 ?k5z5 ?kKz5 ?kdz5 ?kuz5 ?p0z5 ?p1z5 ?_; (case k1z5 => k_asm); (case k2z5 => k_asm); (case k3z5 => k_asm); (case k4z5 => k_asm); (case k5z5 => k_asm); (case kKz5 => first | exact rfl | assumption); (case kdz5 => ktr_room); (case kuz5 => ktr_units); (case p0z5 => first | assumption | omega | (size_fits; done)); (case p1z5 => first | assumption | omega | (size_fits; done)); skip); (intro hr1'q9 hr2'q9 t'q9 h'q9 tk'q9 F'q9 N'q9; (try dsimp only); (try k_fold)))
  k_with "mine call ref" => (k_here; (with_reducible show wpAny _ _ (call (Value.ref 91) _) _ _ _); k_dflt (refine' read_int_spec ?k1z6 ?k2z6 ?k3z6 ?k4z6 ?k5z6 ?kKz6 ?kdz6 ?kuz6 ?p0z6 ?p1z6 ?_ ?_; (case k1z6 => k_asm); (case k2z6 => k_asm); (case k3z6 => k_asm); (case k4z6 => k_asm); (case k5z6 => k_asm); (case kKz6 => first | exact rfl | assumption); (case kdz6 => ktr_room); (case kuz6 => ktr_units); (case p0z6 => first | assumption | omega | (size_fits; done)); (case p1z6 => first | assumption | omega | (size_fits; done)); skip); (intro wd'q9 e'q9 hz'q9 ei'q9 hei'q9 D'q9 W'q9 t1'q9 t2'q9 t3'q9 t4'q9 t5'q9 te'q9 h'q9 tk'q9 F'q9 N'q9 ltWq9 ltDq9; (try replace ltDq9 := ltN ltDq9); (try k_lt ltWq9); (try dsimp only); (try k_fold)); rotate_left; (intro p'q9 hz'q9 e'q9 g'q9 h'q9 tk'q9 G'q9 R'q9; (try dsimp only)); rotate_left)
  k_with "mine call ref" => (k_here; (with_reducible show wpAny _ _ (call (Value.ref 98) _) _ _ _); k_dflt (refine' read_sign_spec ?k1z7 ?k2z7 ?k3z7 ?k4z7 ?k5z7 ?kKz7 ?kdz7 ?kuz7 ?p0z7 ?p1z7 ?p2z7 ?_ ?_; (case k1z7 => k_asm); (case k2z7 => k_asm); (case k3z7 => k_asm); (case k4z7 => k_asm); (case k5z7 => k_asm); (case kKz7 => first | exact rfl | assumption); (case kdz7 => ktr_room); (case kuz7 => ktr_units); (case p0z7 => first | assumption | omega | (size_fits; done)); (case p1z7 => first | assumption | omega | (size_fits; done)); (case p2z7 => first | assumption | omega | (size_fits; done)); skip); (intro wd'q9 e'q9 hz'q9 ei'q9 hei'q9 D'q9 W'q9 t1'q9 t2'q9 t3'q9 t4'q9 t5'q9 te'q9 h'q9 tk'q9 F'q9 N'q9 ltWq9 ltDq9; (try replace ltDq9 := ltN ltDq9); (try k_lt ltWq9); (try dsimp only); (try k_fold)); rotate_left; (intro hz'q9 e'q9 g'q9 h'q9 tk'q9 G'q9 R'q9; (try dsimp only)); rotate_left)
  exact trivial
set_option maxRecDepth 100000 in
set_option maxHeartbeats 8000000 in
theorem read_word_spec {text : Str} {i : Int} {t1 t2 : Tok}
   (B : Below A₀ base outer h₀) (F : Fr h₀ L s.heap m) (X : (hd.heap_1 w.params).In h₀) (N : News h₀ L s.heap news) (T : Top topProg LZ mean mg mb h₀) (hk : cs₁.kind = .function)
   (hdp : dp + 10 < recursionLimit) (hun : un + 100 < cLine)
   (hl : text.length ≤ 1048576) (hi : 0 ≤ i) (hi2 : i < text.length)
   (hret : WordRet h₀ L m news s Q (wordA ((cs text).drop i.toNat) i.toNat))
   (hexc : ∀ p : Nat, wordA ((cs text).drop i.toNat) i.toNat = .error p → FaultTo base h₀ L m (envX cn cs₁ L a ccd cl :: outer) news s E p) :
   wpAny (model prg w) (ktrTop dp un gd cn cs₁ L a ccd cl outer) (call (.ref 105) [.str text t1, .int i t2]) Q E s := by
  refine wpAny_call ?_
  k_dflt cell_enter
  skip
  k_steps
  all_goals first
    | exact hexc _ (wa_reg0 (by assumption) (by assumption) (by assumption) (by assumption) hi hi2) _ _ _ _ (by assumption) (raised_cast (by assumption) (by omega))
    | exact hret _ _ (wa_reg (by assumption) (by assumption) (by assumption) (by assumption) (by assumption) hi (by omega)) _ rfl _ _ _ _ _ 0 0 _ _ _ (by assumption) (News.heads2 (by assumption) (fun q hq => by repeat (first | exact hq | apply List.Mem.tail))) (by assumption) (And.left (by assumption))
    | exact hexc _ (wa_regF (by assumption) (by assumption) (by assumption) (by assumption) hi (by omega)) _ _ _ _ (by assumption) (raised_cast (by assumption) (by omega))
    | exact hexc _ ((wa_sign (by assumption) (by assumption) (by assumption) hi hi2).trans (by assumption)) _ _ _ _ (by assumption) (by assumption)
    | exact hret _ _ ((wa_sign (by assumption) (by assumption) (by assumption) hi hi2).trans (by assumption)) _ (by assumption) _ _ _ _ _ _ _ _ _ _ (by assumption) (by assumption) (by assumption) (by assumption)
    | exact hret _ _ ((wa_int (by assumption) (by assumption) hi hi2).trans (by assumption)) _ (by assumption) _ _ _ _ _ _ _ _ _ _ (by assumption) (by assumption) (by assumption) (by assumption)
    | exact hexc _ ((wa_int (by assumption) (by assumption) hi hi2).trans (by assumption)) _ _ _ _ (by assumption) (by assumption)
    | exact hexc _ (wa_name_bad (by assumption) (by assumption) hi hi2) _ _ _ _ (by assumption) (raised_cast (by assumption) (by omega))
    | exact hret _ _ (wa_name (by assumption) (by assumption) hi hi2) _ rfl _ _ _ _ _ 0 0 _ _ _ (by assumption) (News.heads2 (by assumption) (fun q hq => by repeat (first | exact hq | apply List.Mem.tail))) (by assumption) (And.left (by assumption))
end
end Mine
end
section
open PySem PySem.W PyProof.Rows PySem.Calls
namespace Mine
inductive AftR (l : List Nat) : Nat → Nat → Except Nat (List Wd) → Prop
  | done {n i : Nat} (h : l.length ≤ i) : AftR l n i (.ok [])
  | bad {n i p : Nat} (h0 : i < l.length) (h : wordA (l.drop i) i = .error p) : AftR l n i (.error p)
  | gap {n i e p : Nat} {wd : Wd} (h0 : i < l.length) (h : wordA (l.drop i) i = .ok (wd, e)) (hb : bl .norm (l.drop e) e = .error p) : AftR l n i (.error p)
  | more {n i e j : Nat} {wd : Wd} {r : Except Nat (List Wd)} (h0 : i < l.length) (h : wordA (l.drop i) i = .ok (wd, e)) (hb : bl .norm (l.drop e) e = .ok j) (t : AftR l n j r) : AftR l (n + 1) i (r.map (wd :: ·))
inductive RowR (l : List Nat) : Except Nat (List Wd) → Prop
  | bad {p : Nat} (hb : bl .norm l 0 = .error p) : RowR l (.error p)
  | go {j n : Nat} {r : Except Nat (List Wd)} (hb : bl .norm l 0 = .ok j) (hn : n ≤ 1000) (t : AftR l n j r) : RowR l r
inductive RowsAre : List Wd → List (Addr × Obj) → Prop
  | nil : RowsAre [] []
  | cons {wd : Wd} {ws : List Wd} {p : Addr × Obj} {ps : List (Addr × Obj)} (h : ∃ t1 t2 t3 t4 t5, p.2 = wordO wd t1 t2 t3 t4 t5) (r : RowsAre ws ps) : RowsAre (wd :: ws) (p :: ps)
theorem RowsAre.snoc {wd : Wd} {q : Addr × Obj} {ws : List Wd} {ps : List (Addr × Obj)} (h : RowsAre ws ps) (hq : ∃ t1 t2 t3 t4 t5, q.2 = wordO wd t1 t2 t3 t4 t5) : RowsAre (ws ++ [wd]) (ps ++ [q]) := by
  induction h with
  | nil => exact .cons hq .nil
  | cons h _ ih => exact .cons h ih
abbrev rowsO (rows : List (Addr × Obj)) (n : Nat) : Obj := listOf (rows.map fun p => Value.ref p.1).toArray n
abbrev endW (n : Nat) : Wd := ⟨Str.ofString "end", [], n, none, none⟩
abbrev RowsRet (h₀ : Heap) (L : Addr) (m : Str → Option Value) (news : List (Addr × Obj)) (s : Shared) (Q : Value → Shared → Prop) (n : Nat) (res : Except Nat (List Wd)) : Prop :=
  ∀ (ws : List Wd), res = .ok ws → ∀ (D : Addr) (rows : List (Addr × Obj)) (k : Nat) (h' : Heap) (tk' : Nat), RowsAre (ws ++ [endW n]) rows → Fr h₀ L h' m → News h₀ L h' ((D, rowsO rows k) :: (rows ++ news)) → (∀ p ∈ news, p.1 < D) → (∀ p ∈ rows, D < p.1) → Q (.ref D) { s with heap := h', toks := tk' }
structure RowSt where
  at_ : Nat
  tk : Tok
  left : Nat
  ws : List Wd
  rows : List (Addr × Obj)
  k : Nat
def RowI (l : List Nat) (D : Addr) (res : Except Nat (List Wd)) (c : RowSt) : Prop :=
  RowsAre c.ws c.rows ∧ (∀ p ∈ c.rows, D < p.1) ∧ c.rows.length + c.left ≤ 1000 ∧ ∃ r, AftR l c.left c.at_ r ∧ res = r.map (c.ws ++ ·)
theorem AftR.stop {l : List Nat} {n i : Nat} {r : Except Nat (List Wd)} (h : AftR l n i r) (hi : l.length ≤ i) : r = .ok [] := by
  cases h with
  | done => rfl
  | bad h0 => exact absurd hi (Nat.not_le_of_lt h0)
  | gap h0 => exact absurd hi (Nat.not_le_of_lt h0)
  | more h0 => exact absurd hi (Nat.not_le_of_lt h0)
theorem AftR.err {l : List Nat} {n i p : Nat} {r : Except Nat (List Wd)} (h : AftR l n i r) (hi : i < l.length) (hw : wordA (l.drop i) i = .error p) : r = .error p := by
  cases h with
  | done h0 => exact absurd h0 (Nat.not_le_of_lt hi)
  | bad h0 h => rw [h] at hw; cases hw; rfl
  | gap h0 h => rw [h] at hw; cases hw
  | more h0 h => rw [h] at hw; cases hw
theorem AftR.gapE {l : List Nat} {n i e p : Nat} {wd : Wd} {r : Except Nat (List Wd)} (h : AftR l n i r) (hi : i < l.length) (hw : wordA (l.drop i) i = .ok (wd, e)) (hb : bl .norm (l.drop e) e = .error p) : r = .error p := by
  cases h with
  | done h0 => exact absurd h0 (Nat.not_le_of_lt hi)
  | bad h0 h => rw [h] at hw; cases hw
  | gap h0 h hb' => rw [h] at hw; cases hw; rw [hb'] at hb; cases hb; rfl
  | more h0 h hb' => rw [h] at hw; cases hw; rw [hb'] at hb; cases hb
theorem AftR.next {l : List Nat} {n i e j : Nat} {wd : Wd} {r : Except Nat (List Wd)} (h : AftR l n i r) (hi : i < l.length) (hw : wordA (l.drop i) i = .ok (wd, e)) (hb : bl .norm (l.drop e) e = .ok j) : ∃ n' r', n = n' + 1 ∧ AftR l n' j r' ∧ r = r'.map (wd :: ·) := by
  cases h with
  | done h0 => exact absurd h0 (Nat.not_le_of_lt hi)
  | bad h0 h => rw [h] at hw; cases hw
  | gap h0 h hb' => rw [h] at hw; cases hw; rw [hb'] at hb; cases hb
  | more h0 h hb' t => rw [h] at hw; cases hw; rw [hb'] at hb; cases hb; exact ⟨_, _, rfl, t, rfl⟩
theorem RowI.stop {text : Str} {D : Addr} {res : Except Nat (List Wd)} {c : RowSt} (h : RowI (cs text) D res c) (hi : ¬ (c.at_ : Int) < text.length) : res = .ok c.ws := by
  obtain ⟨_, _, _, r, t, rfl⟩ := h
  rw [t.stop (by rw [cs_length]; omega)]
  simp [Except.map]
theorem RowI.err {text : Str} {D : Addr} {res : Except Nat (List Wd)} {c : RowSt} {p : Nat} (h : RowI (cs text) D res c) (hi : (c.at_ : Int) < text.length) (hw : wordA ((cs text).drop (c.at_ : Int).toNat) (c.at_ : Int).toNat = .error p) : res = .error p := by
  obtain ⟨_, _, _, r, t, rfl⟩ := h
  rw [t.err (by rw [cs_length]; omega) hw]
  rfl
theorem RowI.gapE {text : Str} {D : Addr} {res : Except Nat (List Wd)} {c : RowSt} {p e : Nat} {ei : Int} {wd : Wd} (h : RowI (cs text) D res c) (hi : (c.at_ : Int) < text.length) (hw : wordA ((cs text).drop (c.at_ : Int).toNat) (c.at_ : Int).toNat = .ok (wd, e)) (he : ei = e) (hb : bl .norm ((cs text).drop ei.toNat) ei.toNat = .error p) : res = .error p := by
  obtain ⟨_, _, _, r, t, rfl⟩ := h
  subst he
  rw [t.gapE (by rw [cs_length]; omega) hw hb]
  rfl
theorem RowI.next {text : Str} {D W : Addr} {res : Except Nat (List Wd)} {c : RowSt} {e j : Nat} {ei : Int} {wd : Wd} {t1 t2 t3 t4 t5 t : Tok} (h : RowI (cs text) D res c) (hi : (c.at_ : Int) < text.length) (hw : wordA ((cs text).drop (c.at_ : Int).toNat) (c.at_ : Int).toNat = .ok (wd, e)) (he : ei = e) (hb : bl .norm ((cs text).drop ei.toNat) ei.toNat = .ok j) (hW : D < W) :
    RowI (cs text) D res ⟨j, t, c.left - 1, c.ws ++ [wd], c.rows ++ [(W, wordO wd t1 t2 t3 t4 t5)], c.k + 1⟩ ∧ c.left - 1 < c.left := by
  obtain ⟨ha, hl, hz, r, t, rfl⟩ := h
  subst he
  obtain ⟨n', r', hn, t', rfl⟩ := t.next (by rw [cs_length]; omega) hw hb
  refine ⟨⟨ha.snoc ⟨_, _, _, _, _, rfl⟩, fun p hp => ?_, by simp only [List.length_append, List.length_cons, List.length_nil]; omega, r', by rw [hn]; exact t', ?_⟩, by omega⟩
  · rcases List.mem_append.mp hp with hp | hp
    · exact hl p hp
    · rw [List.mem_singleton.mp hp]; exact hW
  · cases r' <;> simp [Except.map]
theorem rowsO_snoc (rows : List (Addr × Obj)) (W : Addr) (o : Obj) (k : Nat) : listOf ((rows.map fun p => Value.ref p.1).toArray.push (.ref W)) (k + 1) = rowsO (rows ++ [(W, o)]) (k + 1) := by
  simp [rowsO]
theorem rows_while {prog : Program} {w : World} {A : Around} {E : Value → Shared → Prop} {Q : Flow → Shared → Prop} {s : Shared} {env : Env} {h₀ : Heap} {L : Addr} {test : Expr} {body : List Stmt} {pos : Pos} {m₀ : Str → Option Value} {D : Addr} {news : List (Addr × Obj)} {text : Str} {res : Except Nat (List Wd)} {n i : Nat} {t : Tok}
    (F : Fr h₀ L s.heap m₀) (N : News h₀ L s.heap ((D, listOf #[] 0) :: news)) (hlt : ∀ p ∈ news, p.1 < D) (hm : m₀ (Str.ofString "at") = some (.int (i : Int) t)) (hn : n ≤ 1000) (hI : AftR (cs text) n i res)
    (turn : ∀ (c : RowSt) (u : Option Value) h tk, RowI (cs text) D res c → (∀ p ∈ c.rows ++ news, p.1 ≠ D) → Fr h₀ L h (fun z => if z = Str.ofString "at" then some (.int (c.at_ : Int) c.tk) else if z = Str.ofString "word" then u else m₀ z) → News h₀ L h ((D, rowsO c.rows c.k) :: (c.rows ++ news)) →
      wpAny (model prog w) A (isTrue test env (eval test env)) (fun b s₂ =>
        if b = true then wpAny (model prog w) A (execs body env) (KswPost h₀ L s (fun c : RowSt => (D, rowsO c.rows c.k) :: (c.rows ++ news)) (fun c => [(Str.ofString "at", .int (c.at_ : Int) c.tk)]) (fun _ => True) [Str.ofString "word"] m₀ (RowI (cs text) D res) (·.left) Q c) E s₂ else Q .next s₂) E { s with heap := h, toks := tk })
    (hE : PassesOwn (model prog w) A env E := by passes_own) :
    wpAny (model prog w) A (exec (.While test body [] pos) env) Q E s := by
  refine ksw_while (fun c : RowSt => (D, rowsO c.rows c.k) :: (c.rows ++ news)) (fun c => [(Str.ofString "at", .int (c.at_ : Int) c.tk)]) (fun _ => True) [Str.ofString "word"] (RowI (cs text) D res) (·.left) ⟨i, t, n, [], [], 0⟩ F N trivial ?_ ⟨.nil, (fun _ hp => nomatch hp), by simpa using hn, res, hI, by cases res <;> simp [Except.map]⟩ ?_ hE
  · intro p hp
    rw [List.mem_singleton.mp hp]
    exact hm
  · intro c u h tk _ hc F₁ N₁
    refine turn c (u (Str.ofString "word")) h tk hc (fun p hp => ?_) ?_ N₁
    · rcases List.mem_append.mp hp with hp | hp
      · exact Nat.ne_of_gt (hc.2.1 p hp)
      · exact Nat.ne_of_lt (hlt p hp)
    · have e : (kstB (fun z => if [Str.ofString "word"].contains z then u z else m₀ z) [(Str.ofString "at", .int (c.at_ : Int) c.tk)]) = (fun z => if z = Str.ofString "at" then some (.int (c.at_ : Int) c.tk) else if z = Str.ofString "word" then u (Str.ofString "word") else m₀ z) := by
        funext z
        simp only [kstB, List.contains_cons, List.contains_nil, Bool.or_false, beq_iff_eq]
        split
        · rfl
        · split
          · rename_i h; rw [h]
          · rfl
      rw [← e]
      exact F₁
theorem RowR.after {l : List Nat} {j : Nat} {r : Except Nat (List Wd)} (R : RowR l r) (hb : bl .norm (l.drop (Int.toNat 0)) (Int.toNat 0) = .ok j) : ∃ n, n ≤ 1000 ∧ AftR l n j r := by
  cases R with
  | bad h => have h' : bl .norm l 0 = .ok j := hb; rw [h] at h'; cases h'
  | go h hn t => have h' : bl .norm l 0 = .ok j := hb; rw [h] at h'; cases h'; exact ⟨_, hn, t⟩
theorem RowR.err {l : List Nat} {p : Nat} {r : Except Nat (List Wd)} (R : RowR l r) (hb : bl .norm (l.drop (Int.toNat 0)) (Int.toNat 0) = .error p) : r = .error p := by
  cases R with
  | bad h => have h' : bl .norm l 0 = .error p := hb; rw [h] at h'; cases h'; rfl
  | go h hn t => have h' : bl .norm l 0 = .error p := hb; rw [h] at h'; cases h'
theorem RowI.fits {l : List Nat} {D : Addr} {res : Except Nat (List Wd)} {c : RowSt} (h : RowI l D res c) : (c.rows.map fun p => Value.ref p.1).toArray.size ≤ sizeLine := by
  have := h.2.2.1
  rw [sizeLine_eq]
  simp only [List.size_toArray, List.length_map]
  omega
theorem rows_turn {h₀ h' : Heap} {L D W T : Addr} {s : Shared} {m₀ m' : Str → Option Value} {text : Str} {res : Except Nat (List Wd)} {c : RowSt} {news : List (Addr × Obj)} {e j tk : Nat} {ei : Int} {wd : Wd} {t1 t2 t3 t4 t5 t : Tok} {o : Obj}
    (hc : RowI (cs text) D res c) (hi : (c.at_ : Int) < text.length) (hw : wordA ((cs text).drop (c.at_ : Int).toNat) (c.at_ : Int).toNat = .ok (wd, e)) (he : ei = e) (hb : bl .norm ((cs text).drop ei.toNat) ei.toNat = .ok j) (hW : D < W)
    (F : Fr h₀ L h' m') (N : News h₀ L h' ((T, o) :: (W, wordO wd t1 t2 t3 t4 t5) :: (D, listOf ((c.rows.map fun p => Value.ref p.1).toArray.push (.ref W)) (c.k + 1)) :: (c.rows ++ news)))
    (hm : m' (Str.ofString "at") = some (.int (j : Int) t)) (hr : ∀ z, z ≠ Str.ofString "at" → z ≠ Str.ofString "word" → m' z = m₀ z) :
    KswEnd h₀ L s (fun c : RowSt => (D, rowsO c.rows c.k) :: (c.rows ++ news)) (fun c => [(Str.ofString "at", .int (c.at_ : Int) c.tk)]) (fun _ => True) [Str.ofString "word"] m₀ (RowI (cs text) D res) (·.left) c { s with heap := h', toks := tk } := by
  obtain ⟨hp, hl⟩ := hc.next (t := t) (t1 := t1) (t2 := t2) (t3 := t3) (t4 := t4) (t5 := t5) hi hw he hb hW
  rw [rowsO_snoc _ _ (wordO wd t1 t2 t3 t4 t5)] at N
  refine ksw_end _ F N ?_ trivial ?_ ?_ hp hl
  · intro p hp
    rcases List.mem_cons.mp hp with rfl | hp
    · exact .tail _ (.tail _ (.head _))
    · rcases List.mem_append.mp hp with hp | hp
      · rcases List.mem_append.mp hp with hp | hp
        · exact .tail _ (.tail _ (.tail _ (List.mem_append_left _ hp)))
        · rw [List.mem_singleton.mp hp]; exact .tail _ (.head _)
      · exact .tail _ (.tail _ (.tail _ (List.mem_append_right _ hp)))
  · intro p hp
    rw [List.mem_singleton.mp hp]
    exact hm
  · intro z h1 h2
    refine hr z (h1 _ (.head _)) fun e => ?_
    subst e
    simp at h2
theorem rows_last {h₀ h' : Heap} {L D T : Addr} {rows news : List (Addr × Obj)} {k : Nat} {o : Obj}
    (N : News h₀ L h' ((T, o) :: (D, listOf ((rows.map fun p => Value.ref p.1).toArray.push (.ref T)) (k + 1)) :: (rows ++ news))) : News h₀ L h' ((D, rowsO (rows ++ [(T, o)]) (k + 1)) :: ((rows ++ [(T, o)]) ++ news)) := by
  rw [rowsO_snoc _ _ o] at N
  intro p hp
  refine N p ?_
  rcases List.mem_cons.mp hp with rfl | hp
  · exact .tail _ (.head _)
  · rcases List.mem_append.mp hp with hp | hp
    · rcases List.mem_append.mp hp with hp | hp
      · exact .tail _ (.tail _ (List.mem_append_left _ hp))
      · rw [List.mem_singleton.mp hp]; exact .head _
    · exact .tail _ (.tail _ (List.mem_append_right _ hp))
theorem lt_snoc {D T : Addr} {rows : List (Addr × Obj)} {o : Obj} (h : ∀ p ∈ rows, D < p.1) (hT : D < T) : ∀ p ∈ rows ++ [(T, o)], D < p.1 := fun p hp => by
  rcases List.mem_append.mp hp with hp | hp
  · exact h p hp
  · rw [List.mem_singleton.mp hp]; exact hT
end Mine
end
section
open PySem PySem.W PyProof.Rows PySem.Calls
namespace Mine


section
variable {w : World} {mean : ExcName → Option Value} {mg mb : Str → Option Value} {dp un : Nat} {gd : Option (List Code)} {cn : Str} {cs₁ : Scope} {a : Addr} {ccd : Value} {cl : List (Str × Addr)} {outer : List Env} {A₀ : Around} {base h₀ : Heap} {L : Addr} {m : Str → Option Value} {s : Shared} {Q E : Value → Shared → Prop} {news : List (Addr × Obj)}

theorem words_F7_1 : Flush := by
  (try w_top off)
  k_with_none
  k_with "mine k_ne" => (refine neN ?_; (try dsimp only); first | (refine Nat.ne_of_lt ?_; (repeat (first | exact Nat.lt_add_one _ | refine Nat.lt.step ?_)); done) | (refine Nat.ne_of_gt ?_; (repeat (first | exact Nat.lt_add_one _ | refine Nat.lt.step ?_)); done) | omega)
  k_with "mine spliced" => (k_here; with_reducible (first | refine args_s8 ?_ | refine args_s4 ?_ | refine args_s2 ?_ | refine args_s1 ?_ | refine args_i1 ?_))
  k_with "mine ktr_room" => ((try dsimp only [ktrTop, Around.deeper]); (try simp only [depth_under_make, depth_under_kw, depth_in1, depth_deeper, depth_caller, depth_mark]); (try dsimp only [ktrTop]); first | ((simp only [Nat.add_assoc]); exact room_le (by assumption) (by rfl)) | omega)
  k_with "mine ktr_units" => ((try dsimp only [ktrTop, Around.deeper]); (try simp only [units_in1, units_deeper, Around.mark_units, units_caller]); (try dsimp only [ktrTop]); first | ((simp only [Nat.add_assoc]); exact room_le (by assumption) (by rfl)) | omega)
  k_with "mine exec Raise some none" => (k_here; k_dflt (refine' raise_fault ?hhz1 ?_; (case hhz1 => first | exact rfl | assumption); k_whole))
  k_with "mine call ref" => (k_here; (with_reducible show wpAny _ _ (call (Value.ref 45) [_, _]) _ _ _); k_dflt (refine' fault_make ?k1z2 ?k2z2 ?k3z2 ?k4z2 ?k5z2 ?kKz2 ?kdz2 ?kuz2 ?_; (case k1z2 => k_asm); (case k2z2 => k_asm); (case k3z2 => k_asm); (case k4z2 => k_asm); (case k5z2 => k_asm); (case kKz2 => first | exact rfl | assumption); (case kdz2 => ktr_room); (case kuz2 => ktr_units)); intro h'q9 tk'q9 e'q9 t'q9 d'q9 od'q9 F'q9 hs'q9 N'q9 ne1'q9 ne2'q9; (refine ⟨_, _, _, rfl, (N'q9 _ (.head _)).1, rfl, rfl, rfl, Frag.In.keeps (by k_asm) (Fr.keep F'q9), ?_⟩); (try dsimp only))
  k_with "mine leaving ref" => (k_here; (refine' leave_onF ?k1z3 ?k2z3 ?k3z3 ?k4z3 ?_; (case k3z3 => assumption); (case k1z3 => assumption); (case k2z3 => assumption); (case k4z3 => exact fun q hq => (News.mk (by k_asm) q hq).2.2); intro h'q9 R'q9; (try dsimp only)))
  k_with "mine leaving ref" => (k_here; (refine' leave_raiseF ?k1z4 ?k2z4 ?k3z4 ?k4z4 ?k5z4 ?k6z4 ?_; (case k1z4 => assumption); (case k2z4 => assumption); (case k3z4 => assumption); (case k4z4 => assumption); (case k5z4 => assumption); (case k6z4 => assumption); intro h'q9 R'q9; (try dsimp only)))
  k_with "mine call ref" => (k_here; (with_reducible show wpAny _ _ (call (Value.ref 70) _) _ _ _); k_dflt (refine' blank_end_spec ?k1z5 ?k2z5 ?k3z5 ?k4z5 ?k5z5 ?kKz5 ?kdz5 ?kuz5 ?p0z5 ?p1z5 ?_ ?_; (case k1z5 => k_asm); (case k2z5 => k_asm); (case k3z5 => k_asm); (case k4z5 => k_asm); (case k5z5 => k_asm); (case kKz5 => first | exact rfl | assumption); (case kdz5 => ktr_room); (case kuz5 => ktr_units); (case p0z5 => first | assumption | omega | (size_fits; done)); (case p1z5 => first | assumption | omega | (size_fits; done)); skip); (intro k'q9 hz'q9 t'q9 h'q9 tk'q9 F'q9 N'q9; (try dsimp only); (try k_fold)); rotate_left; (intro p'q9 hz'q9 e'q9 g'q9 h'q9 tk'q9 G'q9 R'q9; (try dsimp only)); rotate_left)
  k_with "mine call ref" => (k_here; (with_reducible show wpAny _ _ (call (Value.ref 105) _) _ _ _); k_dflt (refine' read_word_spec ?k1z6 ?k2z6 ?k3z6 ?k4z6 ?k5z6 ?kKz6 ?kdz6 ?kuz6 ?p0z6 ?p1z6 ?p2z6 ?_ ?_; (case k1z6 => k_asm); (case k2z6 => k_asm); (case k3z6 => k_asm); (case k4z6 => k_asm); (case k5z6 => k_asm); (case kKz6 => first | exact rfl | assumption); (case kdz6 => ktr_room); (case kuz6 => ktr_units); (case p0z6 => first | assumption | omega | (size_fits; done)); (case p1z6 => first | assumption | omega | (size_fits; done)); (case p2z6 => first | assumption | omega | (size_fits; done)); skip); (intro wd'q9 e'q9 hz'q9 ei'q9 hei'q9 D'q9 W'q9 t1'q9 t2'q9 t3'q9 t4'q9 t5'q9 te'q9 h'q9 tk'q9 F'q9 N'q9 ltWq9 ltDq9; (try replace ltDq9 := ltN ltDq9); (try k_lt ltWq9); (try dsimp only); (try k_fold)); rotate_left; (intro p'q9 hz'q9 e'q9 g'q9 h'q9 tk'q9 G'q9 R'q9; (try dsimp only)); rotate_left)
  k_with "mine k_all" => assumption
  k_with "mine size_fits" => exact RowI.fits (by assumption)
  exact trivial
set_option maxRecDepth 100000 in
set_option maxHeartbeats 8000000 in
theorem word_rows_spec {text : Str} {t1 : Tok} {res : Except Nat (List Wd)} (R : RowR (cs text) res)
   (B : Below A₀ base outer h₀) (F : Fr h₀ L s.heap m) (X : (hd.heap_1 w.params).In h₀) (N : News h₀ L s.heap news) (T : Top topProg LZ mean mg mb h₀) (hk : cs₁.kind = .function)
   (hdp : dp + 13 < recursionLimit) (hun : un + 130 < cLine)
   (hl : text.length ≤ 1048576)
   (hret : RowsRet h₀ L m news s Q text.length res)
   (hexc : ∀ p : Nat, res = .error p → FaultTo base h₀ L m (envX cn cs₁ L a ccd cl :: outer) news s E p) :
   wpAny (model prg w) (ktrTop dp un gd cn cs₁ L a ccd cl outer) (call (.ref 112) [.str text t1]) Q E s := by
  refine wpAny_call ?_
  k_dflt cell_enter
  skip
  k_with "exec While Compare cons nil" => ((rename Fr _ _ _ _ => lF'); (rename News _ _ _ _ => lN'); (obtain ⟨nn, hnn, hA⟩ := RowR.after R (by assumption)); (with_unfolding_all refine' rows_while lF' lN' ?a ?b hnn hA ?turn ?hE); (case a => assumption); (case b => rfl); (case hE => passes_own); intro c u hh tk hc hne lF' lN')
  k_steps
  · exact rows_turn hc (by assumption) (by assumption) (by assumption) (by assumption) (And.left (by assumption)) (by assumption) (by assumption) rfl (fun z h1 h2 => by simp [h1, h2])
  · exact hexc _ (hc.gapE (by assumption) (by assumption) (by assumption) (by assumption)) _ _ _ _ (by assumption) (RaisedF.mono (by assumption) fun q hq => .tail _ (.tail _ (.tail _ (List.mem_append_right _ hq))))
  · exact hexc _ (hc.err (by assumption) (by assumption)) _ _ _ _ (by assumption) (RaisedF.mono (by assumption) fun q hq => .tail _ (List.mem_append_right _ hq))
  · exact hret _ (hc.stop (by assumption)) _ _ _ _ _ (hc.1.snoc (q := (_, _)) ⟨_, _, _, 0, 0, rfl⟩) (by assumption) (rows_last (by assumption)) (by assumption) (lt_snoc hc.2.1 (And.left (by assumption)))
  · exact hexc _ (R.err (by assumption)) _ _ _ _ (by assumption) (RaisedF.mono (by assumption) (fun q hq => by repeat (first | exact hq | apply List.Mem.tail)))
end
end Mine
end
section
open PySem PySem.W PyProof.Rows PySem.Calls
namespace Mine
abbrev heardScope : Scope := { kind := .function, names := [(Str.ofString "call", .local), (Str.ofString "fault", .local), (Str.ofString "WordFault", .globalImplicit)], isGenerator := false, isCoroutine := false }
abbrev heardEnv (L : Addr) : Env := envOf (Str.ofString "_law_heard") heardScope L 140 (.ref 139)
abbrev HeardCall (w : World) (mean : ExcName → Option Value) (mg mb : Str → Option Value) (A₁ : Around) (base : Heap) (fs : List Env) (news : List (Addr × Obj)) (f : Addr) (P : Value → List (Addr × Obj) → Prop) (er : Nat → Prop) : Prop :=
  ∀ (g : Heap) (L' : Addr) (m' : Str → Option Value) (s' : Shared) (Q' E' : Value → Shared → Prop), Fr g L' s'.heap m' → News g L' s'.heap news → Below A₁ base fs g → (hd.heap_1 w.params).In g → Top topProg LZ mean mg mb g →
    (∀ v news' h' tk', P v news' → Fr g L' h' m' → News g L' h' (news' ++ news) → (∀ q ∈ news', ∀ p ∈ news, p.1 < q.1) → Q' v { s' with heap := h', toks := tk' }) →
    (∀ p, er p → FaultTo base g L' m' (heardEnv L' :: fs) news s' E' p) →
    wpAny (model prg w) (A₁.deeper (heardEnv L')) (call (.ref f) []) Q' E' s'
theorem spot_getI {w : World} {A : Around} {E : Value → Shared → Prop} {h : Heap} {g : Array GenState} {d : Drawn} {t : Nat} {os : OsState} {e : Addr} {oe od : Obj} {i : Int} {tk : Tok} {expr : Bool} {Q : Value → Shared → Prop}
    (X : (hd.heap_1 w.params).In h) (I : InstAt h e oe 45 (some od)) (hf : findObj (hd.heap_1 w.params) 45 (some od) (Str.ofString "spot") = some (.value (.int i tk)))
    (hq : Q (.int i tk) ⟨h, g, d, t + 1, os⟩) : wpAny (model prg w) A (getAttr (.ref e) (Str.ofString "spot") expr) Q E ⟨h, g, d, t, os⟩ := by
  have L0 := I.type (M := model prg w)
  have L1 : Looks (model prg w) h (typeLookup (.ref 45) "__getattribute__") (some (.builtin "BaseException.__getattribute__")) := looks_findIn X (by with_unfolding_all rfl)
  have L2 : Looks (model prg w) h (typeLookup (.ref 45) "__getattr__") none := looks_findIn X (by with_unfolding_all rfl)
  have L3 : Looks (model prg w) h (isInstance (.ref e) (.type "BaseException")) true := L0.andThen (looks_subIn X (by with_unfolding_all rfl))
  have L4 := looks_find (M := model prg w) X I hf
  have FB := PySem.F.excAttr_ValueError
  have f3 := FB.ga.bind (.ref e)
  have hx0 : (expr && onTheHeap (Value.builtin "BaseException.__getattribute__")) = false := by cases expr <;> rfl
  have hx2 : (Value.builtin "BaseException.__getattribute__" == Value.builtin "object.__getattribute__") = false := by decide +kernel
  have hx1 : (onTheHeap (Value.ref 45) && Value.builtin "BaseException.__getattribute__" == Value.builtin "object.__getattribute__") = false := by rw [hx2]; rfl
  unfold getAttr
  repeat (any_goals (first | assumption | with_reducible refine L0.at ?_ | with_reducible refine L1.at ?_ | with_reducible refine L2.at ?_ | wp_step))
  have ha := F.args_bexc_ga (.ref e) (.str (Str.ofString "spot") t)
  have hk : builtinKind "BaseException.__getattribute__" = some .slot := by decide +kernel
  have hsplit : splitId "BaseException.__getattribute__" = some ("BaseException", "__getattribute__") := by decide +kernel
  refine codeAny_call_builtin FB.ga.plain F.entry_bexc_ga ?_
  simp only [checkBuiltinCall, hk, hsplit, List.cons_append, List.nil_append]
  refine wpAny_bind (L3.at ?_)
  repeat (any_goals (first | assumption | with_reducible refine L0.at ?_ | with_reducible refine L4.at ?_ | wp_step))
theorem spot_find {w : World} {od : Obj} {i : Int} (hs : SpotDict od i) : ∃ t, findObj (hd.heap_1 w.params) 45 (some od) (Str.ofString "spot") = some (.value (.int i t)) := by
  obtain ⟨h1, t0, v, h2, t2, t3, n, rfl⟩ := hs
  refine ⟨t3, findObj_own (attr := none) (by with_unfolding_all rfl) (by with_unfolding_all rfl) rfl ?_⟩
  rw [lookIn_dict]
  unfold getL
  have k1 : (Value.str (Str.ofString "message") t0).isStr (Str.ofString "spot") = false := show (Str.ofString "message" == Str.ofString "spot") = false from by decide +kernel
  have k2 : (Value.str (Str.ofString "spot") t2).isStr (Str.ofString "spot") = true := show (Str.ofString "spot" == Str.ofString "spot") = true from by decide +kernel
  simp only [List.find?, k1, k2]
theorem spot_get {w : World} {A : Around} {E : Value → Shared → Prop} {s : Shared} {h₀ : Heap} {L e d : Addr} {m : Str → Option Value} {news : List (Addr × Obj)} {vs : Array Value} {sl : Array (Option Value)} {od : Obj} {i : Int} {expr : Bool} {Q : Value → Shared → Prop}
    (F : Fr h₀ L s.heap m) (X₀ : (hd.heap_1 w.params).In h₀) (N : News h₀ L s.heap ((e, (⟨.ref 45, some d, .fields vs, sl⟩ : Obj)) :: (d, od) :: news)) (hs : SpotDict od i)
    (h : ∀ t, Q (.int i t) { s with toks := s.toks + 1 }) : wpAny (model prg w) A (getAttr (.ref e) (Str.ofString "spot") expr) Q E s := by
  obtain ⟨t, hf⟩ := spot_find (w := w) hs
  exact spot_getI (X₀.keeps F.keep) ⟨(N _ (.head _)).1, rfl, rfl, (N _ (.tail _ (.head _))).1⟩ hf (h t)
end Mine
end
section
open PySem PySem.W PyProof.Rows PySem.Calls
namespace Mine


section
variable {w : World} {mean : ExcName → Option Value} {mg mb : Str → Option Value} {dp un : Nat} {gd : Option (List Code)} {cn : Str} {cs₁ : Scope} {a : Addr} {ccd : Value} {cl : List (Str × Addr)} {outer : List Env} {A₀ : Around} {base h₀ : Heap} {L : Addr} {m : Str → Option Value} {s : Shared} {Q E : Value → Shared → Prop} {news : List (Addr × Obj)}

theorem words_H1_1 : Flush := by
  (try w_top off)
  k_with_none
  k_with "mine k_ne" => (refine neN ?_; (try dsimp only); first | (refine Nat.ne_of_lt ?_; (repeat (first | exact Nat.lt_add_one _ | refine Nat.lt.step ?_)); done) | (refine Nat.ne_of_gt ?_; (repeat (first | exact Nat.lt_add_one _ | refine Nat.lt.step ?_)); done) | omega)
  k_with "mine spliced" => (k_here; with_reducible (first | refine args_s8 ?_ | refine args_s4 ?_ | refine args_s2 ?_ | refine args_s1 ?_ | refine args_i1 ?_))
  k_with "mine ktr_room" => ((try dsimp only [ktrTop, Around.deeper]); (try simp only [depth_under_make, depth_under_kw, depth_in1, depth_deeper, depth_caller, depth_mark]); (try dsimp only [ktrTop]); first | ((simp only [Nat.add_assoc]); exact room_le (by assumption) (by rfl)) | omega)
  k_with "mine ktr_units" => ((try dsimp only [ktrTop, Around.deeper]); (try simp only [units_in1, units_deeper, Around.mark_units, units_caller]); (try dsimp only [ktrTop]); first | ((simp only [Nat.add_assoc]); exact room_le (by assumption) (by rfl)) | omega)
  k_with "mine exec Raise some none" => (k_here; k_dflt (refine' raise_fault ?hhz1 ?_; (case hhz1 => first | exact rfl | assumption); k_whole))
  k_with "mine call ref" => (k_here; (with_reducible show wpAny _ _ (call (Value.ref 45) [_, _]) _ _ _); k_dflt (refine' fault_make ?k1z2 ?k2z2 ?k3z2 ?k4z2 ?k5z2 ?kKz2 ?kdz2 ?kuz2 ?_; (case k1z2 => k_asm); (case k2z2 => k_asm); (case k3z2 => k_asm); (case k4z2 => k_asm); (case k5z2 => k_asm); (case kKz2 => first | exact rfl | assumption); (case kdz2 => ktr_room); (case kuz2 => ktr_units)); intro h'q9 tk'q9 e'q9 t'q9 d'q9 od'q9 F'q9 hs'q9 N'q9 ne1'q9 ne2'q9; (refine ⟨_, _, _, rfl, (N'q9 _ (.head _)).1, rfl, rfl, rfl, Frag.In.keeps (by k_asm) (Fr.keep F'q9), ?_⟩); (try dsimp only))
  k_with "mine leaving ref" => (k_here; (refine' leave_onF ?k1z3 ?k2z3 ?k3z3 ?k4z3 ?_; (case k3z3 => assumption); (case k1z3 => assumption); (case k2z3 => assumption); (case k4z3 => exact fun q hq => (News.mk (by k_asm) q hq).2.2); intro h'q9 R'q9; (try dsimp only)))
  k_with "mine leaving ref" => (k_here; (refine' leave_raiseF ?k1z4 ?k2z4 ?k3z4 ?k4z4 ?k5z4 ?k6z4 ?_; (case k1z4 => assumption); (case k2z4 => assumption); (case k3z4 => assumption); (case k4z4 => assumption); (case k5z4 => assumption); (case k6z4 => assumption); intro h'q9 R'q9; (try dsimp only)))
  k_with "mine LeaveT" => (k_dflt (refine' leaveT_ ?Fz7 ?Nz7 ?Tz7 ?_; (case Fz7 => k_asm); (case Nz7 => k_asm); (case Tz7 => first | assumption | exact KtsTurn.refl | exact KtsTurn.trans (by assumption) (by assumption)); k_whole); intro kgq9 kTq9 kFq9 kNq9 kBq9; (try k_lift kBq9); (try dsimp only))
  k_with "mine LeaveG" => (k_dflt (refine' leaveG_ ?Fz9 ?Nz9 ?_; (case Fz9 => k_asm); (case Nz9 => k_asm); k_whole); intro kFq9 kNq9 kDq9; (try dsimp only))
  k_with "mine callWith ref" => (k_here; k_dflt (refine' callWith_F0 ?k1z10 ?_; (case k1z10 => exact FnAt.of (by k_asm) (by assumption)); k_whole; try dsimp only [List.nil_append, List.cons_append]))
  k_with "mine getAttr ref" => (k_here; (with_reducible show wpAny _ _ (getAttr (Value.ref _) (Str.ofString "spot") _) _ _ _); k_dflt (refine' spot_get ?Fz11 ?Xz11 ?Nz11 ?Sz11 ?_; (case Fz11 => k_asm); (case Xz11 => k_asm); (case Nz11 => k_asm); (case Sz11 => assumption); k_whole); intro ts'q9)
  exact trivial
set_option maxRecDepth 100000 in
set_option maxHeartbeats 8000000 in
theorem law_heard_spec {f : Addr} {foc : Value} {fod : Option Addr} {fd : FuncData} {fsl : Array (Option Value)} {P : Value → List (Addr × Obj) → Prop} {er : Nat → Prop}
   (B : Below A₀ base outer h₀) (F : Fr h₀ L s.heap m) (X : (hd.heap_1 w.params).In h₀) (N : News h₀ L s.heap news) (T : Top topProg LZ mean mg mb h₀) (hk : cs₁.kind = .function)
   (hdp : dp + 1 < recursionLimit) (hun : un + 10 < cLine)
   (XB : (hd.heap_1 w.params).In base) (TB : Top topProg LZ mean mg mb base) (hf : (f, (⟨foc, fod, .func fd, fsl⟩ : Obj)) ∈ news)
   (hcall : HeardCall w mean mg mb (ktrTop dp un gd cn cs₁ L a ccd cl outer) base (envX cn cs₁ L a ccd cl :: outer) news f P er)
   (hok : ∀ v news' g' h' tk', P v news' → KtsTurn (outer.filterMap (·.frame)) h₀ g' → Below A₀ base outer g' → Fr g' L h' m → News g' L h' (news' ++ news) → (∀ q ∈ news', ∀ p ∈ news, p.1 < q.1) → Q v { s with heap := h', toks := tk' })
   (hno : ∀ p, er p → ∀ D t1 t2 g' h' tk', KtsTurn (outer.filterMap (·.frame)) h₀ g' → Below A₀ base outer g' → Fr g' L h' m → News g' L h' ((D, tupO [.str (Str.ofString "refused") t1, .int p t2]) :: news) → (∀ q ∈ news, q.1 < D) → Q (.ref D) { s with heap := h', toks := tk' }) :
   wpAny (model prg w) (ktrTop dp un gd cn cs₁ L a ccd cl outer) (call (.ref 140) [.ref f]) Q E s := by
  refine wpAny_call ?_
  k_dflt ((refine' codeT_def ?k1z5 ?k2z5 ?k3z5 ?k4z5 ?k5z5 ?kAz5 ?kFz5 ?kKz5 ?k6z5 ?k7z5 ?k8z5 ?k9z5 ?kBz5 ?_ ?c2z5 ?c3z5 ?c4z5 ?c5z5; (case kAz5 => exact rfl); (case kFz5 => exact rfl); (case kKz5 => assumption); (case k1z5 => k_asm); (case k2z5 => k_asm); (case k3z5 => k_asm); (case k4z5 => k_asm); (case k5z5 => k_asm); (case k6z5 => k_is); (case k7z5 => k_is); (case k8z5 => ktr_room); (case k9z5 => exact BindsTo.of_eq rfl); (case c5z5 => decide); (case kBz5 => exact locs rfl); (case c2z5 => exact rfl); (case c3z5 => exact rfl); (case c4z5 => exact rfl); k_whole; intro g'q9 L'q9 h'q9 FG'q9 F'q9 N'q9 B'q9 X'q9 T'q9 l1q9; (try k_lt l1q9); (try dsimp only); (try k_lift B'q9); (try k_fold)))
  skip
  k_steps
  refine hcall _ _ _ _ _ _ (by assumption) (by assumption) (by assumption) (by assumption) (by assumption) ?_ ?_
  · intro v news' h' tk' hP F' N' lt'
    k_steps
    exact hok _ _ _ _ _ hP (by assumption) (by assumption) (by assumption) (by assumption) lt'
  · intro p hp e' g' h' tk' G' R'
    k_steps
    refine caughtF R' G' (by assumption) XB TB ?_
    rintro h' g' tk d od oe kT F' N' hs ⟨vs, sl, rfl⟩ B'
    have X' := XB.keeps B'.stays
    have T' := TB.keeps B'.stays
    k_steps
    exact hno _ hp _ _ _ _ _ _ (by assumption) (by assumption) (by assumption) (News.heads1 (by assumption) (fun q hq => by repeat (first | exact hq | apply List.Mem.tail))) (lt_all (And.right (And.right (by assumption))))
end
end Mine
end
section
open PySem PySem.W PyProof.Rows PySem.Calls
namespace Mine
def TabOk (ln col : Nat) (qual : Str) (ps : Array Value) (news : List (Addr × Obj)) : Prop :=
  ps = #[] ∨ ∃ c' oc vs t, ps = #[rawInt ln, rawInt col, .ref c'] ∧ (c', oc) ∈ news ∧ oc.data = .fields vs ∧ vs[1]? = some (.str qual t)
theorem TabOk.mono {ln col : Nat} {qual : Str} {ps : Array Value} {news news' : List (Addr × Obj)} (h : TabOk ln col qual ps news) (hs : ∀ q ∈ news, q ∈ news') : TabOk ln col qual ps news' := by
  rcases h with h | ⟨c, o, v, t, h1, h2, h3, h4⟩
  · exact .inl h
  · exact .inr ⟨c, o, v, t, h1, hs _ h2, h3, h4⟩
section
variable {M : Model} {A : Around} {E : Value → Shared → Prop} {s : Shared} {h₀ : Heap} {L a c P : Addr} {m mg mb : Str → Option Value} {cn : Str} {cs₀ : Scope} {ccd : Value} {cl : List (Str × Addr)} {news rest : List (Addr × Obj)}
  {p : Program} {loose : List Str} {mean : ExcName → Option Value} {params : Arguments} {body : Expr} {scope : Scope} {ps : Array Value} {pos : Pos} {clos : List (Str × Addr)}
theorem lam_eval {Q : Value → Shared → Prop} {g : Obj → List (Addr × Obj)} {ln col : Nat} {qual : Str} (F : Fr h₀ L s.heap m) (N : News h₀ L s.heap news) (T : Top p loose mean mg mb h₀) (C : CodeHd h₀ c P) (hcd : ccd = .ref c) (U : UpdF P (tabObj ps) news g)
    (hT : TabOk ln col qual ps rest) (hrest : ∀ q ∈ rest, q ∈ news) (hrg : ∀ o', ∀ q ∈ rest, q ∈ g o') (hne : ∀ q ∈ rest, q.1 ≠ P)
    (hln : pos.line = ln) (hcol : pos.col = col) (hq : (envX cn cs₀ L a ccd cl).qual ++ "<lambda>" = qual) (hdef : defaultsOf params (envX cn cs₀ L a ccd cl) = ([], [])) (hcl : closureFor scope (envX cn cs₀ L a ccd cl) = pure clos)
    (h : ∀ f c' oc vs t ctv own h' tk ps', Fr h₀ L h' m → News h₀ L h' ((f, kla_obj "<lambda>" qual params body scope clos ((mg "__name__").getD .none) c' ctv) :: (own ++ g (tabObj ps'))) → (c', oc) ∈ own ++ g (tabObj ps') →
      oc.data = .fields vs → vs[1]? = some (.str qual t) → TabOk ln col qual ps' (own ++ rest) → (∀ q ∈ own, q.1 ≠ P) → (∀ q ∈ own, ∀ p ∈ news, p.1 < q.1) → Q (.ref f) { s with heap := h', toks := tk }) :
    wpAny M A (eval (.Lambda params body scope pos) (envX cn cs₀ L a ccd cl)) Q E s := by
  subst hln hcol hq
  refine kla_eval hdef ?_
  rcases hT with rfl | ⟨c', oc, vs, t, rfl, hm, hd, hv⟩
  · refine kla_nest F N T C hcd U True.intro rfl hcl fun f c' oc vs t ctv h' tk F' N' hd hv hlt hcf => ?_
    obtain ⟨pre, post, hnw, hg, h1, h2⟩ := U.split
    have hP : (P, tabObj #[]) ∈ news := by rw [hnw]; exact List.mem_append_right _ (.head _)
    refine h f c' oc vs t ctv [(c', oc)] h' tk _ F' N' (.head _) hd hv (.inr ⟨c', oc, vs, t, rfl, .head _, hd, hv⟩) ?_ ?_
    · intro q hq
      rw [List.mem_singleton.mp hq]; exact Nat.ne_of_gt (hlt _ hP)
    · intro q hq p hp
      rw [List.mem_singleton.mp hq]; exact hlt p hp
  · obtain ⟨pre, post, hnw, hg, h1, h2⟩ := U.split
    have hP : (P, tabObj #[rawInt pos.line, rawInt pos.col, .ref c']) ∈ news := by rw [hnw]; exact List.mem_append_right _ (.head _)
    refine kla_hit (c' := c') F N T C hcd hP (by simp [TriplesOk, rawInt]) (by simp [codeAmong, rawInt]) hcl fun f ctv h' tk F' N' hlt => ?_
    refine h f c' oc vs t ctv [] h' tk _ F' (fun q hq => N' q ?_) (hrg _ _ hm) hd hv (.inr ⟨c', oc, vs, t, rfl, hm, hd, hv⟩) (fun q hq => nomatch hq) (fun q hq => nomatch hq)
    rw [hg] at hq
    rw [hnw]
    exact hq
end
section
variable {M : Model} {A A₀ : Around} {E : Value → Shared → Prop} {s' : Shared} {base g g₂ : Heap} {outer : List Env} {L a e : Addr} {m : Str → Option Value} {name : Str} {scope : Scope} {cd : Value} {cl : List (Str × Addr)} {news : List (Addr × Obj)} {i : Int} {Q : Unit → Shared → Prop}
theorem leave_onX (K : Below A base outer g) (F : Fr g L g₂ m) (R : RaisedF base g₂ (envX name scope L a cd cl :: outer) e i news s'.heap) (hn : ∀ q ∈ news, g.get? q.1 = none)
    (hQ : ∀ h', RaisedF base g outer e i news h' → Q () { s' with heap := h' }) :
    wpAny M (A.deeper (envX name scope L a cd cl)) (leaving (envX name scope L a cd cl) (.ref e)) Q E s' := by
  obtain ⟨up, B, d, od, hB, hBG, hl, hs, hBd, hGd, k1, hBe, hGe, k2, k3⟩ := R
  refine leave_next (Around.frames_deeper K.stack) k2 rfl k3 k1 hBe fun h' j1 j2 j3 j4 => ?_
  refine hQ h' ⟨(Heap.UpToSlots.of_keeps F.keep).trans (up.trans j4), B, d, od, hB, fun b o q nm => hBG b o (F.keep b o q) fun hm => ?_, fun q hq => ⟨(hl q hq).1, hn q hq, (hl q hq).2.2⟩, hs, hBd, kts_none F.keep hGd, j1, hBe, kts_none F.keep hGe, j2, j3⟩
  have z : b = L ∨ b ∈ outer.filterMap (·.frame) := by
    obtain ⟨e', he, hf'⟩ := List.mem_filterMap.mp hm
    rcases List.mem_cons.mp he with rfl | he
    · exact .inl (Option.some.inj hf').symm
    · exact .inr (List.mem_filterMap.mpr ⟨e', he, hf'⟩)
  rcases z with z | z
  · rw [z, kts_self F] at q; cases q
  · exact nm z
end
theorem ne_all {L c : Addr} {news : List (Addr × Obj)} (h : AllLt L news) (hc : L ≤ c) : ∀ p ∈ news, p.1 ≠ c := fun p hp => Nat.ne_of_lt (Nat.lt_of_lt_of_le (lt_all h p hp) hc)
def hdD : Except Nat Dat → Dat
  | .ok d => d
  | .error p => .tuple [.str (Str.ofString "refused"), .int p]
def HRes (_ : Except Nat Dat) : Prop := True
def refD : Dat → Bool
  | .tuple _ => true
  | .list _ => true
  | _ => false
theorem ref_of {news : List (Addr × Obj)} {v : Value} {d : Dat} (h : DatIn news v d) (hr : refD d = true) : ∃ D, v = .ref D := by
  cases h <;> first | exact ⟨_, rfl⟩ | cases hr
section
variable {w : World} {mean : ExcName → Option Value} {mg mb : Str → Option Value} {dp un : Nat} {gd : Option (List Code)} {cn : Str} {cs₁ : Scope} {a : Addr} {ccd : Value} {cl : List (Str × Addr)} {outer : List Env} {A₀ : Around} {base h₀ : Heap} {L : Addr} {m : Str → Option Value} {s : Shared} {Q E : Value → Shared → Prop} {news : List (Addr × Obj)}
theorem heard_dat {f : Addr} {foc : Value} {fod : Option Addr} {fd : FuncData} {fsl : Array (Option Value)} {res : Except Nat Dat} (hR : HRes res)
   (B : Below A₀ base outer h₀) (F : Fr h₀ L s.heap m) (X : (hd.heap_1 w.params).In h₀) (N : News h₀ L s.heap news) (T : Top topProg LZ mean mg mb h₀) (hk : cs₁.kind = .function)
   (hdp : dp + 1 < recursionLimit) (hun : un + 10 < cLine)
   (XB : (hd.heap_1 w.params).In base) (TB : Top topProg LZ mean mg mb base) (hf : (f, (⟨foc, fod, .func fd, fsl⟩ : Obj)) ∈ news) (hres : ∀ d, res = .ok d → refD d = true)
   (hcall : HeardCall w mean mg mb (ktrTop dp un gd cn cs₁ L a ccd cl outer) base (envX cn cs₁ L a ccd cl :: outer) news f (fun v nw => ∃ d, res = .ok d ∧ DatIn nw v d) (fun p => res = .error p))
   (hok : ∀ D own g' h' tk', KtsTurn (outer.filterMap (·.frame)) h₀ g' → Below A₀ base outer g' → (hd.heap_1 w.params).In g' → Top topProg LZ mean mg mb g' → Fr g' L h' m → News g' L h' (own ++ news) → DatIn own (.ref D) (hdD res) → (∀ q ∈ own, ∀ p ∈ news, p.1 < q.1) → Q (.ref D) { s with heap := h', toks := tk' }) :
   wpAny (model prg w) (ktrTop dp un gd cn cs₁ L a ccd cl outer) (call (.ref 140) [.ref f]) Q E s := by
  refine law_heard_spec B F X N T hk hdp hun XB TB hf hcall ?_ ?_
  · rintro v news' g' h' tk' ⟨d, e, hD⟩ t' B' F' N' lt
    obtain ⟨D, rfl⟩ := ref_of hD (hres d e)
    exact hok D news' g' h' tk' t' B' (XB.keeps B'.stays) (TB.keeps B'.stays) F' N' (by rw [e]; exact hD) lt
  · intro p e D t1 t2 g' h' tk' t' B' F' N' lt
    refine hok D [(D, tupO [.str (Str.ofString "refused") t1, .int p t2])] g' h' tk' t' B' (XB.keeps B'.stays) (TB.keeps B'.stays) F' N' ?_ ?_
    · rw [e]; exact .tuple (n := 0) (.head _) (.cons (.str _ _) (.cons (.int _ _) .nil))
    · intro q hq p' hp
      rw [List.mem_singleton.mp hq]; exact lt p' hp
end
def optID : Option Int → Dat
  | none => .none
  | some i => .int i
def optSD : Option (List Nat) → Dat
  | none => .none
  | some l => .str ⟨l.toArray⟩
def wordD (wd : Wd) : Dat := .tuple [.str wd.tag, .str ⟨wd.txt.toArray⟩, .int wd.at_, optID wd.val, optSD wd.kind]
theorem optI_dat {news : List (Addr × Obj)} : ∀ (o : Option Int) (t : Tok), DatIn news (optI o t) (optID o)
  | none, _ => .none
  | some i, t => .int i t
theorem optS_dat {news : List (Addr × Obj)} : ∀ (o : Option (List Nat)) (t : Tok), DatIn news (optS o t) (optSD o)
  | none, _ => .none
  | some i, t => .str _ t
theorem word_dat {news : List (Addr × Obj)} {W : Addr} {wd : Wd} {t1 t2 t3 t4 t5 : Tok} (h : (W, wordO wd t1 t2 t3 t4 t5) ∈ news) : DatIn news (.ref W) (wordD wd) :=
  .tuple (n := 0) h (.cons (.str _ _) (.cons (.str _ _) (.cons (.int _ _) (.cons (optI_dat _ _) (.cons (optS_dat _ _) .nil)))))
def pairD (r : Wd × Nat) : Dat := .tuple [wordD r.1, .int r.2]
theorem pair_dat {news : List (Addr × Obj)} {D W : Addr} {wd : Wd} {e : Nat} {ei : Int} {t1 t2 t3 t4 t5 te : Tok} (he : ei = e) (h1 : (D, tupO [.ref W, .int ei te]) ∈ news) (h : (W, wordO wd t1 t2 t3 t4 t5) ∈ news) : DatIn news (.ref D) (pairD (wd, e)) := by
  subst he
  exact .tuple (n := 0) h1 (.cons (word_dat h) (.cons (.int _ _) .nil))
def resW (r : Except Nat (Wd × Nat)) : Except Nat Dat := r.map pairD
theorem resW_ref (r : Except Nat (Wd × Nat)) : ∀ d, resW r = .ok d → refD d = true := by
  intro d h
  cases r with
  | error p => cases h
  | ok x => cases h; rfl
theorem resW_ok {r : Except Nat (Wd × Nat)} {x : Wd × Nat} (h : r = .ok x) : resW r = .ok (pairD x) := by rw [h]; rfl
theorem resW_err {r : Except Nat (Wd × Nat)} {p : Nat} (h : r = .error p) : resW r = .error p := by rw [h]; rfl
section
variable {prog : Program} {w : World} {A : Around} {E : Value → Shared → Prop} {s : Shared} {h₀ : Heap} {L a b : Addr} {news n₁ n₂ : List (Addr × Obj)} {d : Dat} {Q : Value → Shared → Prop}
theorem dat_shaped {d : Dat} (h : kqdOk 8 d = true) : SeqAt.shaped (kqdP d) = true := by
  have l := kqd_lay 8 d h
  unfold SeqAt.shaped; rw [l.1, Bool.true_and]; exact decide_eq_true (Nat.le_trans l.2 (by decide))
theorem dat_eq {x y : Value} (N : News h₀ L s.heap news) (Da : DatIn n₁ x d) (sa : ∀ p ∈ n₁, p ∈ news) (Db : DatIn n₂ y d) (sb : ∀ p ∈ n₂, p ∈ news) (ha : kqdOk 8 d = true) (hu : A.units + 64 < cLine) (h : Q (.bool true) s) :
    wpAny (model prog w) A (compareOp .Eq x y) Q E s := by
  obtain ⟨as, ra⟩ := kqd_in N 8 (Da.mono sa) ha
  obtain ⟨bs, rb⟩ := kqd_in N 8 (Db.mono sb) ha
  exact eq_dataH ra rb (dat_shaped ha) (dat_shaped ha) hu (by rw [(kqd_eqv 8 d d 8 ha ha).mpr rfl]; exact h)
theorem dat_ne {x y : Value} (N : News h₀ L s.heap news) (Da : DatIn n₁ x d) (sa : ∀ p ∈ n₁, p ∈ news) (Db : DatIn n₂ y d) (sb : ∀ p ∈ n₂, p ∈ news) (ha : kqdOk 8 d = true) (hu : A.units + 64 < cLine) (h : Q (.bool false) s) :
    wpAny (model prog w) A (compareOp .NotEq x y) Q E s := by
  obtain ⟨as, ra⟩ := kqd_in N 8 (Da.mono sa) ha
  obtain ⟨bs, rb⟩ := kqd_in N 8 (Db.mono sb) ha
  exact ne_dataH ra rb (dat_shaped ha) (dat_shaped ha) hu (by rw [(kqd_eqv 8 d d 8 ha ha).mpr rfl]; exact h)
end
end Mine
end
section
open PySem PySem.W PyProof.Rows PySem.Calls
namespace Mine
def ForEnd (A₀ : Around) (base : Heap) (outer : List Env) (L : Addr) (J : Heap → (Str → Option Value) → List (Addr × Obj) → Prop) (q : Addr × Obj) (g : Heap) (s₁ s₂ : Shared) : Prop :=
  ∃ h' tk g' m' nw', s₂ = { s₁ with heap := h', toks := tk } ∧ KtsTurn (outer.filterMap (·.frame)) g g' ∧ Below A₀ base outer g' ∧ Fr g' L h' m' ∧ News g' L h' (q :: nw') ∧ (∀ p ∈ nw', p.1 ≠ q.1) ∧ J g' m' nw'
def ForPost (A₀ : Around) (base : Heap) (outer : List Env) (L : Addr) (J : Heap → (Str → Option Value) → List (Addr × Obj) → Prop) (q : Addr × Obj) (g : Heap) (s₁ : Shared) (Q : Flow → Shared → Prop) (f : Flow) (s₂ : Shared) : Prop :=
  match f with
  | .ret v => Q (.ret v) s₂
  | .brk => Q .next s₂
  | _ => ForEnd A₀ base outer L J q g s₁ s₂
theorem ForEnd.intro {A₀ : Around} {base : Heap} {outer : List Env} {L : Addr} {J : Heap → (Str → Option Value) → List (Addr × Obj) → Prop} {q : Addr × Obj} {g g' : Heap} {s₁ : Shared} {h' : Heap} {tk : Nat} {m' : Str → Option Value} {nw' : List (Addr × Obj)}
    (t : KtsTurn (outer.filterMap (·.frame)) g g') (B : Below A₀ base outer g') (F : Fr g' L h' m') (N : News g' L h' (q :: nw')) (hn : ∀ p ∈ nw', p.1 ≠ q.1) (j : J g' m' nw') : ForEnd A₀ base outer L J q g s₁ { s₁ with heap := h', toks := tk } := ⟨h', tk, g', m', nw', rfl, t, B, F, N, hn, j⟩
def ForI (A₀ : Around) (base h₀ : Heap) (outer : List Env) (L I : Addr) (n : Nat) (St : Nat → Heap → Prop) (J : Nat → Heap → (Str → Option Value) → List (Addr × Obj) → Prop) (s : Shared) (k : Nat) (s' : Shared) : Prop :=
  ∃ h' tk g m' nw' i, s' = { s with heap := h', toks := tk } ∧ St i h' ∧ KtsTurn (outer.filterMap (·.frame)) h₀ g ∧ Below A₀ base outer g ∧ Fr g L h' m' ∧ News g L h' nw' ∧ (∀ p ∈ nw', p.1 ≠ I) ∧ J i g m' nw' ∧ i ≤ n ∧ k = n + 1 - i
@[elab_as_elim] theorem ForI.elim {A₀ : Around} {base h₀ : Heap} {outer : List Env} {L I : Addr} {n : Nat} {St : Nat → Heap → Prop} {J : Nat → Heap → (Str → Option Value) → List (Addr × Obj) → Prop} {s : Shared} {P : Nat → Shared → Prop} {k : Nat} {s' : Shared} (h : ForI A₀ base h₀ outer L I n St J s k s')
    (c : ∀ (h' : Heap) (tk : Nat) (g : Heap) (m' : Str → Option Value) (nw' : List (Addr × Obj)) (i : Nat), St i h' → KtsTurn (outer.filterMap (·.frame)) h₀ g → Below A₀ base outer g → Fr g L h' m' → News g L h' nw' → (∀ p ∈ nw', p.1 ≠ I) → J i g m' nw' → i ≤ n → P (n + 1 - i) { s with heap := h', toks := tk }) : P k s' := by
  obtain ⟨h', tk, g, m', nw', i, rfl, a1, a2, a3, a4, a5, a6, a7, a8, rfl⟩ := h
  exact c h' tk g m' nw' i a1 a2 a3 a4 a5 a6 a7 a8
section
variable {prog : Program} {w : World} {A A₀ : Around} {s : Shared} {base h₀ : Heap} {outer : List Env} {env : Env} {m : Str → Option Value} {nw fixed : List (Addr × Obj)} {target : Expr} {body : List Stmt}
theorem for_core {R : Result → Shared → Prop} {I : Addr} {fp : List Addr} {n : Nat} {P : Nat → Value → Prop} {St : Nat → Heap → Prop} (W : Walks prog w A I fp [I] n P St) (hfp : ∀ b ∈ fp, b = I ∨ ∃ o, (b, o) ∈ fixed) (hsi : ∀ i h, St i h → ∃ o, h.get? I = some o)
    (J : Nat → Heap → (Str → Option Value) → List (Addr × Obj) → Prop)
    (B : Below A₀ base outer h₀) (F : Fr h₀ env.locals s.heap m) (N : News h₀ env.locals s.heap nw) (hI0 : h₀.get? I = none) (hIL : I ≠ env.locals) (hne : ∀ p ∈ nw, p.1 ≠ I) (hst : St 0 s.heap) (hJ : J 0 h₀ m nw)
    (hfix : ∀ i g m nw, J i g m nw → ∀ q ∈ fixed, q ∈ nw)
    (hgo : ∀ i (s' : Shared) v (Q' : Unit → Shared → Prop), P i v → St (i + 1) s'.heap → Q' () s' → wpAny (model prog w) A (letOwnedTupleGo target (.ref I) v) Q' (notedBy (model prog w) A env fun e s' => R (.error e) s') s')
    (turn : ∀ i v oI g m nw h tk, i < n → P i v → J i g m nw → KtsTurn (outer.filterMap (·.frame)) h₀ g → Below A₀ base outer g → Fr g env.locals h m → News g env.locals h ((I, oI) :: nw) → (∀ p ∈ nw, p.1 ≠ I) →
      wpAny (model prog w) A (assign target env v) (fun _ s₂ => wpAny (model prog w) A (execs body env) (ForPost A₀ base outer env.locals (J (i + 1)) (I, oI) g s fun f s' => R (.ok f) s') (notedBy (model prog w) A env fun e s' => R (.error e) s') s₂) (notedBy (model prog w) A env fun e s' => R (.error e) s') { s with heap := h, toks := tk })
    (done : ∀ g m nw h tk, J n g m nw → KtsTurn (outer.filterMap (·.frame)) h₀ g → Below A₀ base outer g → Fr g env.locals h m → News g env.locals h nw → R (.ok .next) { s with heap := h, toks := tk }) :
    codeAny (model prog w) A (.forLoop target (.ref I) body [] env) R s := by
  refine codeAny_forLoop_any (ForI A₀ base h₀ outer env.locals I n St J s) ?_ (n + 1)
    ⟨s.heap, s.toks, h₀, m, nw, 0, rfl, hst, KtsTurn.refl, B, F, N, hne, hJ, Nat.zero_le _, rfl⟩
  intro k s' hI
  refine ForI.elim hI ?_
  clear hI
  intro h' tk g m' nw' i hst' T' B' F' N' hne' hJ' hi
  have next : ∀ h₁ : Heap, (∀ b o, b ∉ [I] → h'.get? b = some o → h₁.get? b = some o) → Fr g env.locals h₁ m' ∧ News g env.locals h₁ nw' := fun h₁ hk₁ =>
    ⟨⟨F'.ns.at' fun o e => hk₁ _ o (fun q => hIL (List.mem_singleton.mp q).symm) e, fun b o e => hk₁ b o (fun q => by rw [List.mem_singleton.mp q, T'.none_ _ hI0] at e; cases e) (F'.keep b o e), F'.above⟩, fun p hp => ⟨hk₁ _ _ (fun q => hne' p hp (List.mem_singleton.mp q)) (N' p hp).1, (N' p hp).2⟩⟩
  by_cases hlt : i < n
  · refine W.item i _ _ _ hlt hst' fun v h₁ tk₁ hP hst₁ hk₁ => ?_
    obtain ⟨F₁, N₁⟩ := next h₁ hk₁
    obtain ⟨oI, hoI⟩ := hsi _ _ hst₁
    refine hgo i _ v _ hP hst₁ ?_
    have N₂ : News g env.locals h₁ ((I, oI) :: nw') := fun p hp => by
      rcases List.mem_cons.mp hp with rfl | hp
      · exact ⟨hoI, hIL, T'.none_ _ hI0⟩
      · exact N₁ p hp
    refine wpAny_mono (turn i v oI g m' nw' h₁ tk₁ hlt hP hJ' T' B' F₁ N₂ hne') (fun _ s₂ h₂ => wpAny_mono h₂ (fun f s₃ h₃ => ?_) fun _ _ e => e) fun _ _ e => e
    have fin : ForEnd A₀ base outer env.locals (J (i + 1)) (I, oI) g s s₃ → ∃ k', k' < n + 1 - i ∧ ForI A₀ base h₀ outer env.locals I n St J s k' s₃ := by
      rintro ⟨h₃', tk₃, g₃, m₃, nw₃, rfl, T₃, B₃, F₃, N₃, hne₃, hJ₃⟩
      refine ⟨n + 1 - (i + 1), by omega, h₃', tk₃, g₃, m₃, nw₃, i + 1, rfl, W.frame _ _ _ hst₁ fun b hb o e => ?_, T'.trans T₃, B₃, F₃, fun p hp => N₃ p (.tail _ hp), hne₃, hJ₃, hlt, rfl⟩
      rcases hfp b hb with rfl | ⟨o', hm⟩
      · have e' := hoI
        rw [e'] at e
        cases e
        exact (N₃ _ (.head _)).1
      · have e1 := (N₁ _ (hfix _ _ _ _ hJ' _ hm)).1
        dsimp only at e1
        rw [e1] at e
        cases e
        exact (N₃ _ (.tail _ (hfix _ _ _ _ hJ₃ _ hm))).1
    cases f with
    | ret v => exact h₃
    | brk => exact h₃
    | cont => exact fin h₃
    | next => exact fin h₃
  · have hin : i = n := by omega
    subst hin
    refine W.done _ _ _ hst' fun h₁ tk₁ hk₁ => wpAny_execs_nil ?_
    obtain ⟨F₁, N₁⟩ := next h₁ hk₁
    exact done g m' nw' h₁ tk₁ hJ' T' B' F₁ N₁
end
section
variable {prog : Program} {w : World} {A A₀ : Around} {s : Shared} {base h₀ : Heap} {outer : List Env} {env : Env} {m : Str → Option Value} {nw : List (Addr × Obj)} {body : List Stmt} {E : Value → Shared → Prop} {Q : Flow → Shared → Prop} {pos px : Pos} {iter : Expr}
theorem for_range {x : Str} {n : Nat} {r : Addr} {t₀ u₀ v₀ : Tok} (J : Nat → Heap → (Str → Option Value) → List (Addr × Obj) → Prop)
    (hh : A.handled = none) (hr : IsRange s.heap r 0 n 1 t₀ u₀ v₀) (hn : n ≤ 1000)
    (B : Below A₀ base outer h₀) (F : Fr h₀ env.locals s.heap m) (N : News h₀ env.locals s.heap nw) (hJ : J 0 h₀ m nw)
    (hx : env.kindOf x = some .local) (hp : (env.scope.kind == .class || (env.scope.kind == .module && env.locals != env.globals)) = false)
    (turn : ∀ i t I oI g m nw h tk, i < n → J i g m nw → KtsTurn (outer.filterMap (·.frame)) h₀ g → Below A₀ base outer g → Fr g env.locals h (fun y => if y = x then some (.int (i : Int) t) else m y) → News g env.locals h ((I, oI) :: nw) → (∀ p ∈ nw, p.1 ≠ I) →
      wpAny (model prog w) A (execs body env) (ForPost A₀ base outer env.locals (J (i + 1)) (I, oI) g s Q) E { s with heap := h, toks := tk })
    (done : ∀ g m nw h tk, J n g m nw → KtsTurn (outer.filterMap (·.frame)) h₀ g → Below A₀ base outer g → Fr g env.locals h m → News g env.locals h nw → Q .next { s with heap := h, toks := tk })
    (hE : PassesOwn (model prog w) A env E) :
    wpAny (model prog w) A (pyIter (.ref r)) (fun it s₂ => codeAny (model prog w) A (.forLoop (.Name x px) it body [] env) (fun r s' => match r with | .ok f => Q f s' | .error e => cameBackBy (model prog w) A env E e s') s₂) E s := by
  have hsz : Builtin.Range.rangeSize 0 (n : Int) 1 = (n : Int) := by
    unfold Builtin.Range.rangeSize
    simp
    omega
  have hsm : Builtin.Range.small 0 (n : Int) 1 = true := by
    simp [Builtin.Range.small, Builtin.Range.rangeFitsLong, hsz]
    omega
  refine wpAny_pyIter_range hr hsm ?_
  have W : Walks prog w A s.heap.objs.size [s.heap.objs.size] [s.heap.objs.size] n (fun i v => i < n ∧ ∃ t, v = .int ((0 : Int) + i * 1) t)
      (fun i h => IsRangeIter h s.heap.objs.size ((0 : Int) + (i : Nat) * 1) ((n : Int) - (i : Nat)) 1) := (Walks.range hh _ 0 1 n).bound
  refine for_core (fixed := []) W (fun b hb => .inl (List.mem_singleton.mp hb)) (fun i h hs => ⟨_, hs⟩) J B (F.push _) (fun p hp => ⟨Heap.get?_push_of_some _ (N p hp).1, (N p hp).2⟩) (next_is_new F) (fun q => absurd F.ns.lt (q ▸ Nat.lt_irrefl _))
    (fun p hp q => absurd (Heap.lt_size (N p hp).1) (q ▸ Nat.lt_irrefl _)) (by show IsRangeIter _ _ _ _ _; rw [hsz]; simpa using Heap.get?_push_size _ rfl) hJ (fun _ _ _ _ _ q hq => nomatch hq) (fun _ _ _ _ _ _ h => wpAny_of_eq rfl h) ?_ ?_
  · rintro i v oI g m₁ nw₁ h tk hi ⟨_, t, rfl⟩ hJ₁ T₁ B₁ F₁ N₁ hne₁
    refine wpAny_assign_Name (wpAny_storeName_local hx F₁.ns (fun h₂ hn₂ hs₂ => ?_) hp)
    have F₂ := F₁.set hn₂ hs₂
    have N₂ := N₁.set hs₂
    have e : (0 : Int) + (i : Int) * 1 = (i : Int) := by omega
    rw [e] at F₂
    have hh₁ := turn i t _ oI g m₁ nw₁ h₂ (tk + 1) hi hJ₁ T₁ B₁ F₂ N₂ hne₁
    have hh₂ := wpAny_passesOwn hE hh₁
    show wpAny _ _ (execs body env) _ (notedBy (model prog w) A env (cameBackBy (model prog w) A env E)) _
    refine wpAny_mono (Q := ForPost A₀ base outer env.locals (J (i + 1)) (s.heap.objs.size, oI) g s Q) hh₂ (fun f s₃ h₃ => ?_) fun _ _ e => e
    cases f <;> exact h₃
  · intro g m₁ nw₁ h tk hJ₁ T₁ B₁ F₁ N₁
    exact done g m₁ nw₁ h tk hJ₁ T₁ B₁ F₁ N₁
theorem for_list {target : Expr} {l : Addr} {items : Array Value} {k : Nat} (J : Nat → Heap → (Str → Option Value) → List (Addr × Obj) → Prop)
    (hh : A.handled = none) (B : Below A₀ base outer h₀) (F : Fr h₀ env.locals s.heap m) (N : News h₀ env.locals s.heap nw) (hJ : J 0 h₀ m nw) (hfix : ∀ i g m nw, J i g m nw → (l, listOf items k) ∈ nw)
    (hitem : ∀ v ∈ items, ∃ T, v = .ref T) (htar : ∃ elts x1 p, target = .Tuple elts x1 p)
    (turn : ∀ i v I oI g m nw h tk, items[i]? = some v → J i g m nw → KtsTurn (outer.filterMap (·.frame)) h₀ g → Below A₀ base outer g → Fr g env.locals h m → News g env.locals h ((I, oI) :: nw) → (∀ p ∈ nw, p.1 ≠ I) →
      wpAny (model prog w) A (assign target env v) (fun _ s₂ => wpAny (model prog w) A (execs body env) (ForPost A₀ base outer env.locals (J (i + 1)) (I, oI) g s Q) E s₂) E { s with heap := h, toks := tk })
    (done : ∀ g m nw h tk, J items.size g m nw → KtsTurn (outer.filterMap (·.frame)) h₀ g → Below A₀ base outer g → Fr g env.locals h m → News g env.locals h nw → Q .next { s with heap := h, toks := tk })
    (hE : PassesOwn (model prog w) A env E) :
    wpAny (model prog w) A (pyIter (.ref l)) (fun it s₂ => codeAny (model prog w) A (.forLoop target it body [] env) (fun r s' => match r with | .ok f => Q f s' | .error e => cameBackBy (model prog w) A env E e s') s₂) E s := by
  have hm := hfix _ _ _ _ hJ
  have hls : s.heap.IsList l items := News.isList N hm
  have hne : l ≠ s.heap.objs.size := Nat.ne_of_lt (Heap.lt_size (N _ hm).1)
  refine wpAny_pyIter_list hls ?_
  have W := Walks.list (prog := prog) (w := w) hh s.heap.objs.size l hne items
  refine for_core (fixed := [(l, listOf items k)]) W (fun b hb => ?_) (fun i h hs => ?_) J B (F.push _) (fun p hp => ⟨Heap.get?_push_of_some _ (N p hp).1, (N p hp).2⟩) (next_is_new F) (fun q => absurd F.ns.lt (q ▸ Nat.lt_irrefl _))
    (fun p hp q => absurd (Heap.lt_size (N p hp).1) (q ▸ Nat.lt_irrefl _)) ⟨⟨_, Heap.get?_push_size _ rfl, rfl, rfl⟩, hls.at fun o e => Heap.get?_push_of_some _ e⟩ hJ (fun _ _ _ _ hj q hq => by rw [List.mem_singleton.mp hq]; exact hfix _ _ _ _ hj) ?_ ?_ ?_
  · rcases List.mem_cons.mp hb with e | hb
    · exact .inl e
    · exact .inr ⟨_, by rw [List.mem_singleton.mp hb]; exact .head _⟩
  · obtain ⟨⟨o, ho, _⟩, _⟩ := hs
    exact ⟨o, ho⟩
  · intro i s' v Q' hP hs hQ
    obtain ⟨T, rfl⟩ := hitem v (Array.mem_of_getElem? hP)
    obtain ⟨elts, x1, p, rfl⟩ := htar
    exact wpAny_letOwnedTupleGo_listiter hs.1 hQ
  · intro i v oI g m₁ nw₁ h tk hi hP hJ₁ T₁ B₁ F₁ N₁ hne₁
    have hh₁ := turn i v _ oI g m₁ nw₁ h tk hP hJ₁ T₁ B₁ F₁ N₁ hne₁
    have hh₂ := wpAny_passesOwn hE hh₁
    refine wpAny_mono hh₂ (fun _ _ h => wpAny_mono (Q := ForPost A₀ base outer env.locals (J (i + 1)) (s.heap.objs.size, oI) g s Q) (wpAny_passesOwn hE h) (fun f s₃ h₃ => ?_) fun _ _ e => e) fun _ _ e => e
    cases f <;> exact h₃
  · exact done
end
end Mine
end
section
open PySem PySem.W PyProof.Rows PySem.Calls
namespace Mine

section
variable {w : World} {mean : ExcName → Option Value} {mg mb : Str → Option Value} {dp un : Nat} {gd : Option (List Code)} {cn : Str} {cs₁ : Scope} {a : Addr} {ccd : Value} {cl : List (Str × Addr)} {outer : List Env} {A₀ : Around} {base h₀ : Heap} {L : Addr} {m : Str → Option Value} {s : Shared} {Q E : Value → Shared → Prop} {news : List (Addr × Obj)}

theorem words_H4_1 : Flush := by
  (try w_top off)
  k_with_none
  k_with "mine k_ne" => (refine neN ?_; (try dsimp only); first | (refine Nat.ne_of_lt ?_; (repeat (first | exact Nat.lt_add_one _ | refine Nat.lt.step ?_)); done) | (refine Nat.ne_of_gt ?_; (repeat (first | exact Nat.lt_add_one _ | refine Nat.lt.step ?_)); done) | omega)
  k_with "mine spliced" => (k_here; with_reducible (first | refine args_s8 ?_ | refine args_s4 ?_ | refine args_s2 ?_ | refine args_s1 ?_ | refine args_i1 ?_))
  k_with "mine ktr_room" => ((try dsimp only [ktrTop, Around.deeper]); (try simp only [depth_under_make, depth_under_kw, depth_in1, depth_deeper, depth_caller, depth_mark]); (try dsimp only [ktrTop]); first | ((simp only [Nat.add_assoc]); exact room_le (by assumption) (by rfl)) | omega)
  k_with "mine ktr_units" => ((try dsimp only [ktrTop, Around.deeper]); (try simp only [units_in1, units_deeper, Around.mark_units, units_caller]); (try dsimp only [ktrTop]); first | ((simp only [Nat.add_assoc]); exact room_le (by assumption) (by rfl)) | omega)
  k_with "mine exec Raise some none" => (k_here; k_dflt (refine' raise_fault ?hhz1 ?_; (case hhz1 => first | exact rfl | assumption); k_whole))
  k_with "mine call ref" => (k_here; (with_reducible show wpAny _ _ (call (Value.ref 45) [_, _]) _ _ _); k_dflt (refine' fault_make ?k1z2 ?k2z2 ?k3z2 ?k4z2 ?k5z2 ?kKz2 ?kdz2 ?kuz2 ?_; (case k1z2 => k_asm); (case k2z2 => k_asm); (case k3z2 => k_asm); (case k4z2 => k_asm); (case k5z2 => k_asm); (case kKz2 => first | exact rfl | assumption); (case kdz2 => ktr_room); (case kuz2 => ktr_units)); intro h'q9 tk'q9 e'q9 t'q9 d'q9 od'q9 F'q9 hs'q9 N'q9 ne1'q9 ne2'q9; (refine ⟨_, _, _, rfl, (N'q9 _ (.head _)).1, rfl, rfl, rfl, Frag.In.keeps (by k_asm) (Fr.keep F'q9), ?_⟩); (try dsimp only))
  k_with "mine leaving ref" => (k_here; (refine' leave_onF ?k1z3 ?k2z3 ?k3z3 ?k4z3 ?_; (case k3z3 => assumption); (case k1z3 => assumption); (case k2z3 => assumption); (case k4z3 => exact fun q hq => (News.mk (by k_asm) q hq).2.2); intro h'q9 R'q9; (try dsimp only)))
  k_with "mine leaving ref" => (k_here; (refine' leave_raiseF ?k1z4 ?k2z4 ?k3z4 ?k4z4 ?k5z4 ?k6z4 ?_; (case k1z4 => assumption); (case k2z4 => assumption); (case k3z4 => assumption); (case k4z4 => assumption); (case k5z4 => assumption); (case k6z4 => assumption); intro h'q9 R'q9; (try dsimp only)))
  exact trivial
set_option maxRecDepth 100000 in
set_option maxHeartbeats 8000000 in
theorem law_row_spec {D : Addr} {text tag : Str} {i : Int} {v : Option Int} {kd : Option (List Nat)} {t1 t2 t3 u1 u2 : Tok}
   (B : Below A₀ base outer h₀) (F : Fr h₀ L s.heap m) (X : (hd.heap_1 w.params).In h₀) (N : News h₀ L s.heap news) (T : Top topProg LZ mean mg mb h₀) (hk : cs₁.kind = .function)
   (hdp : dp + 1 < recursionLimit) (hun : un + 10 < cLine)
   (hD : (D, tupO [.str tag t1, optI v t2, optS kd t3]) ∈ news)
   (hret : ∀ (W : Addr) (t1 t2 t3 t4 t5 : Tok) (h' : Heap) (tk' : Nat), Fr h₀ L h' m → News h₀ L h' ((W, wordO ⟨tag, cs text, i, v, kd⟩ t1 t2 t3 t4 t5) :: news) → (∀ p ∈ news, p.1 < W) → Q (.ref W) { s with heap := h', toks := tk' }) :
   wpAny (model prg w) (ktrTop dp un gd cn cs₁ L a ccd cl outer) (call (.ref 166) [.str text u1, .ref D, .int i u2]) Q E s := by
  refine wpAny_call ?_
  k_dflt cell_enter
  skip
  k_steps
  exact hret _ _ _ _ t2 t3 _ _ (by assumption) (by assumption) (by assumption)
end
end Mine
end
section
open PySem PySem.W PyProof.Rows PySem.Calls
namespace Mine
abbrev QS : Str := Str.ofString "_law_sign_right.<locals>.<lambda>"
abbrev QR : Str := Str.ofString "_law_rows_right.<locals>.<lambda>"
abbrev QT : Str := Str.ofString "_law_told_right.<locals>.<lambda>"
abbrev TLs (cT cA : Addr) (oc oa : Obj) (p1 p2 p3 : Array Value) (nws : List (Addr × Obj)) : List (Addr × Obj) := (cT, oc) :: (cA, oa) :: (168, tabObj p1) :: (182, tabObj p2) :: (189, tabObj p3) :: nws
def OffT (cT cA : Addr) (nws : List (Addr × Obj)) : Prop := (∀ q ∈ nws, q.1 ≠ cT) ∧ (∀ q ∈ nws, q.1 ≠ cA) ∧ (∀ q ∈ nws, q.1 ≠ 168) ∧ (∀ q ∈ nws, q.1 ≠ 182) ∧ (∀ q ∈ nws, q.1 ≠ 189)
theorem OffT.app {cT cA : Addr} {own nws : List (Addr × Obj)} {oc oa : Obj} {p1 p2 p3 : Array Value} {q : Addr × Obj} (h : OffT cT cA nws) (hd : ∀ x ∈ own, ∀ p ∈ q :: TLs cT cA oc oa p1 p2 p3 nws, p.1 ≠ x.1) : OffT cT cA (own ++ nws) := by
  have key : ∀ {d : Addr} {o : Obj}, (d, o) ∈ q :: TLs cT cA oc oa p1 p2 p3 nws → (∀ x ∈ nws, x.1 ≠ d) → ∀ x ∈ own ++ nws, x.1 ≠ d := fun hm h x hx => by
    rcases List.mem_append.mp hx with hx | hx
    · exact Ne.symm (hd x hx _ hm)
    · exact h x hx
  exact ⟨key (o := oc) (.tail _ (.head _)) h.1, key (o := oa) (.tail _ (.tail _ (.head _))) h.2.1, key (o := tabObj p1) (.tail _ (.tail _ (.tail _ (.head _)))) h.2.2.1, key (o := tabObj p2) (.tail _ (.tail _ (.tail _ (.tail _ (.head _))))) h.2.2.2.1, key (o := tabObj p3) (.tail _ (.tail _ (.tail _ (.tail _ (.tail _ (.head _)))))) h.2.2.2.2⟩
theorem fun_of {x : Str} {m₀ m' : Str → Option Value} (h : ∀ z, z ≠ x → m' z = m₀ z) : m' = fun z => if z = x then m' x else m₀ z := by
  funext z
  by_cases e : z = x
  · rw [if_pos e, e]
  · rw [if_neg e, h z e]
def J1 (rest : List (Addr × Obj)) (cT cA : Addr) (oa : Obj) (m₀ : Str → Option Value) (_i : Nat) (_g : Heap) (m : Str → Option Value) (nw : List (Addr × Obj)) : Prop :=
  ∃ (u : Option Value) (oc : Obj) (v : Option Value) (p1 : Array Value) (nws : List (Addr × Obj)), m = (fun z => if z = Str.ofString "ahead" then u else m₀ z) ∧ nw = TLs cT cA oc oa p1 #[] #[] nws ∧ oc.data = .cell v ∧ TabOk 138 22 QS p1 nws ∧ (∀ q ∈ rest, q ∈ nws) ∧ OffT cT cA nws
@[elab_as_elim] theorem J1.elim {rest : List (Addr × Obj)} {cT cA : Addr} {oa : Obj} {m₀ : Str → Option Value} {i : Nat} {g : Heap} {P : (Str → Option Value) → List (Addr × Obj) → Prop} {m : Str → Option Value} {nw : List (Addr × Obj)} (h : J1 rest cT cA oa m₀ i g m nw)
    (k : ∀ (u : Option Value) (oc : Obj) (v : Option Value) (p1 : Array Value) (nws : List (Addr × Obj)), oc.data = .cell v → TabOk 138 22 QS p1 nws → (∀ q ∈ rest, q ∈ nws) → OffT cT cA nws → P (fun z => if z = Str.ofString "ahead" then u else m₀ z) (TLs cT cA oc oa p1 #[] #[] nws)) : P m nw := by
  obtain ⟨u, oc, v, p1, nws, rfl, rfl, a, b, c, d⟩ := h
  exact k u oc v p1 nws a b c d
theorem own_front {g h : Heap} {L : Addr} {own nws : List (Addr × Obj)} {q : Addr × Obj} {cT cA : Addr} {oc oa : Obj} {p1 p2 p3 : Array Value} (N : News g L h (own ++ q :: TLs cT cA oc oa p1 p2 p3 nws)) : News g L h (q :: TLs cT cA oc oa p1 p2 p3 (own ++ nws)) := fun p hp => N p (by
  have R : ∀ {x}, x ∈ q :: TLs cT cA oc oa p1 p2 p3 nws → x ∈ own ++ q :: TLs cT cA oc oa p1 p2 p3 nws := fun h => List.mem_append_right _ h
  rcases List.mem_cons.mp hp with rfl | hp
  · exact R (.head _)
  · rcases List.mem_cons.mp hp with rfl | hp
    · exact R (.tail _ (.head _))
    · rcases List.mem_cons.mp hp with rfl | hp
      · exact R (.tail _ (.tail _ (.head _)))
      · rcases List.mem_cons.mp hp with rfl | hp
        · exact R (.tail _ (.tail _ (.tail _ (.head _))))
        · rcases List.mem_cons.mp hp with rfl | hp
          · exact R (.tail _ (.tail _ (.tail _ (.tail _ (.head _)))))
          · rcases List.mem_cons.mp hp with rfl | hp
            · exact R (.tail _ (.tail _ (.tail _ (.tail _ (.tail _ (.head _))))))
            · rcases List.mem_append.mp hp with hp | hp
              · exact List.mem_append_left _ hp
              · exact R (.tail _ (.tail _ (.tail _ (.tail _ (.tail _ (.tail _ hp)))))))
theorem ne_front {I cT cA : Addr} {own nws : List (Addr × Obj)} {oI oc oc' oa : Obj} {p1 p1' p2 p3 p3' : Array Value} (h : ∀ p ∈ TLs cT cA oc oa p1 p2 p3 nws, p.1 ≠ I) (hd : ∀ x ∈ own, p1 = p1 ∧ I ≠ x.1) : ∀ p ∈ TLs cT cA oc' oa p1' p2 p3' (own ++ nws), p.1 ≠ I := by
  intro p hp
  rcases List.mem_cons.mp hp with rfl | hp
  · exact h (cT, oc) (.head _)
  · rcases List.mem_cons.mp hp with rfl | hp
    · exact h (cA, oa) (.tail _ (.head _))
    · rcases List.mem_cons.mp hp with rfl | hp
      · exact h (168, tabObj p1) (.tail _ (.tail _ (.head _)))
      · rcases List.mem_cons.mp hp with rfl | hp
        · exact h (182, tabObj p2) (.tail _ (.tail _ (.tail _ (.head _))))
        · rcases List.mem_cons.mp hp with rfl | hp
          · exact h (189, tabObj p3) (.tail _ (.tail _ (.tail _ (.tail _ (.head _)))))
          · rcases List.mem_append.mp hp with hp | hp
            · exact Ne.symm (hd p hp).2
            · exact h p (.tail _ (.tail _ (.tail _ (.tail _ (.tail _ hp)))))
theorem told1_end {A₀ : Around} {base g g' h' : Heap} {outer : List Env} {L cT cA I : Addr} {rest own nws : List (Addr × Obj)} {m₀ m' : Str → Option Value} {s : Shared} {tk i : Nat} {oI oc oc₀ oc₁ oa : Obj} {v : Option Value} {p0 p1 p0' : Array Value}
    (hT : KtsTurn (outer.filterMap (·.frame)) g g') (hB : Below A₀ base outer g') (F : Fr g' L h' m') (hm' : ∀ z, z ≠ Str.ofString "ahead" → m' z = m₀ z) (N : News g' L h' (own ++ (I, oI) :: TLs cT cA oc oa p1 #[] #[] nws)) (hoc : oc.data = .cell v)
    (ht : TabOk 138 22 QS p1 (own ++ nws)) (hr : ∀ q ∈ rest, q ∈ nws) (hO : OffT cT cA nws) (hneI : ∀ p ∈ TLs cT cA oc₀ oa p0 #[] #[] nws, p.1 ≠ I) (hd : ∀ x ∈ own, ∀ p ∈ (I, oI) :: TLs cT cA oc₁ oa p0' #[] #[] nws, p.1 ≠ x.1) :
    ForEnd A₀ base outer L (J1 rest cT cA oa m₀ (i + 1)) (I, oI) g s { s with heap := h', toks := tk } :=
  ForEnd.intro hT hB F (own_front N) (ne_front (oI := oI) hneI fun x hx => ⟨rfl, hd x hx _ (.head _)⟩) ⟨m' (Str.ofString "ahead"), oc, v, p1, own ++ nws, fun_of hm', rfl, hoc, ht, fun q hq => List.mem_append_right _ (hr q hq), hO.app hd⟩
theorem ofs_start {L : Addr} {news : List (Addr × Obj)} (h : @LT.lt Nat _ 168 L ∧ @LT.lt Nat _ 182 L ∧ @LT.lt Nat _ 189 L ∧ AllLt L news) (h1 : ∀ p ∈ news, p.1 ≠ 168) (h2 : ∀ p ∈ news, p.1 ≠ 182) (h3 : ∀ p ∈ news, p.1 ≠ 189) : OffT ((L + 1 + 1 : Nat)) ((L + 1 : Nat)) news :=
  ⟨ne_all h.2.2.2 (by show @LE.le Nat _ _ _; first | ((repeat (first | exact Nat.le.refl | refine Nat.le.step ?_)); done) | omega), ne_all h.2.2.2 (by show @LE.le Nat _ _ _; first | ((repeat (first | exact Nat.le.refl | refine Nat.le.step ?_)); done) | omega), h1, h2, h3⟩
def PairAt (rest : List (Addr × Obj)) (v : Value) : Prop :=
  ∃ (T : Addr) (a x : Str) (t1 t2 : Tok), v = .ref T ∧ (T, tupO [.str a t1, .str x t2]) ∈ rest ∧ a.length ≤ 1000 ∧ x.length ≤ 1000 ∧ 0 < x.length ∧ PyData.strOk x = true
@[elab_as_elim] theorem PairAt.elim {rest : List (Addr × Obj)} {P : Value → Prop} {v : Value} (h : PairAt rest v)
    (k : ∀ (T : Addr) (a x : Str) (t1 t2 : Tok), (T, tupO [.str a t1, .str x t2]) ∈ rest → a.length ≤ 1000 → x.length ≤ 1000 → 0 < x.length → PyData.strOk x = true → P (.ref T)) : P v := by
  obtain ⟨T, a, x, t1, t2, rfl, h1, h2, h3, h4, h5⟩ := h
  exact k T a x t1 t2 h1 h2 h3 h4 h5
theorem lt_off {led : List (Addr × Obj)} {d e : Addr} {o : Obj} (h : ∀ p ∈ led, p.1 < e) (hm : (d, o) ∈ led) : e ≠ d := Nat.ne_of_gt (h _ hm)
theorem lay_front {g h : Heap} {L : Addr} {front nws : List (Addr × Obj)} {cT cA : Addr} {oc oa : Obj} {p1 p2 p3 : Array Value} (N : News g L h (front ++ TLs cT cA oc oa p1 p2 p3 nws)) : News g L h (TLs cT cA oc oa p1 p2 p3 (front ++ nws)) := fun p hp => N p (by
  have R : ∀ {x}, x ∈ TLs cT cA oc oa p1 p2 p3 nws → x ∈ front ++ TLs cT cA oc oa p1 p2 p3 nws := fun h => List.mem_append_right _ h
  rcases List.mem_cons.mp hp with rfl | hp
  · exact R (.head _)
  · rcases List.mem_cons.mp hp with rfl | hp
    · exact R (.tail _ (.head _))
    · rcases List.mem_cons.mp hp with rfl | hp
      · exact R (.tail _ (.tail _ (.head _)))
      · rcases List.mem_cons.mp hp with rfl | hp
        · exact R (.tail _ (.tail _ (.tail _ (.head _))))
        · rcases List.mem_cons.mp hp with rfl | hp
          · exact R (.tail _ (.tail _ (.tail _ (.tail _ (.head _)))))
          · rcases List.mem_append.mp hp with hp | hp
            · exact List.mem_append_left _ hp
            · exact R (.tail _ (.tail _ (.tail _ (.tail _ (.tail _ hp))))))
theorem OffT.front {cT cA : Addr} {front nws : List (Addr × Obj)} {oc oa : Obj} {p1 p2 p3 : Array Value} (h : OffT cT cA nws) (hd : ∀ x ∈ front, ∀ p ∈ TLs cT cA oc oa p1 p2 p3 nws, p.1 < x.1) : OffT cT cA (front ++ nws) := by
  have key : ∀ {d : Addr} {o : Obj}, (d, o) ∈ TLs cT cA oc oa p1 p2 p3 nws → (∀ x ∈ nws, x.1 ≠ d) → ∀ x ∈ front ++ nws, x.1 ≠ d := fun hm h x hx => by
    rcases List.mem_append.mp hx with hx | hx
    · exact Nat.ne_of_gt (hd x hx _ hm)
    · exact h x hx
  exact ⟨key (o := oc) (.head _) h.1, key (o := oa) (.tail _ (.head _)) h.2.1, key (o := tabObj p1) (.tail _ (.tail _ (.head _))) h.2.2.1, key (o := tabObj p2) (.tail _ (.tail _ (.tail _ (.head _)))) h.2.2.2.1, key (o := tabObj p3) (.tail _ (.tail _ (.tail _ (.tail _ (.head _))))) h.2.2.2.2⟩
theorem J1.start {rest nws : List (Addr × Obj)} {cT cA : Addr} {oc oa : Obj} {m₀ : Str → Option Value} {g : Heap} {v : Option Value} (hoc : oc.data = .cell v) (hr : ∀ q ∈ rest, q ∈ nws) (hO : OffT cT cA nws) : J1 rest cT cA oa m₀ 0 g m₀ (TLs cT cA oc oa #[] #[] #[] nws) :=
  ⟨m₀ (Str.ofString "ahead"), oc, v, #[], nws, (by
    funext z
    by_cases h : z = Str.ofString "ahead"
    · rw [if_pos h, h]
    · rw [if_neg h]), rfl, hoc, .inl rfl, hr, hO⟩
theorem tl_lt {g h : Heap} {L : Addr} {front nws : List (Addr × Obj)} {cT cA : Addr} {oc oa : Obj} {p1 p2 p3 : Array Value} (_ : News g L h (front ++ TLs cT cA oc oa p1 p2 p3 nws)) (hd : ∀ x ∈ front, ∀ p ∈ TLs cT cA oc oa p1 p2 p3 nws, p.1 < x.1) : ∀ x ∈ front, ∀ p ∈ TLs cT cA oc oa p1 p2 p3 nws, p.1 < x.1 := hd
def FoldOn : Prop := True
theorem tup_new {M : Model} {A : Around} {E : Value → Shared → Prop} {s : Shared} {g : Heap} {L : Addr} {m : Str → Option Value} {nws : List (Addr × Obj)} {cT cA : Addr} {oc oa : Obj} {p1 p2 p3 : Array Value} {vs : List Value} {Q : Value → Shared → Prop}
    (_ : FoldOn) (F : Fr g L s.heap m) (N : News g L s.heap (TLs cT cA oc oa p1 p2 p3 nws)) (hO : OffT cT cA nws) (hz : vs.length ≤ sizeLine)
    (h : ∀ (D : Addr) (h' : Heap) (nws' : List (Addr × Obj)), Fr g L h' m → News g L h' (TLs cT cA oc oa p1 p2 p3 nws') → OffT cT cA nws' → (∀ q ∈ nws, q ∈ nws') → (D, tupO vs) ∈ nws' → Q (.ref D) { s with heap := h' }) : wpAny M A (newTuple vs) Q E s :=
  kup_newTuple F N (fun D h' F' N' l => h D h' ((D, tupO vs) :: nws) F' (lay_front (front := [(D, tupO vs)]) N') (OffT.front (front := [(D, tupO vs)]) (oc := oc) (oa := oa) (p1 := p1) (p2 := p2) (p3 := p3) hO (fun x hx p hp => by rw [List.mem_singleton.mp hx]; exact l p hp)) (fun q hq => .tail _ hq) (.head _)) hz
theorem mem_up {x p : Addr × Obj} {a b c : List (Addr × Obj)} (h1 : ∀ q ∈ x :: b, q ∈ c) (h2 : ∀ q ∈ a, q ∈ b) (h : p ∈ a) : p ∈ c := h1 p (.tail _ (h2 p h))
section
variable {w : World} {mean : ExcName → Option Value} {mg mb : Str → Option Value} {dp un : Nat} {gd : Option (List Code)} {cn : Str} {cs₁ : Scope} {a : Addr} {ccd : Value} {cl : List (Str × Addr)} {outer : List Env} {A₀ : Around} {base h₀ : Heap} {L : Addr} {m : Str → Option Value} {s : Shared} {Q E : Value → Shared → Prop} {news : List (Addr × Obj)}
theorem row_none {D : Addr} {text tag : Str} {i : Int} {t1 u1 u2 : Tok}
   (B : Below A₀ base outer h₀) (F : Fr h₀ L s.heap m) (X : (hd.heap_1 w.params).In h₀) (N : News h₀ L s.heap news) (T : Top topProg LZ mean mg mb h₀) (hk : cs₁.kind = .function)
   (hdp : dp + 1 < recursionLimit) (hun : un + 10 < cLine) (hD : (D, tupO [.str tag t1, .none, .none]) ∈ news)
   (hret : ∀ (W : Addr) (t1 t2 t3 t4 t5 : Tok) (h' : Heap) (tk' : Nat), Fr h₀ L h' m → News h₀ L h' ((W, wordO ⟨tag, cs text, i, none, none⟩ t1 t2 t3 t4 t5) :: news) → (∀ p ∈ news, p.1 < W) → Q (.ref W) { s with heap := h', toks := tk' }) :
   wpAny (model prg w) (ktrTop dp un gd cn cs₁ L a ccd cl outer) (call (.ref 166) [.str text u1, .ref D, .int i u2]) Q E s :=
  law_row_spec (v := none) (kd := none) (t2 := 0) (t3 := 0) B F X N T hk hdp hun hD hret
theorem row_some {D : Addr} {text tag k : Str} {i v : Int} {t1 t2 t3 u1 u2 : Tok}
   (B : Below A₀ base outer h₀) (F : Fr h₀ L s.heap m) (X : (hd.heap_1 w.params).In h₀) (N : News h₀ L s.heap news) (T : Top topProg LZ mean mg mb h₀) (hk : cs₁.kind = .function)
   (hdp : dp + 1 < recursionLimit) (hun : un + 10 < cLine) (hD : (D, tupO [.str tag t1, .int v t2, .str k t3]) ∈ news)
   (hret : ∀ (W : Addr) (t1 t2 t3 t4 t5 : Tok) (h' : Heap) (tk' : Nat), Fr h₀ L h' m → News h₀ L h' ((W, wordO ⟨tag, cs text, i, some v, some (cs k)⟩ t1 t2 t3 t4 t5) :: news) → (∀ p ∈ news, p.1 < W) → Q (.ref W) { s with heap := h', toks := tk' }) :
   wpAny (model prg w) (ktrTop dp un gd cn cs₁ L a ccd cl outer) (call (.ref 166) [.str text u1, .ref D, .int i u2]) Q E s := by
  have e : (⟨(cs k).toArray⟩ : Str) = k := str_ext rfl
  exact law_row_spec (v := some v) (kd := some (cs k)) (t2 := t2) (t3 := t3) B F X N T hk hdp hun (by show (D, tupO [.str tag t1, .int v t2, .str ⟨(cs k).toArray⟩ t3]) ∈ news; rw [e]; exact hD) hret
theorem row_noneT {D : Addr} {text tag : Str} {i : Int} {t1 u1 u2 : Tok} {cT cA : Addr} {oc oa : Obj} {p1 p2 p3 : Array Value} {nws : List (Addr × Obj)}
   (B : Below A₀ base outer h₀) (F : Fr h₀ L s.heap m) (X : (hd.heap_1 w.params).In h₀) (N : News h₀ L s.heap (TLs cT cA oc oa p1 p2 p3 nws)) (T : Top topProg LZ mean mg mb h₀) (hk : cs₁.kind = .function)
   (hdp : dp + 1 < recursionLimit) (hun : un + 10 < cLine) (_ : FoldOn) (hO : OffT cT cA nws) (hD : (D, tupO [.str tag t1, .none, .none]) ∈ nws)
   (hret : ∀ (W : Addr) (t1 t2 t3 t4 t5 : Tok) (h' : Heap) (tk' : Nat) (nws' : List (Addr × Obj)), Fr h₀ L h' m → News h₀ L h' (TLs cT cA oc oa p1 p2 p3 nws') → OffT cT cA nws' → (∀ q ∈ nws, q ∈ nws') → (W, wordO ⟨tag, cs text, i, none, none⟩ t1 t2 t3 t4 t5) ∈ nws' → Q (.ref W) { s with heap := h', toks := tk' }) :
   wpAny (model prg w) (ktrTop dp un gd cn cs₁ L a ccd cl outer) (call (.ref 166) [.str text u1, .ref D, .int i u2]) Q E s :=
  row_none B F X N T hk hdp hun (.tail _ (.tail _ (.tail _ (.tail _ (.tail _ hD))))) fun W a1 a2 a3 a4 a5 h' tk' F' N' l =>
    hret W a1 a2 a3 a4 a5 h' tk' (_ :: nws) F' (lay_front (front := [_]) N') (OffT.front (front := [_]) (oc := oc) (oa := oa) (p1 := p1) (p2 := p2) (p3 := p3) hO (fun x hx p hp => by rw [List.mem_singleton.mp hx]; exact l p hp)) (fun q hq => .tail _ hq) (.head _)
theorem row_someT {D : Addr} {text tag k : Str} {i v : Int} {t1 t2 t3 u1 u2 : Tok} {cT cA : Addr} {oc oa : Obj} {p1 p2 p3 : Array Value} {nws : List (Addr × Obj)}
   (B : Below A₀ base outer h₀) (F : Fr h₀ L s.heap m) (X : (hd.heap_1 w.params).In h₀) (N : News h₀ L s.heap (TLs cT cA oc oa p1 p2 p3 nws)) (T : Top topProg LZ mean mg mb h₀) (hk : cs₁.kind = .function)
   (hdp : dp + 1 < recursionLimit) (hun : un + 10 < cLine) (_ : FoldOn) (hO : OffT cT cA nws) (hD : (D, tupO [.str tag t1, .int v t2, .str k t3]) ∈ nws)
   (hret : ∀ (W : Addr) (t1 t2 t3 t4 t5 : Tok) (h' : Heap) (tk' : Nat) (nws' : List (Addr × Obj)), Fr h₀ L h' m → News h₀ L h' (TLs cT cA oc oa p1 p2 p3 nws') → OffT cT cA nws' → (∀ q ∈ nws, q ∈ nws') → (W, wordO ⟨tag, cs text, i, some v, some (cs k)⟩ t1 t2 t3 t4 t5) ∈ nws' → Q (.ref W) { s with heap := h', toks := tk' }) :
   wpAny (model prg w) (ktrTop dp un gd cn cs₁ L a ccd cl outer) (call (.ref 166) [.str text u1, .ref D, .int i u2]) Q E s :=
  row_some B F X N T hk hdp hun (.tail _ (.tail _ (.tail _ (.tail _ (.tail _ hD))))) fun W a1 a2 a3 a4 a5 h' tk' F' N' l =>
    hret W a1 a2 a3 a4 a5 h' tk' (_ :: nws) F' (lay_front (front := [_]) N') (OffT.front (front := [_]) (oc := oc) (oa := oa) (p1 := p1) (p2 := p2) (p3 := p3) hO (fun x hx p hp => by rw [List.mem_singleton.mp hx]; exact l p hp)) (fun q hq => .tail _ hq) (.head _)
end
end Mine
end
section
open PySem PySem.W PyProof.Rows PySem.Calls
namespace Mine
def LeaveG (h₀ : Heap) (L : Addr) (m : Str → Option Value) (news : List (Addr × Obj)) (g : Heap) (R : Result → Shared → Prop) (v : Value) (s' : Shared) : Prop :=
  ∃ L' m' news', Fr g L' s'.heap m' ∧ News g L' s'.heap news' ∧ (Fr h₀ L s'.heap m → News h₀ L s'.heap (news' ++ news) → (∀ q ∈ news', ∀ p ∈ news, p.1 ≠ q.1) → R (.ok (.ret v)) s')
section
variable {w : World} {A₀ A : Around} {s : Shared} {base h₀ : Heap} {outer : List Env} {L : Addr} {m mg mb : Str → Option Value} {env : Env} {news : List (Addr × Obj)} {K : Frag} {prog p : Program} {loose : List Str} {mean : ExcName → Option Value}
  {R : Result → Shared → Prop} {name qual : Str} {params : Arguments} {body : List Stmt} {scope : Scope} {cl : List (Str × Addr)} {dV kV doc pm cdv ct oc : Value} {an od : Option Addr} {osl : Array (Option Value)} {fo : Obj} {f : Addr} {args : Args} {binds : List (Str × Value)}
theorem leaveG_ {g : Heap} {L' : Addr} {m' : Str → Option Value} {news' : List (Addr × Obj)} {v : Value} {s' : Shared} (F' : Fr g L' s'.heap m') (N' : News g L' s'.heap news')
    (k : Fr h₀ L s'.heap m → News h₀ L s'.heap (news' ++ news) → (∀ q ∈ news', ∀ p ∈ news, p.1 ≠ q.1) → R (.ok (.ret v)) s') : LeaveG h₀ L m news g R v s' := ⟨L', m', news', F', N', k⟩
theorem callG_plain (B : Below A₀ base outer h₀) (F : Fr h₀ L s.heap m) (N : News h₀ L s.heap news) (hlim : h₀.NoLimit) (hA : A.frames = some (env :: outer)) (hf : env.frame = some L) (hke : env.scope.kind = .function)
    (ho : s.heap.get? f = some fo) (hd : fo.data = .func (fnX name qual params body scope cl dV kV doc pm an cdv ct)) (hcd : s.heap.CodeRec cdv qual) (hroom : A.depth < recursionLimit)
    (hbind : BindsTo s (fnX name qual params body scope cl dV kV doc pm an cdv ct) args binds) (hloc : ∀ y ∈ binds, scope.names.lookup y.1 = some .local)
    (h : ∀ g L' h₁, Fr h₀ L g m → Fr g L' h₁ (fun y => binds.reverse.lookup y) → News g L' h₁ [] → Below A base (env :: outer) g → h₀.StaysIn g → News h₀ L g news →
      wpAny (model prog w) (A.deeper (envX qual scope L' f cdv cl)) (execs body (envX qual scope L' f cdv cl))
        (fun fl s' => LeaveG h₀ L m news g R (match fl with | .ret v => v | _ => .none) s')
        (fun e s' => wpAny (model prog w) (A.deeper (envX qual scope L' f cdv cl)) (leaving (envX qual scope L' f cdv cl) e) (fun _ s'' => R (.error e) s'') (fun e' s'' => R (.error e') s'') s')
        { s with heap := h₁, toks := s.toks + binds.length })
    (hcell : ∀ x ∈ scope.names, x.2 ≠ .cell) (hco : scope.isCoroutine = false := by rfl) (hgen : scope.isGenerator = false := by rfl) (hk : scope.kind = .function := by rfl) : codeAny (model prog w) A (.call (.ref f) args) R s := by
  obtain ⟨FG, BG, st, lv⟩ := groundX (R := R) B F (News.nil : News h₀ L s.heap []) hA hf hke
  have hg : ∀ b, (hideAll s.heap (([] : List (Addr × Obj)).map (·.1))).get? b = s.heap.get? b := fun b => by
    cases q : s.heap.get? b with
    | some o => exact hideAll_get _ q (fun hm => nomatch hm)
    | none =>
      cases q' : (hideAll s.heap (([] : List (Addr × Obj)).map (·.1))).get? b with
      | none => rfl
      | some o => have := of_hideAll _ q'; rw [q] at this; cases this
  refine codeAny_call_def (fd := fnX name qual params body scope cl dV kV doc pm an cdv ct) (body := body) (binds := binds) hroom ho hd (hlim.keeps F.keep) hcd rfl hbind hcell hloc (fun h₁ hns hk₁ => ?_) hco hgen hk
  refine wpAny_mono (h _ s.heap.objs.size h₁ FG ⟨hns, fun b o e => hk₁ b o (of_hideAll _ e), Nat.le_of_eq (hideAll_size _ _)⟩
    News.nil BG st (fun p hp => ⟨(hg _).trans (N p hp).1, (N p hp).2⟩)) (fun fl s' hl => lv _ _ ?_) fun _ _ y => y
  obtain ⟨L', m', news', F', N', k⟩ := hl
  refine ⟨L', m', news', F', N', fun F₂ N₂ => k F₂ (fun p hp => ?_) fun q hq p hp e => ?_⟩
  · rcases List.mem_append.mp hp with hp | hp
    · exact N₂ p hp
    · exact ⟨F'.keep _ _ ((hg _).trans (N p hp).1), (N p hp).2⟩
  · have := (N' q hq).2.2
    rw [← e, hg, (N p hp).1] at this
    cases this
theorem codeG_def (B : Below A₀ base outer h₀) (F : Fr h₀ L s.heap m) (X₀ : K.In h₀) (N : News h₀ L s.heap news) (T : Top p loose mean mg mb h₀) (hA : A.frames = some (env :: outer)) (hf : env.frame = some L) (hke : env.scope.kind = .function)
    (ho : K.lookup f = some ⟨oc, od, .func (fnOf name qual params body scope dV kV doc pm an cdv ct), osl⟩) (hcd : codeIn K cdv qual = true) (hroom : A.depth < recursionLimit)
    (hbind : BindsTo s (fnOf name qual params body scope dV kV doc pm an cdv ct) args binds) (hloc : ∀ y ∈ binds, scope.names.lookup y.1 = some .local)
    (h : ∀ g L' h₁, Fr h₀ L g m → Fr g L' h₁ (fun y => binds.reverse.lookup y) → News g L' h₁ [] → Below A base (env :: outer) g → K.In g → Top p loose mean mg mb g → News h₀ L g news →
      wpAny (model prog w) (A.deeper (envOf qual scope L' f cdv)) (execs body (envOf qual scope L' f cdv))
        (fun fl s' => LeaveG h₀ L m news g R (match fl with | .ret v => v | _ => .none) s')
        (fun e s' => wpAny (model prog w) (A.deeper (envOf qual scope L' f cdv)) (leaving (envOf qual scope L' f cdv) e) (fun _ s'' => R (.error e) s'') (fun e' s'' => R (.error e') s'') s')
        { s with heap := h₁, toks := s.toks + binds.length })
    (hco : scope.isCoroutine = false) (hgen : scope.isGenerator = false) (hk : scope.kind = .function)
    (hcell : ∀ x ∈ scope.names, x.2 ≠ .cell) : codeAny (model prog w) A (.call (.ref f) args) R s :=
  callG_plain (cl := []) B F N T.nolimit hA hf hke ((X₀.keeps F.keep) _ _ ho) rfl (codeRec_of (X₀.keeps F.keep) hcd) hroom hbind hloc (fun g L' h₁ FG F' N' B' st NG => h g L' h₁ FG F' N' B' (X₀.keeps st) (T.keeps st) NG) hcell hco hgen hk
end
end Mine
end
section
open PySem PySem.W PyProof.Rows PySem.Calls
namespace Mine
abbrev Told : Type := Str × Option Int × Option (List Nat)
abbrev toldO (d : Told) (t1 t2 t3 : Tok) : Obj := tupO [.str d.1 t1, optI d.2.1 t2, optS d.2.2 t3]
inductive WordsL (news : List (Addr × Obj)) : List (Str × Told) → List Value → Prop
  | nil : WordsL news [] []
  | cons {x : Str} {d : Told} {l : List (Str × Told)} {W T : Addr} {vs : List Value} {t t1 t2 t3 : Tok} (h1 : (W, tupO [.str x t, .ref T]) ∈ news) (h2 : (T, toldO d t1 t2 t3) ∈ news) (r : WordsL news l vs) : WordsL news ((x, d) :: l) (.ref W :: vs)
abbrev TNAME : Told := (Str.ofString "name", none, none)
abbrev TREGION : Told := (Str.ofString "region", none, none)
abbrev TSIGN : Told := (Str.ofString "sign", none, none)
abbrev TINT (v : Int) : Told := (Str.ofString "int", some v, none)
abbrev TINTK (v : Int) (k : Str) : Told := (Str.ofString "int", some v, some (cs k))
abbrev WORDS : List (Str × Told) := [(Str.ofString "a", TNAME), (Str.ofString "_", TNAME), (Str.ofString "fn", TNAME), (Str.ofString "x1_Z", TNAME), (Str.ofString "Self", TNAME),
  (Str.ofString "'a", TREGION), (Str.ofString "'_", TREGION), (Str.ofString "'static", TREGION), (Str.ofString "'b7", TREGION),
  (Str.ofString "7", TINT 7), (Str.ofString "0x1F", TINT 31), (Str.ofString "1_0u8", TINTK 10 (Str.ofString "u8")), (Str.ofString "0b101i64", TINTK 5 (Str.ofString "i64")), (Str.ofString "0o17", TINT 15), (Str.ofString "9_usize", TINTK 9 (Str.ofString "usize")),
  (Str.ofString "+", TSIGN), (Str.ofString "<<=", TSIGN), (Str.ofString "..", TSIGN), (Str.ofString "..=", TSIGN), (Str.ofString "::", TSIGN), (Str.ofString "{", TSIGN), (Str.ofString "-", TSIGN), (Str.ofString "->", TSIGN), (Str.ofString "|=", TSIGN), (Str.ofString "@", TSIGN)]
inductive WrongL (news : List (Addr × Obj)) : List (Str × Int) → List Value → Prop
  | nil : WrongL news [] []
  | cons {x : Str} {i : Int} {l : List (Str × Int)} {W : Addr} {vs : List Value} {t u : Tok} (h1 : (W, tupO [.str x t, .int i u]) ∈ news) (r : WrongL news l vs) : WrongL news ((x, i) :: l) (.ref W :: vs)
abbrev WRONG : List (Str × Int) := [(Str.ofString "'", 0), (Str.ofString "'1", 0), (Str.ofString "#", 0), (Str.ofString "`", 0), (Str.ofString "a'b", 0), (Str.ofString "5q", 1), (Str.ofString "0x", 0), (Str.ofString "7u9", 1), (Str.ofString "0b_", 0)]
end Mine
end
section
open PySem PySem.W PyProof.Rows PySem.Calls
namespace Mine
abbrev S3 : List Str := [Str.ofString "<<=", Str.ofString ">>=", Str.ofString "..="]
abbrev S2 : List Str := [Str.ofString "::", Str.ofString "->", Str.ofString "=>", Str.ofString "==", Str.ofString "!=", Str.ofString "<=", Str.ofString ">=", Str.ofString "&&", Str.ofString "||", Str.ofString "<<", Str.ofString ">>", Str.ofString "..", Str.ofString "+=", Str.ofString "-=", Str.ofString "*=", Str.ofString "/=", Str.ofString "%=", Str.ofString "&=", Str.ofString "|=", Str.ofString "^="]
abbrev S1 : List Str := [Str.ofString "(", Str.ofString ")", Str.ofString "{", Str.ofString "}", Str.ofString "[", Str.ofString "]", Str.ofString ",", Str.ofString ";", Str.ofString ":", Str.ofString ".", Str.ofString "=", Str.ofString "<", Str.ofString ">", Str.ofString "+", Str.ofString "-", Str.ofString "*", Str.ofString "/", Str.ofString "%", Str.ofString "&", Str.ofString "|", Str.ofString "^", Str.ofString "!", Str.ofString "@"]
def lawS (l : List Nat) : List Nat := if l.take 3 ∈ S3.map cs then l.take 3 else if l.take 2 ∈ S2.map cs then l.take 2 else if l.take 1 ∈ S1.map cs then l.take 1 else []
theorem find_block (l : List Nat) (k : Nat) : ∀ A : List Str, (∀ sg ∈ A, sg.length = k) → A.find? (fun sg => decide (l.take sg.length = cs sg)) = if l.take k ∈ A.map cs then some ⟨(l.take k).toArray⟩ else none
  | [], _ => rfl
  | sg :: A, h => by
    have hk := h sg (.head _)
    rw [List.find?_cons, hk]
    by_cases q : l.take k = cs sg
    · rw [if_pos (by rw [List.map_cons, q]; exact .head _), decide_eq_true q]
      simp only [Option.some.injEq]
      exact str_ext (by rw [q])
    · rw [decide_eq_false q]
      rw [find_block l k A fun x hx => h x (.tail _ hx), List.map_cons]
      by_cases q2 : l.take k ∈ A.map cs
      · rw [if_pos q2, if_pos (.tail _ q2)]
      · rw [if_neg q2, if_neg (fun hm => (List.mem_cons.mp hm).elim q q2)]
theorem block_ne {l : List Nat} {k : Nat} {A : List Str} (h : ∀ sg ∈ A, sg.length = k) (hk : 0 < k) (hm : l.take k ∈ A.map cs) : l.take k ≠ [] ∧ (l.take k).length = k := by
  obtain ⟨sg, hs, e⟩ := List.mem_map.mp hm
  have e2 : (l.take k).length = k := by rw [← e, cs_length, h sg hs]
  exact ⟨fun q => by rw [q] at e2; simp at e2; omega, e2⟩
theorem len3 : ∀ sg ∈ S3, sg.length = 3 := by decide +kernel
theorem len2 : ∀ sg ∈ S2, sg.length = 2 := by decide +kernel
theorem len1 : ∀ sg ∈ S1, sg.length = 1 := by decide +kernel
theorem lawS_len (l : List Nat) : (lawS l).length ≤ 3 := by
  unfold lawS
  repeat' split
  all_goals (first | (rw [List.length_take]; omega) | simp)
theorem signs_three : SIGNS = S3 ++ (S2 ++ S1) := rfl
theorem signA_lawS (l : List Nat) (i : Nat) : signA l i = if lawS l = [] then .error i else .ok (⟨Str.ofString "sign", lawS l, i, none, none⟩, i + (lawS l).length) := by
  unfold signA lawS
  rw [signs_three, List.find?_append, List.find?_append, find_block l 3 S3 len3, find_block l 2 S2 len2, find_block l 1 S1 len1]
  by_cases h3 : l.take 3 ∈ S3.map cs
  · obtain ⟨a, b⟩ := block_ne len3 (by decide) h3
    simp only [if_pos h3, if_neg a, Option.some_or]
    rw [b]
    have : (⟨(l.take 3).toArray⟩ : Str).length = 3 := by rw [← cs_length]; exact b
    rw [this]
  · by_cases h2 : l.take 2 ∈ S2.map cs
    · obtain ⟨a, b⟩ := block_ne len2 (by decide) h2
      simp only [if_neg h3, if_pos h2, if_neg a, Option.some_or, Option.none_or]
      rw [b]
      have : (⟨(l.take 2).toArray⟩ : Str).length = 2 := by rw [← cs_length]; exact b
      rw [this]
    · by_cases h1 : l.take 1 ∈ S1.map cs
      · obtain ⟨a, b⟩ := block_ne len1 (by decide) h1
        simp only [if_neg h3, if_neg h2, if_pos h1, if_neg a, Option.none_or]
        rw [b]
        have : (⟨(l.take 1).toArray⟩ : Str).length = 1 := by rw [← cs_length]; exact b
        rw [this]
      · simp only [if_neg h3, if_neg h2, if_neg h1, Option.none_or, if_true]
end Mine
end
section
open PySem PySem.W PyProof.Rows PySem.Calls
namespace Mine


theorem slice_to (x : Str) (j : Int) : Txt.slice x none (some j) = Txt.slice x (some 0) (some j) := by
  have e : PySem.Builtin.Str.strSliceIndices none (some j) 1 x.length = PySem.Builtin.Str.strSliceIndices (some 0) (some j) 1 x.length := by
    unfold PySem.Builtin.Str.strSliceIndices
    simp only [show (1:Int) > 0 from by decide, if_true]
    congr 1
    repeat' split
    all_goals omega
  unfold Txt.slice
  rw [e]
theorem cs_to (x : Str) {j : Int} (h : 0 ≤ j) : cs (Txt.slice x none (some j)) = (cs x).take j.toNat := by
  rw [slice_to, cs_slice x (Int.le_refl _) h, Int.sub_zero]; rfl
theorem any_cs {A : List Str} {x : Str} {b : Bool} (h : A.any (· == x) = b) : (cs x ∈ A.map cs) ↔ b = true := by
  subst h
  rw [List.any_eq_true, List.mem_map]
  constructor
  · rintro ⟨y, hy, e⟩; exact ⟨y, hy, by rw [beq_iff_eq]; exact str_ext e⟩
  · rintro ⟨y, hy, e⟩; rw [beq_iff_eq] at e; exact ⟨y, hy, by rw [e]⟩
theorem law3 {x : Str} (h : S3.any (· == Txt.slice x none (some 3)) = true) : cs (Txt.slice x none (some 3)) = lawS (cs x) := by
  have h := (any_cs h).mpr rfl
  rw [cs_to x (by decide)] at h ⊢
  simp only [show Int.toNat 3 = 3 from rfl] at h ⊢
  unfold lawS
  exact (if_pos h).symm
theorem law2 {x : Str} (h3 : S3.any (· == Txt.slice x none (some 3)) = false) (h : S2.any (· == Txt.slice x none (some 2)) = true) : cs (Txt.slice x none (some 2)) = lawS (cs x) := by
  have h3 := mt (any_cs h3).mp (by decide)
  have h := (any_cs h).mpr rfl
  rw [cs_to x (by decide)] at h3 h ⊢
  simp only [show Int.toNat 3 = 3 from rfl, show Int.toNat 2 = 2 from rfl] at h3 h ⊢
  unfold lawS
  rw [if_neg h3]; exact (if_pos h).symm
theorem law1 {x : Str} (h3 : S3.any (· == Txt.slice x none (some 3)) = false) (h2 : S2.any (· == Txt.slice x none (some 2)) = false) (h : S1.any (· == Txt.slice x none (some 1)) = true) : cs (Txt.slice x none (some 1)) = lawS (cs x) := by
  have h3 := mt (any_cs h3).mp (by decide)
  have h2 := mt (any_cs h2).mp (by decide)
  have h := (any_cs h).mpr rfl
  rw [cs_to x (by decide)] at h3 h2 h ⊢
  simp only [show Int.toNat 3 = 3 from rfl, show Int.toNat 2 = 2 from rfl, show Int.toNat 1 = 1 from rfl] at h3 h2 h ⊢
  unfold lawS
  rw [if_neg h3, if_neg h2]; exact (if_pos h).symm
theorem law0 {x : Str} (h3 : S3.any (· == Txt.slice x none (some 3)) = false) (h2 : S2.any (· == Txt.slice x none (some 2)) = false) (h1 : S1.any (· == Txt.slice x none (some 1)) = false) : cs (Str.ofString "") = lawS (cs x) := by
  have h3 := mt (any_cs h3).mp (by decide)
  have h2 := mt (any_cs h2).mp (by decide)
  have h1 := mt (any_cs h1).mp (by decide)
  rw [cs_to x (by decide)] at h3 h2 h1
  simp only [show Int.toNat 3 = 3 from rfl, show Int.toNat 2 = 2 from rfl, show Int.toNat 1 = 1 from rfl] at h3 h2 h1
  unfold lawS
  rw [if_neg h3, if_neg h2, if_neg h1]; exact cs_nil
theorem s1_signs : signs (Str.ofString "(){}[],;:.=<>+-*/%&|^!@") = S1 := by decide +kernel
theorem s1_strs {vs : List Value} (h : CarriedAll vs (List.map PyData.str (signs (Str.ofString "(){}[],;:.=<>+-*/%&|^!@")))) : StrsAre vs S1 := s1_signs ▸ StrsAre.of_carried h
theorem in_strs {prog : Program} {w : World} {A : Around} {E : Value → Shared → Prop} {s : Shared} {l : Addr} {vs : List Value} {ys : List Str} {k : Str} {t : Tok} {Q : Value → Shared → Prop} {h₀ : Heap} {L : Addr} {news : List (Addr × Obj)} {n : Nat}
    (N : News h₀ L s.heap news) (hm : (l, listOf vs.toArray n) ∈ news) (hi : StrsAre vs ys) (h : Q (.bool (ys.any (· == k))) s) : wpAny (model prog w) A (compareOp .In (.str k t) (.ref l)) Q E s := in_list_strs (News.isList N hm) hi h
theorem len_of {x : Str} {l : List Nat} (h : cs x = lawS l) : x.length ≤ 3 := by rw [← cs_length, h]; exact lawS_len l
section
variable {w : World} {mean : ExcName → Option Value} {mg mb : Str → Option Value} {dp un : Nat} {gd : Option (List Code)} {cn : Str} {cs₁ : Scope} {a : Addr} {ccd : Value} {cl : List (Str × Addr)} {outer : List Env} {A₀ : Around} {base h₀ : Heap} {L : Addr} {m : Str → Option Value} {s : Shared} {Q E : Value → Shared → Prop} {news : List (Addr × Obj)}

theorem words_H7_1 : Flush := by
  (try w_top off)
  k_with_none
  k_with "mine k_ne" => (refine neN ?_; (try dsimp only); first | (refine Nat.ne_of_lt ?_; (repeat (first | exact Nat.lt_add_one _ | refine Nat.lt.step ?_)); done) | (refine Nat.ne_of_gt ?_; (repeat (first | exact Nat.lt_add_one _ | refine Nat.lt.step ?_)); done) | omega)
  k_with "mine spliced" => (k_here; with_reducible (first | refine args_s8 ?_ | refine args_s4 ?_ | refine args_s2 ?_ | refine args_s1 ?_ | refine args_i1 ?_))
  k_with "mine ktr_room" => ((try dsimp only [ktrTop, Around.deeper]); (try simp only [depth_under_make, depth_under_kw, depth_in1, depth_deeper, depth_caller, depth_mark]); (try dsimp only [ktrTop]); first | ((simp only [Nat.add_assoc]); exact room_le (by assumption) (by rfl)) | omega)
  k_with "mine ktr_units" => ((try dsimp only [ktrTop, Around.deeper]); (try simp only [units_in1, units_deeper, Around.mark_units, units_caller]); (try dsimp only [ktrTop]); first | ((simp only [Nat.add_assoc]); exact room_le (by assumption) (by rfl)) | omega)
  k_with "mine exec Raise some none" => (k_here; k_dflt (refine' raise_fault ?hhz1 ?_; (case hhz1 => first | exact rfl | assumption); k_whole))
  k_with "mine call ref" => (k_here; (with_reducible show wpAny _ _ (call (Value.ref 45) [_, _]) _ _ _); k_dflt (refine' fault_make ?k1z2 ?k2z2 ?k3z2 ?k4z2 ?k5z2 ?kKz2 ?kdz2 ?kuz2 ?_; (case k1z2 => k_asm); (case k2z2 => k_asm); (case k3z2 => k_asm); (case k4z2 => k_asm); (case k5z2 => k_asm); (case kKz2 => first | exact rfl | assumption); (case kdz2 => ktr_room); (case kuz2 => ktr_units)); intro h'q9 tk'q9 e'q9 t'q9 d'q9 od'q9 F'q9 hs'q9 N'q9 ne1'q9 ne2'q9; (refine ⟨_, _, _, rfl, (N'q9 _ (.head _)).1, rfl, rfl, rfl, Frag.In.keeps (by k_asm) (Fr.keep F'q9), ?_⟩); (try dsimp only))
  k_with "mine leaving ref" => (k_here; (refine' leave_onF ?k1z3 ?k2z3 ?k3z3 ?k4z3 ?_; (case k3z3 => assumption); (case k1z3 => assumption); (case k2z3 => assumption); (case k4z3 => exact fun q hq => (News.mk (by k_asm) q hq).2.2); intro h'q9 R'q9; (try dsimp only)))
  k_with "mine leaving ref" => (k_here; (refine' leave_raiseF ?k1z4 ?k2z4 ?k3z4 ?k4z4 ?k5z4 ?k6z4 ?_; (case k1z4 => assumption); (case k2z4 => assumption); (case k3z4 => assumption); (case k4z4 => assumption); (case k5z4 => assumption); (case k6z4 => assumption); intro h'q9 R'q9; (try dsimp only)))
  k_with "mine LeaveT" => (k_dflt (refine' leaveT_ ?Fz7 ?Nz7 ?Tz7 ?_; (case Fz7 => k_asm); (case Nz7 => k_asm); (case Tz7 => first | assumption | exact KtsTurn.refl | exact KtsTurn.trans (by assumption) (by assumption)); k_whole); intro kgq9 kTq9 kFq9 kNq9 kBq9; (try k_lift kBq9); (try dsimp only))
  k_with "mine LeaveG" => (k_dflt (refine' leaveG_ ?Fz9 ?Nz9 ?_; (case Fz9 => k_asm); (case Nz9 => k_asm); k_whole); intro kFq9 kNq9 kDq9; (try dsimp only))
  k_with "mine compareOp In str ref" => (k_here; k_dflt (refine' in_strs ?Nz10 ?mz10 ?iz10 ?_; (case Nz10 => k_asm); (case mz10 => k_mem); (case iz10 => first | exact s1_strs (by assumption) | (repeat' constructor))))
  exact trivial
set_option maxRecDepth 100000 in
set_option maxHeartbeats 8000000 in
theorem law_sign_spec {text : Str} {t1 : Tok}
   (B : Below A₀ base outer h₀) (F : Fr h₀ L s.heap m) (X : (hd.heap_1 w.params).In h₀) (N : News h₀ L s.heap news) (T : Top topProg LZ mean mg mb h₀) (hk : cs₁.kind = .function)
   (hdp : dp + 1 < recursionLimit) (hun : un + 10 < cLine)
   (hl : text.length ≤ 1048576)
   (hret : ∀ (x : Str) (t : Tok) (h' : Heap) (tk' : Nat), cs x = lawS (cs text) → x.length ≤ 3 → Fr h₀ L h' m → News h₀ L h' news → Q (.str x t) { s with heap := h', toks := tk' }) :
   wpAny (model prg w) (ktrTop dp un gd cn cs₁ L a ccd cl outer) (call (.ref 147) [.str text t1]) Q E s := by
  refine wpAny_call ?_
  k_dflt ((refine' codeG_def ?k1z8 ?k2z8 ?k3z8 ?k4z8 ?k5z8 ?kAz8 ?kFz8 ?kKz8 ?k6z8 ?k7z8 ?k8z8 ?k9z8 ?kBz8 ?_ ?c2z8 ?c3z8 ?c4z8 ?c5z8; (case kAz8 => exact rfl); (case kFz8 => exact rfl); (case kKz8 => assumption); (case k1z8 => k_asm); (case k2z8 => k_asm); (case k3z8 => k_asm); (case k4z8 => k_asm); (case k5z8 => k_asm); (case k6z8 => k_is); (case k7z8 => k_is); (case k8z8 => ktr_room); (case k9z8 => exact BindsTo.of_eq rfl); (case c5z8 => decide); (case kBz8 => exact locs rfl); (case c2z8 => exact rfl); (case c3z8 => exact rfl); (case c4z8 => exact rfl); k_whole; intro g'q9 L'q9 h'q9 FG'q9 F'q9 N'q9 B'q9 X'q9 T'q9 NG'q9; (try dsimp only); (try k_lift B'q9); (try k_fold)))
  skip
  k_steps
  · have hz := (law3 (by assumption))
    exact hret _ _ _ _ hz (len_of hz) (by assumption) (News.few (by assumption) fun q hq => List.mem_append_right _ hq)
  · have hz := (law2 (by assumption) (by assumption))
    exact hret _ _ _ _ hz (len_of hz) (by assumption) (News.few (by assumption) fun q hq => List.mem_append_right _ hq)
  · have hz := (law1 (by assumption) (by assumption) (by assumption))
    exact hret _ _ _ _ hz (len_of hz) (by assumption) (News.few (by assumption) fun q hq => List.mem_append_right _ hq)
  · have hz := (law0 (by assumption) (by assumption) (by assumption))
    exact hret _ _ _ _ hz (len_of hz) (by assumption) (News.few (by assumption) fun q hq => List.mem_append_right _ hq)
end
end Mine
end
section
open PySem PySem.W PyProof.Rows PySem.Calls
namespace Mine
theorem cs_append (a b : Str) : cs (a ++ b) = cs a ++ cs b := by
  show (a.cps ++ b.cps).toList = _
  simp [cs]
theorem drop_glue (a t : Str) : (cs (a ++ t)).drop ((a.length : Int)).toNat = cs t := by
  rw [cs_append, Int.toNat_natCast, ← cs_length a, List.drop_left]
theorem sign_glue (a t : Str) : signA ((cs (a ++ t)).drop ((a.length : Int)).toNat) ((a.length : Int)).toNat = signA (cs t) a.length := by
  rw [drop_glue, Int.toNat_natCast]
theorem lt_two {D W : Addr} {x y : Obj} {l : List (Addr × Obj)} (h : AllLt W l) (hW : @LT.lt Nat _ W D) : ∀ q ∈ [(D, x), (W, y)], ∀ p ∈ l, p.1 < q.1 := by
  intro q hq p hp
  rcases List.mem_cons.mp hq with rfl | hq
  · exact Nat.lt_trans (lt_all h p hp) hW
  · rw [List.mem_singleton.mp hq]; exact lt_all h p hp
theorem told_no {x text : Str} {i : Nat} (h : (x == Str.ofString "") = true) (hx : cs x = lawS (cs text)) : hdD (resW (signA (cs text) i)) = .tuple [.str (Str.ofString "refused"), .int i] := by
  rw [eq_nil, decide_eq_true_eq] at h
  rw [signA_lawS, if_pos (hx ▸ h)]
  rfl
theorem told_yes {x text : Str} {i : Nat} (h : (x == Str.ofString "") = false) (hx : cs x = lawS (cs text)) :
    hdD (resW (signA (cs text) i)) = .tuple [.tuple [.str (Str.ofString "sign"), .str x, .int i, .none, .none], .int ((i : Int) + (x.length : Int))] := by
  rw [eq_nil, decide_eq_false_iff_not] at h
  rw [signA_lawS, if_neg (hx ▸ h)]
  have e : x = ⟨(lawS (cs text)).toArray⟩ := str_ext (by rw [hx])
  show Dat.tuple [wordD _, .int _] = _
  have e2 : (lawS (cs text)).length = x.length := by rw [← hx, cs_length]
  rw [e2, Int.natCast_add]
  unfold wordD
  rw [← e]
  rfl
theorem strOk_mem {x y : Str} (h : PyData.strOk y = true) (hs : ∀ c ∈ cs x, c ∈ cs y) : PyData.strOk x = true := by
  unfold PyData.strOk at h ⊢
  rw [Array.all_eq_true'] at h ⊢
  intro c hc
  exact h c (by
    have := hs c (by simpa [cs] using hc)
    simpa [cs] using this)
theorem lawS_sub (l : List Nat) : ∀ c ∈ lawS l, c ∈ l := by
  unfold lawS
  repeat' split
  all_goals intro c hc
  · exact List.mem_of_mem_take hc
  · exact List.mem_of_mem_take hc
  · exact List.mem_of_mem_take hc
  · cases hc
theorem strOk_law {x text : Str} (h : PyData.strOk text = true) (hx : cs x = lawS (cs text)) : PyData.strOk x = true := strOk_mem h (hx ▸ lawS_sub _)
theorem ok_yes {x : Str} {i j : Int} (h : PyData.strOk x = true) : kqdOk 8 (.tuple [.tuple [.str (Str.ofString "sign"), .str x, .int i, .none, .none], .int j]) = true := by
  have : PyData.strOk (Str.ofString "sign") = true := by decide +kernel
  simp [kqdOk, h, this]
theorem ok_no {i : Int} : kqdOk 8 (.tuple [.str (Str.ofString "refused"), .int i]) = true := by
  have : PyData.strOk (Str.ofString "refused") = true := by decide +kernel
  simp [kqdOk, this]
theorem heard_end {g h' : Heap} {L' : Addr} {m' : Str → Option Value} {s' : Shared} {Q' : Value → Shared → Prop} {news nw : List (Addr × Obj)} {P : Value → List (Addr × Obj) → Prop} {v : Value} {tk' : Nat}
    (hq : ∀ v news' h' tk', P v news' → Fr g L' h' m' → News g L' h' (news' ++ news) → (∀ q ∈ news', ∀ p ∈ news, p.1 < q.1) → Q' v { s' with heap := h', toks := tk' }) (p : P v nw) (F : Fr g L' h' m') (N : News g L' h' (nw ++ news)) (lt : ∀ q ∈ nw, ∀ p ∈ news, p.1 < q.1) :
    Q' v { s' with heap := h', toks := tk' } := hq _ _ _ _ p F N lt
theorem heard_err {base g g₂ h' : Heap} {L' e : Addr} {m' : Str → Option Value} {s' : Shared} {E' : Value → Shared → Prop} {news : List (Addr × Obj)} {fs : List Env} {er : Nat → Prop} {p tk' : Nat}
    (he : ∀ p, er p → FaultTo base g L' m' fs news s' E' p) (h : er p) (F : Fr g L' g₂ m') (R : RaisedF base g₂ fs e p news h') : E' (.ref e) { s' with heap := h', toks := tk' } := he p h e g₂ h' tk' F R
theorem DatIn.cast {news : List (Addr × Obj)} {v : Value} {d e : Dat} (h : DatIn news v d) (q : d = e) : DatIn news v e := q ▸ h
end Mine
end
section
open PySem PySem.W PyProof.Rows PySem.Calls
namespace Mine



section
variable {w : World} {mean : ExcName → Option Value} {mg mb : Str → Option Value} {dp un : Nat} {gd : Option (List Code)} {cn : Str} {cs₁ : Scope} {a : Addr} {ccd : Value} {cl : List (Str × Addr)} {outer : List Env} {A₀ : Around} {base h₀ : Heap} {L : Addr} {m : Str → Option Value} {s : Shared} {Q E : Value → Shared → Prop} {news : List (Addr × Obj)}

theorem words_H8_1 : Flush := by
  (try w_top off)
  k_with_none
  k_with "mine k_ne" => (refine neN ?_; (try dsimp only); first | (refine Nat.ne_of_lt ?_; (repeat (first | exact Nat.lt_add_one _ | refine Nat.lt.step ?_)); done) | (refine Nat.ne_of_gt ?_; (repeat (first | exact Nat.lt_add_one _ | refine Nat.lt.step ?_)); done) | omega)
  k_with "mine spliced" => (k_here; with_reducible (first | refine args_s8 ?_ | refine args_s4 ?_ | refine args_s2 ?_ | refine args_s1 ?_ | refine args_i1 ?_))
  k_with "mine ktr_room" => ((try dsimp only [ktrTop, Around.deeper]); (try simp only [depth_under_make, depth_under_kw, depth_in1, depth_deeper, depth_caller, depth_mark]); (try dsimp only [ktrTop]); first | ((simp only [Nat.add_assoc]); exact room_le (by assumption) (by rfl)) | omega)
  k_with "mine ktr_units" => ((try dsimp only [ktrTop, Around.deeper]); (try simp only [units_in1, units_deeper, Around.mark_units, units_caller]); (try dsimp only [ktrTop]); first | ((simp only [Nat.add_assoc]); exact room_le (by assumption) (by rfl)) | omega)
  k_with "mine exec Raise some none" => (k_here; k_dflt (refine' raise_fault ?hhz1 ?_; (case hhz1 => first | exact rfl | assumption); k_whole))
  k_with "mine call ref" => (k_here; (with_reducible show wpAny _ _ (call (Value.ref 45) [_, _]) _ _ _); k_dflt (refine' fault_make ?k1z2 ?k2z2 ?k3z2 ?k4z2 ?k5z2 ?kKz2 ?kdz2 ?kuz2 ?_; (case k1z2 => k_asm); (case k2z2 => k_asm); (case k3z2 => k_asm); (case k4z2 => k_asm); (case k5z2 => k_asm); (case kKz2 => first | exact rfl | assumption); (case kdz2 => ktr_room); (case kuz2 => ktr_units)); intro h'q9 tk'q9 e'q9 t'q9 d'q9 od'q9 F'q9 hs'q9 N'q9 ne1'q9 ne2'q9; (refine ⟨_, _, _, rfl, (N'q9 _ (.head _)).1, rfl, rfl, rfl, Frag.In.keeps (by k_asm) (Fr.keep F'q9), ?_⟩); (try dsimp only))
  k_with "mine leaving ref" => (k_here; (refine' leave_onF ?k1z3 ?k2z3 ?k3z3 ?k4z3 ?_; (case k3z3 => assumption); (case k1z3 => assumption); (case k2z3 => assumption); (case k4z3 => exact fun q hq => (News.mk (by k_asm) q hq).2.2); intro h'q9 R'q9; (try dsimp only)))
  k_with "mine leaving ref" => (k_here; (refine' leave_raiseF ?k1z4 ?k2z4 ?k3z4 ?k4z4 ?k5z4 ?k6z4 ?_; (case k1z4 => assumption); (case k2z4 => assumption); (case k3z4 => assumption); (case k4z4 => assumption); (case k5z4 => assumption); (case k6z4 => assumption); intro h'q9 R'q9; (try dsimp only)))
  k_with "mine callWith ref" => (k_here; (with_reducible show wpAny _ _ (callWith _ (Value.ref _) _ (backTo _ (starEach (_ :: _) _)) []) _ _ _); k_dflt (refine' callWith_K ?k1z5 ?k2z5 ?_; (case k1z5 => k_asm); (case k2z5 => k_is); k_whole))
  k_with "mine LeaveT" => (k_dflt (refine' leaveT_ ?Fz8 ?Nz8 ?Tz8 ?_; (case Fz8 => k_asm); (case Nz8 => k_asm); (case Tz8 => first | assumption | exact KtsTurn.refl | exact KtsTurn.trans (by assumption) (by assumption)); k_whole); intro kgq9 kTq9 kFq9 kNq9 kBq9; (try k_lift kBq9); (try dsimp only))
  k_with "mine LeaveG" => (k_dflt (refine' leaveG_ ?Fz10 ?Nz10 ?_; (case Fz10 => k_asm); (case Nz10 => k_asm); k_whole); intro kFq9 kNq9 kDq9; (try dsimp only))
  k_with "mine k_mem" => (refine List.mem_append_right _ ?_; k_mem)
  k_with "mine k_mem" => (refine List.mem_append_left _ ?_; k_mem)
  k_with "mine call ref" => (k_here; (with_reducible show wpAny _ _ (call (Value.ref 147) _) _ _ _); k_dflt (refine' law_sign_spec ?k1z11 ?k2z11 ?k3z11 ?k4z11 ?k5z11 ?kKz11 ?kdz11 ?kuz11 ?p0z11 ?_; (case k1z11 => k_asm); (case k2z11 => k_asm); (case k3z11 => k_asm); (case k4z11 => k_asm); (case k5z11 => k_asm); (case kKz11 => first | exact rfl | assumption); (case kdz11 => ktr_room); (case kuz11 => ktr_units); (case p0z11 => first | assumption | omega | (size_fits; done)); skip); (intro x'q9 tx'q9 h'q9 tk'q9 hx'q9 hx3'q9 F'q9 N'q9; (try dsimp only); (try k_fold)))
  k_with "mine call ref" => (k_here; (with_reducible show wpAny _ _ (call (Value.ref 98) _) _ _ _); k_dflt (refine' read_sign_spec ?k1z12 ?k2z12 ?k3z12 ?k4z12 ?k5z12 ?kKz12 ?kdz12 ?kuz12 ?p0z12 ?p1z12 ?p2z12 ?_ ?_; (case k1z12 => k_asm); (case k2z12 => k_asm); (case k3z12 => k_asm); (case k4z12 => k_asm); (case k5z12 => k_asm); (case kKz12 => first | exact rfl | assumption); (case kdz12 => ktr_room); (case kuz12 => ktr_units); (case p0z12 => first | assumption | omega | (size_fits; done)); (case p1z12 => first | assumption | omega | (size_fits; done)); (case p2z12 => first | assumption | omega | (size_fits; done)); skip); (intro wd'q9 e'q9 hz'q9 ei'q9 hei'q9 D'q9 W'q9 t1'q9 t2'q9 t3'q9 t4'q9 t5'q9 te'q9 h'q9 tk'q9 F'q9 N'q9 ltWq9 ltDq9; (try replace ltDq9 := ltN ltDq9); (try k_lt ltWq9); (try dsimp only); (try k_fold)); rotate_left; (intro hz'q9 e'q9 g'q9 h'q9 tk'q9 G'q9 R'q9; (try dsimp only)); rotate_left)
  k_with "mine eval Lambda" => (k_here; k_dflt (refine' lam_eval (ln := 138) (col := 22) (qual := Str.ofString "_law_sign_right.<locals>.<lambda>") ?Fz13 ?Nz13 ?Tz13 ?Cz13 ?cdz13 ?Uz13 ?hTz13 ?hrz13 ?hgz13 ?hnz13 rfl rfl ?qz13 ?dz13 ?clz13 ?_; (case Fz13 => k_asm); (case Nz13 => k_asm); (case Tz13 => k_asm); (case Cz13 => first | assumption | exact CodeHd.keeps (by assumption) (Below.stays (by assumption))); (case cdz13 => exact rfl); (case Uz13 => k_updF); (case hTz13 => first | with_reducible assumption | assumption); (case hrz13 => exact (fun q hq => by repeat (first | exact hq | exact hr0 _ hq | apply List.Mem.tail | apply List.mem_append_right))); (case hgz13 => exact fun o' => (fun q hq => by repeat (first | exact hq | exact hr0 _ hq | apply List.Mem.tail | apply List.mem_append_right))); (case hnz13 => first | with_reducible assumption | assumption); (case qz13 => with_unfolding_all rfl); (case dz13 => exact rfl); (case clz13 => exact rfl); k_whole); intro f'q9 c'q9 oc'q9 vs'q9 t'q9 ct'q9 own'q9 h'q9 tk'q9 ps'q9 F'q9 N'q9 hm'q9 hd'q9 hv'q9 hT'q9 hne'q9 hlt'q9; (try dsimp only at N'q9))
  k_with "mine call ref" => (k_here; (with_reducible show wpAny _ _ (call (Value.ref 140) _) _ _ _); k_dflt (refine' heard_dat ?hRz14 ?k1z14 ?k2z14 ?k3z14 ?k4z14 ?k5z14 ?kKz14 ?kdz14 ?kuz14 ?xbz14 ?tbz14 ?hfz14 ?hsz14 ?_ ?_; (case hRz14 => first | with_reducible assumption | assumption); (case k1z14 => k_asm); (case k2z14 => k_asm); (case k3z14 => k_asm); (case k4z14 => k_asm); (case k5z14 => k_asm); (case kKz14 => first | exact rfl | assumption); (case kdz14 => ktr_room); (case kuz14 => ktr_units); (case xbz14 => first | with_reducible assumption | assumption); (case tbz14 => first | with_reducible assumption | assumption); (case hfz14 => k_mem); (case hsz14 => first | exact resW_ref _ | exact resL_ref _)); rotate_left; (intro D'q9 own'q9 g'q9 h'q9 tk'q9 kTq9 kBq9 kXq9 kTTq9 F'q9 N'q9 hD'q9 lt'q9; (try k_lift kBq9); (try dsimp only); (try k_fold)); rotate_left; (intro g'q9 L'q9 m'q9 s'q9 Q'q9 E'q9 F'q9 N'q9 B'q9 X'q9 T'q9 hq'q9 he'q9; (try k_lift B'q9)))
  k_with "mine leaving ref" => (k_here; (refine' leave_onX ?k1z16 ?k2z16 ?k3z16 ?k4z16 ?_; (case k3z16 => first | with_reducible assumption | assumption); (case k1z16 => first | with_reducible assumption | assumption); (case k2z16 => first | with_reducible assumption | assumption); (case k4z16 => exact fun q hq => (News.mk (by k_asm) q hq).2.2); intro h'q9 R'q9; (try dsimp only)))
  k_with "mine call ref" => (k_here; (with_reducible show wpAny _ _ (call (Value.ref _) []) _ _ _); k_dflt (refine wpAny_call ?_; ((refine' kla_code ?k1z15 ?k2z15 ?k3z15 ?k4z15 ?k5z15 ?kAz15 ?kFz15 ?kKz15 ?k6z15 ?k7z15 ?k8z15 ?k9z15 ?kBz15 ?_ ?c2z15 ?c3z15 ?c4z15 ?c5z15; (case kAz15 => exact rfl); (case kFz15 => exact rfl); (case kKz15 => first | exact rfl | assumption); (case k1z15 => k_asm); (case k2z15 => k_asm); (case k3z15 => k_asm); (case k4z15 => k_asm); (case k5z15 => k_asm); (case k6z15 => k_mem); (case k7z15 => exact codeRec_news (by k_asm) (by first | exact List.mem_cons_of_mem _ (by assumption) | k_mem) (by assumption) (by assumption)); (case k8z15 => ktr_room); (case k9z15 => exact rfl); (case c5z15 => decide); (case kBz15 => exact locs rfl); (case c2z15 => exact rfl); (case c3z15 => exact rfl); (case c4z15 => exact rfl); k_whole; intro g'q9 L'q9 h'q9 FG'q9 F'q9 N'q9 B'q9 X'q9 T'q9; (try dsimp only); (try k_lift B'q9); (try k_fold)))))
  k_with "mine k_all" => first | assumption | exact ne_all (And.right (by assumption)) (by show @LE.le Nat _ _ _; first | ((repeat (first | exact Nat.le.refl | refine Nat.le.step ?_)); done) | omega)
  exact trivial
set_option maxRecDepth 100000 in
set_option maxHeartbeats 8000000 in
theorem sign_right_spec {ahead text : Str} {t1 t2 : Tok} {ps : Array Value} {rest0 : List (Addr × Obj)}
   (B : Below A₀ base outer h₀) (F : Fr h₀ L s.heap m) (X : (hd.heap_1 w.params).In h₀) (N : News h₀ L s.heap ((168, tabObj ps) :: news)) (T : Top topProg LZ mean mg mb h₀) (hk : cs₁.kind = .function)
   (hdp : dp + 20 < recursionLimit) (hun : un + 400 < cLine) (XB : (hd.heap_1 w.params).In base) (TB : Top topProg LZ mean mg mb base) (CB : CodeHd base 172 168)
   (hne : ∀ q ∈ news, q.1 ≠ 168) (hl : ahead.length ≤ 1000) (hl2 : text.length ≤ 1000) (h0 : 0 < text.length) (hok : PyData.strOk text = true)
   (hT : TabOk 138 22 (Str.ofString "_law_sign_right.<locals>.<lambda>") ps rest0) (hr0 : ∀ q ∈ rest0, q ∈ news)
   (hret : ∀ (ps' : Array Value) (own : List (Addr × Obj)) (g' h' : Heap) (tk' : Nat), KtsTurn (outer.filterMap (·.frame)) h₀ g' → Below A₀ base outer g' → Fr g' L h' m → News g' L h' ((168, tabObj ps') :: (own ++ news)) → TabOk 138 22 (Str.ofString "_law_sign_right.<locals>.<lambda>") ps' (own ++ rest0) → (∀ q ∈ own, ∀ p ∈ news, p.1 < q.1) → (∀ q ∈ own, q.1 ≠ 168) → Q (.bool true) { s with heap := h', toks := tk' }) :
   wpAny (model prg w) (ktrTop dp un gd cn cs₁ L a ccd cl outer) (call (.ref 173) [.str ahead t1, .str text t2]) Q E s := by
  have hn0 : ∀ q ∈ rest0, q.1 ≠ 168 := fun q hq => hne q (hr0 q hq)
  refine wpAny_call ?_
  k_dflt ((refine' codeT_defC ?k1z7 ?k2z7 ?k3z7 ?k4z7 ?k5z7 ?kAz7 ?kFz7 ?kKz7 ?k6z7 ?k7z7 ?k8z7 ?k9z7 ?kBz7 ?kDz7 ?_ ?c2z7 ?c3z7 ?c4z7; (case kAz7 => exact rfl); (case kFz7 => exact rfl); (case kKz7 => assumption); (case k1z7 => k_asm); (case k2z7 => k_asm); (case k3z7 => k_asm); (case k4z7 => k_asm); (case k5z7 => k_asm); (case k6z7 => k_is); (case k7z7 => k_is); (case k8z7 => ktr_room); (case k9z7 => exact BindsTo.of_eq rfl); (case kBz7 => exact rfl); (case kDz7 => decide +kernel); (case c2z7 => exact rfl); (case c3z7 => exact rfl); (case c4z7 => exact rfl); k_whole; intro g'q9 L'q9 h'q9 tk'q9 cells'q9 FG'q9 F'q9 N'q9 Y'q9 B'q9 X'q9 T'q9 l1q9; (try k_lt l1q9); k_cells Y'q9; (try simp only [List.cons_append, List.nil_append] at N'q9); (try dsimp only); (try k_lift B'q9); (try k_fold)))
  skip
  have hR : HRes (resW (signA (cs text) ahead.length)) := trivial
  k_steps
  · refine heard_end (nw := [(_, _), (_, _)]) (by assumption) ?_ (by assumption) (by assumption) (lt_two (by assumption) (by assumption))
    exact ⟨_, resW_ok ((sign_glue _ _).symm.trans (by assumption)), pair_dat (by assumption) (.head _) (.tail _ (.head _))⟩
  · refine heard_err (by assumption) ?_ (by assumption) (by assumption)
    exact resW_err ((sign_glue _ _).symm.trans (by assumption))
  · refine dat_eq (by assumption) (DatIn.cast (by assumption) (told_no (by assumption) (by assumption))) (fun q hq => by (repeat (first | exact hq | exact List.mem_append_left _ hq | apply List.Mem.tail | apply List.mem_append_right))) (.tuple (n := 0) (.head _) (.cons (.str _ _) (.cons (.int _ _) .nil))) (fun q hq => hq) ok_no (by ktr_units) ?_
    k_steps
    ((refine' hret _ _ _ _ _ ?az18 ?bz18 ?cz18 ?dz18 ?ez18 ?fz18 ?gz18; (case az18 => assumption); (case bz18 => assumption); (case cz18 => assumption); (case ez18 => assumption); (case gz18 => assumption); (case dz18 => (refine News.few (by assumption) (fun q hq => ?_); rcases List.mem_cons.mp hq with hq | hq; (focus (rw [hq]; k_mem)); (rcases List.mem_append.mp hq with hq | hq; (focus ((repeat (first | exact hq | exact List.mem_append_left _ hq | apply List.Mem.tail | apply List.mem_append_right)))); (focus ((repeat (first | exact hq | exact List.mem_append_left _ hq | apply List.Mem.tail | apply List.mem_append_right))))))); (case fz18 => exact fun q hq p hp => (by assumption : ∀ q ∈ _, ∀ p ∈ _, p.1 < q.1) q hq p (by (repeat (first | exact hp | exact List.mem_append_left _ hp | apply List.Mem.tail | apply List.mem_append_right))))))
  · refine dat_eq (by assumption) (DatIn.cast (by assumption) (told_yes (by assumption) (by assumption))) (fun q hq => by (repeat (first | exact hq | exact List.mem_append_left _ hq | apply List.Mem.tail | apply List.mem_append_right))) (.tuple (n := 0) (.head _) (.cons (.tuple (n := 0) (.tail _ (.head _)) (.cons (.str _ _) (.cons (.str _ _) (.cons (.int _ _) (.cons .none (.cons .none .nil)))))) (.cons (.int _ _) .nil))) (fun q hq => hq) (ok_yes (strOk_law hok (by assumption))) (by ktr_units) ?_
    k_steps
    ((refine' hret _ _ _ _ _ ?az18 ?bz18 ?cz18 ?dz18 ?ez18 ?fz18 ?gz18; (case az18 => assumption); (case bz18 => assumption); (case cz18 => assumption); (case ez18 => assumption); (case gz18 => assumption); (case dz18 => (refine News.few (by assumption) (fun q hq => ?_); rcases List.mem_cons.mp hq with hq | hq; (focus (rw [hq]; k_mem)); (rcases List.mem_append.mp hq with hq | hq; (focus ((repeat (first | exact hq | exact List.mem_append_left _ hq | apply List.Mem.tail | apply List.mem_append_right)))); (focus ((repeat (first | exact hq | exact List.mem_append_left _ hq | apply List.Mem.tail | apply List.mem_append_right))))))); (case fz18 => exact fun q hq p hp => (by assumption : ∀ q ∈ _, ∀ p ∈ _, p.1 < q.1) q hq p (by (repeat (first | exact hp | exact List.mem_append_left _ hp | apply List.Mem.tail | apply List.mem_append_right))))))
end
end Mine
end
section
open PySem PySem.W PyProof.Rows PySem.Calls
namespace Mine

theorem WordsL.snoc {news : List (Addr × Obj)} {x : Str} {d : Told} {l : List (Str × Told)} {W T : Addr} {vs : List Value} {t t1 t2 t3 : Tok} (r : WordsL news l vs) (h1 : (W, tupO [.str x t, .ref T]) ∈ news) (h2 : (T, toldO d t1 t2 t3) ∈ news) : WordsL news (l ++ [(x, d)]) (vs ++ [.ref W]) := by
  induction r with
  | nil => exact .cons h1 h2 .nil
  | cons a b _ ih => exact .cons a b ih
theorem WordsL.mono {news news' : List (Addr × Obj)} {l : List (Str × Told)} {vs : List Value} (r : WordsL news l vs) (h : ∀ q ∈ news, q ∈ news') : WordsL news' l vs := by
  induction r with
  | nil => exact .nil
  | cons a b _ ih => exact .cons (h _ a) (h _ b) ih
theorem WordsL.length_eq {news : List (Addr × Obj)} {l : List (Str × Told)} {vs : List Value} (r : WordsL news l vs) : vs.length = l.length := by
  induction r with
  | nil => rfl
  | cons a b _ ih => rw [List.length_cons, List.length_cons, ih]
theorem WordsL.append {news : List (Addr × Obj)} {l l' : List (Str × Told)} {vs vs' : List Value} (r : WordsL news l vs) (r' : WordsL news l' vs') : WordsL news (l ++ l') (vs ++ vs') := by
  induction r with
  | nil => exact r'
  | cons a b _ ih => exact .cons a b ih
section
variable {w : World} {mean : ExcName → Option Value} {mg mb : Str → Option Value} {A : Around} {base h₀ : Heap} {L a : Addr} {m : Str → Option Value} {s : Shared} {Q E : Value → Shared → Prop} {news : List (Addr × Obj)} {qual : Str} {es : Scope} {ccd : Value} {p1 p2 p3 p4 p5 p6 : Pos}
theorem comp_close {tag x : Str} {t t1 : Tok} {I C D W T : Addr} {oI oC oD : Obj} {S : List (Addr × Obj) → Prop} {rest : Value → List (Addr × Obj) → Prop} {h' : Heap} {tk : Nat}
   (F : Fr h₀ L h' m) (N : News h₀ L h' ((W, tupO [.str x t, .ref T]) :: (T, toldO (tag, none, none) t1 0 0) :: (I, oI) :: (C, oC) :: (D, oD) :: news)) (off : LCg.Off3 I C D news)
   (l₁ : @LT.lt Nat _ I T ∧ @LT.lt Nat _ C T ∧ @LT.lt Nat _ D T ∧ AllLt T news) (l₂ : @LT.lt Nat _ T W ∧ @LT.lt Nat _ I W ∧ @LT.lt Nat _ C W ∧ @LT.lt Nat _ D W ∧ AllLt W news)
   (hS : ∀ nw, (∀ q ∈ news, q ∈ nw) → S nw)
   (k : ∀ nw, (∀ q ∈ news, q ∈ nw) → (W, tupO [.str x t, .ref T]) ∈ nw → (T, toldO (tag, none, none) t1 0 0) ∈ nw → rest (.ref W) nw) :
   LCg.CompEnd h₀ L m s I oI C oC D oD S rest (.ref W) { s with heap := h', toks := tk } := by
  refine LCg.CompEnd.intro F N ((W, tupO [.str x t, .ref T]) :: (T, toldO (tag, none, none) t1 0 0) :: news) ?_ ⟨⟨Nat.ne_of_gt l₂.2.1, Nat.ne_of_gt l₂.2.2.1, Nat.ne_of_gt l₂.2.2.2.1⟩, ⟨Nat.ne_of_gt l₁.1, Nat.ne_of_gt l₁.2.1, Nat.ne_of_gt l₁.2.2.1⟩, off⟩ (hS _ fun q hq => .tail _ (.tail _ hq)) (k _ (fun q hq => .tail _ (.tail _ hq)) (.head _) (.tail _ (.head _)))
  intro q hq
  rcases List.mem_cons.mp hq with rfl | hq
  · exact .tail _ (.tail _ (.head _))
  · rcases List.mem_cons.mp hq with rfl | hq
    · exact .tail _ (.tail _ (.tail _ (.head _)))
    · rcases List.mem_cons.mp hq with rfl | hq
      · exact .tail _ (.tail _ (.tail _ (.tail _ (.head _))))
      · rcases List.mem_cons.mp hq with rfl | hq
        · exact .head _
        · rcases List.mem_cons.mp hq with rfl | hq
          · exact .tail _ (.head _)
          · exact .tail _ (.tail _ (.tail _ (.tail _ (.tail _ hq))))
theorem words_Comp_1 : Flush := by
  (try w_top off)
  k_with_none
  k_with "mine k_ne" => (refine neN ?_; (try dsimp only); first | (refine Nat.ne_of_lt ?_; (repeat (first | exact Nat.lt_add_one _ | refine Nat.lt.step ?_)); done) | (refine Nat.ne_of_gt ?_; (repeat (first | exact Nat.lt_add_one _ | refine Nat.lt.step ?_)); done) | omega)
  k_with "mine spliced" => (k_here; with_reducible (first | refine args_s8 ?_ | refine args_s4 ?_ | refine args_s2 ?_ | refine args_s1 ?_ | refine args_i1 ?_))
  k_with "mine ktr_room" => ((try dsimp only [ktrTop, Around.deeper]); (try simp only [depth_under_make, depth_under_kw, depth_in1, depth_deeper, depth_caller, depth_mark]); (try dsimp only [ktrTop]); first | ((simp only [Nat.add_assoc]); exact room_le (by assumption) (by rfl)) | omega)
  k_with "mine ktr_units" => ((try dsimp only [ktrTop, Around.deeper]); (try simp only [units_in1, units_deeper, Around.mark_units, units_caller]); (try dsimp only [ktrTop]); first | ((simp only [Nat.add_assoc]); exact room_le (by assumption) (by rfl)) | omega)
  k_with "mine exec Raise some none" => (k_here; k_dflt (refine' raise_fault ?hhz1 ?_; (case hhz1 => first | exact rfl | assumption); k_whole))
  k_with "mine call ref" => (k_here; (with_reducible show wpAny _ _ (call (Value.ref 45) [_, _]) _ _ _); k_dflt (refine' fault_make ?k1z2 ?k2z2 ?k3z2 ?k4z2 ?k5z2 ?kKz2 ?kdz2 ?kuz2 ?_; (case k1z2 => k_asm); (case k2z2 => k_asm); (case k3z2 => k_asm); (case k4z2 => k_asm); (case k5z2 => k_asm); (case kKz2 => first | exact rfl | assumption); (case kdz2 => ktr_room); (case kuz2 => ktr_units)); intro h'q9 tk'q9 e'q9 t'q9 d'q9 od'q9 F'q9 hs'q9 N'q9 ne1'q9 ne2'q9; (refine ⟨_, _, _, rfl, (N'q9 _ (.head _)).1, rfl, rfl, rfl, Frag.In.keeps (by k_asm) (Fr.keep F'q9), ?_⟩); (try dsimp only))
  k_with "mine leaving ref" => (k_here; (refine' leave_onF ?k1z3 ?k2z3 ?k3z3 ?k4z3 ?_; (case k3z3 => assumption); (case k1z3 => assumption); (case k2z3 => assumption); (case k4z3 => exact fun q hq => (News.mk (by k_asm) q hq).2.2); intro h'q9 R'q9; (try dsimp only)))
  k_with "mine leaving ref" => (k_here; (refine' leave_raiseF ?k1z4 ?k2z4 ?k3z4 ?k4z4 ?k5z4 ?k6z4 ?_; (case k1z4 => assumption); (case k2z4 => assumption); (case k3z4 => assumption); (case k4z4 => assumption); (case k5z4 => assumption); (case k6z4 => assumption); intro h'q9 R'q9; (try dsimp only)))
  exact trivial
set_option maxRecDepth 100000 in
set_option maxHeartbeats 8000000 in
theorem comp_turn {tag x : Str} {t : Tok} {I C D : Addr} {oI oC oD : Obj} {m₂ : Str → Option Value} {E' : Value → Shared → Prop} {S : List (Addr × Obj) → Prop} {rest : Value → List (Addr × Obj) → Prop}
   (X : (hd.heap_1 w.params).In h₀) (hC : LCg.NsObj oC m₂) (hx : m₂ (Str.ofString "text") = some (.str x t)) (F : Fr h₀ L s.heap m) (N : News h₀ L s.heap ((I, oI) :: (C, oC) :: (D, oD) :: news)) (off : LCg.Off3 I C D news) (ne : ((@Ne Nat I C) ∧ (@Ne Nat I D) ∧ (@Ne Nat C D)))
   (hS : ∀ nw, (∀ q ∈ news, q ∈ nw) → S nw)
   (k : ∀ W T t t1 nw, (∀ q ∈ news, q ∈ nw) → (W, tupO [.str x t, .ref T]) ∈ nw → (T, toldO (tag, none, none) t1 0 0) ∈ nw → rest (.ref W) nw) :
   wpAny (model prg w) A (eval (.Tuple [.Name (Str.ofString "text") p1, .Tuple [.Constant (.str tag) 0 p2, .Constant .none 0 p3, .Constant .none 0 p4] 0 p5] 0 p6)
     (compEnvC { kind := .function, names := [(Str.ofString ".0", .local), (Str.ofString "text", .local)], isGenerator := false, isCoroutine := false } [] C (envOf qual es L a ccd)))
     (LCg.CompEnd h₀ L m s I oI C oC D oD S rest) E' s := by
  k_steps
  rename News _ _ _ _ => N₂
  exact comp_close (by assumption) N₂ off (by assumption) (by assumption) hS (fun nw h1 h2 h3 => k _ _ _ _ nw h1 h2 h3)
theorem comp_rest {tag : Str} {xs : List Str} {texts : List Value} {Fin : List Value → List (Addr × Obj) → Prop} {ax : Addr}
   (X : (hd.heap_1 w.params).In h₀) (hxs : StrsAre texts xs) (hS : LCg.SrcAt h₀ ax texts.toArray news)
   (fin : ∀ ys nw, (∀ q ∈ news, q ∈ nw) → WordsL nw (xs.map fun x => (x, (tag, none, none))) ys → Fin ys nw) :
   LCg.CompRest prg w A h₀ L m (envOf qual es L a ccd) (.Tuple [.Name (Str.ofString "text") p1, .Tuple [.Constant (.str tag) 0 p2, .Constant .none 0 p3, .Constant .none 0 p4] 0 p5] 0 p6) (Str.ofString "text")
     { kind := .function, names := [(Str.ofString ".0", .local), (Str.ofString "text", .local)], isGenerator := false, isCoroutine := false } [] s (LCg.SrcAt h₀ ax texts.toArray) (fun i v => texts.toArray[i]? = some v) Fin texts.length 0 [] news := by
  have src : ∀ nw, (∀ q ∈ news, q ∈ nw) → LCg.SrcAt h₀ ax texts.toArray nw := fun nw hn => by
    rcases hS with h | ⟨o, hm, r⟩
    · exact .inl h
    · exact .inr ⟨o, hn _ hm, r⟩
  have key : ∀ (k i : Nat) (ys : List Value) (nw : List (Addr × Obj)), i + k = texts.length → WordsL nw ((xs.take i).map fun x => (x, (tag, none, none))) ys → (∀ q ∈ news, q ∈ nw) →
      LCg.CompRest prg w A h₀ L m (envOf qual es L a ccd) (.Tuple [.Name (Str.ofString "text") p1, .Tuple [.Constant (.str tag) 0 p2, .Constant .none 0 p3, .Constant .none 0 p4] 0 p5] 0 p6) (Str.ofString "text")
     { kind := .function, names := [(Str.ofString ".0", .local), (Str.ofString "text", .local)], isGenerator := false, isCoroutine := false } [] s (LCg.SrcAt h₀ ax texts.toArray) (fun i v => texts.toArray[i]? = some v) Fin k i ys nw := by
    intro k
    induction k with
    | zero =>
      intro i ys nw hi hW hn
      have : xs.length = texts.length := hxs.length.symm
      rw [List.take_of_length_le (by omega)] at hW
      exact fin ys nw hn hW
    | succ k ih =>
      intro i ys nw hi hW hn
      refine LCg.CompRest.succ ?_
      intro v I oI C oC D m₂ h tk E' hv hC hx F N off ne
      have hlt : i < texts.length := by omega
      have hlx : i < xs.length := by have : xs.length = texts.length := hxs.length.symm; omega
      rw [List.getElem?_toArray] at hv
      obtain ⟨t, rfl⟩ : ∃ t, v = .str xs[i] t := by
        obtain ⟨t, ht⟩ := hxs.get i xs[i] (List.getElem?_eq_getElem hlx)
        rw [hv] at ht
        exact ⟨t, Option.some.inj ht⟩
      refine comp_turn X hC hx F N off ne (fun nw' h' => src nw' fun q hq => h' _ (hn _ hq)) fun W T t t1 nw' h' m1 m2 => ih (i + 1) _ nw' (by omega) ?_ fun q hq => h' _ (hn _ hq)
      rw [← List.take_append_getElem hlx, List.map_append]
      exact (hW.mono h').snoc m1 m2
  exact key texts.length 0 [] news (by omega) (by rw [List.take_zero]; exact .nil) fun _ h => h
end
end Mine
end
section
open PySem PySem.W PyProof.Rows PySem.Calls
namespace Mine
abbrev Trip : Type := Str × Str × Told
def bld : List Trip → Str → Str
  | [], t => t
  | e :: r, t => bld r ((t ++ e.1) ++ e.2.1)
def rowOf (e : Trip) (n : Nat) : Wd := ⟨e.2.2.1, cs e.2.1, (n : Int), e.2.2.2.1, e.2.2.2.2⟩
def rws : List Trip → Str → List Wd
  | [], _ => []
  | e :: r, t => rowOf e (t ++ e.1).length :: rws r ((t ++ e.1) ++ e.2.1)
theorem bld_snoc (e : Trip) : ∀ (l : List Trip) (t : Str), bld (l ++ [e]) t = (bld l t ++ e.1) ++ e.2.1
  | [], _ => rfl
  | _ :: r, _ => bld_snoc e r _
theorem rws_snoc (e : Trip) : ∀ (l : List Trip) (t : Str), rws (l ++ [e]) t = rws l t ++ [rowOf e (bld l t ++ e.1).length]
  | [], _ => rfl
  | x :: r, t => by
    show rowOf x _ :: rws (r ++ [e]) _ = _
    rw [rws_snoc e r]
    rfl
theorem len_append (a b : Str) : (a ++ b).length = a.length + b.length := by
  rw [← cs_length, cs_append, List.length_append, cs_length, cs_length]
theorem bld_len : ∀ (l : List Trip) (t : Str), (∀ e ∈ l, e.1.length ≤ 32 ∧ e.2.1.length ≤ 32) → (bld l t).length ≤ t.length + 64 * l.length
  | [], t, _ => by simp [bld]
  | e :: r, t, h => by
    have a := bld_len r ((t ++ e.1) ++ e.2.1) fun x hx => h x (.tail _ hx)
    have b := h e (.head _)
    rw [len_append, len_append] at a
    rw [bld, List.length_cons]
    omega
theorem WordsL.get {news : List (Addr × Obj)} {l : List (Str × Told)} {vs : List Value} (h : WordsL news l vs) : ∀ (i : Nat) (e : Str × Told), l[i]? = some e →
    ∃ W T t t1 t2 t3, vs[i]? = some (.ref W) ∧ (W, tupO [.str e.1 t, .ref T]) ∈ news ∧ (T, toldO e.2 t1 t2 t3) ∈ news := by
  induction h with
  | nil => intro i e he; cases he
  | cons h1 h2 _ ih =>
    intro i e he
    cases i with
    | zero => cases he; exact ⟨_, _, _, _, _, _, rfl, h1, h2⟩
    | succ i => exact ih i e he
theorem WordsL.getP {P : Prop} {news : List (Addr × Obj)} {l : List (Str × Told)} {vs : List Value} (h : WordsL news l vs) (i : Nat) (e : Str × Told) (he : l[i]? = some e)
    (k : ∀ (W T : Addr) (t t1 t2 t3 : Tok), vs[i]? = some (.ref W) → (W, tupO [.str e.1 t, .ref T]) ∈ news → (T, toldO e.2 t1 t2 t3) ∈ news → P) : P := by
  obtain ⟨W, T, t, t1, t2, t3, a, b, c⟩ := WordsL.get h i e he
  exact k W T t t1 t2 t3 a b c
theorem strs_get {vs : List Value} {ys : List Str} (h : StrsAre vs ys) (i : Nat) (y : Str) (hy : ys[i]? = some y) : ∃ t, vs[i]? = some (.str y t) := h.get i y hy
theorem fun_at (x : Str) (m₀ : Str → Option Value) : m₀ = fun z => if z = x then m₀ x else m₀ z := by
  funext z
  by_cases h : z = x
  · rw [if_pos h, h]
  · rw [if_neg h]
theorem fun_at2 (x : Str) (m₀ : Str → Option Value) (u v : Option Value) : (fun y => if y = x then v else (fun z => if z = x then u else m₀ z) y) = fun y => if y = x then v else m₀ y := by
  funext z
  by_cases h : z = x
  · rw [if_pos h, if_pos h]
  · simp only [if_neg h]
def RJ (XS : List Trip) (cT Dd : Addr) (rest : List (Addr × Obj)) (m₀ : Str → Option Value) (i : Nat) (_g : Heap) (m : Str → Option Value) (nw : List (Addr × Obj)) : Prop :=
  ∃ (u : Option Value) (rows : List (Addr × Obj)) (oc : Obj) (t : Tok) (k : Nat), m = (fun z => if z = Str.ofString "at" then u else m₀ z) ∧ nw = (cT, oc) :: (Dd, rowsO rows k) :: (rows ++ rest) ∧ oc.data = .cell (some (.str (bld (XS.take i) (Str.ofString "")) t)) ∧
    RowsAre (rws (XS.take i) (Str.ofString "")) rows ∧ @LT.lt Nat _ cT Dd ∧ (∀ p ∈ rows, Dd < p.1) ∧ (∀ p ∈ rows ++ rest, p.1 ≠ cT) ∧ (∀ p ∈ rows ++ rest, p.1 ≠ Dd) ∧ rows.length = i
@[elab_as_elim] theorem RJ.elim {XS : List Trip} {cT Dd : Addr} {rest : List (Addr × Obj)} {m₀ : Str → Option Value} {i : Nat} {g : Heap} {P : (Str → Option Value) → List (Addr × Obj) → Prop} {m : Str → Option Value} {nw : List (Addr × Obj)} (h : RJ XS cT Dd rest m₀ i g m nw)
    (k : ∀ (u : Option Value) (rows : List (Addr × Obj)) (oc : Obj) (t : Tok) (k : Nat), oc.data = .cell (some (.str (bld (XS.take i) (Str.ofString "")) t)) → RowsAre (rws (XS.take i) (Str.ofString "")) rows → @LT.lt Nat _ cT Dd → (∀ p ∈ rows, Dd < p.1) → (∀ p ∈ rows ++ rest, p.1 ≠ cT) → (∀ p ∈ rows ++ rest, p.1 ≠ Dd) → rows.length = i →
      P (fun z => if z = Str.ofString "at" then u else m₀ z) ((cT, oc) :: (Dd, rowsO rows k) :: (rows ++ rest))) : P m nw := by
  obtain ⟨u, rows, oc, t, n, rfl, rfl, a, b, c, d, e, f, g⟩ := h
  exact k u rows oc t n a b c d e f g
theorem start_ne {L d : Nat} {oa ob : Obj} {news : List (Addr × Obj)} (h : @LT.lt Nat _ 182 L ∧ AllLt L news) (hd : L + 1 < d) : ∀ p ∈ ((L + 1 : Nat), oa) :: (182, ob) :: news, p.1 ≠ d := by
  intro p hp
  rcases List.mem_cons.mp hp with rfl | hp
  · exact Nat.ne_of_lt hd
  · rcases List.mem_cons.mp hp with rfl | hp
    · exact Nat.ne_of_lt (Nat.lt_trans h.1 (Nat.lt_trans (Nat.lt_succ_self _) hd))
    · exact Nat.ne_of_lt (Nat.lt_trans (lt_all h.2 p hp) (Nat.lt_trans (Nat.lt_succ_self _) hd))
theorem RJ.start {XS : List Trip} {cT Dd : Addr} {rest : List (Addr × Obj)} {m₀ : Str → Option Value} {g : Heap} {oc : Obj} {t : Tok} (h : oc.data = .cell (some (.str (Str.ofString "") t))) (h1 : @LT.lt Nat _ cT Dd) (h2 : ∀ p ∈ rest, p.1 ≠ cT) (h3 : ∀ p ∈ rest, p.1 ≠ Dd) : RJ XS cT Dd rest m₀ 0 g m₀ ((cT, oc) :: (Dd, listOf #[] 0) :: rest) :=
  ⟨m₀ (Str.ofString "at"), [], oc, t, 0, fun_at _ _, rfl, h, .nil, h1, (fun _ h => nomatch h), h2, h3, rfl⟩
theorem RJ.step {XS : List Trip} {cT Dd : Addr} {rest : List (Addr × Obj)} {m₀ : Str → Option Value} {g : Heap} {oc : Obj} {t : Tok} {i k : Nat} {u : Option Value} {rows : List (Addr × Obj)} {e : Trip} {W : Addr} {t1 t2 t3 t4 t5 : Tok} (he : XS[i]? = some e)
    (hoc : oc.data = .cell (some (.str ((bld (XS.take i) (Str.ofString "") ++ e.1) ++ e.2.1) t))) (hr : RowsAre (rws (XS.take i) (Str.ofString "")) rows) (h1 : @LT.lt Nat _ cT Dd) (h2 : ∀ p ∈ rows, Dd < p.1) (h3 : ∀ p ∈ rows ++ rest, p.1 ≠ cT) (h4 : ∀ p ∈ rows ++ rest, p.1 ≠ Dd) (hl : rows.length = i) (hW : @LT.lt Nat _ Dd W) :
    RJ XS cT Dd rest m₀ (i + 1) g (fun z => if z = Str.ofString "at" then u else m₀ z) ((cT, oc) :: (Dd, rowsO (rows ++ [(W, wordO (rowOf e (bld (XS.take i) (Str.ofString "") ++ e.1).length) t1 t2 t3 t4 t5)]) (k + 1)) :: ((rows ++ [(W, wordO (rowOf e (bld (XS.take i) (Str.ofString "") ++ e.1).length) t1 t2 t3 t4 t5)]) ++ rest)) := by
  have hs : XS.take (i + 1) = XS.take i ++ [e] := by rw [List.take_add_one, he]; rfl
  refine ⟨u, _, oc, t, k + 1, rfl, rfl, by rw [hs, bld_snoc]; exact hoc, by rw [hs, rws_snoc]; exact hr.snoc ⟨_, _, _, _, _, rfl⟩, h1, fun p hp => ?_, fun p hp => ?_, fun p hp => ?_, by rw [List.length_append, hl]; rfl⟩
  · rcases List.mem_append.mp hp with hp | hp
    · exact h2 p hp
    · rw [List.mem_singleton.mp hp]; exact hW
  · rcases List.mem_append.mp hp with hp | hp
    · rcases List.mem_append.mp hp with hp | hp
      · exact h3 p (List.mem_append_left _ hp)
      · rw [List.mem_singleton.mp hp]; exact Nat.ne_of_gt (Nat.lt_trans h1 hW)
    · exact h3 p (List.mem_append_right _ hp)
  · rcases List.mem_append.mp hp with hp | hp
    · rcases List.mem_append.mp hp with hp | hp
      · exact h4 p (List.mem_append_left _ hp)
      · rw [List.mem_singleton.mp hp]; exact Nat.ne_of_gt hW
    · exact h4 p (List.mem_append_right _ hp)
theorem rows_turn_end {A₀ : Around} {base g h' : Heap} {outer : List Env} {L cT Dd I W : Addr} {XS : List Trip} {rest rows : List (Addr × Obj)} {m₀ : Str → Option Value} {s : Shared} {tk i k : Nat} {oI oc : Obj} {t : Tok} {u : Option Value} {e : Trip} {t1 t2 t3 t4 t5 : Tok}
    (hB : Below A₀ base outer g) (F : Fr g L h' (fun z => if z = Str.ofString "at" then u else m₀ z))
    (N : News g L h' ((W, wordO (rowOf e (bld (XS.take i) (Str.ofString "") ++ e.1).length) t1 t2 t3 t4 t5) :: (I, oI) :: (cT, oc) :: (Dd, listOf ((rows.map fun p => Value.ref p.1).toArray.push (.ref W)) (k + 1)) :: (rows ++ rest)))
    (he : XS[i]? = some e) (hoc : oc.data = .cell (some (.str ((bld (XS.take i) (Str.ofString "") ++ e.1) ++ e.2.1) t))) (hr : RowsAre (rws (XS.take i) (Str.ofString "")) rows) (h1 : @LT.lt Nat _ cT Dd) (h2 : ∀ p ∈ rows, Dd < p.1) (h3 : ∀ p ∈ rows ++ rest, p.1 ≠ cT) (h4 : ∀ p ∈ rows ++ rest, p.1 ≠ Dd) (hl : rows.length = i) (hW : @LT.lt Nat _ Dd W)
    (hIW : @LT.lt Nat _ I W) (n1 : cT ≠ I) (n2 : Dd ≠ I) (n3 : ∀ p ∈ rows ++ rest, p.1 ≠ I) :
    ForEnd A₀ base outer L (RJ XS cT Dd rest m₀ (i + 1)) (I, oI) g s { s with heap := h', toks := tk } := by
  rw [rowsO_snoc _ _ (wordO (rowOf e (bld (XS.take i) (Str.ofString "") ++ e.1).length) t1 t2 t3 t4 t5)] at N
  refine ForEnd.intro KtsTurn.refl hB F (fun p hp => N p ?_) (fun p hp => ?_) (RJ.step (k := k) (t1 := t1) (t2 := t2) (t3 := t3) (t4 := t4) (t5 := t5) he hoc hr h1 h2 h3 h4 hl hW)
  · rcases List.mem_cons.mp hp with rfl | hp
    · exact .tail _ (.head _)
    · rcases List.mem_cons.mp hp with rfl | hp
      · exact .tail _ (.tail _ (.head _))
      · rcases List.mem_cons.mp hp with rfl | hp
        · exact .tail _ (.tail _ (.tail _ (.head _)))
        · rcases List.mem_append.mp hp with hp | hp
          · rcases List.mem_append.mp hp with hp | hp
            · exact .tail _ (.tail _ (.tail _ (.tail _ (List.mem_append_left _ hp))))
            · rw [List.mem_singleton.mp hp]; exact .head _
          · exact .tail _ (.tail _ (.tail _ (.tail _ (List.mem_append_right _ hp))))
  · rcases List.mem_cons.mp hp with rfl | hp
    · exact n1
    · rcases List.mem_cons.mp hp with rfl | hp
      · exact n2
      · rcases List.mem_append.mp hp with hp | hp
        · rcases List.mem_append.mp hp with hp | hp
          · exact n3 p (List.mem_append_left _ hp)
          · rw [List.mem_singleton.mp hp]; exact Nat.ne_of_gt hIW
        · exact n3 p (List.mem_append_right _ hp)
def fullT (XS : List Trip) : Option (Str × Int) → Str
  | none => bld XS (Str.ofString "")
  | some (x, _) => (bld XS (Str.ofString "") ++ Str.ofString " ") ++ x
def fullR (XS : List Trip) (endS : Str) : Option (Str × Int) → Except Nat (List Wd)
  | none => if (endS == Str.ofString " /* c") = true then .error ((bld XS (Str.ofString "")).length + 1) else .ok (rws XS (Str.ofString ""))
  | some (_, k) => .error ((bld XS (Str.ofString "")).length + 1 + k.toNat)
theorem rows_move {g h : Heap} {L cT Dd : Addr} {oc od : Obj} {p1 p2 : Addr × Obj} {rows news : List (Addr × Obj)} (N : News g L h ((cT, oc) :: (Dd, od) :: (rows ++ p1 :: p2 :: news))) : News g L h ((cT, oc) :: (Dd, od) :: p1 :: p2 :: (rows ++ news)) := fun p hp => N p (by
  rcases List.mem_cons.mp hp with rfl | hp
  · exact .head _
  · rcases List.mem_cons.mp hp with rfl | hp
    · exact .tail _ (.head _)
    · refine .tail _ (.tail _ ?_)
      rcases List.mem_cons.mp hp with rfl | hp
      · exact List.mem_append_right _ (.head _)
      · rcases List.mem_cons.mp hp with rfl | hp
        · exact List.mem_append_right _ (.tail _ (.head _))
        · rcases List.mem_append.mp hp with hp | hp
          · exact List.mem_append_left _ hp
          · exact List.mem_append_right _ (.tail _ (.tail _ hp)))
theorem rows_ne {Dd : Addr} {rows news : List (Addr × Obj)} (h1 : @LT.lt Nat _ 182 Dd) (h2 : ∀ p ∈ rows, Dd < p.1) (h3 : ∀ p ∈ news, p.1 ≠ 182) : ∀ p ∈ rows ++ news, p.1 ≠ 182 := fun p hp => by
  rcases List.mem_append.mp hp with hp | hp
  · exact Nat.ne_of_gt (Nat.lt_trans h1 (h2 p hp))
  · exact h3 p hp
theorem app_ne {d : Addr} {rows news : List (Addr × Obj)} {p1 p2 : Addr × Obj} (h : ∀ p ∈ rows ++ p1 :: p2 :: news, p.1 ≠ d) : ∀ p ∈ rows ++ news, p.1 ≠ d := fun p hp => h p (by
  rcases List.mem_append.mp hp with hp | hp
  · exact List.mem_append_left _ hp
  · exact List.mem_append_right _ (.tail _ (.tail _ hp)))
theorem item_at {prog : Program} {w : World} {A : Around} {E : Value → Shared → Prop} {s : Shared} {value slice : Expr} {l : Addr} {vs : Array Value} {n i : Nat} {u : Tok} {v : Value} {Q : Value → Shared → Prop} {h₀ : Heap} {L : Addr} {nw : List (Addr × Obj)}
    (N : News h₀ L s.heap nw) (hm : (l, listOf vs n) ∈ nw) (hx : vs[i]? = some v) (hi : i < 1000) (h : Q v s)
    (hs : subscripted slice false (.ref l) (.int (i : Int) u) = operate [.ref l, .int (i : Int) u] (getItem (.ref l) (.int (i : Int) u)) := by with_unfolding_all rfl) (hg : ∀ r, letTemporaryGo value (.ref l) r = pure () := by intro _; with_unfolding_all rfl) : wpAny (model prog w) A (subscriptTail value slice (.ref l) (.int (i : Int) u)) Q E s :=
  PyProof.Rows.item_list (News.isList N hm) (by omega) (by omega) (by rw [Int.toNat_natCast]; exact hx) h hs hg
def SmallN (n : Nat) : Prop := n ≤ 6
theorem SmallN.out {n : Nat} (h : SmallN n) : n ≤ 6 := h
inductive WrongIs (news : List (Addr × Obj)) : Value → Option (Str × Int) → Prop
  | none : WrongIs news .none none
  | some {W : Addr} {x : Str} {i : Int} {t u : Tok} (h : (W, tupO [.str x t, .int i u]) ∈ news) : WrongIs news (.ref W) (some (x, i))
def endD (n : Nat) : Dat := wordD (endW n)
def resL (n : Nat) (r : Except Nat (List Wd)) : Except Nat Dat := r.map fun ws => .list ((ws ++ [endW n]).map wordD)
theorem resL_ref {n : Nat} (r : Except Nat (List Wd)) : ∀ d, resL n r = .ok d → refD d = true := by
  intro d h
  cases r with
  | error p => cases h
  | ok x => cases h; rfl
theorem rows_all {news : List (Addr × Obj)} {ws : List Wd} {rows : List (Addr × Obj)} (h : RowsAre ws rows) (hs : ∀ p ∈ rows, p ∈ news) : DatAll news (rows.map fun p => Value.ref p.1) (ws.map wordD) := by
  induction h with
  | nil => exact .nil
  | cons h _ ih =>
    obtain ⟨t1, t2, t3, t4, t5, e⟩ := h
    refine .cons (word_dat (t1 := t1) (t2 := t2) (t3 := t3) (t4 := t4) (t5 := t5) ?_) (ih fun p hp => hs p (.tail _ hp))
    rw [← e]
    exact hs _ (.head _)
theorem rows_dat {news : List (Addr × Obj)} {ws : List Wd} {rows : List (Addr × Obj)} {D : Addr} {k : Nat} (h : RowsAre ws rows) (hD : (D, rowsO rows k) ∈ news) (hs : ∀ p ∈ rows, p ∈ news) : DatIn news (.ref D) (.list (ws.map wordD)) :=
  .list hD (rows_all h hs)
theorem resL_ok {n : Nat} {r : Except Nat (List Wd)} {ws : List Wd} (h : r = .ok ws) : resL n r = .ok (.list ((ws ++ [endW n]).map wordD)) := by rw [h]; rfl
theorem resL_err {n p : Nat} {r : Except Nat (List Wd)} (h : r = .error p) : resL n r = .error p := by rw [h]; rfl
theorem lt_rows {D : Addr} {o : Obj} {rows l : List (Addr × Obj)} (h : ∀ p ∈ l, p.1 < D) (hr : ∀ p ∈ rows, D < p.1) : ∀ q ∈ (D, o) :: rows, ∀ p ∈ l, p.1 < q.1 := by
  intro q hq p hp
  rcases List.mem_cons.mp hq with rfl | hq
  · exact h p hp
  · exact Nat.lt_trans (h p hp) (hr q hq)
theorem rows_lam {n : Nat} {r : Except Nat (List Wd)} {ws : List Wd} {D : Addr} {rows : List (Addr × Obj)} {k : Nat} (h : r = .ok ws) (hr : RowsAre (ws ++ [endW n]) rows) : ∃ d, resL n r = .ok d ∧ DatIn ((D, rowsO rows k) :: rows) (.ref D) d :=
  ⟨_, resL_ok h, rows_dat hr (.head _) fun p hp => .tail _ hp⟩
theorem told_open {XS : List Trip} {endS : Str} {n : Nat} (h : (endS == Str.ofString " /* c") = true) : hdD (resL n (fullR XS endS none)) = .tuple [.str (Str.ofString "refused"), .int (((bld XS (Str.ofString "")).length : Int) + 1)] := by
  unfold fullR
  rw [if_pos h]
  rfl
theorem told_rows {XS : List Trip} {endS : Str} {n : Nat} (h : (endS == Str.ofString " /* c") = false) : hdD (resL n (fullR XS endS none)) = .list ((rws XS (Str.ofString "") ++ [endW n]).map wordD) := by
  unfold fullR
  rw [if_neg (by rw [h]; decide)]
  rfl
theorem told_wrong {XS : List Trip} {endS x : Str} {n : Nat} {k : Int} (h : 0 ≤ k) : hdD (resL n (fullR XS endS (some (x, k)))) = .tuple [.str (Str.ofString "refused"), .int (((bld XS (Str.ofString "")).length : Int) + 1 + k)] := by
  unfold fullR
  show Dat.tuple [_, .int _] = _
  rw [Int.natCast_add, Int.natCast_add, Int.toNat_of_nonneg h]
  rfl
def okD (d : Told) : Bool := PyData.strOk d.1 && (match d.2.2 with | none => true | some l => PyData.strOk ⟨l.toArray⟩)
theorem ok_word {wd : Wd} (h1 : PyData.strOk wd.tag = true) (h2 : PyData.strOk ⟨wd.txt.toArray⟩ = true) (h3 : (match wd.kind with | none => true | some l => PyData.strOk ⟨l.toArray⟩) = true) (n : Nat) : kqdOk (n + 1) (wordD wd) = true := by
  obtain ⟨tag, txt, i, v, kd⟩ := wd
  dsimp only at h1 h2 h3
  cases v <;> cases kd <;> simp_all [wordD, kqdOk, optID, optSD] <;> cases n <;> simp_all [kqdOk]
theorem ok_row {e : Trip} (h1 : okD e.2.2 = true) (h2 : PyData.strOk e.2.1 = true) (k n : Nat) : kqdOk (n + 1) (wordD (rowOf e k)) = true := by
  unfold okD at h1
  rw [Bool.and_eq_true] at h1
  exact ok_word h1.1 h2 h1.2 n
theorem ok_rws : ∀ (XS : List Trip) (t : Str), (∀ e ∈ XS, okD e.2.2 = true ∧ PyData.strOk e.2.1 = true) → ∀ wd ∈ rws XS t, kqdOk 7 (wordD wd) = true
  | [], _, _, wd, h => nomatch h
  | e :: r, t, h, wd, hw => by
    rcases List.mem_cons.mp hw with rfl | hw
    · exact ok_row (h e (.head _)).1 (h e (.head _)).2 _ 6
    · exact ok_rws r _ (fun x hx => h x (.tail _ hx)) wd hw
theorem ok_end (n : Nat) : kqdOk 7 (wordD (endW n)) = true := ok_word (show PyData.strOk (Str.ofString "end") = true by decide +kernel) (show PyData.strOk ⟨#[]⟩ = true by decide +kernel) rfl 6
theorem ok_due {XS : List Trip} {t : Str} {n : Nat} (h : ∀ e ∈ XS, okD e.2.2 = true ∧ PyData.strOk e.2.1 = true) : kqdOk 8 (.list ((rws XS t ++ [endW n]).map wordD)) = true := by
  show (List.map wordD _).all (kqdOk 7) = true
  rw [List.all_eq_true]
  intro d hd
  obtain ⟨wd, hm, rfl⟩ := List.mem_map.mp hd
  rcases List.mem_append.mp hm with hm | hm
  · exact ok_rws XS t h wd hm
  · rw [List.mem_singleton.mp hm]; exact ok_end n
theorem due_dat {news : List (Addr × Obj)} {ws : List Wd} {rows : List (Addr × Obj)} {Dd E : Addr} {n k : Nat} {t1 t2 t3 : Tok} (h : RowsAre ws rows) (hE : (E, tupO [.str (Str.ofString "end") t1, .str (Str.ofString "") t2, .int (n : Int) t3, .none, .none]) ∈ news)
    (hD : (Dd, listOf ((rows.map fun p => Value.ref p.1).toArray.push (.ref E)) (k + 1)) ∈ news) (hs : ∀ p ∈ rows, p ∈ news) : DatIn news (.ref Dd) (.list ((ws ++ [endW n]).map wordD)) := by
  rw [rowsO_snoc _ _ (wordO (endW n) t1 t2 t3 0 0)] at hD
  refine rows_dat (h.snoc (q := (E, wordO (endW n) t1 t2 t3 0 0)) ⟨_, _, _, _, _, rfl⟩) hD fun p hp => ?_
  rcases List.mem_append.mp hp with hp | hp
  · exact hs p hp
  · rw [List.mem_singleton.mp hp]; exact hE
end Mine
end
section
open PySem PySem.W PyProof.Rows PySem.Calls
namespace Mine



theorem rows_fit {rows : List (Addr × Obj)} {i n : Nat} (h : rows.length = i) (hi : i < n) (hn : SmallN n) : (rows.map fun p => Value.ref p.1).toArray.size ≤ sizeLine := by
  have := hn.out
  rw [sizeLine_eq, List.size_toArray, List.length_map]
  omega
theorem rows_fit2 {rows : List (Addr × Obj)} {n : Nat} (h : rows.length = n) (hn : SmallN n) : (rows.map fun p => Value.ref p.1).toArray.size ≤ sizeLine := by
  have := hn.out
  rw [sizeLine_eq, List.size_toArray, List.length_map]
  omega
section
variable {w : World} {mean : ExcName → Option Value} {mg mb : Str → Option Value} {dp un : Nat} {gd : Option (List Code)} {cn : Str} {cs₁ : Scope} {a : Addr} {ccd : Value} {cl : List (Str × Addr)} {outer : List Env} {A₀ : Around} {base h₀ : Heap} {L : Addr} {m : Str → Option Value} {s : Shared} {Q E : Value → Shared → Prop} {news : List (Addr × Obj)}

theorem words_H10_1 : Flush := by
  (try w_top off)
  k_with_none
  k_with "mine k_ne" => (refine neN ?_; (try dsimp only); first | (refine Nat.ne_of_lt ?_; (repeat (first | exact Nat.lt_add_one _ | refine Nat.lt.step ?_)); done) | (refine Nat.ne_of_gt ?_; (repeat (first | exact Nat.lt_add_one _ | refine Nat.lt.step ?_)); done) | omega)
  k_with "mine spliced" => (k_here; with_reducible (first | refine args_s8 ?_ | refine args_s4 ?_ | refine args_s2 ?_ | refine args_s1 ?_ | refine args_i1 ?_))
  k_with "mine ktr_room" => ((try dsimp only [ktrTop, Around.deeper]); (try simp only [depth_under_make, depth_under_kw, depth_in1, depth_deeper, depth_caller, depth_mark]); (try dsimp only [ktrTop]); first | ((simp only [Nat.add_assoc]); exact room_le (by assumption) (by rfl)) | omega)
  k_with "mine ktr_units" => ((try dsimp only [ktrTop, Around.deeper]); (try simp only [units_in1, units_deeper, Around.mark_units, units_caller]); (try dsimp only [ktrTop]); first | ((simp only [Nat.add_assoc]); exact room_le (by assumption) (by rfl)) | omega)
  k_with "mine exec Raise some none" => (k_here; k_dflt (refine' raise_fault ?hhz1 ?_; (case hhz1 => first | exact rfl | assumption); k_whole))
  k_with "mine call ref" => (k_here; (with_reducible show wpAny _ _ (call (Value.ref 45) [_, _]) _ _ _); k_dflt (refine' fault_make ?k1z2 ?k2z2 ?k3z2 ?k4z2 ?k5z2 ?kKz2 ?kdz2 ?kuz2 ?_; (case k1z2 => k_asm); (case k2z2 => k_asm); (case k3z2 => k_asm); (case k4z2 => k_asm); (case k5z2 => k_asm); (case kKz2 => first | exact rfl | assumption); (case kdz2 => ktr_room); (case kuz2 => ktr_units)); intro h'q9 tk'q9 e'q9 t'q9 d'q9 od'q9 F'q9 hs'q9 N'q9 ne1'q9 ne2'q9; (refine ⟨_, _, _, rfl, (N'q9 _ (.head _)).1, rfl, rfl, rfl, Frag.In.keeps (by k_asm) (Fr.keep F'q9), ?_⟩); (try dsimp only))
  k_with "mine leaving ref" => (k_here; (refine' leave_onF ?k1z3 ?k2z3 ?k3z3 ?k4z3 ?_; (case k3z3 => assumption); (case k1z3 => assumption); (case k2z3 => assumption); (case k4z3 => exact fun q hq => (News.mk (by k_asm) q hq).2.2); intro h'q9 R'q9; (try dsimp only)))
  k_with "mine leaving ref" => (k_here; (refine' leave_raiseF ?k1z4 ?k2z4 ?k3z4 ?k4z4 ?k5z4 ?k6z4 ?_; (case k1z4 => assumption); (case k2z4 => assumption); (case k3z4 => assumption); (case k4z4 => assumption); (case k5z4 => assumption); (case k6z4 => assumption); intro h'q9 R'q9; (try dsimp only)))
  k_with "mine callWith ref" => (k_here; (with_reducible show wpAny _ _ (callWith _ (Value.ref _) _ (backTo _ (starEach (_ :: _) _)) []) _ _ _); k_dflt (refine' callWith_K ?k1z5 ?k2z5 ?_; (case k1z5 => k_asm); (case k2z5 => k_is); k_whole))
  k_with "mine LeaveT" => (k_dflt (refine' leaveT_ ?Fz8 ?Nz8 ?Tz8 ?_; (case Fz8 => k_asm); (case Nz8 => k_asm); (case Tz8 => first | assumption | exact KtsTurn.refl | exact KtsTurn.trans (by assumption) (by assumption)); k_whole); intro kgq9 kTq9 kFq9 kNq9 kBq9; (try k_lift kBq9); (try dsimp only))
  k_with "mine LeaveG" => (k_dflt (refine' leaveG_ ?Fz10 ?Nz10 ?_; (case Fz10 => k_asm); (case Nz10 => k_asm); k_whole); intro kFq9 kNq9 kDq9; (try dsimp only))
  k_with "mine k_mem" => (refine List.mem_append_right _ ?_; k_mem)
  k_with "mine k_mem" => (refine List.mem_append_left _ ?_; k_mem)
  k_with "mine eval Lambda" => (k_here; k_dflt (refine' lam_eval (ln := 161) (col := 22) (qual := Str.ofString "_law_rows_right.<locals>.<lambda>") ?Fz11 ?Nz11 ?Tz11 ?Cz11 ?cdz11 ?Uz11 ?hTz11 ?hrz11 ?hgz11 ?hnz11 rfl rfl ?qz11 ?dz11 ?clz11 ?_; (case Fz11 => k_asm); (case Nz11 => k_asm); (case Tz11 => k_asm); (case Cz11 => first | assumption | exact CodeHd.keeps (by assumption) (Below.stays (by assumption))); (case cdz11 => exact rfl); (case Uz11 => k_updF); (case hTz11 => first | with_reducible assumption | assumption); (case hrz11 => exact (fun q hq => by repeat (first | exact hq | exact hr0 _ hq | apply List.Mem.tail | apply List.mem_append_right))); (case hgz11 => exact fun o' => (fun q hq => by repeat (first | exact hq | exact hr0 _ hq | apply List.Mem.tail | apply List.mem_append_right))); (case hnz11 => first | with_reducible assumption | assumption); (case qz11 => with_unfolding_all rfl); (case dz11 => exact rfl); (case clz11 => exact rfl); k_whole); intro f'q9 c'q9 oc'q9 vs'q9 t'q9 ct'q9 own'q9 h'q9 tk'q9 ps'q9 F'q9 N'q9 hm'q9 hd'q9 hv'q9 hT'q9 hne'q9 hlt'q9; (try dsimp only at N'q9))
  k_with "mine call ref" => (k_here; (with_reducible show wpAny _ _ (call (Value.ref 140) _) _ _ _); k_dflt (refine' heard_dat ?hRz12 ?k1z12 ?k2z12 ?k3z12 ?k4z12 ?k5z12 ?kKz12 ?kdz12 ?kuz12 ?xbz12 ?tbz12 ?hfz12 ?hsz12 ?_ ?_; (case hRz12 => first | with_reducible assumption | assumption); (case k1z12 => k_asm); (case k2z12 => k_asm); (case k3z12 => k_asm); (case k4z12 => k_asm); (case k5z12 => k_asm); (case kKz12 => first | exact rfl | assumption); (case kdz12 => ktr_room); (case kuz12 => ktr_units); (case xbz12 => first | with_reducible assumption | assumption); (case tbz12 => first | with_reducible assumption | assumption); (case hfz12 => k_mem); (case hsz12 => first | exact resW_ref _ | exact resL_ref _)); rotate_left; (intro D'q9 own'q9 g'q9 h'q9 tk'q9 kTq9 kBq9 kXq9 kTTq9 F'q9 N'q9 hD'q9 lt'q9; (try k_lift kBq9); (try dsimp only); (try k_fold)); rotate_left; (intro g'q9 L'q9 m'q9 s'q9 Q'q9 E'q9 F'q9 N'q9 B'q9 X'q9 T'q9 hq'q9 he'q9; (try k_lift B'q9)))
  k_with "mine leaving ref" => (k_here; (refine' leave_onX ?k1z14 ?k2z14 ?k3z14 ?k4z14 ?_; (case k3z14 => first | with_reducible assumption | assumption); (case k1z14 => first | with_reducible assumption | assumption); (case k2z14 => first | with_reducible assumption | assumption); (case k4z14 => exact fun q hq => (News.mk (by k_asm) q hq).2.2); intro h'q9 R'q9; (try dsimp only)))
  k_with "mine call ref" => (k_here; (with_reducible show wpAny _ _ (call (Value.ref _) []) _ _ _); k_dflt (refine wpAny_call ?_; ((refine' kla_code ?k1z13 ?k2z13 ?k3z13 ?k4z13 ?k5z13 ?kAz13 ?kFz13 ?kKz13 ?k6z13 ?k7z13 ?k8z13 ?k9z13 ?kBz13 ?_ ?c2z13 ?c3z13 ?c4z13 ?c5z13; (case kAz13 => exact rfl); (case kFz13 => exact rfl); (case kKz13 => first | exact rfl | assumption); (case k1z13 => k_asm); (case k2z13 => k_asm); (case k3z13 => k_asm); (case k4z13 => k_asm); (case k5z13 => k_asm); (case k6z13 => k_mem); (case k7z13 => exact codeRec_news (by k_asm) (by first | exact List.mem_cons_of_mem _ (by assumption) | k_mem) (by assumption) (by assumption)); (case k8z13 => ktr_room); (case k9z13 => exact rfl); (case c5z13 => decide); (case kBz13 => exact locs rfl); (case c2z13 => exact rfl); (case c3z13 => exact rfl); (case c4z13 => exact rfl); k_whole; intro g'q9 L'q9 h'q9 FG'q9 F'q9 N'q9 B'q9 X'q9 T'q9; (try dsimp only); (try k_lift B'q9); (try k_fold)))))
  k_with "mine call ref" => (k_here; (with_reducible show wpAny _ _ (call (Value.ref 166) _) _ _ _); k_dflt (refine' law_row_spec ?k1z16 ?k2z16 ?k3z16 ?k4z16 ?k5z16 ?kKz16 ?kdz16 ?kuz16 ?p0z16 ?_; (case k1z16 => k_asm); (case k2z16 => k_asm); (case k3z16 => k_asm); (case k4z16 => k_asm); (case k5z16 => k_asm); (case kKz16 => first | exact rfl | assumption); (case kdz16 => ktr_room); (case kuz16 => ktr_units); (case p0z16 => k_mem); skip); intro W'q9 t1'q9 t2'q9 t3'q9 t4'q9 t5'q9 h'q9 tk'q9 F'q9 N'q9 lW'q9; (try k_lt lW'q9); (try dsimp only); (try k_fold))
  k_with "mine call ref" => (k_here; (with_reducible show wpAny _ _ (call (Value.ref 112) _) _ _ _); k_dflt (refine' word_rows_spec ?hRz17 ?k1z17 ?k2z17 ?k3z17 ?k4z17 ?k5z17 ?kKz17 ?kdz17 ?kuz17 ?hlz17 ?_ ?_; (case hRz17 => first | with_reducible assumption | assumption); (case k1z17 => k_asm); (case k2z17 => k_asm); (case k3z17 => k_asm); (case k4z17 => k_asm); (case k5z17 => k_asm); (case kKz17 => first | exact rfl | assumption); (case kdz17 => ktr_room); (case kuz17 => ktr_units); (case hlz17 => first | with_reducible assumption | omega | assumption); skip); (intro ws'q9 hz'q9 D'q9 rows'q9 k'q9 h'q9 tk'q9 hR'q9 F'q9 N'q9 lD'q9 lr'q9; (try dsimp only); (try k_fold)); rotate_left; (intro p'q9 hz'q9 e'q9 g'q9 h'q9 tk'q9 G'q9 R'q9; (try dsimp only)); rotate_left)
  k_with "mine k_all" => first | assumption | exact ne_all (And.right (by assumption)) (by show @LE.le Nat _ _ _; first | ((repeat (first | exact Nat.le.refl | refine Nat.le.step ?_)); done) | omega)
  k_with "mine call builtin:len" => (k_here; k_dflt (refine' PyProof.Rows.len_list ?lz19 ?fz19 ?_; (case lz19 => exact News.isList (by k_asm) (by (repeat (first | assumption | apply List.Mem.tail | apply List.mem_append_right)))); (case fz19 => have := SmallN.out (by assumption); omega); k_whole))
  k_with "mine exec For Name Call cons nil" => (k_here; k_dflt (refine' wpAny_For ?_ ?hsz20; (case hsz20 => intro _; with_unfolding_all rfl)))
  k_with "mine subscriptTail" => (k_here; (with_reducible show wpAny _ _ (subscriptTail _ _ (Value.ref _) (Value.int _ _)) _ _ _); k_dflt (refine' item_at ?Nz21 ?mz21 ?xz21 ?iz21 ?_; (case Nz21 => k_asm); (case mz21 => (repeat (first | assumption | apply List.Mem.tail | apply List.mem_append_right))); (case xz21 => assumption); (case iz21 => have := SmallN.out (by assumption); omega)))
  k_with "mine k_mem" => ((repeat (first | assumption | apply List.Mem.tail | apply List.mem_append_right)); done)
  k_with "mine size_fits" => first | exact rows_fit (by assumption) (by assumption) (by assumption) | exact rows_fit2 (by assumption) (by assumption)
  exact trivial
set_option maxRecDepth 100000 in
set_option maxHeartbeats 8000000 in
theorem rows_right_spec {ps : Array Value} {Dw Dg : Addr} {ws gs : Array Value} {nw ng : Nat} {wv : Value} {endS : Str} {te : Tok} {XS : List Trip} {wr : Option (Str × Int)} {rest0 : List (Addr × Obj)}
   (B : Below A₀ base outer h₀) (F : Fr h₀ L s.heap m) (X : (hd.heap_1 w.params).In h₀) (N : News h₀ L s.heap ((182, tabObj ps) :: news)) (T : Top topProg LZ mean mg mb h₀) (hk : cs₁.kind = .function)
   (hdp : dp + 40 < recursionLimit) (hun : un + 800 < cLine) (XB : (hd.heap_1 w.params).In base) (TB : Top topProg LZ mean mg mb base) (CB : CodeHd base 186 182)
   (hne : ∀ q ∈ news, q.1 ≠ 182) (hT : TabOk 161 22 (Str.ofString "_law_rows_right.<locals>.<lambda>") ps rest0) (hr0 : ∀ q ∈ rest0, q ∈ news)
   (hw : (Dw, listOf ws nw) ∈ news) (hws : SmallN ws.size) (hg : (Dg, listOf gs ng) ∈ news) (hW : WordsL news (XS.map (·.2)) ws.toList) (hG : StrsAre gs.toList (XS.map (·.1))) (hwr : WrongIs news wv wr)
   (hk0 : ∀ x k, wr = some (x, k) → 0 ≤ k ∧ k ≤ 8 ∧ x.length ≤ 32) (hel : endS.length ≤ 32) (hok : ∀ e ∈ XS, okD e.2.2 = true ∧ PyData.strOk e.2.1 = true) (hp : RowR (cs (fullT XS wr ++ endS)) (fullR XS endS wr))
   (hX : ∀ e ∈ XS, e.1.length ≤ 32 ∧ e.2.1.length ≤ 32)
   (hret : ∀ (ps' : Array Value) (own : List (Addr × Obj)) (g' h' : Heap) (tk' : Nat), KtsTurn (outer.filterMap (·.frame)) h₀ g' → Below A₀ base outer g' → Fr g' L h' m → News g' L h' ((182, tabObj ps') :: (own ++ news)) → TabOk 161 22 (Str.ofString "_law_rows_right.<locals>.<lambda>") ps' (own ++ rest0) → (∀ q ∈ own, ∀ p ∈ news, p.1 < q.1) → (∀ q ∈ own, q.1 ≠ 182) → Q (.bool true) { s with heap := h', toks := tk' }) :
   wpAny (model prg w) (ktrTop dp un gd cn cs₁ L a ccd cl outer) (call (.ref 187) [.ref Dw, .ref Dg, wv, .str endS te]) Q E s := by
  have hsz : ws.size = XS.length := by
    have := hW.length_eq
    rw [List.length_map, Array.length_toList] at this
    exact this
  have hn0 : ∀ q ∈ rest0, q.1 ≠ 182 := fun q hq => hne q (hr0 q hq)
  refine wpAny_call ?_
  k_dflt ((refine' codeT_defC ?k1z7 ?k2z7 ?k3z7 ?k4z7 ?k5z7 ?kAz7 ?kFz7 ?kKz7 ?k6z7 ?k7z7 ?k8z7 ?k9z7 ?kBz7 ?kDz7 ?_ ?c2z7 ?c3z7 ?c4z7; (case kAz7 => exact rfl); (case kFz7 => exact rfl); (case kKz7 => assumption); (case k1z7 => k_asm); (case k2z7 => k_asm); (case k3z7 => k_asm); (case k4z7 => k_asm); (case k5z7 => k_asm); (case k6z7 => k_is); (case k7z7 => k_is); (case k8z7 => ktr_room); (case k9z7 => exact BindsTo.of_eq rfl); (case kBz7 => exact rfl); (case kDz7 => decide +kernel); (case c2z7 => exact rfl); (case c3z7 => exact rfl); (case c4z7 => exact rfl); k_whole; intro g'q9 L'q9 h'q9 tk'q9 cells'q9 FG'q9 F'q9 N'q9 Y'q9 B'q9 X'q9 T'q9 l1q9; (try k_lt l1q9); k_cells Y'q9; (try simp only [List.cons_append, List.nil_append] at N'q9); (try dsimp only); (try k_lift B'q9); (try k_fold)))
  skip
  k_steps
  rename Fr _ _ _ _ => F₂
  rename News _ _ _ _ => N₂
  rename IsRange _ _ _ _ _ _ _ _ => R₂
  have hlL := (by assumption : 182 < _ ∧ AllLt _ news)
  have hlD := (by assumption : _ < _ ∧ _ < _ ∧ 182 < _ ∧ AllLt _ news)
  refine for_range (n := ws.size) (outer := envX cn cs₁ L a ccd cl :: outer) (J := RJ XS _ _ _ _) rfl R₂ (Nat.le_trans hws.out (by decide)) (by assumption) F₂ (News.few N₂ (List.forall_mem_cons.mpr ⟨.tail _ (.tail _ (.head _)), List.forall_mem_cons.mpr ⟨.tail _ (.head _), fun q hq => .tail _ (.tail _ (.tail _ hq))⟩⟩)) (RJ.start (by assumption) hlD.1 (start_ne hlL (Nat.lt_succ_self _)) (start_ne hlL hlD.2.1)) (by rfl) (by rfl) ?turn ?done (by passes_own)
  case turn =>
    intro i t I oI g m₁ nw₁ h tk hi hJ
    refine RJ.elim hJ ?_
    clear hJ
    intro u rows oc tt k hoc hrows hcD hlo haT haD hrl hTT hBB F₃ N₃ hneI
    have nI1 := hneI _ (.head _)
    have nI2 := hneI _ (.tail _ (.head _))
    have nI3 := Ne.symm nI1
    have nI4 := Ne.symm nI2
    dsimp only at nI1 nI2 nI3 nI4
    have X₃ := XB.keeps hBB.stays
    have T₃ := TB.keeps hBB.stays
    rw [fun_at2] at F₃
    obtain ⟨e, he⟩ : ∃ e, XS[i]? = some e := ⟨_, List.getElem?_eq_getElem (by omega)⟩
    refine WordsL.getP hW i e.2 (by rw [List.getElem?_map, he]; rfl) ?_
    intro W₁ T₁ t0 t1 t2 t3 hx1 hm1 hm2
    obtain ⟨tg, hx2⟩ := strs_get hG i e.1 (by rw [List.getElem?_map, he]; rfl)
    have hlen := hX e (List.mem_of_getElem? he)
    have hTl : (bld (XS.take i) (Str.ofString "")).length ≤ 384 := by
      have a := bld_len (XS.take i) (Str.ofString "") fun x hx => hX x (List.mem_of_mem_take hx)
      have b : (Str.ofString "").length = 0 := by decide +kernel
      have c := hws.out
      rw [List.length_take, b] at a
      omega
    rw [Array.getElem?_toList] at hx1 hx2
    k_steps
    exact rows_turn_end hBB (by assumption) (by assumption) he (by assumption) hrows hcD hlo haT haD hrl (And.left (And.right (And.right (by assumption : @LT.lt Nat _ I _ ∧ _ ∧ _ ∧ _)))) (And.left (by assumption : @LT.lt Nat _ I _ ∧ _ ∧ _ ∧ _)) nI1 nI2 (fun p hp => hneI p (.tail _ (.tail _ hp)))
  case done =>
    intro g m₁ nw₁ h tk hJ
    refine RJ.elim hJ ?_
    clear hJ
    intro u rows oc tt k hoc hrows hcD hlo haT haD hrl hTT hBB F₃ N₃
    have X₃ := XB.keeps hBB.stays
    have T₃ := TB.keeps hBB.stays
    have C₃ := CB.keeps hBB.stays
    have htk : XS.take ws.size = XS := by rw [hsz, List.take_length]
    rw [htk] at hoc hrows
    have hN := rows_move N₃
    clear N₃
    have hrn := rows_ne hlD.2.2.1 hlo hne
    have haT' := app_ne haT
    have haD' := app_ne haD
    have hTl : (bld XS (Str.ofString "")).length ≤ 384 := by
      have a := bld_len XS (Str.ofString "") hX
      have b := (by decide +kernel : (Str.ofString "").length = 0)
      have c := hws.out
      rw [hsz] at c
      rw [b] at a
      omega
    cases hwr with
    | none =>
      have hR : HRes (resL (fullT XS none ++ endS).length (fullR XS endS none)) := trivial
      dsimp only [fullT] at hp hR
      k_steps
      · (exact heard_end (nw := (_, _) :: _) (by assumption) (rows_lam (by assumption) (by assumption)) (by assumption) (by assumption) (lt_rows (by assumption) (by assumption)))
      · (exact heard_err (by assumption) (resL_err (by assumption)) (by assumption) (by assumption))
      · refine dat_eq (by assumption) (DatIn.cast (by assumption) (told_open (by assumption))) (fun q hq => by (repeat (first | exact hq | exact List.mem_append_left _ hq | apply List.Mem.tail | apply List.mem_append_right))) (.tuple (n := 0) (.head _) (.cons (.str _ _) (.cons (.int _ _) .nil))) (fun q hq => hq) ok_no (by ktr_units) ?_
        k_steps
        ((refine' hret _ _ _ _ _ ?az22 ?bz22 ?cz22 ?dz22 ?ez22 ?fz22 ?gz22; (case az22 => assumption); (case bz22 => assumption); (case cz22 => assumption); (case ez22 => assumption); (case gz22 => assumption); (case dz22 => (refine News.few (by assumption) (fun q hq => ?_); rcases List.mem_cons.mp hq with hq | hq; (focus (rw [hq]; k_mem)); (rcases List.mem_append.mp hq with hq | hq; (focus ((repeat (first | exact hq | exact List.mem_append_left _ hq | apply List.Mem.tail | apply List.mem_append_right)))); (focus ((repeat (first | exact hq | exact List.mem_append_left _ hq | apply List.Mem.tail | apply List.mem_append_right))))))); (case fz22 => exact fun q hq p hp => (by assumption : ∀ q ∈ _, ∀ p ∈ _, p.1 < q.1) q hq p (by (repeat (first | exact hp | exact List.mem_append_left _ hp | apply List.Mem.tail | apply List.mem_append_right))))))
      · (exact heard_end (nw := (_, _) :: _) (by assumption) (rows_lam (by assumption) (by assumption)) (by assumption) (by assumption) (lt_rows (by assumption) (by assumption)))
      · (exact heard_err (by assumption) (resL_err (by assumption)) (by assumption) (by assumption))
      · refine dat_eq (by assumption) (DatIn.cast (by assumption) (told_rows (by assumption))) (fun q hq => by (repeat (first | exact hq | exact List.mem_append_left _ hq | apply List.Mem.tail | apply List.mem_append_right))) (due_dat hrows (by k_mem) (by k_mem) (fun q hq => by (repeat (first | exact hq | exact List.mem_append_left _ hq | apply List.Mem.tail | apply List.mem_append_right)))) (fun q hq => hq) (ok_due hok) (by ktr_units) ?_
        k_steps
        ((refine' hret _ _ _ _ _ ?az22 ?bz22 ?cz22 ?dz22 ?ez22 ?fz22 ?gz22; (case az22 => assumption); (case bz22 => assumption); (case cz22 => assumption); (case ez22 => assumption); (case gz22 => assumption); (case dz22 => (refine News.few (by assumption) (fun q hq => ?_); rcases List.mem_cons.mp hq with hq | hq; (focus (rw [hq]; k_mem)); (rcases List.mem_append.mp hq with hq | hq; (focus ((repeat (first | exact hq | exact List.mem_append_left _ hq | apply List.Mem.tail | apply List.mem_append_right)))); (focus ((repeat (first | exact hq | exact List.mem_append_left _ hq | apply List.Mem.tail | apply List.mem_append_right))))))); (case fz22 => exact fun q hq p hp => (by assumption : ∀ q ∈ _, ∀ p ∈ _, p.1 < q.1) q hq p (by (repeat (first | exact hp | exact List.mem_append_left _ hp | apply List.Mem.tail | apply List.mem_append_right))))))
    | @some W x i t' u' hm =>
      have hR : HRes (resL (fullT XS (some (x, i)) ++ endS).length (fullR XS endS (some (x, i)))) := trivial
      obtain ⟨hk1, hk2, hxl⟩ := hk0 x i rfl
      have hsp : (Str.ofString " ").length = 1 := by decide +kernel
      dsimp only [fullT] at hp hR
      k_steps
      · (exact heard_end (nw := (_, _) :: _) (by assumption) (rows_lam (by assumption) (by assumption)) (by assumption) (by assumption) (lt_rows (by assumption) (by assumption)))
      · (exact heard_err (by assumption) (resL_err (by assumption)) (by assumption) (by assumption))
      · refine dat_eq (by assumption) (DatIn.cast (by assumption) (told_wrong hk1)) (fun q hq => by (repeat (first | exact hq | exact List.mem_append_left _ hq | apply List.Mem.tail | apply List.mem_append_right))) (.tuple (n := 0) (.head _) (.cons (.str _ _) (.cons (.int _ _) .nil))) (fun q hq => hq) ok_no (by ktr_units) ?_
        k_steps
        ((refine' hret _ _ _ _ _ ?az22 ?bz22 ?cz22 ?dz22 ?ez22 ?fz22 ?gz22; (case az22 => assumption); (case bz22 => assumption); (case cz22 => assumption); (case ez22 => assumption); (case gz22 => assumption); (case dz22 => (refine News.few (by assumption) (fun q hq => ?_); rcases List.mem_cons.mp hq with hq | hq; (focus (rw [hq]; k_mem)); (rcases List.mem_append.mp hq with hq | hq; (focus ((repeat (first | exact hq | exact List.mem_append_left _ hq | apply List.Mem.tail | apply List.mem_append_right)))); (focus ((repeat (first | exact hq | exact List.mem_append_left _ hq | apply List.Mem.tail | apply List.mem_append_right))))))); (case fz22 => exact fun q hq p hp => (by assumption : ∀ q ∈ _, ∀ p ∈ _, p.1 < q.1) q hq p (by (repeat (first | exact hp | exact List.mem_append_left _ hp | apply List.Mem.tail | apply List.mem_append_right))))))
      · (exact heard_end (nw := (_, _) :: _) (by assumption) (rows_lam (by assumption) (by assumption)) (by assumption) (by assumption) (lt_rows (by assumption) (by assumption)))
      · (exact heard_err (by assumption) (resL_err (by assumption)) (by assumption) (by assumption))
      · refine dat_eq (by assumption) (DatIn.cast (by assumption) (told_wrong hk1)) (fun q hq => by (repeat (first | exact hq | exact List.mem_append_left _ hq | apply List.Mem.tail | apply List.mem_append_right))) (.tuple (n := 0) (.head _) (.cons (.str _ _) (.cons (.int _ _) .nil))) (fun q hq => hq) ok_no (by ktr_units) ?_
        k_steps
        ((refine' hret _ _ _ _ _ ?az22 ?bz22 ?cz22 ?dz22 ?ez22 ?fz22 ?gz22; (case az22 => assumption); (case bz22 => assumption); (case cz22 => assumption); (case ez22 => assumption); (case gz22 => assumption); (case dz22 => (refine News.few (by assumption) (fun q hq => ?_); rcases List.mem_cons.mp hq with hq | hq; (focus (rw [hq]; k_mem)); (rcases List.mem_append.mp hq with hq | hq; (focus ((repeat (first | exact hq | exact List.mem_append_left _ hq | apply List.Mem.tail | apply List.mem_append_right)))); (focus ((repeat (first | exact hq | exact List.mem_append_left _ hq | apply List.Mem.tail | apply List.mem_append_right))))))); (case fz22 => exact fun q hq p hp => (by assumption : ∀ q ∈ _, ∀ p ∈ _, p.1 < q.1) q hq p (by (repeat (first | exact hp | exact List.mem_append_left _ hp | apply List.Mem.tail | apply List.mem_append_right))))))
end
end Mine
end
section
open PySem PySem.W PyProof.Rows PySem.Calls
namespace Mine

section
variable {w : World} {mean : ExcName → Option Value} {mg mb : Str → Option Value} {dp un : Nat} {gd : Option (List Code)} {cn : Str} {cs₁ : Scope} {a : Addr} {ccd : Value} {cl : List (Str × Addr)} {outer : List Env} {A₀ : Around} {base h₀ : Heap} {L : Addr} {m : Str → Option Value} {s : Shared} {Q E : Value → Shared → Prop} {news : List (Addr × Obj)}

theorem words_H2_1 : Flush := by
  (try w_top off)
  k_with_none
  k_with "mine k_ne" => (refine neN ?_; (try dsimp only); first | (refine Nat.ne_of_lt ?_; (repeat (first | exact Nat.lt_add_one _ | refine Nat.lt.step ?_)); done) | (refine Nat.ne_of_gt ?_; (repeat (first | exact Nat.lt_add_one _ | refine Nat.lt.step ?_)); done) | omega)
  k_with "mine spliced" => (k_here; with_reducible (first | refine args_s8 ?_ | refine args_s4 ?_ | refine args_s2 ?_ | refine args_s1 ?_ | refine args_i1 ?_))
  k_with "mine ktr_room" => ((try dsimp only [ktrTop, Around.deeper]); (try simp only [depth_under_make, depth_under_kw, depth_in1, depth_deeper, depth_caller, depth_mark]); (try dsimp only [ktrTop]); first | ((simp only [Nat.add_assoc]); exact room_le (by assumption) (by rfl)) | omega)
  k_with "mine ktr_units" => ((try dsimp only [ktrTop, Around.deeper]); (try simp only [units_in1, units_deeper, Around.mark_units, units_caller]); (try dsimp only [ktrTop]); first | ((simp only [Nat.add_assoc]); exact room_le (by assumption) (by rfl)) | omega)
  k_with "mine exec Raise some none" => (k_here; k_dflt (refine' raise_fault ?hhz1 ?_; (case hhz1 => first | exact rfl | assumption); k_whole))
  k_with "mine call ref" => (k_here; (with_reducible show wpAny _ _ (call (Value.ref 45) [_, _]) _ _ _); k_dflt (refine' fault_make ?k1z2 ?k2z2 ?k3z2 ?k4z2 ?k5z2 ?kKz2 ?kdz2 ?kuz2 ?_; (case k1z2 => k_asm); (case k2z2 => k_asm); (case k3z2 => k_asm); (case k4z2 => k_asm); (case k5z2 => k_asm); (case kKz2 => first | exact rfl | assumption); (case kdz2 => ktr_room); (case kuz2 => ktr_units)); intro h'q9 tk'q9 e'q9 t'q9 d'q9 od'q9 F'q9 hs'q9 N'q9 ne1'q9 ne2'q9; (refine ⟨_, _, _, rfl, (N'q9 _ (.head _)).1, rfl, rfl, rfl, Frag.In.keeps (by k_asm) (Fr.keep F'q9), ?_⟩); (try dsimp only))
  k_with "mine leaving ref" => (k_here; (refine' leave_onF ?k1z3 ?k2z3 ?k3z3 ?k4z3 ?_; (case k3z3 => assumption); (case k1z3 => assumption); (case k2z3 => assumption); (case k4z3 => exact fun q hq => (News.mk (by k_asm) q hq).2.2); intro h'q9 R'q9; (try dsimp only)))
  k_with "mine leaving ref" => (k_here; (refine' leave_raiseF ?k1z4 ?k2z4 ?k3z4 ?k4z4 ?k5z4 ?k6z4 ?_; (case k1z4 => assumption); (case k2z4 => assumption); (case k3z4 => assumption); (case k4z4 => assumption); (case k5z4 => assumption); (case k6z4 => assumption); intro h'q9 R'q9; (try dsimp only)))
  k_with "mine k_all" => assumption
  exact trivial
set_option maxRecDepth 100000 in
set_option maxHeartbeats 8000000 in
theorem law_take_spec {S : Addr} {x y top : Int} {n : Nat} {t1 t2 t3 : Tok}
   (B : Below A₀ base outer h₀) (F : Fr h₀ L s.heap m) (X : (hd.heap_1 w.params).In h₀) (N : News h₀ L s.heap ((S, listOf #[.int x t1, .int y t2] n) :: news)) (hS : ∀ p ∈ news, p.1 ≠ S) (T : Top topProg LZ mean mg mb h₀) (hk : cs₁.kind = .function)
   (hdp : dp + 1 < recursionLimit) (hun : un + 10 < cLine)
   (hx : 0 ≤ x) (hy0 : 0 ≤ y) (hy : y < 2147483647) (ht : 1 ≤ top) (ht2 : top ≤ 1000)
   (hret : ∀ (x' y' k : Int) (n' : Nat) (t1' t2' t3' : Tok) (h' : Heap) (tk' : Nat), 0 ≤ x' → 0 ≤ y' → y' < 2147483647 → 0 ≤ k → k < top → Fr h₀ L h' m → News h₀ L h' ((S, listOf #[.int x' t1', .int y' t2'] n') :: news) → Q (.int k t3') { s with heap := h', toks := tk' }) :
   wpAny (model prg w) (ktrTop dp un gd cn cs₁ L a ccd cl outer) (call (.ref 126) [.ref S, .int top t3]) Q E s := by
  refine wpAny_call ?_
  k_dflt cell_enter
  skip
  have hp : (0 : Int) < 2147483647 := by decide
  have z0 : 0 ≤ (y * 39373 + 7).fmod 2147483647 := Int.fmod_nonneg_of_pos _ hp
  have z1 : (y * 39373 + 7).fmod 2147483647 < 2147483647 := Int.fmod_lt_of_pos _ hp
  k_steps
  · exact hret (x.fdiv top) y (x.fmod top) _ _ _ _ _ _ (Int.fdiv_nonneg hx (by omega)) hy0 hy (Int.fmod_nonneg_of_pos _ (by omega)) (Int.fmod_lt_of_pos _ (by omega)) (by assumption) (by assumption)
  · refine mul_small ?_ z0 (Int.lt_trans z1 (by decide))
    k_steps
    exact hret x ((y * 39373 + 7).fmod 2147483647) _ _ _ _ _ _ _ hx z0 z1 (Int.fmod_nonneg_of_pos _ (by omega)) (Int.fmod_lt_of_pos _ (by omega)) (by assumption) (by assumption)
end
end Mine
end
section
open PySem PySem.W PyProof.Rows PySem.Calls
namespace Mine


section
variable {w : World} {mean : ExcName → Option Value} {mg mb : Str → Option Value} {dp un : Nat} {gd : Option (List Code)} {cn : Str} {cs₁ : Scope} {a : Addr} {ccd : Value} {cl : List (Str × Addr)} {outer : List Env} {A₀ : Around} {base h₀ : Heap} {L : Addr} {m : Str → Option Value} {s : Shared} {Q E : Value → Shared → Prop} {news : List (Addr × Obj)}

theorem words_H3_1 : Flush := by
  (try w_top off)
  k_with_none
  k_with "mine k_ne" => (refine neN ?_; (try dsimp only); first | (refine Nat.ne_of_lt ?_; (repeat (first | exact Nat.lt_add_one _ | refine Nat.lt.step ?_)); done) | (refine Nat.ne_of_gt ?_; (repeat (first | exact Nat.lt_add_one _ | refine Nat.lt.step ?_)); done) | omega)
  k_with "mine spliced" => (k_here; with_reducible (first | refine args_s8 ?_ | refine args_s4 ?_ | refine args_s2 ?_ | refine args_s1 ?_ | refine args_i1 ?_))
  k_with "mine ktr_room" => ((try dsimp only [ktrTop, Around.deeper]); (try simp only [depth_under_make, depth_under_kw, depth_in1, depth_deeper, depth_caller, depth_mark]); (try dsimp only [ktrTop]); first | ((simp only [Nat.add_assoc]); exact room_le (by assumption) (by rfl)) | omega)
  k_with "mine ktr_units" => ((try dsimp only [ktrTop, Around.deeper]); (try simp only [units_in1, units_deeper, Around.mark_units, units_caller]); (try dsimp only [ktrTop]); first | ((simp only [Nat.add_assoc]); exact room_le (by assumption) (by rfl)) | omega)
  k_with "mine exec Raise some none" => (k_here; k_dflt (refine' raise_fault ?hhz1 ?_; (case hhz1 => first | exact rfl | assumption); k_whole))
  k_with "mine call ref" => (k_here; (with_reducible show wpAny _ _ (call (Value.ref 45) [_, _]) _ _ _); k_dflt (refine' fault_make ?k1z2 ?k2z2 ?k3z2 ?k4z2 ?k5z2 ?kKz2 ?kdz2 ?kuz2 ?_; (case k1z2 => k_asm); (case k2z2 => k_asm); (case k3z2 => k_asm); (case k4z2 => k_asm); (case k5z2 => k_asm); (case kKz2 => first | exact rfl | assumption); (case kdz2 => ktr_room); (case kuz2 => ktr_units)); intro h'q9 tk'q9 e'q9 t'q9 d'q9 od'q9 F'q9 hs'q9 N'q9 ne1'q9 ne2'q9; (refine ⟨_, _, _, rfl, (N'q9 _ (.head _)).1, rfl, rfl, rfl, Frag.In.keeps (by k_asm) (Fr.keep F'q9), ?_⟩); (try dsimp only))
  k_with "mine leaving ref" => (k_here; (refine' leave_onF ?k1z3 ?k2z3 ?k3z3 ?k4z3 ?_; (case k3z3 => assumption); (case k1z3 => assumption); (case k2z3 => assumption); (case k4z3 => exact fun q hq => (News.mk (by k_asm) q hq).2.2); intro h'q9 R'q9; (try dsimp only)))
  k_with "mine leaving ref" => (k_here; (refine' leave_raiseF ?k1z4 ?k2z4 ?k3z4 ?k4z4 ?k5z4 ?k6z4 ?_; (case k1z4 => assumption); (case k2z4 => assumption); (case k3z4 => assumption); (case k4z4 => assumption); (case k5z4 => assumption); (case k6z4 => assumption); intro h'q9 R'q9; (try dsimp only)))
  k_with "mine call ref" => (k_here; (with_reducible show wpAny _ _ (call (Value.ref 126) _) _ _ _); k_dflt (refine' law_take_spec ?k1z5 ?k2z5 ?k3z5 ?k4z5 ?kSz5 ?k5z5 ?kKz5 ?kdz5 ?kuz5 ?p0z5 ?p1z5 ?p2z5 ?p3z5 ?p4z5 ?_; (case k1z5 => k_asm); (case k2z5 => k_asm); (case k3z5 => k_asm); (case k4z5 => k_asm); (case kSz5 => first | with_reducible assumption | assumption); (case k5z5 => k_asm); (case kKz5 => first | exact rfl | assumption); (case kdz5 => ktr_room); (case kuz5 => ktr_units); (case p0z5 => first | with_reducible assumption | omega | assumption); (case p1z5 => first | with_reducible assumption | omega | assumption); (case p2z5 => first | with_reducible assumption | omega | assumption); (case p3z5 => first | with_reducible assumption | omega | assumption); (case p4z5 => first | with_reducible assumption | omega | assumption); skip); intro x'q9 y'q9 k'q9 n'q9 t1'q9 t2'q9 t3'q9 h'q9 tk'q9 hx'q9 hy0'q9 hy1'q9 hk0'q9 hk1'q9 F'q9 N'q9; (try dsimp only); (try k_fold))
  k_with "mine k_all" => assumption
  k_with "mine call builtin:len" => (k_here; k_dflt (refine' PyProof.Rows.len_list ?lz6 ?fz6 ?_; (case lz6 => exact News.isList (by k_asm) (by first | assumption | exact List.Mem.tail _ (by assumption))); (case fz6 => omega); k_whole))
  exact trivial
set_option maxRecDepth 100000 in
set_option maxHeartbeats 8000000 in
theorem law_one_spec {S D : Addr} {x y : Int} {n nD : Nat} {t1 t2 : Tok} {its : Array Value}
   (B : Below A₀ base outer h₀) (F : Fr h₀ L s.heap m) (X : (hd.heap_1 w.params).In h₀) (N : News h₀ L s.heap ((S, listOf #[.int x t1, .int y t2] n) :: news)) (hS : ∀ p ∈ news, p.1 ≠ S) (T : Top topProg LZ mean mg mb h₀) (hk : cs₁.kind = .function)
   (hdp : dp + 2 < recursionLimit) (hun : un + 20 < cLine)
   (hx : 0 ≤ x) (hy0 : 0 ≤ y) (hy : y < 2147483647) (hD : (D, listOf its nD) ∈ news) (hs1 : 1 ≤ its.size) (hs2 : its.size ≤ 1000)
   (hret : ∀ (x' y' : Int) (n' : Nat) (t1' t2' : Tok) (k : Nat) (hk : k < its.size) (h' : Heap) (tk' : Nat), Fr h₀ L h' m → News h₀ L h' ((S, listOf #[.int x' t1', .int y' t2'] n') :: news) → 0 ≤ x' → 0 ≤ y' → y' < 2147483647 → Q its[k] { s with heap := h', toks := tk' }) :
   wpAny (model prg w) (ktrTop dp un gd cn cs₁ L a ccd cl outer) (call (.ref 133) [.ref S, .ref D]) Q E s := by
  refine wpAny_call ?_
  k_dflt cell_enter
  skip
  k_steps
  refine PyProof.Rows.item_list (News.isList (by assumption) (List.Mem.tail _ hD)) (by assumption) (by omega) (Array.getElem?_eq_getElem (by omega)) ?_
  k_steps
  exact hret _ _ _ _ _ _ _ _ _ (by assumption) (by assumption) (by assumption) (by assumption) (by assumption)
end
end Mine
end
section
open PySem PySem.W PyProof.Rows PySem.Calls
namespace Mine


theorem words_join {nw : List (Addr × Obj)} {y1 y2 y3 y4 y5 : List Value}
   (h1 : WordsL nw ([Str.ofString "a", Str.ofString "_", Str.ofString "fn", Str.ofString "x1_Z", Str.ofString "Self"].map fun x => (x, (Str.ofString "name", none, none))) y1)
   (h2 : WordsL nw ([Str.ofString "'a", Str.ofString "'_", Str.ofString "'static", Str.ofString "'b7"].map fun x => (x, (Str.ofString "region", none, none))) y2)
   (h3 : WordsL nw [(Str.ofString "7", TINT 7), (Str.ofString "0x1F", TINT 31), (Str.ofString "1_0u8", TINTK 10 (Str.ofString "u8"))] y3)
   (h4 : WordsL nw [(Str.ofString "0b101i64", TINTK 5 (Str.ofString "i64")), (Str.ofString "0o17", TINT 15), (Str.ofString "9_usize", TINTK 9 (Str.ofString "usize"))] y4)
   (h5 : WordsL nw ([Str.ofString "+", Str.ofString "<<=", Str.ofString "..", Str.ofString "..=", Str.ofString "::", Str.ofString "{", Str.ofString "-", Str.ofString "->", Str.ofString "|=", Str.ofString "@"].map fun x => (x, (Str.ofString "sign", none, none))) y5) : WordsL nw WORDS ((((y1 ++ y2) ++ y3) ++ y4) ++ y5) := (((h1.append h2).append h3).append h4).append h5
section
variable {w : World} {mean : ExcName → Option Value} {mg mb : Str → Option Value} {dp un : Nat} {gd : Option (List Code)} {cn : Str} {cs₁ : Scope} {a : Addr} {ccd : Value} {cl : List (Str × Addr)} {outer : List Env} {A₀ : Around} {base h₀ : Heap} {L : Addr} {m : Str → Option Value} {s : Shared} {Q E : Value → Shared → Prop} {news : List (Addr × Obj)}

theorem words_H5_1 : Flush := by
  (try w_top off)
  k_with_none
  k_with "mine k_ne" => (refine neN ?_; (try dsimp only); first | (refine Nat.ne_of_lt ?_; (repeat (first | exact Nat.lt_add_one _ | refine Nat.lt.step ?_)); done) | (refine Nat.ne_of_gt ?_; (repeat (first | exact Nat.lt_add_one _ | refine Nat.lt.step ?_)); done) | omega)
  k_with "mine spliced" => (k_here; with_reducible (first | refine args_s8 ?_ | refine args_s4 ?_ | refine args_s2 ?_ | refine args_s1 ?_ | refine args_i1 ?_))
  k_with "mine ktr_room" => ((try dsimp only [ktrTop, Around.deeper]); (try simp only [depth_under_make, depth_under_kw, depth_in1, depth_deeper, depth_caller, depth_mark]); (try dsimp only [ktrTop]); first | ((simp only [Nat.add_assoc]); exact room_le (by assumption) (by rfl)) | omega)
  k_with "mine ktr_units" => ((try dsimp only [ktrTop, Around.deeper]); (try simp only [units_in1, units_deeper, Around.mark_units, units_caller]); (try dsimp only [ktrTop]); first | ((simp only [Nat.add_assoc]); exact room_le (by assumption) (by rfl)) | omega)
  k_with "mine exec Raise some none" => (k_here; k_dflt (refine' raise_fault ?hhz1 ?_; (case hhz1 => first | exact rfl | assumption); k_whole))
  k_with "mine call ref" => (k_here; (with_reducible show wpAny _ _ (call (Value.ref 45) [_, _]) _ _ _); k_dflt (refine' fault_make ?k1z2 ?k2z2 ?k3z2 ?k4z2 ?k5z2 ?kKz2 ?kdz2 ?kuz2 ?_; (case k1z2 => k_asm); (case k2z2 => k_asm); (case k3z2 => k_asm); (case k4z2 => k_asm); (case k5z2 => k_asm); (case kKz2 => first | exact rfl | assumption); (case kdz2 => ktr_room); (case kuz2 => ktr_units)); intro h'q9 tk'q9 e'q9 t'q9 d'q9 od'q9 F'q9 hs'q9 N'q9 ne1'q9 ne2'q9; (refine ⟨_, _, _, rfl, (N'q9 _ (.head _)).1, rfl, rfl, rfl, Frag.In.keeps (by k_asm) (Fr.keep F'q9), ?_⟩); (try dsimp only))
  k_with "mine leaving ref" => (k_here; (refine' leave_onF ?k1z3 ?k2z3 ?k3z3 ?k4z3 ?_; (case k3z3 => assumption); (case k1z3 => assumption); (case k2z3 => assumption); (case k4z3 => exact fun q hq => (News.mk (by k_asm) q hq).2.2); intro h'q9 R'q9; (try dsimp only)))
  k_with "mine leaving ref" => (k_here; (refine' leave_raiseF ?k1z4 ?k2z4 ?k3z4 ?k4z4 ?k5z4 ?k6z4 ?_; (case k1z4 => assumption); (case k2z4 => assumption); (case k3z4 => assumption); (case k4z4 => assumption); (case k5z4 => assumption); (case k6z4 => assumption); intro h'q9 R'q9; (try dsimp only)))
  k_with "mine callWith ref" => (k_here; (with_reducible show wpAny _ _ (callWith _ (Value.ref _) _ (backTo _ (starEach (_ :: _) _)) []) _ _ _); k_dflt (refine' callWith_K ?k1z5 ?k2z5 ?_; (case k1z5 => k_asm); (case k2z5 => k_is); k_whole))
  k_with "mine LeaveT" => (k_dflt (refine' leaveT_ ?Fz8 ?Nz8 ?Tz8 ?_; (case Fz8 => k_asm); (case Nz8 => k_asm); (case Tz8 => first | assumption | exact KtsTurn.refl | exact KtsTurn.trans (by assumption) (by assumption)); k_whole); intro kgq9 kTq9 kFq9 kNq9 kBq9; (try k_lift kBq9); (try dsimp only))
  k_with "mine LeaveG" => (k_dflt (refine' leaveG_ ?Fz10 ?Nz10 ?_; (case Fz10 => k_asm); (case Nz10 => k_asm); k_whole); intro kFq9 kNq9 kDq9; (try dsimp only))
  k_with "mine newTuple" => (k_here; k_dflt (refine' kup_newTuple ?Fz11 ?Nz11 ?_ ?zz11; (case Fz11 => k_asm); (case Nz11 => k_asm); (case zz11 => kmk_size)); intro D'q9 h'q9 F'q9 N'q9 l1q9; clear l1q9; (try k_sweep))
  k_with "mine newList" => (k_here; k_dflt (refine' newList_K ?k1z12 ?k2z12 ?_; (case k1z12 => k_asm); (case k2z12 => k_asm); k_whole); intro l'q9 h'q9 F'q9 N'q9 l1q9; clear l1q9; (try k_sweep))
  k_with "mine CompRest" => (k_dflt (refine' comp_rest ?cXz13 ?cSz13 ?cRz13 ?_; (case cXz13 => k_asm); (case cSz13 => repeat' (first | exact trivial | constructor)); (case cRz13 => exact Or.inr ⟨_, by k_mem, rfl, _, rfl⟩)); intro ys'q9 nw'q9 hn'q9 hW'q9; (have hL' := WordsL.length_eq hW'q9); (simp only [List.length_map, List.length_cons, List.length_nil] at hL'))
  k_with "mine eval ListComp" => (k_here; k_dflt (refine LCg.ListComp_U (F₀ := by k_asm) (by rfl) (by decide) (by rfl) (by decide) (by rfl) ?_); k_dflt lcg_toSrc)
  k_with "mine CompSrc" => (k_here; k_dflt (refine LCg.CompSrc.ledger (by rfl) (by k_asm) (by k_asm) (by k_mem) (by first | size_fits | exact Nat.le_of_ble_eq_true rfl) ?_); intro g'q9)
  k_with "mine k_mem" => (refine (show ∀ q ∈ _, q ∈ _ from by with_reducible assumption) _ ?_; k_mem)
  k_with "mine binaryOp Add ref ref" => (k_here; k_dflt (refine' kmk_add_lit ?Fz16 ?Nz16 ?az16 ?bz16 ?ez16 ?_ ?zz16; (case Fz16 => k_asm); (case Nz16 => k_asm); (case az16 => exact News.isList (by k_asm) (by k_mem)); (case bz16 => exact News.isList (by k_asm) (by k_mem)); (case ez16 => exact rfl); (case zz16 => (rw [PySem.sizeLine_eq]; simp only [List.length_append, Array.length_toList, List.size_toArray, List.length_cons, List.length_nil]; omega))); intro D'q9 h'q9 F'q9 N'q9 l1q9; clear l1q9; (try k_sweep))
  exact trivial
set_option maxRecDepth 100000 in
set_option maxHeartbeats 2000000 in
theorem law_words_spec 
   (B : Below A₀ base outer h₀) (F : Fr h₀ L s.heap m) (X : (hd.heap_1 w.params).In h₀) (N : News h₀ L s.heap news) (T : Top topProg LZ mean mg mb h₀) (hk : cs₁.kind = .function)
   (hdp : dp + 1 < recursionLimit) (hun : un + 10 < cLine)
   (hret : ∀ (D : Addr) (vs : List Value) (n : Nat) (news' : List (Addr × Obj)) (h' : Heap) (tk' : Nat), Fr h₀ L h' m → News h₀ L h' (news' ++ news) → (∀ q ∈ news', ∀ p ∈ news, p.1 ≠ q.1) → (D, listOf vs.toArray n) ∈ news' → WordsL news' WORDS vs → Q (.ref D) { s with heap := h', toks := tk' }) :
   wpAny (model prg w) (ktrTop dp un gd cn cs₁ L a ccd cl outer) (call (.ref 152) []) Q E s := by
  refine wpAny_call ?_
  k_dflt ((refine' codeG_def ?k1z9 ?k2z9 ?k3z9 ?k4z9 ?k5z9 ?kAz9 ?kFz9 ?kKz9 ?k6z9 ?k7z9 ?k8z9 ?k9z9 ?kBz9 ?_ ?c2z9 ?c3z9 ?c4z9 ?c5z9; (case kAz9 => exact rfl); (case kFz9 => exact rfl); (case kKz9 => assumption); (case k1z9 => k_asm); (case k2z9 => k_asm); (case k3z9 => k_asm); (case k4z9 => k_asm); (case k5z9 => k_asm); (case k6z9 => k_is); (case k7z9 => k_is); (case k8z9 => ktr_room); (case k9z9 => exact BindsTo.of_eq rfl); (case c5z9 => decide); (case kBz9 => exact locs rfl); (case c2z9 => exact rfl); (case c3z9 => exact rfl); (case c4z9 => exact rfl); k_whole; intro g'q9 L'q9 h'q9 FG'q9 F'q9 N'q9 B'q9 X'q9 T'q9 NG'q9; (try dsimp only); (try k_lift B'q9); (try k_fold)))
  skip
  k_steps
  refine hret _ _ _ _ _ _ (by assumption) (by assumption) (by assumption) (.head _) ?_
  have inc := (by assumption : ∀ q ∈ _, q ∈ _)
  refine words_join (WordsL.mono (by assumption) fun q hq => by (repeat (first | exact hq | (refine (show ∀ q ∈ _, q ∈ _ from by with_reducible assumption) _ ?_) | refine List.mem_cons_of_mem _ ?_))) (WordsL.mono (by assumption) fun q hq => by (repeat (first | exact hq | (refine (show ∀ q ∈ _, q ∈ _ from by with_reducible assumption) _ ?_) | refine List.mem_cons_of_mem _ ?_))) ?_ ?_ (WordsL.mono (by assumption) fun q hq => by (repeat (first | exact hq | (refine (show ∀ q ∈ _, q ∈ _ from by with_reducible assumption) _ ?_) | refine List.mem_cons_of_mem _ ?_)))
  · exact .cons (t3 := 0) (.tail _ (.tail _ (inc _ (by repeat (first | exact List.Mem.head _ | apply List.Mem.tail))))) (.tail _ (.tail _ (inc _ (by repeat (first | exact List.Mem.head _ | apply List.Mem.tail))))) (.cons (t3 := 0) (.tail _ (.tail _ (inc _ (by repeat (first | exact List.Mem.head _ | apply List.Mem.tail))))) (.tail _ (.tail _ (inc _ (by repeat (first | exact List.Mem.head _ | apply List.Mem.tail))))) (.cons (.tail _ (.tail _ (inc _ (by repeat (first | exact List.Mem.head _ | apply List.Mem.tail))))) (.tail _ (.tail _ (inc _ (by repeat (first | exact List.Mem.head _ | apply List.Mem.tail))))) .nil))
  · exact .cons (.tail _ (.tail _ (inc _ (by repeat (first | exact List.Mem.head _ | apply List.Mem.tail))))) (.tail _ (.tail _ (inc _ (by repeat (first | exact List.Mem.head _ | apply List.Mem.tail))))) (.cons (t3 := 0) (.tail _ (.tail _ (inc _ (by repeat (first | exact List.Mem.head _ | apply List.Mem.tail))))) (.tail _ (.tail _ (inc _ (by repeat (first | exact List.Mem.head _ | apply List.Mem.tail))))) (.cons (.tail _ (.tail _ (inc _ (by repeat (first | exact List.Mem.head _ | apply List.Mem.tail))))) (.tail _ (.tail _ (inc _ (by repeat (first | exact List.Mem.head _ | apply List.Mem.tail))))) .nil))
end
end Mine
end
section
open PySem PySem.W PyProof.Rows PySem.Calls
namespace Mine


section
variable {w : World} {mean : ExcName → Option Value} {mg mb : Str → Option Value} {dp un : Nat} {gd : Option (List Code)} {cn : Str} {cs₁ : Scope} {a : Addr} {ccd : Value} {cl : List (Str × Addr)} {outer : List Env} {A₀ : Around} {base h₀ : Heap} {L : Addr} {m : Str → Option Value} {s : Shared} {Q E : Value → Shared → Prop} {news : List (Addr × Obj)}

theorem words_H6_1 : Flush := by
  (try w_top off)
  k_with_none
  k_with "mine k_ne" => (refine neN ?_; (try dsimp only); first | (refine Nat.ne_of_lt ?_; (repeat (first | exact Nat.lt_add_one _ | refine Nat.lt.step ?_)); done) | (refine Nat.ne_of_gt ?_; (repeat (first | exact Nat.lt_add_one _ | refine Nat.lt.step ?_)); done) | omega)
  k_with "mine spliced" => (k_here; with_reducible (first | refine args_s8 ?_ | refine args_s4 ?_ | refine args_s2 ?_ | refine args_s1 ?_ | refine args_i1 ?_))
  k_with "mine ktr_room" => ((try dsimp only [ktrTop, Around.deeper]); (try simp only [depth_under_make, depth_under_kw, depth_in1, depth_deeper, depth_caller, depth_mark]); (try dsimp only [ktrTop]); first | ((simp only [Nat.add_assoc]); exact room_le (by assumption) (by rfl)) | omega)
  k_with "mine ktr_units" => ((try dsimp only [ktrTop, Around.deeper]); (try simp only [units_in1, units_deeper, Around.mark_units, units_caller]); (try dsimp only [ktrTop]); first | ((simp only [Nat.add_assoc]); exact room_le (by assumption) (by rfl)) | omega)
  k_with "mine exec Raise some none" => (k_here; k_dflt (refine' raise_fault ?hhz1 ?_; (case hhz1 => first | exact rfl | assumption); k_whole))
  k_with "mine call ref" => (k_here; (with_reducible show wpAny _ _ (call (Value.ref 45) [_, _]) _ _ _); k_dflt (refine' fault_make ?k1z2 ?k2z2 ?k3z2 ?k4z2 ?k5z2 ?kKz2 ?kdz2 ?kuz2 ?_; (case k1z2 => k_asm); (case k2z2 => k_asm); (case k3z2 => k_asm); (case k4z2 => k_asm); (case k5z2 => k_asm); (case kKz2 => first | exact rfl | assumption); (case kdz2 => ktr_room); (case kuz2 => ktr_units)); intro h'q9 tk'q9 e'q9 t'q9 d'q9 od'q9 F'q9 hs'q9 N'q9 ne1'q9 ne2'q9; (refine ⟨_, _, _, rfl, (N'q9 _ (.head _)).1, rfl, rfl, rfl, Frag.In.keeps (by k_asm) (Fr.keep F'q9), ?_⟩); (try dsimp only))
  k_with "mine leaving ref" => (k_here; (refine' leave_onF ?k1z3 ?k2z3 ?k3z3 ?k4z3 ?_; (case k3z3 => assumption); (case k1z3 => assumption); (case k2z3 => assumption); (case k4z3 => exact fun q hq => (News.mk (by k_asm) q hq).2.2); intro h'q9 R'q9; (try dsimp only)))
  k_with "mine leaving ref" => (k_here; (refine' leave_raiseF ?k1z4 ?k2z4 ?k3z4 ?k4z4 ?k5z4 ?k6z4 ?_; (case k1z4 => assumption); (case k2z4 => assumption); (case k3z4 => assumption); (case k4z4 => assumption); (case k5z4 => assumption); (case k6z4 => assumption); intro h'q9 R'q9; (try dsimp only)))
  k_with "mine LeaveT" => (k_dflt (refine' leaveT_ ?Fz7 ?Nz7 ?Tz7 ?_; (case Fz7 => k_asm); (case Nz7 => k_asm); (case Tz7 => first | assumption | exact KtsTurn.refl | exact KtsTurn.trans (by assumption) (by assumption)); k_whole); intro kgq9 kTq9 kFq9 kNq9 kBq9; (try k_lift kBq9); (try dsimp only))
  k_with "mine LeaveG" => (k_dflt (refine' leaveG_ ?Fz9 ?Nz9 ?_; (case Fz9 => k_asm); (case Nz9 => k_asm); k_whole); intro kFq9 kNq9 kDq9; (try dsimp only))
  k_with "mine newTuple" => (k_here; k_dflt (refine' kup_newTuple ?Fz10 ?Nz10 ?_ ?zz10; (case Fz10 => k_asm); (case Nz10 => k_asm); (case zz10 => kmk_size)); intro D'q9 h'q9 F'q9 N'q9 l1q9; clear l1q9; (try k_sweep))
  k_with "mine newList" => (k_here; k_dflt (refine' newList_K ?k1z11 ?k2z11 ?_; (case k1z11 => k_asm); (case k2z11 => k_asm); k_whole); intro l'q9 h'q9 F'q9 N'q9 l1q9; clear l1q9; (try k_sweep))
  exact trivial
set_option maxRecDepth 100000 in
set_option maxHeartbeats 8000000 in
theorem law_wrong_spec 
   (B : Below A₀ base outer h₀) (F : Fr h₀ L s.heap m) (X : (hd.heap_1 w.params).In h₀) (N : News h₀ L s.heap news) (T : Top topProg LZ mean mg mb h₀) (hk : cs₁.kind = .function)
   (hdp : dp + 1 < recursionLimit) (hun : un + 10 < cLine)
   (hret : ∀ (D : Addr) (vs : List Value) (n : Nat) (news' : List (Addr × Obj)) (h' : Heap) (tk' : Nat), Fr h₀ L h' m → News h₀ L h' (news' ++ news) → (∀ q ∈ news', ∀ p ∈ news, p.1 ≠ q.1) → (D, listOf vs.toArray n) ∈ news' → WrongL news' WRONG vs → Q (.ref D) { s with heap := h', toks := tk' }) :
   wpAny (model prg w) (ktrTop dp un gd cn cs₁ L a ccd cl outer) (call (.ref 159) []) Q E s := by
  refine wpAny_call ?_
  k_dflt ((refine' codeG_def ?k1z8 ?k2z8 ?k3z8 ?k4z8 ?k5z8 ?kAz8 ?kFz8 ?kKz8 ?k6z8 ?k7z8 ?k8z8 ?k9z8 ?kBz8 ?_ ?c2z8 ?c3z8 ?c4z8 ?c5z8; (case kAz8 => exact rfl); (case kFz8 => exact rfl); (case kKz8 => assumption); (case k1z8 => k_asm); (case k2z8 => k_asm); (case k3z8 => k_asm); (case k4z8 => k_asm); (case k5z8 => k_asm); (case k6z8 => k_is); (case k7z8 => k_is); (case k8z8 => ktr_room); (case k9z8 => exact BindsTo.of_eq rfl); (case c5z8 => decide); (case kBz8 => exact locs rfl); (case c2z8 => exact rfl); (case c3z8 => exact rfl); (case c4z8 => exact rfl); k_whole; intro g'q9 L'q9 h'q9 FG'q9 F'q9 N'q9 B'q9 X'q9 T'q9 NG'q9; (try dsimp only); (try k_lift B'q9); (try k_fold)))
  skip
  k_steps
  refine hret _ _ _ _ _ _ (by assumption) (by assumption) (by assumption) (.head _) ?_
  repeat (first | exact .nil | refine .cons (by k_mem) ?_)
end
end Mine
end
section
open PySem PySem.W PyProof.Rows PySem.Calls
namespace Mine
theorem runA_shift (S : List Nat) : ∀ (l : List Nat) (j : Nat), runA S l j = j + runA S l 0
  | [], j => by simp [runA]
  | c :: r, j => by
    rw [runA, runA]
    by_cases h : c ∈ S
    · rw [if_pos h, if_pos h, runA_shift S r (j + 1), runA_shift S r (0 + 1)]; omega
    · rw [if_neg h, if_neg h]; rfl
theorem figA_shift (b : Int) : ∀ (l : List Nat) (j : Nat) (v m : Int), figA b l j v m = (figA b l 0 v m).map fun x => (j + x.1, x.2)
  | [], j, v, m => by simp [figA]
  | c :: r, j, v, m => by
    rw [figA, figA]
    repeat' split
    · rfl
    · rw [figA_shift b r (j + 1), figA_shift b r (0 + 1), Option.map_map]; congr 1; funext x; simp only [Function.comp]; rw [show j + (0 + 1 + x.1) = j + 1 + x.1 from by omega]
    · rfl
    · rw [figA_shift b r (j + 1), figA_shift b r (0 + 1), Option.map_map]; congr 1; funext x; simp only [Function.comp]; rw [show j + (0 + 1 + x.1) = j + 1 + x.1 from by omega]
    · rfl
def shiftW (i : Nat) : Except Nat (Wd × Nat) → Except Nat (Wd × Nat)
  | .ok (wd, e) => .ok ({ wd with at_ := (i : Int) + wd.at_ }, i + e)
  | .error p => .error (i + p)
theorem signA_shift (l : List Nat) (i : Nat) : signA l i = shiftW i (signA l 0) := by
  unfold signA
  split
  · simp [shiftW]
  · rfl
theorem intA_shift (l : List Nat) (i : Nat) : intA l i = shiftW i (intA l 0) := by
  unfold intA
  rw [figA_shift _ _ (i + (baseA l).2), figA_shift _ _ (0 + (baseA l).2)]
  cases figA (baseA l).1 (l.drop (baseA l).2) 0 0 0 with
  | none => rfl
  | some x =>
    obtain ⟨k, v, m⟩ := x
    simp only [Option.map_some]
    rw [runA_shift NS _ (i + (baseA l).2 + k), runA_shift NS _ (0 + (baseA l).2 + k)]
    have e1 : i + (baseA l).2 + k - i = 0 + (baseA l).2 + k - 0 := by omega
    rw [e1]
    generalize l.drop (0 + (baseA l).2 + k - 0) = l'
    have e2 : i + (baseA l).2 + k + runA NS l' 0 - (i + (baseA l).2 + k) = 0 + (baseA l).2 + k + runA NS l' 0 - (0 + (baseA l).2 + k) := by omega
    have e3 : i + (baseA l).2 + k + runA NS l' 0 - i = 0 + (baseA l).2 + k + runA NS l' 0 - 0 := by omega
    rw [e2, e3]
    repeat' split
    all_goals simp only [shiftW, Nat.add_zero]
    · rw [show i + (0 + (baseA l).2 + k) = i + (baseA l).2 + k from by omega]
    · rw [show i + (0 + (baseA l).2 + k + runA NS l' 0) = i + (baseA l).2 + k + runA NS l' 0 from by omega]
      simp
    · rw [show i + (0 + (baseA l).2 + k + runA NS l' 0) = i + (baseA l).2 + k + runA NS l' 0 from by omega]
      simp
theorem wordA_shift : ∀ (l : List Nat) (i : Nat), wordA l i = shiftW i (wordA l 0)
  | [], i => rfl
  | c :: r, i => by
    rw [wordA, wordA, runA_shift NS (c :: r) i, runA_shift NS r (i + 1), runA_shift NS r (0 + 1)]
    have e1 : i + runA NS (c :: r) 0 - i = runA NS (c :: r) 0 - 0 := by omega
    have e2 : i + 1 + runA NS r 0 - i = 0 + 1 + runA NS r 0 - 0 := by omega
    rw [e1, e2, intA_shift, signA_shift]
    by_cases h1 : c ∈ NB
    · rw [if_pos h1, if_pos h1]
      by_cases h2 : ((c :: r).drop (runA NS (c :: r) 0 - 0)).take 1 = [39]
      · rw [if_pos h2, if_pos h2]; rfl
      · rw [if_neg h2, if_neg h2]; simp [shiftW]
    · rw [if_neg h1, if_neg h1]
      by_cases h2 : c ∈ FG
      · rw [if_pos h2, if_pos h2]
      · rw [if_neg h2, if_neg h2]
        by_cases h3 : c = 39
        · rw [if_pos h3, if_pos h3]
          by_cases h4 : runA NS r 0 = 0 ∨ ∃ d, r.head? = some d ∧ d ∈ FG
          · rw [if_pos (h4.imp (fun h => by omega) id), if_pos (h4.imp (fun h => by omega) id)]; rfl
          · rw [if_neg (fun h => h4 (h.imp (fun h => by omega) id)), if_neg (fun h => h4 (h.imp (fun h => by omega) id))]
            simp only [shiftW]
            rw [show i + (0 + 1 + runA NS r 0) = i + 1 + runA NS r 0 from by omega]
            simp
        · rw [if_neg h3, if_neg h3]
def Foll (r : List Nat) : Prop := r = [] ∨ ∃ c r', r = c :: r' ∧ (c = 32 ∨ c = 10 ∨ c = 9 ∨ c = 59 ∨ c = 41)
abbrev WORDS2 : List (Str × Told) := WORDS ++ [(Str.ofString "'b", TREGION)]
set_option maxRecDepth 100000 in
theorem word0 : ∀ p ∈ WORDS2, ∀ r, Foll r → wordA (cs p.1 ++ r) 0 = .ok (⟨p.2.1, cs p.1, 0, p.2.2.1, p.2.2.2⟩, p.1.length) := by
  intro p hp r hr
  rcases hr with rfl | ⟨c, r, rfl, rfl | rfl | rfl | rfl | rfl⟩
  all_goals revert p
  all_goals repeat' (first | exact List.forall_mem_nil _ | refine List.forall_mem_cons.mpr ⟨?_, ?_⟩)
  all_goals kernel_rfl
set_option maxRecDepth 100000 in
theorem wrong0 : ∀ p ∈ WRONG, ∀ r, Foll r → wordA (cs p.1 ++ r) 0 = .error p.2.toNat := by
  intro p hp r hr
  rcases hr with rfl | ⟨c, r, rfl, rfl | rfl | rfl | rfl | rfl⟩
  all_goals revert p
  all_goals repeat' (first | exact List.forall_mem_nil _ | refine List.forall_mem_cons.mpr ⟨?_, ?_⟩)
  all_goals kernel_rfl
theorem word_at {p : Str × Told} (hp : p ∈ WORDS2) {r : List Nat} (hr : Foll r) (i : Nat) : wordA (cs p.1 ++ r) i = .ok (⟨p.2.1, cs p.1, (i : Int), p.2.2.1, p.2.2.2⟩, i + p.1.length) := by
  rw [wordA_shift, word0 p hp r hr]
  simp [shiftW]
theorem wrong_at {p : Str × Int} (hp : p ∈ WRONG) {r : List Nat} (hr : Foll r) (i : Nat) : wordA (cs p.1 ++ r) i = .error (i + p.2.toNat) := by
  rw [wordA_shift, wrong0 p hp r hr]
  rfl
end Mine
namespace Mine
def GapOk (g : Str) : Prop := ∀ (r : List Nat) (j : Nat), bl .norm (cs g ++ r) j = bl .norm r (j + g.length)
def HeadOk (x : Str) : Prop := cs x ≠ [] ∧ ∀ (r : List Nat) (j : Nat), bl .norm (cs x ++ r) j = .ok j
abbrev GAPS : List Str := [Str.ofString " ", Str.ofString "\n", Str.ofString "\t ", Str.ofString " /* a */", Str.ofString "\n// b\n", Str.ofString " /* a /* b */ */ ", Str.ofString " \u2028", Str.ofString "", Str.ofString "\n// c\n"]
set_option maxRecDepth 100000 in
theorem gap_ok : ∀ g ∈ GAPS, GapOk g := by
  repeat' (first | exact List.forall_mem_nil _ | refine List.forall_mem_cons.mpr ⟨?_, ?_⟩)
  all_goals intro r j
  all_goals kernel_rfl
set_option maxRecDepth 100000 in
theorem head_ok : ∀ p ∈ WORDS2, HeadOk p.1 := by
  repeat' (first | exact List.forall_mem_nil _ | refine List.forall_mem_cons.mpr ⟨?_, ?_⟩)
  all_goals refine ⟨by decide +kernel, ?_⟩
  all_goals intro r j
  all_goals kernel_rfl
set_option maxRecDepth 100000 in
theorem head_wrong : ∀ p ∈ WRONG, HeadOk p.1 := by
  repeat' (first | exact List.forall_mem_nil _ | refine List.forall_mem_cons.mpr ⟨?_, ?_⟩)
  all_goals refine ⟨by decide +kernel, ?_⟩
  all_goals intro r j
  all_goals kernel_rfl
def txt : List Trip → List Nat
  | [] => []
  | e :: r => cs e.1 ++ (cs e.2.1 ++ txt r)
theorem cs_bld : ∀ (XS : List Trip) (t : Str), cs (bld XS t) = cs t ++ txt XS
  | [], t => by simp [bld, txt]
  | e :: r, t => by
    rw [bld, cs_bld r, cs_append, cs_append, txt]
    simp
def FollG (g : Str) : Prop := ∃ c l, cs g = c :: l ∧ (c = 32 ∨ c = 10 ∨ c = 9 ∨ c = 59 ∨ c = 41)
def GoodX : List Trip → Prop
  | [] => True
  | e :: r => e.2 ∈ WORDS2 ∧ GapOk e.1 ∧ (∀ x ∈ r, FollG x.1) ∧ GoodX r
def resX : List Trip → Str → Except Nat (List Wd) → Except Nat (List Wd)
  | [], _, R => R
  | e :: r, t, R => (resX r ((t ++ e.1) ++ e.2.1) R).map (rowOf e (t ++ e.1).length :: ·)
theorem resX_ok : ∀ (XS : List Trip) (t : Str), resX XS t (.ok []) = .ok (rws XS t)
  | [], t => rfl
  | e :: r, t => by rw [resX, resX_ok r]; rfl
theorem resX_err (p : Nat) : ∀ (XS : List Trip) (t : Str), resX XS t (.error p) = .error p
  | [], t => rfl
  | e :: r, t => by rw [resX, resX_err p r]; rfl
def OnR (l : List Nat) (n p : Nat) (R : Except Nat (List Wd)) : Prop :=
  (∃ j, bl .norm (l.drop p) p = .ok j ∧ AftR l n j R) ∨ (∃ q, bl .norm (l.drop p) p = .error q ∧ R = .error q)
theorem foll_on {r : List Trip} {tl : List Nat} (hF : Foll tl) (h : ∀ x ∈ r, FollG x.1) : Foll (txt r ++ tl) := by
  cases r with
  | nil => exact hF
  | cons e r =>
    obtain ⟨c, l, e1, e2⟩ := h e (.head _)
    rw [txt, e1]
    exact .inr ⟨c, _, rfl, e2⟩
theorem drop_at {l a b : List Nat} {n : Nat} (e : l = a ++ b) (h : a.length = n) : l.drop n = b := by
  rw [e, ← h, List.drop_left]
theorem rows_on (tl : List Nat) (R : Except Nat (List Wd)) (hF : Foll tl) : ∀ (XS : List Trip) (t : Str) (l : List Nat), l = cs t ++ (txt XS ++ tl) → GoodX XS → OnR l 0 (bld XS t).length R → OnR l XS.length t.length (resX XS t R)
  | [], t, l, _, _, h => h
  | e :: r, t, l, hl, ⟨h1, h2, h3, h4⟩, h => by
    have hl2 : l = cs ((t ++ e.1) ++ e.2.1) ++ (txt r ++ tl) := by
      rw [hl, txt, cs_append, cs_append]
      simp
    have ih := rows_on tl R hF r ((t ++ e.1) ++ e.2.1) l hl2 h4 h
    have hd := head_ok _ h1
    have hg : bl .norm (l.drop t.length) t.length = .ok (t ++ e.1).length := by
      have e1 : l = cs t ++ (cs e.1 ++ (cs e.2.1 ++ (txt r ++ tl))) := by
        rw [hl, txt]
        simp
      rw [drop_at e1 (cs_length t), h2, hd.2, len_append]
    have e2 : l = cs (t ++ e.1) ++ (cs e.2.1 ++ (txt r ++ tl)) := by
      rw [hl, txt, cs_append]
      simp
    have hw : wordA (l.drop (t ++ e.1).length) (t ++ e.1).length = .ok (rowOf e (t ++ e.1).length, ((t ++ e.1) ++ e.2.1).length) := by
      rw [drop_at e2 (cs_length _), word_at h1 (foll_on hF h3), len_append (t ++ e.1) e.2.1]
      rfl
    have hlt : (t ++ e.1).length < l.length := by
      have : 0 < (cs e.2.1).length := List.length_pos_iff.mpr hd.1
      rw [e2, List.length_append, cs_length, List.length_append]
      omega
    refine .inl ⟨_, hg, ?_⟩
    rcases ih with ⟨j, hb, ha⟩ | ⟨q, hb, hq⟩
    · exact .more hlt hw hb ha
    · rw [resX, hq]
      exact .gap hlt hw hb
theorem row_of {l : List Nat} {n : Nat} {R : Except Nat (List Wd)} (h : OnR l n 0 R) (hn : n ≤ 1000) : RowR l R := by
  rcases h with ⟨j, hb, ha⟩ | ⟨q, hb, rfl⟩
  · exact .go hb hn ha
  · exact .bad hb
abbrev ENDS : List Str := [Str.ofString "", Str.ofString " ", Str.ofString "\n", Str.ofString " // d", Str.ofString " /* c */", Str.ofString " /* d */", Str.ofString " // a /* b", Str.ofString " /* c"]
theorem foll_end : ∀ e ∈ ENDS ++ [Str.ofString " ;"], Foll (cs e) := by
  have h0 : cs (Str.ofString "") = [] := by decide +kernel
  have key : ∀ e : Str, (∃ c r, cs e = c :: r ∧ (c = 32 ∨ c = 10 ∨ c = 9 ∨ c = 59 ∨ c = 41)) → Foll (cs e) := fun e h => .inr h
  repeat' (first | exact List.forall_mem_nil _ | refine List.forall_mem_cons.mpr ⟨?_, ?_⟩)
  · exact .inl h0
  all_goals exact key _ ⟨_, _, rfl, by decide⟩
set_option maxRecDepth 100000 in
theorem end_ok : ∀ e ∈ ENDS, (e == Str.ofString " /* c") = false → ∀ p, bl .norm (cs e) p = .ok (p + e.length) := by
  repeat' (first | exact List.forall_mem_nil _ | refine List.forall_mem_cons.mpr ⟨?_, ?_⟩)
  all_goals intro h p
  · kernel_rfl
  · kernel_rfl
  · kernel_rfl
  · kernel_rfl
  · kernel_rfl
  · kernel_rfl
  · kernel_rfl
  · exact absurd h (by decide +kernel)
theorem end_bad (p : Nat) : bl .norm (cs (Str.ofString " /* c")) p = .error (p + 1) := by kernel_rfl
theorem cs_space : cs (Str.ofString " ") = [32] := by decide +kernel
theorem full_none {XS : List Trip} {endS : Str} (hX : GoodX XS) (hn : XS.length ≤ 1000) (he : endS ∈ ENDS) : RowR (cs (fullT XS none ++ endS)) (fullR XS endS none) := by
  have h0 : (Str.ofString "").length = 0 := by decide +kernel
  have hl : cs (bld XS (Str.ofString "") ++ endS) = cs (Str.ofString "") ++ (txt XS ++ cs endS) := by rw [cs_append, cs_bld]; simp
  have hd : (cs (bld XS (Str.ofString "") ++ endS)).drop (bld XS (Str.ofString "")).length = cs endS := drop_at (cs_append _ _) (cs_length _)
  have hF := foll_end endS (List.mem_append_left _ he)
  show RowR (cs (bld XS (Str.ofString "") ++ endS)) (if (endS == Str.ofString " /* c") = true then .error ((bld XS (Str.ofString "")).length + 1) else .ok (rws XS (Str.ofString "")))
  by_cases hc : (endS == Str.ofString " /* c") = true
  · rw [if_pos hc, ← resX_err _ XS (Str.ofString "")]
    refine row_of (n := XS.length) (h0 ▸ rows_on (cs endS) _ hF XS (Str.ofString "") _ hl hX (.inr ⟨_, ?_, rfl⟩)) hn
    rw [hd, eq_of_beq hc, end_bad]
  · rw [if_neg hc, ← resX_ok XS (Str.ofString "")]
    refine row_of (n := XS.length) (h0 ▸ rows_on (cs endS) _ hF XS (Str.ofString "") _ hl hX (.inl ⟨(bld XS (Str.ofString "")).length + endS.length, ?_, .done ?_⟩)) hn
    · rw [hd, end_ok endS he (by simpa using hc)]
    · rw [cs_length, len_append]
      exact Nat.le_refl _
theorem full_some {XS : List Trip} {endS : Str} {w : Str × Int} (hX : GoodX XS) (hn : XS.length ≤ 1000) (he : endS ∈ ENDS ++ [Str.ofString " ;"]) (hw : w ∈ WRONG) : RowR (cs (fullT XS (some w) ++ endS)) (fullR XS endS (some w)) := by
  have h0 : (Str.ofString "").length = 0 := by decide +kernel
  have hl : cs (((bld XS (Str.ofString "") ++ Str.ofString " ") ++ w.1) ++ endS) = cs (Str.ofString "") ++ (txt XS ++ (32 :: (cs w.1 ++ cs endS))) := by
    rw [cs_append, cs_append, cs_append, cs_bld, cs_space]; simp
  have hl2 : cs (((bld XS (Str.ofString "") ++ Str.ofString " ") ++ w.1) ++ endS) = cs (bld XS (Str.ofString "")) ++ (32 :: (cs w.1 ++ cs endS)) := by
    rw [cs_append, cs_append, cs_append, cs_space]; simp
  have hl3 : cs (((bld XS (Str.ofString "") ++ Str.ofString " ") ++ w.1) ++ endS) = cs (bld XS (Str.ofString "") ++ Str.ofString " ") ++ (cs w.1 ++ cs endS) := by
    rw [cs_append, cs_append]; simp
  have hlen : (bld XS (Str.ofString "") ++ Str.ofString " ").length = (bld XS (Str.ofString "")).length + 1 := by
    rw [len_append]; rfl
  have hF := foll_end endS he
  have hh := head_wrong w hw
  show RowR (cs (((bld XS (Str.ofString "") ++ Str.ofString " ") ++ w.1) ++ endS)) (.error ((bld XS (Str.ofString "")).length + 1 + w.2.toNat))
  rw [← resX_err _ XS (Str.ofString "")]
  refine row_of (n := XS.length) (h0 ▸ rows_on _ _ (.inr ⟨32, _, rfl, .inl rfl⟩) XS (Str.ofString "") _ hl hX (.inl ⟨(bld XS (Str.ofString "")).length + 1, ?_, ?_⟩)) hn
  · rw [drop_at hl2 (cs_length _), bl_blank (by decide), hh.2]
  · refine .bad ?_ ?_
    · have : 0 < (cs w.1).length := List.length_pos_iff.mpr hh.1
      rw [hl3, List.length_append, cs_length, hlen, List.length_append]
      omega
    · rw [drop_at hl3 ((cs_length _).trans hlen), wrong_at hw hF]
end Mine
end
section
open PySem PySem.W PyProof.Rows PySem.Calls
namespace Mine
theorem UpdF_app {d : Addr} {o : Obj} {l r : List (Addr × Obj)} {g : Obj → List (Addr × Obj)} (h : ∀ p ∈ l, p.1 ≠ d) (U : UpdF d o r g) : UpdF d o (l ++ r) (fun o' => l ++ g o') := by
  induction l with
  | nil => exact U
  | cons p l ih => exact .tail (h p (.head _)) (ih fun q hq => h q (.tail _ hq))
theorem dis_ne {words led : List (Addr × Obj)} {d : Addr} {o : Obj} (h : ∀ q ∈ words, ∀ p ∈ led, p.1 ≠ q.1) (hm : (d, o) ∈ led) : ∀ q ∈ words, q.1 ≠ d := fun q hq => Ne.symm (h q hq _ hm)
theorem lt_ne {words led : List (Addr × Obj)} {d : Addr} {o : Obj} (h : ∀ q ∈ words, ∀ p ∈ led, p.1 < q.1) (hm : (d, o) ∈ led) : ∀ q ∈ words, q.1 ≠ d := fun q hq => Nat.ne_of_gt (h q hq _ hm)
theorem off_ne {led : List (Addr × Obj)} {d e : Addr} {o : Obj} (h : ∀ p ∈ led, p.1 ≠ e) (hm : (d, o) ∈ led) : e ≠ d := Ne.symm (h _ hm)
section
variable {w : World} {mean : ExcName → Option Value} {mg mb : Str → Option Value} {dp un : Nat} {gd : Option (List Code)} {cn : Str} {cs₁ : Scope} {a : Addr} {ccd : Value} {cl : List (Str × Addr)} {outer : List Env} {A₀ : Around} {base h₀ : Heap} {L : Addr} {m : Str → Option Value} {s : Shared} {Q E : Value → Shared → Prop} {nw : List (Addr × Obj)}
theorem one_upd {S D : Addr} {x y : Int} {n nD : Nat} {t1 t2 : Tok} {its : Array Value} {g : Obj → List (Addr × Obj)}
   (B : Below A₀ base outer h₀) (F : Fr h₀ L s.heap m) (X : (hd.heap_1 w.params).In h₀) (N : News h₀ L s.heap nw) (U : UpdF S (listOf #[.int x t1, .int y t2] n) nw g) (T : Top topProg LZ mean mg mb h₀) (hk : cs₁.kind = .function)
   (hdp : dp + 2 < recursionLimit) (hun : un + 20 < cLine)
   (hx : 0 ≤ x) (hy0 : 0 ≤ y) (hy : y < 2147483647) (hD : (D, listOf its nD) ∈ nw) (hDS : D ≠ S) (hs1 : 1 ≤ its.size) (hs2 : its.size ≤ 1000)
   (hret : ∀ (x' y' : Int) (n' : Nat) (t1' t2' : Tok) (k : Nat) (hk : k < its.size) (h' : Heap) (tk' : Nat), Fr h₀ L h' m → News h₀ L h' (g (listOf #[.int x' t1', .int y' t2'] n')) → 0 ≤ x' → 0 ≤ y' → y' < 2147483647 → Q its[k] { s with heap := h', toks := tk' }) :
   wpAny (model prg w) (ktrTop dp un gd cn cs₁ L a ccd cl outer) (call (.ref 133) [.ref S, .ref D]) Q E s := by
  obtain ⟨pre, post, rfl, hg, h1, h2⟩ := U.split
  have back : ∀ (o : Obj) (h : Heap), News h₀ L h ((S, o) :: (pre ++ post)) → News h₀ L h (pre ++ (S, o) :: post) := fun o h N p hp => N p (by
    rcases List.mem_append.mp hp with hp | hp
    · exact .tail _ (List.mem_append_left _ hp)
    · rcases List.mem_cons.mp hp with rfl | hp
      · exact .head _
      · exact .tail _ (List.mem_append_right _ hp))
  refine law_one_spec (news := pre ++ post) (nD := nD) (n := n) (t1 := t1) (t2 := t2) B F X (fun p hp => N p ?_) (fun p hp => ?_) T hk hdp hun hx hy0 hy ?_ hs1 hs2 fun x' y' n' t1' t2' k hk h' tk' F' N' a b c => ?_
  · rcases List.mem_cons.mp hp with rfl | hp
    · exact List.mem_append_right _ (.head _)
    · rcases List.mem_append.mp hp with hp | hp
      · exact List.mem_append_left _ hp
      · exact List.mem_append_right _ (.tail _ hp)
  · rcases List.mem_append.mp hp with hp | hp
    · exact h1 p hp
    · exact h2 p hp
  · rcases List.mem_append.mp hD with hp | hp
    · exact List.mem_append_left _ hp
    · rcases List.mem_cons.mp hp with hp | hp
      · exact absurd (congrArg Prod.fst hp) hDS
      · exact List.mem_append_right _ hp
  · exact hret x' y' n' t1' t2' k hk h' tk' F' (by rw [hg]; exact back _ _ N') a b c
theorem one_strs {S D : Addr} {x y : Int} {n nD : Nat} {t1 t2 : Tok} {its : Array Value} {g : Obj → List (Addr × Obj)} {ys : List Str}
   (B : Below A₀ base outer h₀) (F : Fr h₀ L s.heap m) (X : (hd.heap_1 w.params).In h₀) (N : News h₀ L s.heap nw) (U : UpdF S (listOf #[.int x t1, .int y t2] n) nw g) (T : Top topProg LZ mean mg mb h₀) (hk : cs₁.kind = .function)
   (hdp : dp + 2 < recursionLimit) (hun : un + 20 < cLine)
   (hx : 0 ≤ x) (hy0 : 0 ≤ y) (hy : y < 2147483647) (hD : (D, listOf its nD) ∈ nw) (hDS : D ≠ S) (hi : StrsAre its.toList ys) (hs1 : 1 ≤ ys.length) (hs2 : ys.length ≤ 1000) (hlen : ∀ z ∈ ys, z.length ≤ 40)
   (hret : ∀ (x' y' : Int) (n' : Nat) (t1' t2' : Tok) (z : Str) (tz : Tok) (h' : Heap) (tk' : Nat), z ∈ ys → z.length ≤ 40 → Fr h₀ L h' m → News h₀ L h' (g (listOf #[.int x' t1', .int y' t2'] n')) → 0 ≤ x' → 0 ≤ y' → y' < 2147483647 → Q (.str z tz) { s with heap := h', toks := tk' }) :
   wpAny (model prg w) (ktrTop dp un gd cn cs₁ L a ccd cl outer) (call (.ref 133) [.ref S, .ref D]) Q E s := by
  have hl : its.size = ys.length := by rw [← Array.length_toList, hi.length]
  refine one_upd B F X N U T hk hdp hun hx hy0 hy hD hDS (by omega) (by omega) fun x' y' n' t1' t2' k hk h' tk' F' N' a b c => ?_
  have hky : k < ys.length := by omega
  obtain ⟨t, ht⟩ := hi.get k ys[k] (List.getElem?_eq_getElem hky)
  rw [Array.getElem?_toList, Array.getElem?_eq_getElem hk] at ht
  rw [Option.some.inj ht]
  exact hret x' y' n' t1' t2' _ t h' tk' (List.getElem_mem hky) (hlen _ (List.getElem_mem hky)) F' N' a b c
theorem WrongL.get {news : List (Addr × Obj)} {l : List (Str × Int)} {vs : List Value} (h : WrongL news l vs) : vs.length = l.length ∧ ∀ (i : Nat) (e : Str × Int), l[i]? = some e → ∃ W t u, vs[i]? = some (.ref W) ∧ (W, tupO [.str e.1 t, .int e.2 u]) ∈ news := by
  induction h with
  | nil => exact ⟨rfl, fun i e he => by cases he⟩
  | cons h1 _ ih =>
    refine ⟨by rw [List.length_cons, List.length_cons, ih.1], fun i e he => ?_⟩
    cases i with
    | zero => cases he; exact ⟨_, _, _, rfl, h1⟩
    | succ i => exact ih.2 i e he
theorem words_len : ∀ p ∈ WORDS, p.1.length ≤ 40 ∧ 0 < p.1.length := by decide +kernel
theorem wrong_len : ∀ p ∈ WRONG, p.1.length ≤ 40 ∧ 0 < p.1.length ∧ 0 ≤ p.2 ∧ p.2 ≤ 8 := by decide +kernel
theorem one_words {S D : Addr} {x y : Int} {n nD : Nat} {t1 t2 : Tok} {vs : List Value} {g : Obj → List (Addr × Obj)} {words : List (Addr × Obj)}
   (hW : WordsL words WORDS vs) (hdis : ∀ q ∈ words, ∀ p ∈ nw, p.1 ≠ q.1) (hD : (D, listOf vs.toArray nD) ∈ words)
   (B : Below A₀ base outer h₀) (F : Fr h₀ L s.heap m) (X : (hd.heap_1 w.params).In h₀) (N : News h₀ L s.heap (words ++ nw)) (U : UpdF S (listOf #[.int x t1, .int y t2] n) nw g) (T : Top topProg LZ mean mg mb h₀) (hk : cs₁.kind = .function)
   (hdp : dp + 2 < recursionLimit) (hun : un + 20 < cLine)
   (hx : 0 ≤ x) (hy0 : 0 ≤ y) (hy : y < 2147483647)
   (hret : ∀ (x' y' : Int) (n' : Nat) (t1' t2' : Tok) (p : Str × Told) (W T : Addr) (u0 u1 u2 u3 : Tok) (h' : Heap) (tk' : Nat), p ∈ WORDS → p.1.length ≤ 40 → 0 < p.1.length → Fr h₀ L h' m →
     News h₀ L h' ((W, tupO [.str p.1 u0, .ref T]) :: (T, toldO p.2 u1 u2 u3) :: g (listOf #[.int x' t1', .int y' t2'] n')) → (∀ q ∈ nw, q.1 ≠ W) → (∀ q ∈ nw, q.1 ≠ T) → 0 ≤ x' → 0 ≤ y' → y' < 2147483647 → Q (.ref W) { s with heap := h', toks := tk' }) :
   wpAny (model prg w) (ktrTop dp un gd cn cs₁ L a ccd cl outer) (call (.ref 133) [.ref S, .ref D]) Q E s := by
  obtain ⟨pre, post, hnw, hg, h1, h2⟩ := U.split
  have hS : (S, listOf #[.int x t1, .int y t2] n) ∈ nw := by rw [hnw]; exact List.mem_append_right _ (.head _)
  have hl : vs.length = 25 := hW.length_eq
  refine one_upd B F X N (UpdF_app (dis_ne hdis hS) U) T hk hdp hun hx hy0 hy (List.mem_append_left _ hD) (fun q => hdis _ hD _ hS q.symm) (by simp [hl]) (by simp [hl]) fun x' y' n' t1' t2' k hk h' tk' F' N' a b c => ?_
  have hkw : k < WORDS.length := by
    have : k < vs.length := by simpa using hk
    rw [hl] at this
    exact this
  obtain ⟨W, T, u0, u1, u2, u3, e, m1, m2⟩ := hW.get k WORDS[k] (List.getElem?_eq_getElem hkw)
  rw [List.getElem_toArray]
  rw [List.getElem?_eq_getElem (by simpa using hk)] at e
  rw [Option.some.inj e]
  have hp := List.getElem_mem hkw
  refine hret x' y' n' t1' t2' _ W T u0 u1 u2 u3 h' tk' hp (words_len _ hp).1 (words_len _ hp).2 F' (fun q hq => N' q ?_) (fun q hq => hdis _ m1 q hq) (fun q hq => hdis _ m2 q hq) a b c
  rcases List.mem_cons.mp hq with rfl | hq
  · exact List.mem_append_left _ m1
  · rcases List.mem_cons.mp hq with rfl | hq
    · exact List.mem_append_left _ m2
    · exact List.mem_append_right _ hq
theorem one_wrong {S D : Addr} {x y : Int} {n nD : Nat} {t1 t2 : Tok} {vs : List Value} {g : Obj → List (Addr × Obj)} {words : List (Addr × Obj)}
   (hW : WrongL words WRONG vs) (hdis : ∀ q ∈ words, ∀ p ∈ nw, p.1 ≠ q.1) (hD : (D, listOf vs.toArray nD) ∈ words)
   (B : Below A₀ base outer h₀) (F : Fr h₀ L s.heap m) (X : (hd.heap_1 w.params).In h₀) (N : News h₀ L s.heap (words ++ nw)) (U : UpdF S (listOf #[.int x t1, .int y t2] n) nw g) (T : Top topProg LZ mean mg mb h₀) (hk : cs₁.kind = .function)
   (hdp : dp + 2 < recursionLimit) (hun : un + 20 < cLine)
   (hx : 0 ≤ x) (hy0 : 0 ≤ y) (hy : y < 2147483647)
   (hret : ∀ (x' y' : Int) (n' : Nat) (t1' t2' : Tok) (p : Str × Int) (W : Addr) (u0 u1 : Tok) (h' : Heap) (tk' : Nat), p ∈ WRONG → p.1.length ≤ 40 → 0 < p.1.length → 0 ≤ p.2 → p.2 ≤ 8 → Fr h₀ L h' m →
     News h₀ L h' ((W, tupO [.str p.1 u0, .int p.2 u1]) :: g (listOf #[.int x' t1', .int y' t2'] n')) → (∀ q ∈ nw, q.1 ≠ W) → 0 ≤ x' → 0 ≤ y' → y' < 2147483647 → Q (.ref W) { s with heap := h', toks := tk' }) :
   wpAny (model prg w) (ktrTop dp un gd cn cs₁ L a ccd cl outer) (call (.ref 133) [.ref S, .ref D]) Q E s := by
  obtain ⟨pre, post, hnw, hg, h1, h2⟩ := U.split
  have hS : (S, listOf #[.int x t1, .int y t2] n) ∈ nw := by rw [hnw]; exact List.mem_append_right _ (.head _)
  have hl : vs.length = 9 := hW.get.1
  refine one_upd B F X N (UpdF_app (dis_ne hdis hS) U) T hk hdp hun hx hy0 hy (List.mem_append_left _ hD) (fun q => hdis _ hD _ hS q.symm) (by simp [hl]) (by simp [hl]) fun x' y' n' t1' t2' k hk h' tk' F' N' a b c => ?_
  have hkw : k < WRONG.length := by
    have : k < vs.length := by simpa using hk
    rw [hl] at this
    exact this
  obtain ⟨W, u0, u1, e, m1⟩ := hW.get.2 k WRONG[k] (List.getElem?_eq_getElem hkw)
  rw [List.getElem_toArray]
  rw [List.getElem?_eq_getElem (by simpa using hk)] at e
  rw [Option.some.inj e]
  have hp := List.getElem_mem hkw
  refine hret x' y' n' t1' t2' _ W u0 u1 h' tk' hp (wrong_len _ hp).1 (wrong_len _ hp).2.1 (wrong_len _ hp).2.2.1 (wrong_len _ hp).2.2.2 F' (fun q hq => N' q ?_) (fun q hq => hdis _ m1 q hq) a b c
  rcases List.mem_cons.mp hq with rfl | hq
  · exact List.mem_append_left _ m1
  · exact List.mem_append_right _ hq
end
theorem word_glue (a x b : Str) : wordA ((cs ((a ++ x) ++ b)).drop ((a.length : Int)).toNat) ((a.length : Int)).toNat = wordA (cs x ++ cs b) a.length := by
  rw [cs_append, cs_append, Int.toNat_natCast, ← cs_length a, List.append_assoc, List.drop_left]
theorem hres_word {p : Str × Told} (_ : p ∈ WORDS) {a b : Str} (_ : a ∈ [Str.ofString "", Str.ofString "+", Str.ofString "a ", Str.ofString "))"]) (_ : b ∈ [Str.ofString "", Str.ofString " ", Str.ofString "\n", Str.ofString ";", Str.ofString ")", Str.ofString " 'a"]) : HRes (resW (wordA (cs p.1 ++ cs b) a.length)) := trivial
theorem hres_wrong {p : Str × Int} (_ : p ∈ WRONG) {a b : Str} (_ : a ∈ [Str.ofString "", Str.ofString "+", Str.ofString "a ", Str.ofString "))"]) (_ : b ∈ [Str.ofString "", Str.ofString " ", Str.ofString "\n", Str.ofString ";", Str.ofString ")", Str.ofString " 'a"]) : HRes (resW (wordA (cs p.1 ++ cs b) a.length)) := trivial
theorem foll_behind : ∀ b ∈ [Str.ofString "", Str.ofString " ", Str.ofString "\n", Str.ofString ";", Str.ofString ")", Str.ofString " 'a"], Foll (cs b) := by
  have h0 : cs (Str.ofString "") = [] := by decide +kernel
  have key : ∀ e : Str, (∃ c r, cs e = c :: r ∧ (c = 32 ∨ c = 10 ∨ c = 9 ∨ c = 59 ∨ c = 41)) → Foll (cs e) := fun e h => .inr h
  repeat' (first | exact List.forall_mem_nil _ | refine List.forall_mem_cons.mpr ⟨?_, ?_⟩)
  · exact .inl h0
  all_goals exact key _ ⟨_, _, rfl, by decide⟩
theorem told_word {p : Str × Told} (hp : p ∈ WORDS) {b : Str} (hb : b ∈ [Str.ofString "", Str.ofString " ", Str.ofString "\n", Str.ofString ";", Str.ofString ")", Str.ofString " 'a"]) (i : Nat) :
    hdD (resW (wordA (cs p.1 ++ cs b) i)) = .tuple [wordD ⟨p.2.1, cs p.1, (i : Int), p.2.2.1, p.2.2.2⟩, .int ((i : Int) + (p.1.length : Int))] := by
  rw [word_at (List.mem_append_left _ hp) (foll_behind b hb)]
  show Dat.tuple [_, .int _] = _
  rw [Int.natCast_add]
theorem told_bad {p : Str × Int} (hp : p ∈ WRONG) {b : Str} (hb : b ∈ [Str.ofString "", Str.ofString " ", Str.ofString "\n", Str.ofString ";", Str.ofString ")", Str.ofString " 'a"]) (i : Nat) :
    hdD (resW (wordA (cs p.1 ++ cs b) i)) = .tuple [.str (Str.ofString "refused"), .int ((i : Int) + p.2)] := by
  rw [wrong_at hp (foll_behind b hb)]
  show Dat.tuple [_, .int _] = _
  rw [Int.natCast_add, Int.toNat_of_nonneg (wrong_len p hp).2.2.1]
theorem words_okD : ∀ p ∈ WORDS2, okD p.2 = true ∧ PyData.strOk p.1 = true := by decide +kernel
theorem ok_pair {wd : Wd} {i : Int} (h : kqdOk 7 (wordD wd) = true) : kqdOk 8 (.tuple [wordD wd, .int i]) = true := by
  show ([wordD wd, .int i]).all (kqdOk 7) = true
  simp [h, kqdOk]
theorem ok_told {p : Str × Told} (hp : p ∈ WORDS) (i j : Nat) : kqdOk 8 (.tuple [wordD ⟨p.2.1, cs p.1, (i : Int), p.2.2.1, p.2.2.2⟩, .int ((i : Int) + (j : Int))]) = true :=
  ok_pair (ok_row (e := (Str.ofString "", p)) (words_okD p (List.mem_append_left _ hp)).1 (words_okD p (List.mem_append_left _ hp)).2 i 6)
end Mine
end
section
open PySem PySem.W PyProof.Rows PySem.Calls
namespace Mine
theorem mem_off {P a : Addr} {o : Obj} {ps : Array Value} {pre post : List (Addr × Obj)} (h : (a, o) ∈ pre ++ (P, tabObj ps) :: post) (hn : o.cls ≠ .none) : (a, o) ∈ pre ++ post := by
  rcases List.mem_append.mp h with h | h
  · exact List.mem_append_left _ h
  · rcases List.mem_cons.mp h with h | h
    · have e : o = tabObj ps := congrArg Prod.snd h
      exact absurd (by rw [e]) hn
    · exact List.mem_append_right _ h
theorem off_mem {P : Addr} {o : Obj} {pre post : List (Addr × Obj)} {q : Addr × Obj} (h : q ∈ pre ++ (P, o) :: post) (hn : q.1 ≠ P) : q ∈ pre ++ post := by
  rcases List.mem_append.mp h with h | h
  · exact List.mem_append_left _ h
  · rcases List.mem_cons.mp h with rfl | h
    · exact absurd rfl hn
    · exact List.mem_append_right _ h
theorem WordsL.off {P : Addr} {ps : Array Value} {pre post : List (Addr × Obj)} {l : List (Str × Told)} {vs : List Value} (h : WordsL (pre ++ (P, tabObj ps) :: post) l vs) : WordsL (pre ++ post) l vs := by
  induction h with
  | nil => exact .nil
  | cons h1 h2 _ ih => exact .cons (mem_off h1 (by intro q; cases q)) (mem_off h2 (by intro q; cases q)) ih
theorem WrongIs.off {P : Addr} {ps : Array Value} {pre post : List (Addr × Obj)} {v : Value} {r : Option (Str × Int)} (h : WrongIs (pre ++ (P, tabObj ps) :: post) v r) : WrongIs (pre ++ post) v r := by
  cases h with
  | none => exact .none
  | some h => exact .some (mem_off h (by intro q; cases q))
theorem back_news {g h : Heap} {L P : Addr} {o : Obj} {own pre post : List (Addr × Obj)} (N : News g L h ((P, o) :: (own ++ (pre ++ post)))) : News g L h (own ++ (pre ++ (P, o) :: post)) := fun p hp => N p (by
  rcases List.mem_append.mp hp with hp | hp
  · exact .tail _ (List.mem_append_left _ hp)
  · rcases List.mem_append.mp hp with hp | hp
    · exact .tail _ (List.mem_append_right _ (List.mem_append_left _ hp))
    · rcases List.mem_cons.mp hp with rfl | hp
      · exact .head _
      · exact .tail _ (List.mem_append_right _ (List.mem_append_right _ hp)))
theorem fore_news {g h : Heap} {L P : Addr} {o : Obj} {pre post : List (Addr × Obj)} (N : News g L h (pre ++ (P, o) :: post)) : News g L h ((P, o) :: (pre ++ post)) := fun p hp => N p (by
  rcases List.mem_cons.mp hp with rfl | hp
  · exact List.mem_append_right _ (.head _)
  · rcases List.mem_append.mp hp with hp | hp
    · exact List.mem_append_left _ hp
    · exact List.mem_append_right _ (.tail _ hp))
theorem split_ne {P : Addr} {pre post : List (Addr × Obj)} (h1 : ∀ p ∈ pre, p.1 ≠ P) (h2 : ∀ p ∈ post, p.1 ≠ P) : ∀ p ∈ pre ++ post, p.1 ≠ P := fun p hp => (List.mem_append.mp hp).elim (h1 p) (h2 p)
theorem own_ne {P : Addr} {o : Obj} {own pre post : List (Addr × Obj)} (h : ∀ q ∈ own, ∀ p ∈ pre ++ post, p.1 < q.1) (h2 : ∀ q ∈ own, q.1 ≠ P) : ∀ q ∈ own, ∀ p ∈ pre ++ (P, o) :: post, p.1 ≠ q.1 := fun q hq p hp => by
  rcases List.mem_append.mp hp with hp | hp
  · exact Nat.ne_of_lt (h q hq p (List.mem_append_left _ hp))
  · rcases List.mem_cons.mp hp with rfl | hp
    · exact Ne.symm (h2 q hq)
    · exact Nat.ne_of_lt (h q hq p (List.mem_append_right _ hp))
section
variable {w : World} {mean : ExcName → Option Value} {mg mb : Str → Option Value} {dp un : Nat} {gd : Option (List Code)} {cn : Str} {cs₁ : Scope} {a : Addr} {ccd : Value} {cl : List (Str × Addr)} {outer : List Env} {A₀ : Around} {base h₀ : Heap} {L : Addr} {m : Str → Option Value} {s : Shared} {Q E : Value → Shared → Prop} {nw : List (Addr × Obj)}
theorem sign_right_upd {ahead text : Str} {t1 t2 : Tok} {ps : Array Value} {g : Obj → List (Addr × Obj)} {rest0 : List (Addr × Obj)}
   (B : Below A₀ base outer h₀) (F : Fr h₀ L s.heap m) (X : (hd.heap_1 w.params).In h₀) (N : News h₀ L s.heap nw) (U : UpdF 168 (tabObj ps) nw g) (T : Top topProg LZ mean mg mb h₀) (hk : cs₁.kind = .function)
   (hdp : dp + 20 < recursionLimit) (hun : un + 400 < cLine) (XB : (hd.heap_1 w.params).In base) (TB : Top topProg LZ mean mg mb base) (CB : CodeHd base 172 168)
   (hT : TabOk 138 22 (Str.ofString "_law_sign_right.<locals>.<lambda>") ps rest0) (hr0 : ∀ q ∈ rest0, q ∈ nw) (hn0 : ∀ q ∈ rest0, q.1 ≠ 168) (hl : ahead.length ≤ 1000) (hl2 : text.length ≤ 1000) (h0 : 0 < text.length) (hok : PyData.strOk text = true)
   (hret : ∀ (ps' : Array Value) (own : List (Addr × Obj)) (g' h' : Heap) (tk' : Nat), KtsTurn (outer.filterMap (·.frame)) h₀ g' → Below A₀ base outer g' → (hd.heap_1 w.params).In g' → Top topProg LZ mean mg mb g' → Fr g' L h' m → News g' L h' (own ++ g (tabObj ps')) → TabOk 138 22 (Str.ofString "_law_sign_right.<locals>.<lambda>") ps' (own ++ rest0) → (∀ q ∈ own, ∀ p ∈ nw, p.1 ≠ q.1) → Q (.bool true) { s with heap := h', toks := tk' }) :
   wpAny (model prg w) (ktrTop dp un gd cn cs₁ L a ccd cl outer) (call (.ref 173) [.str ahead t1, .str text t2]) Q E s := by
  obtain ⟨pre, post, rfl, hg, h1, h2⟩ := U.split
  refine sign_right_spec (ps := ps) B F X (fore_news N) T hk hdp hun XB TB CB (split_ne h1 h2) hl hl2 h0 hok hT (fun q hq => off_mem (hr0 q hq) (hn0 q hq)) fun ps' own g' h' tk' t b f n to lt ne => ?_
  exact hret ps' own g' h' tk' t b (XB.keeps b.stays) (TB.keeps b.stays) f (by rw [hg]; exact back_news n) to (own_ne lt ne)
theorem rows_right_upd {ps : Array Value} {Dw Dg : Addr} {ws gs : Array Value} {kw kg : Nat} {wv : Value} {endS : Str} {te : Tok} {XS : List Trip} {wr : Option (Str × Int)} {g : Obj → List (Addr × Obj)} {rest0 : List (Addr × Obj)}
   (B : Below A₀ base outer h₀) (F : Fr h₀ L s.heap m) (X : (hd.heap_1 w.params).In h₀) (N : News h₀ L s.heap nw) (U : UpdF 182 (tabObj ps) nw g) (T : Top topProg LZ mean mg mb h₀) (hk : cs₁.kind = .function)
   (hdp : dp + 40 < recursionLimit) (hun : un + 800 < cLine) (XB : (hd.heap_1 w.params).In base) (TB : Top topProg LZ mean mg mb base) (CB : CodeHd base 186 182)
   (hT : TabOk 161 22 (Str.ofString "_law_rows_right.<locals>.<lambda>") ps rest0) (hr0 : ∀ q ∈ rest0, q ∈ nw) (hn0 : ∀ q ∈ rest0, q.1 ≠ 182)
   (hw : (Dw, listOf ws kw) ∈ nw) (hws : ws.size ≤ 6) (hg : (Dg, listOf gs kg) ∈ nw) (hW : WordsL nw (XS.map (·.2)) ws.toList) (hG : StrsAre gs.toList (XS.map (·.1))) (hwr : WrongIs nw wv wr)
   (hk0 : ∀ x k, wr = some (x, k) → 0 ≤ k ∧ k ≤ 8 ∧ x.length ≤ 32) (hel : endS.length ≤ 32) (hok : ∀ e ∈ XS, okD e.2.2 = true ∧ PyData.strOk e.2.1 = true) (hp : RowR (cs (fullT XS wr ++ endS)) (fullR XS endS wr))
   (hX : ∀ e ∈ XS, e.1.length ≤ 32 ∧ e.2.1.length ≤ 32)
   (hret : ∀ (ps' : Array Value) (own : List (Addr × Obj)) (g' h' : Heap) (tk' : Nat), KtsTurn (outer.filterMap (·.frame)) h₀ g' → Below A₀ base outer g' → (hd.heap_1 w.params).In g' → Top topProg LZ mean mg mb g' → Fr g' L h' m → News g' L h' (own ++ g (tabObj ps')) → TabOk 161 22 (Str.ofString "_law_rows_right.<locals>.<lambda>") ps' (own ++ rest0) → (∀ q ∈ own, ∀ p ∈ nw, p.1 ≠ q.1) → Q (.bool true) { s with heap := h', toks := tk' }) :
   wpAny (model prg w) (ktrTop dp un gd cn cs₁ L a ccd cl outer) (call (.ref 187) [.ref Dw, .ref Dg, wv, .str endS te]) Q E s := by
  obtain ⟨pre, post, rfl, hgg, h1, h2⟩ := U.split
  refine rows_right_spec (ps := ps) B F X (fore_news N) T hk hdp hun XB TB CB (split_ne h1 h2) hT (fun q hq => off_mem (hr0 q hq) (hn0 q hq)) (mem_off hw (by intro q; cases q)) hws (mem_off hg (by intro q; cases q)) hW.off hG hwr.off hk0 hel hok hp hX fun ps' own g' h' tk' t b f n to lt ne => ?_
  exact hret ps' own g' h' tk' t b (XB.keeps b.stays) (TB.keeps b.stays) f (by rw [hgg]; exact back_news n) to (own_ne lt ne)
end
end Mine
end
section
open PySem PySem.W PyProof.Rows PySem.Calls
namespace Mine
def TripAt (rest : List (Addr × Obj)) (v : Value) : Prop :=
  ∃ (R Du : Addr) (x : Str) (k : Int) (t1 t2 : Tok) (d : Dat), v = .ref R ∧ (R, tupO [.str x t1, .int k t2, .ref Du]) ∈ rest ∧ x.length ≤ 1000 ∧ 0 ≤ k ∧ k < x.length ∧ DatIn rest (.ref Du) d ∧ hdD (resW (wordA ((cs x).drop k.toNat) k.toNat)) = d ∧ kqdOk 8 d = true
@[elab_as_elim] theorem TripAt.elim {rest : List (Addr × Obj)} {P : Value → Prop} {v : Value} (h : TripAt rest v)
    (k : ∀ (R Du : Addr) (x : Str) (k : Int) (t1 t2 : Tok) (d : Dat), (R, tupO [.str x t1, .int k t2, .ref Du]) ∈ rest → x.length ≤ 1000 → 0 ≤ k → k < x.length → DatIn rest (.ref Du) d → hdD (resW (wordA ((cs x).drop k.toNat) k.toNat)) = d → kqdOk 8 d = true → P (.ref R)) : P v := by
  obtain ⟨R, Du, x, i, t1, t2, d, rfl, h1, h2, h3, h4, h5, h6, h7⟩ := h
  exact k R Du x i t1 t2 d h1 h2 h3 h4 h5 h6 h7
theorem trips_at {rest nws : List (Addr × Obj)} (_ : ∀ q ∈ rest, q ∈ nws) {l : List Value} {i : Nat} {v : Value} (hv : l.toArray[i]? = some v) (h : ∀ v ∈ l, TripAt rest v) : TripAt rest v := h v (by simpa using Array.mem_of_getElem? hv)
theorem trip_bad {rest : List (Addr × Obj)} {R Du : Addr} {x : Str} {k i : Int} {t1 t2 t3 t4 : Tok} (h1 : (R, tupO [.str x t1, .int k t2, .ref Du]) ∈ rest) (h2 : (Du, tupO [.str (Str.ofString "refused") t3, .int i t4]) ∈ rest) (hl : x.length ≤ 1000 ∧ 0 ≤ k ∧ k < x.length)
    (hd : hdD (resW (wordA ((cs x).drop k.toNat) k.toNat)) = .tuple [.str (Str.ofString "refused"), .int i]) : TripAt rest (.ref R) :=
  ⟨R, Du, x, k, t1, t2, _, rfl, h1, hl.1, hl.2.1, hl.2.2, .tuple (n := 0) h2 (.cons (.str _ _) (.cons (.int _ _) .nil)), hd, ok_no⟩
theorem trip_ok {rest : List (Addr × Obj)} {R Du W : Addr} {x : Str} {k i : Int} {t1 t2 t4 u1 u2 u3 u4 u5 : Tok} {wd : Wd} (h1 : (R, tupO [.str x t1, .int k t2, .ref Du]) ∈ rest) (h2 : (Du, tupO [.ref W, .int i t4]) ∈ rest) (h3 : (W, wordO wd u1 u2 u3 u4 u5) ∈ rest) (hl : x.length ≤ 1000 ∧ 0 ≤ k ∧ k < x.length)
    (hd : hdD (resW (wordA ((cs x).drop k.toNat) k.toNat)) = .tuple [wordD wd, .int i]) (hk : kqdOk 7 (wordD wd) = true) : TripAt rest (.ref R) :=
  ⟨R, Du, x, k, t1, t2, _, rfl, h1, hl.1, hl.2.1, hl.2.2, .tuple (n := 0) h2 (.cons (word_dat h3) (.cons (.int _ _) .nil)), hd, by
    show ([wordD wd, .int i]).all (kqdOk 7) = true
    simp [hk, kqdOk]⟩
def J2 (rest : List (Addr × Obj)) (cT cA : Addr) (p1 : Array Value) (m₀ : Str → Option Value) (_i : Nat) (_g : Heap) (m : Str → Option Value) (nw : List (Addr × Obj)) : Prop :=
  ∃ (u : Option Value) (oc oa : Obj) (v va : Option Value) (p3 : Array Value) (nws : List (Addr × Obj)), m = (fun z => if z = Str.ofString "due" then u else m₀ z) ∧ nw = TLs cT cA oc oa p1 #[] p3 nws ∧ oc.data = .cell v ∧ oa.data = .cell va ∧ TabOk 169 22 QT p3 nws ∧ (∀ q ∈ rest, q ∈ nws) ∧ OffT cT cA nws
@[elab_as_elim] theorem J2.elim {rest : List (Addr × Obj)} {cT cA : Addr} {p1 : Array Value} {m₀ : Str → Option Value} {i : Nat} {g : Heap} {P : (Str → Option Value) → List (Addr × Obj) → Prop} {m : Str → Option Value} {nw : List (Addr × Obj)} (h : J2 rest cT cA p1 m₀ i g m nw)
    (k : ∀ (u : Option Value) (oc oa : Obj) (v va : Option Value) (p3 : Array Value) (nws : List (Addr × Obj)), oc.data = .cell v → oa.data = .cell va → TabOk 169 22 QT p3 nws → (∀ q ∈ rest, q ∈ nws) → OffT cT cA nws → P (fun z => if z = Str.ofString "due" then u else m₀ z) (TLs cT cA oc oa p1 #[] p3 nws)) : P m nw := by
  obtain ⟨u, oc, oa, v, va, p3, nws, rfl, rfl, a, b, c, d, e⟩ := h
  exact k u oc oa v va p3 nws a b c d e
theorem J2.start {rest nws : List (Addr × Obj)} {cT cA : Addr} {oc oa : Obj} {p1 : Array Value} {m₀ : Str → Option Value} {g : Heap} {v va : Option Value} (hoc : oc.data = .cell v) (hoa : oa.data = .cell va) (hr : ∀ q ∈ rest, q ∈ nws) (hO : OffT cT cA nws) : J2 rest cT cA p1 m₀ 0 g m₀ (TLs cT cA oc oa p1 #[] #[] nws) :=
  ⟨m₀ (Str.ofString "due"), oc, oa, v, va, #[], nws, fun_of fun _ _ => rfl, rfl, hoc, hoa, .inl rfl, hr, hO⟩
theorem told2_end {A₀ : Around} {base g g' h' : Heap} {outer : List Env} {L cT cA I f : Addr} {rest own own2 nws : List (Addr × Obj)} {m₀ m' : Str → Option Value} {s : Shared} {tk i : Nat} {oI of oc oc₀ oc₁ oa oa₀ oa₁ : Obj} {v va : Option Value} {p1 p3 p3₀ p3₁ : Array Value}
    (hT : KtsTurn (outer.filterMap (·.frame)) g g') (hB : Below A₀ base outer g') (F : Fr g' L h' m') (hm' : ∀ z, z ≠ Str.ofString "due" → m' z = m₀ z) (N : News g' L h' (own2 ++ (f, of) :: (own ++ (I, oI) :: TLs cT cA oc oa p1 #[] p3 nws))) (hoc : oc.data = .cell v) (hoa : oa.data = .cell va)
    (ht : TabOk 169 22 QT p3 (own ++ nws)) (hr : ∀ q ∈ rest, q ∈ nws) (hO : OffT cT cA nws) (hneI : ∀ p ∈ TLs cT cA oc₀ oa₀ p1 #[] p3₀ nws, p.1 ≠ I) (hd : ∀ x ∈ own, ∀ p ∈ (I, oI) :: TLs cT cA oc₁ oa₁ p1 #[] p3₁ nws, p.1 < x.1) :
    ForEnd A₀ base outer L (J2 rest cT cA p1 m₀ (i + 1)) (I, oI) g s { s with heap := h', toks := tk } := by
  have hd' : ∀ x ∈ own, ∀ p ∈ (I, oI) :: TLs cT cA oc₁ oa₁ p1 #[] p3₁ nws, p.1 ≠ x.1 := fun x hx p hp => Nat.ne_of_lt (hd x hx p hp)
  refine ForEnd.intro hT hB F (own_front (fun p hp => N p (List.mem_append_right _ (.tail _ hp)))) (fun p hp => ?_) ⟨m' (Str.ofString "due"), oc, oa, v, va, p3, own ++ nws, fun_of hm', rfl, hoc, hoa, ht, fun q hq => List.mem_append_right _ (hr q hq), hO.app hd'⟩
  rcases List.mem_cons.mp hp with rfl | hp
  · exact hneI (cT, oc₀) (.head _)
  · rcases List.mem_cons.mp hp with rfl | hp
    · exact hneI (cA, oa₀) (.tail _ (.head _))
    · rcases List.mem_cons.mp hp with rfl | hp
      · exact hneI (168, tabObj p1) (.tail _ (.tail _ (.head _)))
      · rcases List.mem_cons.mp hp with rfl | hp
        · exact hneI (182, tabObj #[]) (.tail _ (.tail _ (.tail _ (.head _))))
        · rcases List.mem_cons.mp hp with rfl | hp
          · exact hneI (189, tabObj p3₀) (.tail _ (.tail _ (.tail _ (.tail _ (.head _)))))
          · rcases List.mem_append.mp hp with hp | hp
            · exact Ne.symm (hd' p hp _ (.head _))
            · exact hneI p (.tail _ (.tail _ (.tail _ (.tail _ (.tail _ hp)))))
theorem zip_fst : ∀ {GL : List Str} {WL : List (Str × Told)}, GL.length = WL.length → (GL.zip WL).map (·.1) = GL
  | [], [], _ => rfl
  | g :: GL, x :: WL, h => by
    simp only [List.zip_cons_cons, List.map_cons]
    rw [zip_fst (by simpa using h)]
theorem zip_snd : ∀ {GL : List Str} {WL : List (Str × Told)}, GL.length = WL.length → (GL.zip WL).map (·.2) = WL
  | [], [], _ => rfl
  | g :: GL, x :: WL, h => by
    simp only [List.zip_cons_cons, List.map_cons]
    rw [zip_snd (by simpa using h)]
theorem foll_gap : ∀ g ∈ GAPS, g ≠ Str.ofString "" → FollG g := by
  repeat' (first | exact List.forall_mem_nil _ | refine List.forall_mem_cons.mpr ⟨?_, ?_⟩)
  all_goals intro h
  all_goals first | exact absurd rfl h | exact ⟨_, _, rfl, by decide⟩
theorem goodX_of : ∀ {XS : List Trip}, (∀ e ∈ XS, e.2 ∈ WORDS2 ∧ e.1 ∈ GAPS) → (∀ e ∈ XS.tail, e.1 ≠ Str.ofString "") → GoodX XS
  | [], _, _ => trivial
  | e :: r, h1, h2 => ⟨(h1 e (.head _)).1, gap_ok _ (h1 e (.head _)).2, fun x hx => foll_gap _ (h1 x (.tail _ hx)).2 (h2 x hx), goodX_of (fun x hx => h1 x (.tail _ hx)) fun x hx => h2 x (List.mem_of_mem_tail hx)⟩
def EndOk (endS : Str) : Option (Str × Int) → Prop
  | none => endS ∈ ENDS
  | some w => w ∈ WRONG ∧ endS ∈ ENDS ++ [Str.ofString " ;"]
theorem gaps_len : ∀ g ∈ GAPS, g.length ≤ 32 := by decide +kernel
theorem words2_len : ∀ p ∈ WORDS2, p.1.length ≤ 32 := by decide +kernel
theorem ends_len : ∀ g ∈ ENDS ++ [Str.ofString " ;"], g.length ≤ 32 := by decide +kernel
theorem wrong_len2 : ∀ p ∈ WRONG, p.1.length ≤ 32 := by decide +kernel
theorem upd_mem {d : Addr} {o : Obj} {nw : List (Addr × Obj)} {g : Obj → List (Addr × Obj)} (U : UpdF d o nw g) : (d, o) ∈ nw := by
  obtain ⟨pre, post, rfl, _⟩ := U.split
  exact List.mem_append_right _ (.head _)
theorem off_app {d : Addr} {o : Obj} {own rest nw : List (Addr × Obj)} (h : ∀ q ∈ rest, q.1 ≠ d) (hd : ∀ q ∈ own, ∀ p ∈ nw, p.1 ≠ q.1) (hm : (d, o) ∈ nw) : ∀ q ∈ own ++ rest, q.1 ≠ d := fun q hq => by
  rcases List.mem_append.mp hq with hq | hq
  · exact Ne.symm (hd q hq _ hm)
  · exact h q hq
section
variable {w : World} {mean : ExcName → Option Value} {mg mb : Str → Option Value} {dp un : Nat} {gd : Option (List Code)} {cn : Str} {cs₁ : Scope} {a : Addr} {ccd : Value} {cl : List (Str × Addr)} {outer : List Env} {A₀ : Around} {base h₀ : Heap} {L : Addr} {m : Str → Option Value} {s : Shared} {Q E : Value → Shared → Prop} {nw : List (Addr × Obj)}
theorem rows_zip {ps : Array Value} {Dw Dg : Addr} {ws gs : Array Value} {kw kg : Nat} {wv : Value} {endS : Str} {te : Tok} {WL : List (Str × Told)} {GL : List Str} {wr : Option (Str × Int)} {g : Obj → List (Addr × Obj)} {rest0 : List (Addr × Obj)}
   (B : Below A₀ base outer h₀) (F : Fr h₀ L s.heap m) (X : (hd.heap_1 w.params).In h₀) (N : News h₀ L s.heap nw) (U : UpdF 182 (tabObj ps) nw g) (T : Top topProg LZ mean mg mb h₀) (hk : cs₁.kind = .function)
   (hdp : dp + 40 < recursionLimit) (hun : un + 800 < cLine) (XB : (hd.heap_1 w.params).In base) (TB : Top topProg LZ mean mg mb base) (CB : CodeHd base 186 182)
   (hT : TabOk 161 22 QR ps rest0) (hr0 : ∀ q ∈ rest0, q ∈ nw) (hn0 : ∀ q ∈ rest0, q.1 ≠ 182)
   (hw : (Dw, listOf ws kw) ∈ nw) (hg : (Dg, listOf gs kg) ∈ nw) (hW : WordsL nw WL ws.toList) (hG : StrsAre gs.toList GL) (hwr : WrongIs nw wv wr) (hlen : GL.length = WL.length) (hn : WL.length ≤ 6)
   (h1 : ∀ e ∈ GL.zip WL, e.2 ∈ WORDS2 ∧ e.1 ∈ GAPS) (h2 : ∀ e ∈ (GL.zip WL).tail, e.1 ≠ Str.ofString "") (he : EndOk endS wr)
   (hret : ∀ (ps' : Array Value) (own : List (Addr × Obj)) (g' h' : Heap) (tk' : Nat), KtsTurn (outer.filterMap (·.frame)) h₀ g' → Below A₀ base outer g' → (hd.heap_1 w.params).In g' → Top topProg LZ mean mg mb g' → Fr g' L h' m → News g' L h' (own ++ g (tabObj ps')) → TabOk 161 22 QR ps' (own ++ rest0) → (∀ q ∈ own, ∀ p ∈ nw, p.1 ≠ q.1) → (∀ q ∈ own ++ rest0, q.1 ≠ 182) → Q (.bool true) { s with heap := h', toks := tk' }) :
   wpAny (model prg w) (ktrTop dp un gd cn cs₁ L a ccd cl outer) (call (.ref 187) [.ref Dw, .ref Dg, wv, .str endS te]) Q E s := by
  have hz : (GL.zip WL).length = WL.length := by rw [List.length_zip, hlen]; omega
  have hgx := goodX_of h1 h2
  have hws : ws.size ≤ 6 := by
    have := hW.length_eq
    rw [Array.length_toList] at this
    omega
  refine rows_right_upd (XS := GL.zip WL) (wr := wr) B F X N U T hk hdp hun XB TB CB hT hr0 hn0 hw hws hg (by rw [zip_snd hlen]; exact hW) (by rw [zip_fst hlen]; exact hG) hwr ?_ ?_ (fun e he => words_okD e.2 (h1 e he).1) ?_ (fun e he => ⟨gaps_len _ (h1 e he).2, words2_len _ (h1 e he).1⟩) fun ps' own g' h' tk' t b x tt f n to d => hret ps' own g' h' tk' t b x tt f n to d (off_app hn0 d (upd_mem U))
  · intro x k e
    subst e
    have := wrong_len _ he.1
    exact ⟨this.2.2.1, this.2.2.2, wrong_len2 _ he.1⟩
  · cases wr with
    | none => exact ends_len _ (List.mem_append_left _ he)
    | some w => exact ends_len _ he.2
  · cases wr with
    | none => exact full_none hgx (by omega) he
    | some w => exact full_some hgx (by omega) he.2 he.1
end
theorem final_split {g h : Heap} {L : Addr} {led news : List (Addr × Obj)} {p1 p2 p3 : Array Value} (N : News g L h led) (h1 : (168, tabObj p1) ∈ led) (h2 : (182, tabObj p2) ∈ led) (h3 : (189, tabObj p3) ∈ led) (hn : ∀ q ∈ news, q ∈ led) :
    ∃ own, News g L h ((168, tabObj p1) :: (182, tabObj p2) :: (189, tabObj p3) :: (own ++ news)) ∧ (∀ q ∈ led, q.1 ≠ 168 → q.1 ≠ 182 → q.1 ≠ 189 → q ∈ own ++ news) ∧ (∀ q ∈ own, q.1 ≠ 168 ∧ q.1 ≠ 182 ∧ q.1 ≠ 189) ∧ (∀ q ∈ own, ∀ p ∈ news, p.1 ≠ q.1) := by
  classical
  refine ⟨led.filter fun q => decide (q.1 ≠ 168 ∧ q.1 ≠ 182 ∧ q.1 ≠ 189 ∧ ∀ p ∈ news, p.1 ≠ q.1), fun q hq => N q ?_, fun q hq a b c => ?_, fun q hq => ?_, fun q hq => ?_⟩
  · rcases List.mem_cons.mp hq with rfl | hq
    · exact h1
    · rcases List.mem_cons.mp hq with rfl | hq
      · exact h2
      · rcases List.mem_cons.mp hq with rfl | hq
        · exact h3
        · rcases List.mem_append.mp hq with hq | hq
          · exact (List.mem_filter.mp hq).1
          · exact hn q hq
  · by_cases hx : ∀ p ∈ news, p.1 ≠ q.1
    · exact List.mem_append_left _ (List.mem_filter.mpr ⟨hq, decide_eq_true ⟨a, b, c, hx⟩⟩)
    · refine List.mem_append_right _ ?_
      have hx : ∃ p ∈ news, p.1 = q.1 := by
        apply Classical.byContradiction
        intro hc
        exact hx fun p hp e => hc ⟨p, hp, e⟩
      obtain ⟨p, hp, e⟩ := hx
      have e1 := (N q hq).1
      have e2 := (N p (hn p hp)).1
      rw [e, e1] at e2
      have e3 : q = p := Prod.ext e.symm (Option.some.inj e2)
      rw [e3]
      exact hp
  · have := of_decide_eq_true (List.mem_filter.mp hq).2
    exact ⟨this.1, this.2.1, this.2.2.1⟩
  · have := of_decide_eq_true (List.mem_filter.mp hq).2
    exact this.2.2.2
theorem tab_final {ln col : Nat} {qual : Str} {ps : Array Value} {r led own news : List (Addr × Obj)} (h : TabOk ln col qual ps r) (hs : ∀ q ∈ led, q.1 ≠ 168 → q.1 ≠ 182 → q.1 ≠ 189 → q ∈ own ++ news) (hr : ∀ x ∈ r, x ∈ led) (o1 : ∀ x ∈ r, x.1 ≠ 168) (o2 : ∀ x ∈ r, x.1 ≠ 182) (o3 : ∀ x ∈ r, x.1 ≠ 189) : TabOk ln col qual ps (own ++ news) :=
  h.mono fun x hx => hs x (hr x hx) (o1 x hx) (o2 x hx) (o3 x hx)
end Mine
end
section
open PySem PySem.W PyProof.Rows PySem.Calls
namespace Mine
theorem tail6 {a b c d e f : Addr × Obj} {own : List (Addr × Obj)} {S : Addr} (h : ∀ p ∈ a :: b :: c :: d :: e :: f :: own, p.1 < S) : ∀ q ∈ own, q.1 ≠ S := fun q hq => Nat.ne_of_lt (h q (.tail _ (.tail _ (.tail _ (.tail _ (.tail _ (.tail _ hq)))))))
theorem sub_lt {led own : List (Addr × Obj)} {e : Addr} (h : ∀ p ∈ led, p.1 < e) (hs : ∀ q ∈ own, q ∈ led) : ∀ q ∈ own, q.1 ≠ e := fun q hq => Nat.ne_of_lt (h q (hs q hq))
section
variable {w : World} {mean : ExcName → Option Value} {mg mb : Str → Option Value} {dp un : Nat} {gd : Option (List Code)} {cn : Str} {cs₁ : Scope} {a : Addr} {ccd : Value} {cl : List (Str × Addr)} {outer : List Env} {A₀ : Around} {base h₀ : Heap} {L : Addr} {m : Str → Option Value} {s : Shared} {Q E : Value → Shared → Prop} {nw : List (Addr × Obj)}
theorem take_upd {S : Addr} {x y top : Int} {n : Nat} {t1 t2 t3 : Tok} {g : Obj → List (Addr × Obj)}
   (B : Below A₀ base outer h₀) (F : Fr h₀ L s.heap m) (X : (hd.heap_1 w.params).In h₀) (N : News h₀ L s.heap nw) (U : UpdF S (listOf #[.int x t1, .int y t2] n) nw g) (T : Top topProg LZ mean mg mb h₀) (hk : cs₁.kind = .function)
   (hdp : dp + 1 < recursionLimit) (hun : un + 10 < cLine)
   (hx : 0 ≤ x) (hy0 : 0 ≤ y) (hy : y < 2147483647) (ht : 1 ≤ top) (ht2 : top ≤ 1000)
   (hret : ∀ (x' y' k : Int) (n' : Nat) (t1' t2' t3' : Tok) (h' : Heap) (tk' : Nat), 0 ≤ k → k < top → Fr h₀ L h' m → News h₀ L h' (g (listOf #[.int x' t1', .int y' t2'] n')) → 0 ≤ x' → 0 ≤ y' → y' < 2147483647 → Q (.int k t3') { s with heap := h', toks := tk' }) :
   wpAny (model prg w) (ktrTop dp un gd cn cs₁ L a ccd cl outer) (call (.ref 126) [.ref S, .int top t3]) Q E s := by
  obtain ⟨pre, post, rfl, hg, h1, h2⟩ := U.split
  have back : ∀ (o : Obj) (h : Heap), News h₀ L h ((S, o) :: (pre ++ post)) → News h₀ L h (pre ++ (S, o) :: post) := fun o h N p hp => N p (by
    rcases List.mem_append.mp hp with hp | hp
    · exact .tail _ (List.mem_append_left _ hp)
    · rcases List.mem_cons.mp hp with rfl | hp
      · exact .head _
      · exact .tail _ (List.mem_append_right _ hp))
  refine law_take_spec (news := pre ++ post) (n := n) (t1 := t1) (t2 := t2) B F X (fun p hp => N p ?_) (fun p hp => ?_) T hk hdp hun hx hy0 hy ht ht2 fun x' y' k n' t1' t2' t3' h' tk' a b c d e F' N' => ?_
  · rcases List.mem_cons.mp hp with rfl | hp
    · exact List.mem_append_right _ (.head _)
    · rcases List.mem_append.mp hp with hp | hp
      · exact List.mem_append_left _ hp
      · exact List.mem_append_right _ (.tail _ hp)
  · rcases List.mem_append.mp hp with hp | hp
    · exact h1 p hp
    · exact h2 p hp
  · exact hret x' y' k n' t1' t2' t3' h' tk' d e F' (by rw [hg]; exact back _ _ N') a b c
end
end Mine
end
section
open PySem PySem.W PyProof.Rows PySem.Calls
namespace Mine


section
variable {w : World} {mean : ExcName → Option Value} {mg mb : Str → Option Value} {dp un : Nat} {gd : Option (List Code)} {cn : Str} {cs₁ : Scope} {a : Addr} {ccd : Value} {cl : List (Str × Addr)} {outer : List Env} {A₀ : Around} {base h₀ : Heap} {L : Addr} {m : Str → Option Value} {s : Shared} {Q E : Value → Shared → Prop} {news : List (Addr × Obj)}

theorem words_P1_1 : Flush := by
  (try w_top off)
  k_with_none
  k_with "mine k_ne" => (refine neN ?_; (try dsimp only); first | (refine Nat.ne_of_lt ?_; (repeat (first | exact Nat.lt_add_one _ | refine Nat.lt.step ?_)); done) | (refine Nat.ne_of_gt ?_; (repeat (first | exact Nat.lt_add_one _ | refine Nat.lt.step ?_)); done) | omega)
  k_with "mine spliced" => (k_here; with_reducible (first | refine args_s8 ?_ | refine args_s4 ?_ | refine args_s2 ?_ | refine args_s1 ?_ | refine args_i1 ?_))
  k_with "mine ktr_room" => ((try dsimp only [ktrTop, Around.deeper]); (try simp only [depth_under_make, depth_under_kw, depth_in1, depth_deeper, depth_caller, depth_mark]); (try dsimp only [ktrTop]); first | ((simp only [Nat.add_assoc]); exact room_le (by assumption) (by rfl)) | omega)
  k_with "mine ktr_units" => ((try dsimp only [ktrTop, Around.deeper]); (try simp only [units_in1, units_deeper, Around.mark_units, units_caller]); (try dsimp only [ktrTop]); first | ((simp only [Nat.add_assoc]); exact room_le (by assumption) (by rfl)) | omega)
  k_with "mine exec Raise some none" => (k_here; k_dflt (refine' raise_fault ?hhz1 ?_; (case hhz1 => first | exact rfl | assumption); k_whole))
  k_with "mine call ref" => (k_here; (with_reducible show wpAny _ _ (call (Value.ref 45) [_, _]) _ _ _); k_dflt (refine' fault_make ?k1z2 ?k2z2 ?k3z2 ?k4z2 ?k5z2 ?kKz2 ?kdz2 ?kuz2 ?_; (case k1z2 => k_asm); (case k2z2 => k_asm); (case k3z2 => k_asm); (case k4z2 => k_asm); (case k5z2 => k_asm); (case kKz2 => first | exact rfl | assumption); (case kdz2 => ktr_room); (case kuz2 => ktr_units)); intro h'q9 tk'q9 e'q9 t'q9 d'q9 od'q9 F'q9 hs'q9 N'q9 ne1'q9 ne2'q9; (refine ⟨_, _, _, rfl, (N'q9 _ (.head _)).1, rfl, rfl, rfl, Frag.In.keeps (by k_asm) (Fr.keep F'q9), ?_⟩); (try dsimp only))
  k_with "mine leaving ref" => (k_here; (refine' leave_onF ?k1z3 ?k2z3 ?k3z3 ?k4z3 ?_; (case k3z3 => assumption); (case k1z3 => assumption); (case k2z3 => assumption); (case k4z3 => exact fun q hq => (News.mk (by k_asm) q hq).2.2); intro h'q9 R'q9; (try dsimp only)))
  k_with "mine leaving ref" => (k_here; (refine' leave_raiseF ?k1z4 ?k2z4 ?k3z4 ?k4z4 ?k5z4 ?k6z4 ?_; (case k1z4 => assumption); (case k2z4 => assumption); (case k3z4 => assumption); (case k4z4 => assumption); (case k5z4 => assumption); (case k6z4 => assumption); intro h'q9 R'q9; (try dsimp only)))
  k_with "mine binaryOp Mult int int" => (k_here; refine' mul_small ?_ ?h1z5 ?h2z5; rotate_left; omega; omega)
  exact trivial
set_option maxRecDepth 100000 in
set_option maxHeartbeats 8000000 in
theorem pool_spec {l : Addr} {vs : List Value} {ns : List Int}
   (B : Below A₀ base outer h₀) (F : Fr h₀ L s.heap m) (X : (hd.heap_1 w.params).In h₀) (N : News h₀ L s.heap news) (T : Top topProg LZ mean mg mb h₀) (hk : cs₁.kind = .function)
   (hdp : dp + 1 < recursionLimit) (hun : un + 10 < cLine)
   (hl : h₀.IsList l vs.toArray) (hi : IntsAre vs ns) (hn : ns.length ≤ 63)
   (hret : ∀ (S : Addr) (x y : Int) (n : Nat) (t1 t2 : Tok) (h' : Heap) (tk' : Nat), Fr h₀ L h' m → News h₀ L h' ((S, listOf #[.int x t1, .int y t2] n) :: news) → (∀ p ∈ news, p.1 < S) → 0 ≤ x → 0 ≤ y → y < 2147483647 → Q (.ref S) { s with heap := h', toks := tk' }) :
   wpAny (model prg w) (ktrTop dp un gd cn cs₁ L a ccd cl outer) (call (.ref 119) [.ref l]) Q E s := by
  refine wpAny_call ?_
  k_dflt cell_enter
  skip
  rename Fr _ _ _ _ => F2
  have hl' : (ground_of F2).IsList l vs.toArray := hl.at fun o e => (by assumption : Fr h₀ L (ground_of F2) m).keep l o e
  k_steps
  all_goals (refine hret _ _ _ _ _ _ _ _ (by assumption) (by assumption) (by assumption) ?_ ?_ ?_)
  all_goals first
    | assumption
    | exact Int.fmod_nonneg_of_pos _ (by decide)
    | exact Int.fmod_lt_of_pos _ (by decide)
    | exact Int.le_refl 0
    | omega
end
end Mine
end
local macro_rules | `(tactic| k_all) => `(tactic| first | with_reducible assumption | exact ne_all (by with_reducible assumption) (by show @LE.le Nat _ _ _; first | ((repeat (first | exact Nat.le.refl | refine Nat.le.step ?_)); done) | omega) | exact dis_ne (by with_reducible assumption) (by k_mem) | exact lt_ne (by with_reducible assumption) (by k_mem))
local macro_rules | `(tactic| k_updF) => `(tactic| (refine' UpdF_app ?a ?b; (case a => k_all); (case b => k_updF)))
local macro_rules | `(tactic| k_ne) => `(tactic| first | with_reducible assumption | exact Ne.symm (by with_reducible assumption) | exact off_ne (by with_reducible assumption) (by k_mem) | exact Ne.symm (off_ne (by with_reducible assumption) (by k_mem)) | exact lt_off (by with_reducible assumption) (by k_mem) | exact Ne.symm (lt_off (by with_reducible assumption) (by k_mem)))
section
open PySem PySem.W PyProof.Rows PySem.Calls
namespace Mine
theorem small_of {k : Nat} (h : ((k : Nat) : Int) < 7) : SmallN k := by unfold SmallN; omega



abbrev LGAPS : List Str := [Str.ofString " ", Str.ofString "\n", Str.ofString "\t ", Str.ofString " /* a */", Str.ofString "\n// b\n", Str.ofString " /* a /* b */ */ ", Str.ofString " \u2028"]
def J4 (S c1 Dw Dg : Addr) (o1 : Obj) (p2 : Array Value) (rest : List (Addr × Obj)) (m₀ : Str → Option Value) (i : Nat) (_g : Heap) (m : Str → Option Value) (nw : List (Addr × Obj)) : Prop :=
  ∃ (u : Option Value) (x y : Int) (n kw kg : Nat) (t1 t2 : Tok) (ws gs : Array Value) (WL : List (Str × Told)) (GL : List Str) (nws : List (Addr × Obj)),
    m = (fun z => if z = Str.ofString "turn" then u else m₀ z) ∧ nw = (S, listOf #[.int x t1, .int y t2] n) :: (Dw, listOf ws kw) :: (Dg, listOf gs kg) :: (182, tabObj p2) :: (c1, o1) :: nws ∧
    0 ≤ x ∧ 0 ≤ y ∧ y < 2147483647 ∧ WordsL nws WL ws.toList ∧ StrsAre gs.toList GL ∧ WL.length = i ∧ GL.length = i ∧ (∀ e ∈ WL, e ∈ WORDS) ∧ (∀ g ∈ GL, g ∈ LGAPS) ∧ (∀ q ∈ rest, q ∈ nws) ∧
    (∀ q ∈ nws, q.1 ≠ S) ∧ (∀ q ∈ nws, q.1 ≠ Dw) ∧ (∀ q ∈ nws, q.1 ≠ Dg) ∧ (∀ q ∈ nws, q.1 ≠ 182) ∧ (∀ q ∈ nws, q.1 ≠ c1)
@[elab_as_elim] theorem J4.elim {S c1 Dw Dg : Addr} {o1 : Obj} {p2 : Array Value} {rest : List (Addr × Obj)} {m₀ : Str → Option Value} {i : Nat} {g : Heap} {P : (Str → Option Value) → List (Addr × Obj) → Prop} {m : Str → Option Value} {nw : List (Addr × Obj)} (h : J4 S c1 Dw Dg o1 p2 rest m₀ i g m nw)
    (k : ∀ (u : Option Value) (x y : Int) (n kw kg : Nat) (t1 t2 : Tok) (ws gs : Array Value) (WL : List (Str × Told)) (GL : List Str) (nws : List (Addr × Obj)), 0 ≤ x → 0 ≤ y → y < 2147483647 → WordsL nws WL ws.toList → StrsAre gs.toList GL → WL.length = i → GL.length = i → (∀ e ∈ WL, e ∈ WORDS) → (∀ g ∈ GL, g ∈ LGAPS) → (∀ q ∈ rest, q ∈ nws) →
      (∀ q ∈ nws, q.1 ≠ S) → (∀ q ∈ nws, q.1 ≠ Dw) → (∀ q ∈ nws, q.1 ≠ Dg) → (∀ q ∈ nws, q.1 ≠ 182) → (∀ q ∈ nws, q.1 ≠ c1) → P (fun z => if z = Str.ofString "turn" then u else m₀ z) ((S, listOf #[.int x t1, .int y t2] n) :: (Dw, listOf ws kw) :: (Dg, listOf gs kg) :: (182, tabObj p2) :: (c1, o1) :: nws)) : P m nw := by
  obtain ⟨u, x, y, n, kw, kg, t1, t2, ws, gs, WL, GL, nws, rfl, rfl, a1, a2, a3, a4, a5, a6, a7, a8, a9, b1, b2, b3, b4, b5, b6⟩ := h
  exact k u x y n kw kg t1 t2 ws gs WL GL nws a1 a2 a3 a4 a5 a6 a7 a8 a9 b1 b2 b3 b4 b5 b6
theorem small_fit {n : Nat} (h : SmallN n) : n ≤ sizeLine := by
  have := h.out
  rw [sizeLine_eq]
  omega
theorem nat_of {k : Int} (h1 : k < 7) (h0 : 0 ≤ k) : ∃ n : Nat, k = (n : Int) ∧ n ≤ 6 := by
  obtain ⟨n, rfl⟩ := Int.eq_ofNat_of_zero_le h0
  exact ⟨n, rfl, by omega⟩
theorem all_ne {d : Addr} {rest : List (Addr × Obj)} (h : AllLt d rest) : ∀ q ∈ rest, q.1 ≠ d := fun q hq => Nat.ne_of_lt (lt_all h q hq)
theorem J4.start {S c1 Dw Dg : Addr} {o1 : Obj} {p2 : Array Value} {rest : List (Addr × Obj)} {m₀ : Str → Option Value} {g : Heap} {x y : Int} {n : Nat} {t1 t2 : Tok} (hx : 0 ≤ x) (hy : 0 ≤ y) (hy1 : y < 2147483647)
    (h1 : ∀ q ∈ rest, q.1 ≠ S) (h2 : ∀ q ∈ rest, q.1 ≠ Dw) (h3 : ∀ q ∈ rest, q.1 ≠ Dg) (h4 : ∀ q ∈ rest, q.1 ≠ 182) (h5 : ∀ q ∈ rest, q.1 ≠ c1) :
    J4 S c1 Dw Dg o1 p2 rest m₀ 0 g m₀ ((S, listOf #[.int x t1, .int y t2] n) :: (Dw, listOf #[] 0) :: (Dg, listOf #[] 0) :: (182, tabObj p2) :: (c1, o1) :: rest) :=
  ⟨m₀ (Str.ofString "turn"), x, y, n, 0, 0, t1, t2, #[], #[], [], [], rest, fun_at _ _, rfl, hx, hy, hy1, .nil, .nil, rfl, rfl, (fun _ h => nomatch h), (fun _ h => nomatch h), fun _ h => h, h1, h2, h3, h4, h5⟩
theorem strs_snoc' {ys : List Value} {zs : List Str} {z : Str} {t : Tok} (h : StrsAre ys zs) : StrsAre (ys ++ [.str z t]) (zs ++ [z]) := by
  induction h with
  | nil => exact .cons _ _ .nil
  | cons y t _ ih => exact .cons y t ih
theorem j4_end {A₀ : Around} {base g h' : Heap} {outer : List Env} {L S c1 Dw Dg I W T D : Addr} {oI oD o1 oS oDw oDg o2 oc oI₂ oS₂ oDw₂ oDg₂ o2₂ oc₂ oS₃ oDw₃ oDg₃ o2₃ oc₃ : Obj} {p2 : Array Value} {rest nws : List (Addr × Obj)} {m₀ : Str → Option Value} {s : Shared} {tk i n kw kg : Nat} {u : Option Value} {x y : Int} {t1 t2 u0 u1 u2 u3 tz : Tok}
    {ws gs : Array Value} {WL : List (Str × Told)} {GL : List Str} {p : Str × Told} {z : Str}
    (hB : Below A₀ base outer g) (F : Fr g L h' (fun z => if z = Str.ofString "turn" then u else m₀ z))
    (N : News g L h' ((D, oD) :: (W, tupO [.str p.1 u0, .ref T]) :: (T, toldO p.2 u1 u2 u3) :: (I, oI) :: (S, listOf #[.int x t1, .int y t2] n) :: (Dw, listOf (ws.push (.ref W)) kw) :: (Dg, listOf (gs.push (.str z tz)) kg) :: (182, tabObj p2) :: (c1, o1) :: nws))
    (hp : p ∈ WORDS) (hz : z ∈ LGAPS) (hx : 0 ≤ x) (hy : 0 ≤ y) (hy1 : y < 2147483647) (hWL : WordsL nws WL ws.toList) (hGL : StrsAre gs.toList GL) (hlW : WL.length = i) (hlG : GL.length = i) (hmW : ∀ e ∈ WL, e ∈ WORDS) (hmG : ∀ g ∈ GL, g ∈ LGAPS) (hr : ∀ q ∈ rest, q ∈ nws)
    (ne1 : ∀ q ∈ nws, q.1 ≠ S) (ne2 : ∀ q ∈ nws, q.1 ≠ Dw) (ne3 : ∀ q ∈ nws, q.1 ≠ Dg) (ne4 : ∀ q ∈ nws, q.1 ≠ 182) (ne5 : ∀ q ∈ nws, q.1 ≠ c1)
    (hW1 : ∀ q ∈ (I, oI₂) :: (S, oS) :: (Dw, oDw) :: (Dg, oDg) :: (182, o2) :: (c1, oc) :: nws, q.1 ≠ W) (hT1 : ∀ q ∈ (I, oI₂) :: (S, oS₂) :: (Dw, oDw₂) :: (Dg, oDg₂) :: (182, o2₂) :: (c1, oc₂) :: nws, q.1 ≠ T)
    (hneI : ∀ q ∈ (S, oS₃) :: (Dw, oDw₃) :: (Dg, oDg₃) :: (182, o2₃) :: (c1, oc₃) :: nws, q.1 ≠ I) :
    ForEnd A₀ base outer L (J4 S c1 Dw Dg o1 p2 rest m₀ (i + 1)) (I, oI) g s { s with heap := h', toks := tk } := by
  have two : ∀ {d : Addr}, W ≠ d → T ≠ d → (∀ q ∈ nws, q.1 ≠ d) → ∀ q ∈ (W, tupO [.str p.1 u0, .ref T]) :: (T, toldO p.2 u1 u2 u3) :: nws, q.1 ≠ d := fun h1 h2 h3 =>
    List.forall_mem_cons.mpr ⟨h1, List.forall_mem_cons.mpr ⟨h2, h3⟩⟩
  refine ForEnd.intro KtsTurn.refl hB F (News.few N ?_) ?_ ⟨u, x, y, n, kw, kg, t1, t2, ws.push (.ref W), gs.push (.str z tz), WL ++ [p], GL ++ [z], (W, tupO [.str p.1 u0, .ref T]) :: (T, toldO p.2 u1 u2 u3) :: nws, rfl, rfl, hx, hy, hy1, ?_, ?_, ?_, ?_, ?_, ?_, fun q hq => .tail _ (.tail _ (hr q hq)), ?_, ?_, ?_, ?_, ?_⟩
  · refine List.forall_mem_cons.mpr ⟨.tail _ (.tail _ (.tail _ (.head _))), List.forall_mem_cons.mpr ⟨.tail _ (.tail _ (.tail _ (.tail _ (.head _)))), List.forall_mem_cons.mpr ⟨.tail _ (.tail _ (.tail _ (.tail _ (.tail _ (.head _))))), List.forall_mem_cons.mpr ⟨.tail _ (.tail _ (.tail _ (.tail _ (.tail _ (.tail _ (.head _)))))), List.forall_mem_cons.mpr ⟨.tail _ (.tail _ (.tail _ (.tail _ (.tail _ (.tail _ (.tail _ (.head _))))))), List.forall_mem_cons.mpr ⟨.tail _ (.tail _ (.tail _ (.tail _ (.tail _ (.tail _ (.tail _ (.tail _ (.head _)))))))), List.forall_mem_cons.mpr ⟨.tail _ (.head _), List.forall_mem_cons.mpr ⟨.tail _ (.tail _ (.head _)), fun q hq => .tail _ (.tail _ (.tail _ (.tail _ (.tail _ (.tail _ (.tail _ (.tail _ (.tail _ hq))))))))⟩⟩⟩⟩⟩⟩⟩⟩
  · have h := List.forall_mem_cons.mp hneI
    have h1 := List.forall_mem_cons.mp h.2
    have h2 := List.forall_mem_cons.mp h1.2
    have h3 := List.forall_mem_cons.mp h2.2
    have h4 := List.forall_mem_cons.mp h3.2
    exact List.forall_mem_cons.mpr ⟨h.1, List.forall_mem_cons.mpr ⟨h1.1, List.forall_mem_cons.mpr ⟨h2.1, List.forall_mem_cons.mpr ⟨h3.1, List.forall_mem_cons.mpr ⟨h4.1, two (Ne.symm (hW1 (I, oI₂) (.head _))) (Ne.symm (hT1 (I, oI₂) (.head _))) h4.2⟩⟩⟩⟩⟩
  · rw [Array.toList_push]
    exact (hWL.mono fun q hq => .tail _ (.tail _ hq)).snoc (.head _) (.tail _ (.head _))
  · rw [Array.toList_push]
    exact strs_snoc' hGL
  · rw [List.length_append, hlW]; rfl
  · rw [List.length_append, hlG]; rfl
  · intro e he
    rcases List.mem_append.mp he with he | he
    · exact hmW e he
    · rw [List.mem_singleton.mp he]; exact hp
  · intro e he
    rcases List.mem_append.mp he with he | he
    · exact hmG e he
    · rw [List.mem_singleton.mp he]; exact hz
  · exact two (Ne.symm (hW1 _ (.tail _ (.head _)))) (Ne.symm (hT1 _ (.tail _ (.head _)))) ne1
  · exact two (Ne.symm (hW1 _ (.tail _ (.tail _ (.head _))))) (Ne.symm (hT1 _ (.tail _ (.tail _ (.head _))))) ne2
  · exact two (Ne.symm (hW1 _ (.tail _ (.tail _ (.tail _ (.head _)))))) (Ne.symm (hT1 _ (.tail _ (.tail _ (.tail _ (.head _)))))) ne3
  · exact two (Ne.symm (hW1 _ (.tail _ (.tail _ (.tail _ (.tail _ (.head _))))))) (Ne.symm (hT1 _ (.tail _ (.tail _ (.tail _ (.tail _ (.head _))))))) ne4
  · exact two (Ne.symm (hW1 _ (.tail _ (.tail _ (.tail _ (.tail _ (.tail _ (.head _)))))))) (Ne.symm (hT1 _ (.tail _ (.tail _ (.tail _ (.tail _ (.tail _ (.head _)))))))) ne5
theorem WrongIs.mono {nw nw' : List (Addr × Obj)} {v : Value} {r : Option (Str × Int)} (h : WrongIs nw v r) (hs : ∀ q ∈ nw, q ∈ nw') : WrongIs nw' v r := by
  cases h with
  | none => exact .none
  | some h => exact .some (hs _ h)
section
variable {w : World} {mean : ExcName → Option Value} {mg mb : Str → Option Value} {dp un : Nat} {gd : Option (List Code)} {cn : Str} {cs₁ : Scope} {a : Addr} {ccd : Value} {cl : List (Str × Addr)} {outer : List Env} {A₀ : Around} {base h₀ : Heap} {L : Addr} {m : Str → Option Value} {s : Shared} {Q E : Value → Shared → Prop} {nw : List (Addr × Obj)}
theorem one_may {S D : Addr} {x y : Int} {n nD : Nat} {t1 t2 : Tok} {vs : List Value} {g : Obj → List (Addr × Obj)} {words : List (Addr × Obj)}
   (hW : WrongL words WRONG vs)
   (B : Below A₀ base outer h₀) (F : Fr h₀ L s.heap m) (X : (hd.heap_1 w.params).In h₀) (N : News h₀ L s.heap nw) (U : UpdF S (listOf #[.int x t1, .int y t2] n) nw g) (T : Top topProg LZ mean mg mb h₀) (hk : cs₁.kind = .function)
   (hdp : dp + 2 < recursionLimit) (hun : un + 20 < cLine)
   (hx : 0 ≤ x) (hy0 : 0 ≤ y) (hy : y < 2147483647) (hD : (D, listOf ([Value.none, Value.none, Value.none] ++ vs).toArray nD) ∈ nw) (hDS : D ≠ S)
   (hret : ∀ (x' y' : Int) (n' : Nat) (t1' t2' : Tok) (v : Value) (wr : Option (Str × Int)) (h' : Heap) (tk' : Nat), WrongIs words v wr → (∀ p, wr = some p → p ∈ WRONG) → Fr h₀ L h' m →
     News h₀ L h' (g (listOf #[.int x' t1', .int y' t2'] n')) → 0 ≤ x' → 0 ≤ y' → y' < 2147483647 → Q v { s with heap := h', toks := tk' }) :
   wpAny (model prg w) (ktrTop dp un gd cn cs₁ L a ccd cl outer) (call (.ref 133) [.ref S, .ref D]) Q E s := by
  have hl : vs.length = 9 := hW.get.1
  have hsz : ([Value.none, Value.none, Value.none] ++ vs).toArray.size = 12 := by
    rw [List.size_toArray, List.length_append, hl]; rfl
  refine one_upd B F X N U T hk hdp hun hx hy0 hy hD hDS (by omega) (by omega) fun x' y' n' t1' t2' k hk h' tk' F' N' a b c => ?_
  have hk' : k < 12 := by omega
  have hit : ∃ wr, WrongIs words (([Value.none, Value.none, Value.none] ++ vs).toArray[k]'hk) wr ∧ ∀ p, wr = some p → p ∈ WRONG := by
    by_cases h3 : k < 3
    · refine ⟨none, ?_, fun p e => nomatch e⟩
      have e : ([Value.none, Value.none, Value.none] ++ vs).toArray[k]'hk = .none := by
        rw [List.getElem_toArray, List.getElem_append_left (by exact h3)]
        match k, h3 with
        | 0, _ => rfl
        | 1, _ => rfl
        | 2, _ => rfl
      rw [e]
      exact .none
    · have hkw : k - 3 < WRONG.length := by
        show k - 3 < 9
        omega
      obtain ⟨W, u0, u1, e, m1⟩ := hW.get.2 (k - 3) WRONG[k - 3] (List.getElem?_eq_getElem hkw)
      refine ⟨some (WRONG[k - 3].1, WRONG[k - 3].2), ?_, fun p e => ?_⟩
      · have e2 : ([Value.none, Value.none, Value.none] ++ vs).toArray[k]'hk = .ref W := by
          rw [List.getElem_toArray, List.getElem_append_right (by show 3 ≤ k; omega)]
          rw [List.getElem?_eq_getElem (by omega)] at e
          exact Option.some.inj e
        rw [e2]
        exact .some m1
      · rw [← Option.some.inj e]
        exact List.getElem_mem hkw
  obtain ⟨wr, h1, h2⟩ := hit
  exact hret x' y' n' t1' t2' _ wr h' tk' h1 h2 F' N' a b c
theorem six_ends : ∀ z ∈ [Str.ofString "", Str.ofString " ", Str.ofString "\n", Str.ofString " // d", Str.ofString " /* c", Str.ofString " /* c */"], z ∈ ENDS := by decide +kernel
theorem lgaps_gaps : ∀ z ∈ LGAPS, z ∈ GAPS ∧ z ≠ Str.ofString "" := by decide +kernel
theorem end_of {z : Str} {wr : Option (Str × Int)} (hz : z ∈ [Str.ofString "", Str.ofString " ", Str.ofString "\n", Str.ofString " // d", Str.ofString " /* c", Str.ofString " /* c */"]) (hw : ∀ p, wr = some p → p ∈ WRONG) : EndOk z wr := by
  cases wr with
  | none => exact six_ends z hz
  | some p => exact ⟨hw p rfl, List.mem_append_left _ (six_ends z hz)⟩
theorem zip_ok {WL : List (Str × Told)} {GL : List Str} (h1 : ∀ e ∈ WL, e ∈ WORDS) (h2 : ∀ g ∈ GL, g ∈ LGAPS) : (∀ e ∈ GL.zip WL, e.2 ∈ WORDS2 ∧ e.1 ∈ GAPS) ∧ (∀ e ∈ (GL.zip WL).tail, e.1 ≠ Str.ofString "") := by
  have a : ∀ e ∈ GL.zip WL, e.1 ∈ LGAPS ∧ e.2 ∈ WORDS := fun e he => by
    have := List.of_mem_zip (a := e.1) (b := e.2) he
    exact ⟨h2 _ this.1, h1 _ this.2⟩
  exact ⟨fun e he => ⟨List.mem_append_left _ (a e he).2, (lgaps_gaps _ (a e he).1).1⟩, fun e he => (lgaps_gaps _ (a e (List.mem_of_mem_tail he)).1).2⟩
theorem cat_eq {vs : List Value} : (#[Value.none, Value.none, Value.none] : Array Value).toList ++ vs.toArray.toList = [Value.none, Value.none, Value.none] ++ vs := by simp
theorem cat_fit {words : List (Addr × Obj)} {vs : List Value} (h : WrongL words WRONG vs) : (#[Value.none, Value.none, Value.none] : Array Value).toList.length + vs.toArray.toList.length ≤ sizeLine := by
  have h9 : vs.length = 9 := h.get.1
  rw [sizeLine_eq]
  simp [h9]
end
section
variable {w : World} {mean : ExcName → Option Value} {mg mb : Str → Option Value} {a : Addr} {ccd : Value} {base h₀ : Heap} {L : Addr} {m : Str → Option Value} {s : Shared} {Q : Flow → Shared → Prop} {E : Value → Shared → Prop}
theorem words_L4_1 : Flush := by
  (try w_top off)
  k_with_none
  k_with "mine k_ne" => (refine neN ?_; (try dsimp only); first | (refine Nat.ne_of_lt ?_; (repeat (first | exact Nat.lt_add_one _ | refine Nat.lt.step ?_)); done) | (refine Nat.ne_of_gt ?_; (repeat (first | exact Nat.lt_add_one _ | refine Nat.lt.step ?_)); done) | omega)
  k_with "mine spliced" => (k_here; with_reducible (first | refine args_s8 ?_ | refine args_s4 ?_ | refine args_s2 ?_ | refine args_s1 ?_ | refine args_i1 ?_))
  k_with "mine newList" => (k_here; k_dflt (refine' newList_K ?k1z1 ?k2z1 ?_; (case k1z1 => k_asm); (case k2z1 => k_asm); k_whole); intro l'q9 h'q9 F'q9 N'q9 l1q9; (try k_sweep))
  k_with "mine ktr_room" => ((try dsimp only [ktrTop, Around.deeper]); (try simp only [depth_under_make, depth_under_kw, depth_in1, depth_deeper, depth_caller, depth_mark]); (try dsimp only [ktrTop]); first | ((simp only [Nat.add_assoc]); exact room_le (by assumption) (by rfl)) | omega)
  k_with "mine ktr_units" => ((try dsimp only [ktrTop, Around.deeper]); (try simp only [units_in1, units_deeper, Around.mark_units, units_caller]); (try dsimp only [ktrTop]); first | ((simp only [Nat.add_assoc]); exact room_le (by assumption) (by rfl)) | omega)
  k_with "mine exec Raise some none" => (k_here; k_dflt (refine' raise_fault ?hhz2 ?_; (case hhz2 => first | exact rfl | assumption); k_whole))
  k_with "mine call ref" => (k_here; (with_reducible show wpAny _ _ (call (Value.ref 45) [_, _]) _ _ _); k_dflt (refine' fault_make ?k1z3 ?k2z3 ?k3z3 ?k4z3 ?k5z3 ?kKz3 ?kdz3 ?kuz3 ?_; (case k1z3 => k_asm); (case k2z3 => k_asm); (case k3z3 => k_asm); (case k4z3 => k_asm); (case k5z3 => k_asm); (case kKz3 => first | exact rfl | assumption); (case kdz3 => ktr_room); (case kuz3 => ktr_units)); intro h'q9 tk'q9 e'q9 t'q9 d'q9 od'q9 F'q9 hs'q9 N'q9 ne1'q9 ne2'q9; (refine ⟨_, _, _, rfl, (N'q9 _ (.head _)).1, rfl, rfl, rfl, Frag.In.keeps (by k_asm) (Fr.keep F'q9), ?_⟩); (try dsimp only))
  k_with "mine leaving ref" => (k_here; (refine' leave_onF ?k1z4 ?k2z4 ?k3z4 ?k4z4 ?_; (case k3z4 => assumption); (case k1z4 => assumption); (case k2z4 => assumption); (case k4z4 => exact fun q hq => (News.mk (by k_asm) q hq).2.2); intro h'q9 R'q9; (try dsimp only)))
  k_with "mine leaving ref" => (k_here; (refine' leave_raiseF ?k1z5 ?k2z5 ?k3z5 ?k4z5 ?k5z5 ?k6z5 ?_; (case k1z5 => assumption); (case k2z5 => assumption); (case k3z5 => assumption); (case k4z5 => assumption); (case k5z5 => assumption); (case k6z5 => assumption); intro h'q9 R'q9; (try dsimp only)))
  k_with "mine callWith ref" => (k_here; (with_reducible show wpAny _ _ (callWith _ (Value.ref _) _ (backTo _ (starEach (_ :: _) _)) []) _ _ _); k_dflt (refine' callWith_K ?k1z6 ?k2z6 ?_; (case k1z6 => k_asm); (case k2z6 => k_is); k_whole))
  k_with "mine LeaveT" => (k_dflt (refine' leaveT_ ?Fz9 ?Nz9 ?Tz9 ?_; (case Fz9 => k_asm); (case Nz9 => k_asm); (case Tz9 => first | assumption | exact KtsTurn.refl | exact KtsTurn.trans (by assumption) (by assumption)); k_whole); intro kgq9 kTq9 kFq9 kNq9 kBq9; (try k_lift kBq9); (try dsimp only))
  k_with "mine LeaveG" => (k_dflt (refine' leaveG_ ?Fz11 ?Nz11 ?_; (case Fz11 => k_asm); (case Nz11 => k_asm); k_whole); intro kFq9 kNq9 kDq9; (try dsimp only))
  k_with "mine k_mem" => (refine List.mem_append_right _ ?_; k_mem)
  k_with "mine k_mem" => (refine List.mem_append_left _ ?_; k_mem)
  k_with "mine exec For Tuple List cons nil" => (k_here; k_dflt (refine' wpAny_For ?_ ?hsz12; (case hsz12 => intro _; with_unfolding_all rfl)))
  k_with "mine exec For Tuple Name cons nil" => (k_here; k_dflt (refine' wpAny_For ?_ ?hsz13; (case hsz13 => intro _; with_unfolding_all rfl)))
  k_with "mine exec For Name Call cons nil" => (k_here; k_dflt (refine' wpAny_For ?_ ?hsz14; (case hsz14 => intro _; with_unfolding_all rfl)))
  k_with "mine call ref" => (k_here; (with_reducible show wpAny _ _ (call (Value.ref 152) _) _ _ _); k_dflt (refine' law_words_spec ?k1z15 ?k2z15 ?k3z15 ?k4z15 ?k5z15 ?kKz15 ?kdz15 ?kuz15 ?_; (case k1z15 => k_asm); (case k2z15 => k_asm); (case k3z15 => k_asm); (case k4z15 => k_asm); (case k5z15 => k_asm); (case kKz15 => first | exact rfl | assumption); (case kdz15 => ktr_room); (case kuz15 => ktr_units); skip); intro D'q9 vs'q9 n'q9 nw'q9 h'q9 tk'q9 F'q9 N'q9 hd'q9 hm'q9 hW'q9; (try dsimp only); (try k_fold))
  k_with "mine call ref" => (k_here; (with_reducible show wpAny _ _ (call (Value.ref 159) _) _ _ _); k_dflt (refine' law_wrong_spec ?k1z16 ?k2z16 ?k3z16 ?k4z16 ?k5z16 ?kKz16 ?kdz16 ?kuz16 ?_; (case k1z16 => k_asm); (case k2z16 => k_asm); (case k3z16 => k_asm); (case k4z16 => k_asm); (case k5z16 => k_asm); (case kKz16 => first | exact rfl | assumption); (case kdz16 => ktr_room); (case kuz16 => ktr_units); skip); intro D'q9 vs'q9 n'q9 nw'q9 h'q9 tk'q9 F'q9 N'q9 hd'q9 hm'q9 hW'q9; (try dsimp only); (try k_fold))
  k_with "mine call ref" => (k_here; (with_reducible show wpAny _ _ (call (Value.ref 133) _) _ _ _); k_dflt (refine' one_strs ?k1z17 ?k2z17 ?k3z17 ?k4z17 ?Uz17 ?k5z17 ?kKz17 ?kdz17 ?kuz17 ?p0z17 ?p1z17 ?p2z17 ?hDz17 ?hDSz17 ?hiz17 ?s1z17 ?s2z17 ?s3z17 ?_; (case k1z17 => k_asm); (case k2z17 => k_asm); (case k3z17 => k_asm); (case k4z17 => k_asm); (case Uz17 => k_updF); (case k5z17 => k_asm); (case kKz17 => first | exact rfl | assumption); (case kdz17 => ktr_room); (case kuz17 => ktr_units); (case p0z17 => first | with_reducible assumption | assumption); (case p1z17 => first | with_reducible assumption | assumption); (case p2z17 => first | with_reducible assumption | assumption); (case hDz17 => k_mem); (case hDSz17 => k_ne); (case hiz17 => repeat' constructor); (case s1z17 => decide); (case s2z17 => decide); (case s3z17 => decide +kernel); skip); intro x'q9 y'q9 n'q9 t1'q9 t2'q9 z'q9 tz'q9 h'q9 tk'q9 hz'q9 hzl'q9 F'q9 N'q9 hx'q9 hy'q9 hy1'q9; (try dsimp only at N'q9); (try dsimp only); (try k_fold))
  k_with "mine call ref" => (k_here; (with_reducible show wpAny _ _ (call (Value.ref 133) _) _ _ _); k_dflt (refine' one_words ?hWz18 ?hdz18 ?hDz18 ?k1z18 ?k2z18 ?k3z18 ?k4z18 ?Uz18 ?k5z18 ?kKz18 ?kdz18 ?kuz18 ?p0z18 ?p1z18 ?p2z18 ?_; (case hDz18 => first | with_reducible assumption | assumption); (case hWz18 => first | with_reducible assumption | assumption); (case hdz18 => first | with_reducible assumption | assumption); (case k1z18 => k_asm); (case k2z18 => k_asm); (case k3z18 => k_asm); (case k4z18 => k_asm); (case Uz18 => k_updF); (case k5z18 => k_asm); (case kKz18 => first | exact rfl | assumption); (case kdz18 => ktr_room); (case kuz18 => ktr_units); (case p0z18 => first | with_reducible assumption | assumption); (case p1z18 => first | with_reducible assumption | assumption); (case p2z18 => first | with_reducible assumption | assumption); skip); intro x'q9 y'q9 n'q9 t1'q9 t2'q9 p'q9 W'q9 T'q9 u0'q9 u1'q9 u2'q9 u3'q9 h'q9 tk'q9 hp'q9 hpl'q9 hp0'q9 F'q9 N'q9 hW1'q9 hT1'q9 hx'q9 hy'q9 hy1'q9; (try dsimp only at N'q9); (try dsimp only); (try k_fold))
  k_with "mine call ref" => (k_here; (with_reducible show wpAny _ _ (call (Value.ref 133) _) _ _ _); k_dflt (refine' one_wrong ?hWz19 ?hdz19 ?hDz19 ?k1z19 ?k2z19 ?k3z19 ?k4z19 ?Uz19 ?k5z19 ?kKz19 ?kdz19 ?kuz19 ?p0z19 ?p1z19 ?p2z19 ?_; (case hDz19 => first | with_reducible assumption | assumption); (case hWz19 => first | with_reducible assumption | assumption); (case hdz19 => first | with_reducible assumption | assumption); (case k1z19 => k_asm); (case k2z19 => k_asm); (case k3z19 => k_asm); (case k4z19 => k_asm); (case Uz19 => k_updF); (case k5z19 => k_asm); (case kKz19 => first | exact rfl | assumption); (case kdz19 => ktr_room); (case kuz19 => ktr_units); (case p0z19 => first | with_reducible assumption | assumption); (case p1z19 => first | with_reducible assumption | assumption); (case p2z19 => first | with_reducible assumption | assumption); skip); intro x'q9 y'q9 n'q9 t1'q9 t2'q9 p'q9 W'q9 u0'q9 u1'q9 h'q9 tk'q9 hp'q9 hpl'q9 hp0'q9 hq0'q9 hq1'q9 F'q9 N'q9 hW1'q9 hx'q9 hy'q9 hy1'q9; (try dsimp only at N'q9); (try dsimp only); (try k_fold))
  k_with "mine call ref" => (k_here; (with_reducible show wpAny _ _ (call (Value.ref 126) _) _ _ _); k_dflt (refine' take_upd ?k1z20 ?k2z20 ?k3z20 ?k4z20 ?Uz20 ?k5z20 ?kKz20 ?kdz20 ?kuz20 ?p0z20 ?p1z20 ?p2z20 ?p3z20 ?p4z20 ?_; (case k1z20 => k_asm); (case k2z20 => k_asm); (case k3z20 => k_asm); (case k4z20 => k_asm); (case Uz20 => k_updF); (case k5z20 => k_asm); (case kKz20 => first | exact rfl | assumption); (case kdz20 => ktr_room); (case kuz20 => ktr_units); (case p0z20 => first | with_reducible assumption | assumption); (case p1z20 => first | with_reducible assumption | assumption); (case p2z20 => first | with_reducible assumption | assumption); (case p3z20 => decide); (case p4z20 => decide); skip); intro x'q9 y'q9 k'q9 n'q9 t1'q9 t2'q9 t3'q9 h'q9 tk'q9 hk0'q9 hk1'q9 F'q9 N'q9 hx'q9 hy'q9 hy1'q9; (try dsimp only at N'q9); (try dsimp only); (try k_fold))
  k_with "mine size_fits" => exact small_fit (by with_reducible assumption)
  k_with "mine binaryOp Add ref ref" => (k_here; refine' kmk_add_lit ?Fz21 ?Nz21 ?az21 ?bz21 ?ez21 ?_ ?zz21; (case Fz21 => k_asm); (case Nz21 => k_asm); (case az21 => exact News.isList (by k_asm) (List.mem_append_right _ (.head _))); (case bz21 => exact News.isList (by k_asm) (List.mem_append_left _ (by assumption))); (case ez21 => exact cat_eq); (case zz21 => exact cat_fit (by assumption)); intro D'q9 h'q9 F'q9 N'q9 lD'q9; (try dsimp only); (try k_fold))
  k_with "mine call ref" => (k_here; (with_reducible show wpAny _ _ (call (Value.ref 133) _) _ _ _); k_dflt (refine' one_may ?hWz22 ?k1z22 ?k2z22 ?k3z22 ?k4z22 ?Uz22 ?k5z22 ?kKz22 ?kdz22 ?kuz22 ?p0z22 ?p1z22 ?p2z22 ?hDz22 ?hDSz22 ?_; (case hWz22 => assumption); (case k1z22 => k_asm); (case k2z22 => k_asm); (case k3z22 => k_asm); (case k4z22 => k_asm); (case Uz22 => k_updF); (case k5z22 => k_asm); (case kKz22 => first | exact rfl | assumption); (case kdz22 => ktr_room); (case kuz22 => ktr_units); (case p0z22 => first | with_reducible assumption | assumption); (case p1z22 => first | with_reducible assumption | assumption); (case p2z22 => first | with_reducible assumption | assumption); (case hDz22 => exact List.Mem.head _); (case hDSz22 => k_ne); skip); intro x'q9 y'q9 n'q9 t1'q9 t2'q9 v'q9 wr'q9 h'q9 tk'q9 hwr'q9 hwm'q9 F'q9 N'q9 hx'q9 hy'q9 hy1'q9; (try dsimp only at N'q9); (try dsimp only); (try k_fold))
  k_with "mine call ref" => (k_here; (with_reducible show wpAny _ _ (call (Value.ref 187) _) _ _ _); k_dflt (refine' rows_zip ?k1z23 ?k2z23 ?k3z23 ?k4z23 ?Uz23 ?k5z23 ?kKz23 ?kdz23 ?kuz23 ?xbz23 ?tbz23 ?cbz23 ?hTz23 ?hrz23 ?hnz23 ?hwz23 ?hgz23 ?hWz23 ?hGz23 ?hwrz23 ?hlenz23 ?hn6z23 ?h1z23 ?h2z23 ?hez23 ?_; (case k1z23 => k_asm); (case k2z23 => k_asm); (case k3z23 => k_asm); (case k4z23 => k_asm); (case Uz23 => k_updF); (case k5z23 => k_asm); (case kKz23 => first | exact rfl | assumption); (case kdz23 => ktr_room); (case kuz23 => ktr_units); (case xbz23 => first | with_reducible assumption | assumption); (case tbz23 => first | with_reducible assumption | assumption); (case cbz23 => first | with_reducible assumption | assumption); (case hTz23 => assumption); (case hrz23 => exact (fun q hq => by (have hq := (show ∀ q ∈ _, q ∈ _ from by assumption) q hq); (repeat (first | exact hq | exact List.mem_append_left _ hq | apply List.Mem.tail | apply List.mem_append_right)))); (case hnz23 => assumption); (case hwz23 => k_mem); (case hgz23 => k_mem); (case hWz23 => exact WordsL.mono (by assumption) (fun q hq => by (repeat (first | exact hq | exact List.mem_append_left _ hq | apply List.Mem.tail | apply List.mem_append_right)))); (case hGz23 => assumption); (case hwrz23 => exact WrongIs.mono (by assumption) (fun q hq => by (repeat (first | exact hq | exact List.mem_append_left _ hq | apply List.Mem.tail | apply List.mem_append_right)))); (case hlenz23 => omega); (case hn6z23 => omega); (case h1z23 => exact (zip_ok (by assumption) (by assumption)).1); (case h2z23 => exact (zip_ok (by assumption) (by assumption)).2); (case hez23 => exact end_of (by assumption) (by assumption)); skip); intro ps'q9 own'q9 g'q9 h'q9 tk'q9 kTq9 kBq9 kXq9 kTTq9 F'q9 N'q9 hT'q9 hd'q9 hn'q9; (try k_lift kBq9); (try dsimp only at N'q9); (try dsimp only); (try k_fold))
  exact trivial
set_option maxRecDepth 100000 in
set_option maxHeartbeats 8000000 in
theorem law_4 {r : DefRec} (hr : lawDef = some r) {S : Addr} {x y : Int} {n : Nat} {t1 t2 : Tok} {o1 : Obj} {p2 q1 q2 q3 : Array Value} {rest : List (Addr × Obj)}
   (B : Below callerA base [] h₀) (F : Fr h₀ L s.heap m) (X : (hd.heap_1 w.params).In h₀) (T : Top topProg LZ mean mg mb h₀) (XB : (hd.heap_1 w.params).In base) (TB : Top topProg LZ mean mg mb base) (CB2 : CodeHd base 186 182)
   (N : News h₀ L s.heap ((S, listOf #[.int x t1, .int y t2] n) :: (182, tabObj p2) :: ((L + 1 : Nat), o1) :: rest))
   (ho1 : o1.data = .cell (some (.ref S))) (hx : 0 ≤ x) (hy : 0 ≤ y) (hy1 : y < 2147483647) (hT : TabOk 161 22 QR p2 rest)
   (n1 : S ≠ 182) (n2 : S ≠ (L + 1 : Nat)) (n3 : (182 : Addr) ≠ (L + 1 : Nat)) (hrS : ∀ q ∈ rest, q.1 ≠ S) (hr2 : ∀ q ∈ rest, q.1 ≠ 182) (hrc : ∀ q ∈ rest, q.1 ≠ (L + 1 : Nat))
   (h168 : (168, tabObj q1) ∈ rest) (h175 : (175, tabObj q2) ∈ rest) (h189 : (189, tabObj q3) ∈ rest)
   (hE : PassesOwn (model prg w) (callerA.deeper (envOfC r.name r.scope L a ccd)) (envOfC r.name r.scope L a ccd) E)
   (hQ : ∀ h' tk', (∀ b o, base.get? b = some o → h'.get? b = some o) → GrownAt 189 h' → GrownAt 182 h' → GrownAt 175 h' → GrownAt 168 h' → Q (.ret (.bool true)) { s with heap := h', toks := tk' }) :
   wpAny (model prg w) (callerA.deeper (envOfC r.name r.scope L a ccd)) (execs (r.body.drop 5) (envOfC r.name r.scope L a ccd)) Q E s := by
  obtain rfl : r = _ := Option.some.inj (hr.symm.trans (rfl : lawDef = some _))
  clear hr
  dsimp only [List.drop]
  k_steps
  rename Fr _ _ _ _ => F₂
  rename News _ _ _ _ => N₂
  rename IsRange _ _ _ _ _ _ _ _ => R₂
  obtain ⟨kn, hk, hkn⟩ := nat_of (by assumption) (by assumption)
  subst hk
  have lw := (by assumption : ∀ p ∈ (S, _) :: (182, _) :: ((L + 1 : Nat), _) :: rest, p.1 < _)
  have lg := (by assumption : ∀ p ∈ (_, _) :: (S, _) :: (182, _) :: ((L + 1 : Nat), _) :: rest, p.1 < _)
  refine for_range (n := kn) (outer := []) (J := J4 S (L + 1 : Nat) _ _ o1 p2 rest _) rfl R₂ (by omega) B F₂ (News.few N₂ (List.forall_mem_cons.mpr ⟨.tail _ (.tail _ (.tail _ (.head _))), List.forall_mem_cons.mpr ⟨.tail _ (.tail _ (.head _)), List.forall_mem_cons.mpr ⟨.tail _ (.head _), fun q hq => .tail _ (.tail _ (.tail _ (.tail _ hq)))⟩⟩⟩)) (J4.start (by assumption) (by assumption) (by assumption) hrS (fun q hq => Nat.ne_of_lt (lw q (.tail _ (.tail _ (.tail _ hq))))) (fun q hq => Nat.ne_of_lt (lg q (.tail _ (.tail _ (.tail _ (.tail _ hq)))))) hr2 hrc) (by rfl) (by rfl) ?turn ?done hE
  case turn =>
    intro i t I oI g m₁ nw₁ h tk hi hJ
    refine J4.elim hJ ?_
    clear hJ
    intro u xx yy nn kw kg tt1 tt2 ws gs WL GL nws hxx hyy hyy1 hWL hGL hlW hlG hmW hmG hrest ne1 ne2 ne3 ne4 ne5 hTT hBB F₃ N₃ hneI
    have X₃ := XB.keeps hBB.stays
    have T₃ := TB.keeps hBB.stays
    rw [fun_at2] at F₃
    have eI1 := hneI _ (.head _)
    have eI2 := hneI _ (.tail _ (.head _))
    have eI3 := hneI _ (.tail _ (.tail _ (.head _)))
    have eI4 := hneI _ (.tail _ (.tail _ (.tail _ (.head _))))
    have eI5 := hneI _ (.tail _ (.tail _ (.tail _ (.tail _ (.head _)))))
    dsimp only at eI1 eI2 eI3 eI4 eI5
    have hsw : SmallN ws.size := by
      have := hWL.length_eq
      rw [Array.length_toList] at this
      unfold SmallN
      omega
    have hsg : SmallN gs.size := by
      have := hGL.length
      rw [Array.length_toList] at this
      unfold SmallN
      omega
    have e1 := Nat.ne_of_lt (lw _ (.head _))
    have e2 := Nat.ne_of_lt (lg _ (.tail _ (.head _)))
    k_steps
    exact j4_end hBB (by assumption) (by assumption) (by assumption) (by assumption) (by assumption) (by assumption) (by assumption) hWL hGL hlW hlG hmW hmG hrest ne1 ne2 ne3 ne4 ne5 (by assumption) (by assumption) hneI
  case done =>
    intro g m₁ nw₁ h tk hJ
    refine J4.elim hJ ?_
    clear hJ
    intro u xx yy nn kw kg tt1 tt2 ws gs WL GL nws hxx hyy hyy1 hWL hGL hlW hlG hmW hmG hrest ne1 ne2 ne3 ne4 ne5 hTT hBB F₃ N₃
    have X₃ := XB.keeps hBB.stays
    have T₃ := TB.keeps hBB.stays
    have e1 := Nat.ne_of_lt (lw _ (.head _))
    have e2 := Nat.ne_of_lt (lg _ (.tail _ (.head _)))
    k_steps
    rename Fr _ _ _ _ => F9
    rename News _ _ _ _ => N9
    rename Below _ _ _ _ => B9
    have m168 := hrest _ h168
    have m175 := hrest _ h175
    have m189 := hrest _ h189
    refine hQ _ _ (fun b o e => F9.keep b o (B9.stays b o e)) (GrownAt.of (ps := q3) N9 ?_) (GrownAt.of N9 (by k_mem)) (GrownAt.of (ps := q2) N9 ?_) (GrownAt.of (ps := q1) N9 ?_)
    · (repeat (first | exact m189 | exact List.mem_append_left _ m189 | apply List.Mem.tail | apply List.mem_append_right))
    · (repeat (first | exact m175 | exact List.mem_append_left _ m175 | apply List.Mem.tail | apply List.mem_append_right))
    · (repeat (first | exact m168 | exact List.mem_append_left _ m168 | apply List.Mem.tail | apply List.mem_append_right))
end
end Mine
end
section
open PySem PySem.W PyProof.Rows PySem.Calls
namespace Mine



section
variable {w : World} {mean : ExcName → Option Value} {mg mb : Str → Option Value} {dp un : Nat} {gd : Option (List Code)} {cn : Str} {cs₁ : Scope} {a : Addr} {ccd : Value} {cl : List (Str × Addr)} {outer : List Env} {A₀ : Around} {base h₀ : Heap} {L : Addr} {m : Str → Option Value} {s : Shared} {Q E : Value → Shared → Prop} {news : List (Addr × Obj)}

theorem words_H9_1 : Flush := by
  (try w_top off)
  k_with_none
  k_with "mine k_ne" => (refine neN ?_; (try dsimp only); first | (refine Nat.ne_of_lt ?_; (repeat (first | exact Nat.lt_add_one _ | refine Nat.lt.step ?_)); done) | (refine Nat.ne_of_gt ?_; (repeat (first | exact Nat.lt_add_one _ | refine Nat.lt.step ?_)); done) | omega)
  k_with "mine spliced" => (k_here; with_reducible (first | refine args_s8 ?_ | refine args_s4 ?_ | refine args_s2 ?_ | refine args_s1 ?_ | refine args_i1 ?_))
  k_with "mine ktr_room" => ((try dsimp only [ktrTop, Around.deeper]); (try simp only [depth_under_make, depth_under_kw, depth_in1, depth_deeper, depth_caller, depth_mark]); (try dsimp only [ktrTop]); first | ((simp only [Nat.add_assoc]); exact room_le (by assumption) (by rfl)) | omega)
  k_with "mine ktr_units" => ((try dsimp only [ktrTop, Around.deeper]); (try simp only [units_in1, units_deeper, Around.mark_units, units_caller]); (try dsimp only [ktrTop]); first | ((simp only [Nat.add_assoc]); exact room_le (by assumption) (by rfl)) | omega)
  k_with "mine exec Raise some none" => (k_here; k_dflt (refine' raise_fault ?hhz1 ?_; (case hhz1 => first | exact rfl | assumption); k_whole))
  k_with "mine call ref" => (k_here; (with_reducible show wpAny _ _ (call (Value.ref 45) [_, _]) _ _ _); k_dflt (refine' fault_make ?k1z2 ?k2z2 ?k3z2 ?k4z2 ?k5z2 ?kKz2 ?kdz2 ?kuz2 ?_; (case k1z2 => k_asm); (case k2z2 => k_asm); (case k3z2 => k_asm); (case k4z2 => k_asm); (case k5z2 => k_asm); (case kKz2 => first | exact rfl | assumption); (case kdz2 => ktr_room); (case kuz2 => ktr_units)); intro h'q9 tk'q9 e'q9 t'q9 d'q9 od'q9 F'q9 hs'q9 N'q9 ne1'q9 ne2'q9; (refine ⟨_, _, _, rfl, (N'q9 _ (.head _)).1, rfl, rfl, rfl, Frag.In.keeps (by k_asm) (Fr.keep F'q9), ?_⟩); (try dsimp only))
  k_with "mine leaving ref" => (k_here; (refine' leave_onF ?k1z3 ?k2z3 ?k3z3 ?k4z3 ?_; (case k3z3 => assumption); (case k1z3 => assumption); (case k2z3 => assumption); (case k4z3 => exact fun q hq => (News.mk (by k_asm) q hq).2.2); intro h'q9 R'q9; (try dsimp only)))
  k_with "mine leaving ref" => (k_here; (refine' leave_raiseF ?k1z4 ?k2z4 ?k3z4 ?k4z4 ?k5z4 ?k6z4 ?_; (case k1z4 => assumption); (case k2z4 => assumption); (case k3z4 => assumption); (case k4z4 => assumption); (case k5z4 => assumption); (case k6z4 => assumption); intro h'q9 R'q9; (try dsimp only)))
  k_with "mine callWith ref" => (k_here; (with_reducible show wpAny _ _ (callWith _ (Value.ref _) _ (backTo _ (starEach (_ :: _) _)) []) _ _ _); k_dflt (refine' callWith_K ?k1z5 ?k2z5 ?_; (case k1z5 => k_asm); (case k2z5 => k_is); k_whole))
  k_with "mine LeaveT" => (k_dflt (refine' leaveT_ ?Fz8 ?Nz8 ?Tz8 ?_; (case Fz8 => k_asm); (case Nz8 => k_asm); (case Tz8 => first | assumption | exact KtsTurn.refl | exact KtsTurn.trans (by assumption) (by assumption)); k_whole); intro kgq9 kTq9 kFq9 kNq9 kBq9; (try k_lift kBq9); (try dsimp only))
  k_with "mine LeaveG" => (k_dflt (refine' leaveG_ ?Fz10 ?Nz10 ?_; (case Fz10 => k_asm); (case Nz10 => k_asm); k_whole); intro kFq9 kNq9 kDq9; (try dsimp only))
  k_with "mine k_mem" => (refine List.mem_append_right _ ?_; k_mem)
  k_with "mine k_mem" => (refine List.mem_append_left _ ?_; k_mem)
  k_with "mine call ref" => (k_here; (with_reducible show wpAny _ _ (call (Value.ref 105) _) _ _ _); k_dflt (refine' read_word_spec ?k1z11 ?k2z11 ?k3z11 ?k4z11 ?k5z11 ?kKz11 ?kdz11 ?kuz11 ?p0z11 ?p1z11 ?p2z11 ?_ ?_; (case k1z11 => k_asm); (case k2z11 => k_asm); (case k3z11 => k_asm); (case k4z11 => k_asm); (case k5z11 => k_asm); (case kKz11 => first | exact rfl | assumption); (case kdz11 => ktr_room); (case kuz11 => ktr_units); (case p0z11 => first | assumption | omega | (size_fits; done)); (case p1z11 => first | assumption | omega | (size_fits; done)); (case p2z11 => first | assumption | omega | (size_fits; done)); skip); (intro wd'q9 e'q9 hz'q9 ei'q9 hei'q9 D'q9 W'q9 t1'q9 t2'q9 t3'q9 t4'q9 t5'q9 te'q9 h'q9 tk'q9 F'q9 N'q9 ltWq9 ltDq9; (try replace ltDq9 := ltN ltDq9); (try k_lt ltWq9); (try dsimp only); (try k_fold)); rotate_left; (intro p'q9 hz'q9 e'q9 g'q9 h'q9 tk'q9 G'q9 R'q9; (try dsimp only)); rotate_left)
  k_with "mine call ref" => (k_here; (with_reducible show wpAny _ _ (call (Value.ref 166) _) _ _ _); k_dflt (refine' law_row_spec ?k1z12 ?k2z12 ?k3z12 ?k4z12 ?k5z12 ?kKz12 ?kdz12 ?kuz12 ?p0z12 ?_; (case k1z12 => k_asm); (case k2z12 => k_asm); (case k3z12 => k_asm); (case k4z12 => k_asm); (case k5z12 => k_asm); (case kKz12 => first | exact rfl | assumption); (case kdz12 => ktr_room); (case kuz12 => ktr_units); (case p0z12 => k_mem); skip); intro W'q9 t1'q9 t2'q9 t3'q9 t4'q9 t5'q9 h'q9 tk'q9 F'q9 N'q9 lW'q9; (try k_lt lW'q9); (try dsimp only); (try k_fold))
  k_with "mine call ref" => (k_here; (with_reducible show wpAny _ _ (call (Value.ref 140) _) _ _ _); k_dflt (refine' heard_dat ?hRz13 ?k1z13 ?k2z13 ?k3z13 ?k4z13 ?k5z13 ?kKz13 ?kdz13 ?kuz13 ?xbz13 ?tbz13 ?hfz13 ?hsz13 ?_ ?_; (case hRz13 => first | exact hres_wrong (by assumption) (by assumption) (by assumption) | exact hres_word (by assumption) (by assumption) (by assumption)); (case k1z13 => k_asm); (case k2z13 => k_asm); (case k3z13 => k_asm); (case k4z13 => k_asm); (case k5z13 => k_asm); (case kKz13 => first | exact rfl | assumption); (case kdz13 => ktr_room); (case kuz13 => ktr_units); (case xbz13 => first | with_reducible assumption | assumption); (case tbz13 => first | with_reducible assumption | assumption); (case hfz13 => k_mem); (case hsz13 => first | exact resW_ref _ | exact resL_ref _)); rotate_left; (intro D'q9 own'q9 g'q9 h'q9 tk'q9 kTq9 kBq9 kXq9 kTTq9 F'q9 N'q9 hD'q9 lt'q9; (try k_lift kBq9); (try dsimp only); (try k_fold)); rotate_left; (intro g'q9 L'q9 m'q9 s'q9 Q'q9 E'q9 F'q9 N'q9 B'q9 X'q9 T'q9 hq'q9 he'q9; (try k_lift B'q9)))
  k_with "mine leaving ref" => (k_here; (refine' leave_onX ?k1z15 ?k2z15 ?k3z15 ?k4z15 ?_; (case k3z15 => first | with_reducible assumption | assumption); (case k1z15 => first | with_reducible assumption | assumption); (case k2z15 => first | with_reducible assumption | assumption); (case k4z15 => exact fun q hq => (News.mk (by k_asm) q hq).2.2); intro h'q9 R'q9; (try dsimp only)))
  k_with "mine call ref" => (k_here; (with_reducible show wpAny _ _ (call (Value.ref _) []) _ _ _); k_dflt (refine wpAny_call ?_; ((refine' kla_code ?k1z14 ?k2z14 ?k3z14 ?k4z14 ?k5z14 ?kAz14 ?kFz14 ?kKz14 ?k6z14 ?k7z14 ?k8z14 ?k9z14 ?kBz14 ?_ ?c2z14 ?c3z14 ?c4z14 ?c5z14; (case kAz14 => exact rfl); (case kFz14 => exact rfl); (case kKz14 => first | exact rfl | assumption); (case k1z14 => k_asm); (case k2z14 => k_asm); (case k3z14 => k_asm); (case k4z14 => k_asm); (case k5z14 => k_asm); (case k6z14 => k_mem); (case k7z14 => exact codeRec_news (by k_asm) (by first | exact List.mem_cons_of_mem _ (by assumption) | k_mem) (by assumption) (by assumption)); (case k8z14 => ktr_room); (case k9z14 => exact rfl); (case c5z14 => decide); (case kBz14 => exact locs rfl); (case c2z14 => exact rfl); (case c3z14 => exact rfl); (case c4z14 => exact rfl); k_whole; intro g'q9 L'q9 h'q9 FG'q9 F'q9 N'q9 B'q9 X'q9 T'q9; (try dsimp only); (try k_lift B'q9); (try k_fold)))))
  k_with "mine call ref" => (k_here; (with_reducible show wpAny _ _ (call (Value.ref 152) _) _ _ _); k_dflt (refine' law_words_spec ?k1z17 ?k2z17 ?k3z17 ?k4z17 ?k5z17 ?kKz17 ?kdz17 ?kuz17 ?_; (case k1z17 => k_asm); (case k2z17 => k_asm); (case k3z17 => k_asm); (case k4z17 => k_asm); (case k5z17 => k_asm); (case kKz17 => first | exact rfl | assumption); (case kdz17 => ktr_room); (case kuz17 => ktr_units); skip); intro D'q9 vs'q9 n'q9 nw'q9 h'q9 tk'q9 F'q9 N'q9 hd'q9 hm'q9 hW'q9; (try dsimp only); (try k_fold))
  k_with "mine call ref" => (k_here; (with_reducible show wpAny _ _ (call (Value.ref 159) _) _ _ _); k_dflt (refine' law_wrong_spec ?k1z18 ?k2z18 ?k3z18 ?k4z18 ?k5z18 ?kKz18 ?kdz18 ?kuz18 ?_; (case k1z18 => k_asm); (case k2z18 => k_asm); (case k3z18 => k_asm); (case k4z18 => k_asm); (case k5z18 => k_asm); (case kKz18 => first | exact rfl | assumption); (case kdz18 => ktr_room); (case kuz18 => ktr_units); skip); intro D'q9 vs'q9 n'q9 nw'q9 h'q9 tk'q9 F'q9 N'q9 hd'q9 hm'q9 hW'q9; (try dsimp only); (try k_fold))
  k_with "mine call ref" => (k_here; (with_reducible show wpAny _ _ (call (Value.ref 133) _) _ _ _); k_dflt (refine' one_strs ?k1z19 ?k2z19 ?k3z19 ?k4z19 ?Uz19 ?k5z19 ?kKz19 ?kdz19 ?kuz19 ?p0z19 ?p1z19 ?p2z19 ?hDz19 ?hDSz19 ?hiz19 ?s1z19 ?s2z19 ?s3z19 ?_; (case k1z19 => k_asm); (case k2z19 => k_asm); (case k3z19 => k_asm); (case k4z19 => k_asm); (case Uz19 => k_updF); (case k5z19 => k_asm); (case kKz19 => first | exact rfl | assumption); (case kdz19 => ktr_room); (case kuz19 => ktr_units); (case p0z19 => first | with_reducible assumption | assumption); (case p1z19 => first | with_reducible assumption | assumption); (case p2z19 => first | with_reducible assumption | assumption); (case hDz19 => k_mem); (case hDSz19 => k_ne); (case hiz19 => repeat' constructor); (case s1z19 => decide); (case s2z19 => decide); (case s3z19 => decide +kernel); skip); intro x'q9 y'q9 n'q9 t1'q9 t2'q9 z'q9 tz'q9 h'q9 tk'q9 hz'q9 hzl'q9 F'q9 N'q9 hx'q9 hy'q9 hy1'q9; (try dsimp only at N'q9); (try dsimp only); (try k_fold))
  k_with "mine call ref" => (k_here; (with_reducible show wpAny _ _ (call (Value.ref 133) _) _ _ _); k_dflt (refine' one_words ?hWz20 ?hdz20 ?hDz20 ?k1z20 ?k2z20 ?k3z20 ?k4z20 ?Uz20 ?k5z20 ?kKz20 ?kdz20 ?kuz20 ?p0z20 ?p1z20 ?p2z20 ?_; (case hDz20 => first | with_reducible assumption | assumption); (case hWz20 => first | with_reducible assumption | assumption); (case hdz20 => first | with_reducible assumption | assumption); (case k1z20 => k_asm); (case k2z20 => k_asm); (case k3z20 => k_asm); (case k4z20 => k_asm); (case Uz20 => k_updF); (case k5z20 => k_asm); (case kKz20 => first | exact rfl | assumption); (case kdz20 => ktr_room); (case kuz20 => ktr_units); (case p0z20 => first | with_reducible assumption | assumption); (case p1z20 => first | with_reducible assumption | assumption); (case p2z20 => first | with_reducible assumption | assumption); skip); intro x'q9 y'q9 n'q9 t1'q9 t2'q9 p'q9 W'q9 T'q9 u0'q9 u1'q9 u2'q9 u3'q9 h'q9 tk'q9 hp'q9 hpl'q9 hp0'q9 F'q9 N'q9 hW1'q9 hT1'q9 hx'q9 hy'q9 hy1'q9; (try dsimp only at N'q9); (try dsimp only); (try k_fold))
  k_with "mine call ref" => (k_here; (with_reducible show wpAny _ _ (call (Value.ref 133) _) _ _ _); k_dflt (refine' one_wrong ?hWz21 ?hdz21 ?hDz21 ?k1z21 ?k2z21 ?k3z21 ?k4z21 ?Uz21 ?k5z21 ?kKz21 ?kdz21 ?kuz21 ?p0z21 ?p1z21 ?p2z21 ?_; (case hDz21 => first | with_reducible assumption | assumption); (case hWz21 => first | with_reducible assumption | assumption); (case hdz21 => first | with_reducible assumption | assumption); (case k1z21 => k_asm); (case k2z21 => k_asm); (case k3z21 => k_asm); (case k4z21 => k_asm); (case Uz21 => k_updF); (case k5z21 => k_asm); (case kKz21 => first | exact rfl | assumption); (case kdz21 => ktr_room); (case kuz21 => ktr_units); (case p0z21 => first | with_reducible assumption | assumption); (case p1z21 => first | with_reducible assumption | assumption); (case p2z21 => first | with_reducible assumption | assumption); skip); intro x'q9 y'q9 n'q9 t1'q9 t2'q9 p'q9 W'q9 u0'q9 u1'q9 h'q9 tk'q9 hp'q9 hpl'q9 hp0'q9 hq0'q9 hq1'q9 F'q9 N'q9 hW1'q9 hx'q9 hy'q9 hy1'q9; (try dsimp only at N'q9); (try dsimp only); (try k_fold))
  exact trivial
set_option maxRecDepth 100000 in
set_option maxHeartbeats 8000000 in
theorem word_right_spec {S : Addr} {x y : Int} {n : Nat} {t1 t2 : Tok}
   (B : Below A₀ base outer h₀) (F : Fr h₀ L s.heap m) (X : (hd.heap_1 w.params).In h₀) (N : News h₀ L s.heap ((S, listOf #[.int x t1, .int y t2] n) :: (175, tabObj #[]) :: news)) (T : Top topProg LZ mean mg mb h₀) (hk : cs₁.kind = .function)
   (hdp : dp + 40 < recursionLimit) (hun : un + 800 < cLine) (XB : (hd.heap_1 w.params).In base) (TB : Top topProg LZ mean mg mb base) (CB : CodeHd base 179 175)
   (hS : ∀ p ∈ news, p.1 ≠ S) (hP : ∀ p ∈ news, p.1 ≠ 175) (hSP : S ≠ 175) (hx : 0 ≤ x) (hy0 : 0 ≤ y) (hy : y < 2147483647)
   (hret : ∀ (x' y' : Int) (n' : Nat) (t1' t2' : Tok) (ps' : Array Value) (g' h' : Heap) (tk' : Nat), KtsTurn (outer.filterMap (·.frame)) h₀ g' → Below A₀ base outer g' → Fr g' L h' m → News g' L h' ((S, listOf #[.int x' t1', .int y' t2'] n') :: (175, tabObj ps') :: news) → 0 ≤ x' → 0 ≤ y' → y' < 2147483647 → Q (.bool true) { s with heap := h', toks := tk' }) :
   wpAny (model prg w) (ktrTop dp un gd cn cs₁ L a ccd cl outer) (call (.ref 180) [.ref S]) Q E s := by
  refine wpAny_call ?_
  k_dflt ((refine' codeT_defC ?k1z7 ?k2z7 ?k3z7 ?k4z7 ?k5z7 ?kAz7 ?kFz7 ?kKz7 ?k6z7 ?k7z7 ?k8z7 ?k9z7 ?kBz7 ?kDz7 ?_ ?c2z7 ?c3z7 ?c4z7; (case kAz7 => exact rfl); (case kFz7 => exact rfl); (case kKz7 => assumption); (case k1z7 => k_asm); (case k2z7 => k_asm); (case k3z7 => k_asm); (case k4z7 => k_asm); (case k5z7 => k_asm); (case k6z7 => k_is); (case k7z7 => k_is); (case k8z7 => ktr_room); (case k9z7 => exact BindsTo.of_eq rfl); (case kBz7 => exact rfl); (case kDz7 => decide +kernel); (case c2z7 => exact rfl); (case c3z7 => exact rfl); (case c4z7 => exact rfl); k_whole; intro g'q9 L'q9 h'q9 tk'q9 cells'q9 FG'q9 F'q9 N'q9 Y'q9 B'q9 X'q9 T'q9 l1q9; (try k_lt l1q9); k_cells Y'q9; (try simp only [List.cons_append, List.nil_append] at N'q9); (try dsimp only); (try k_lift B'q9); (try k_fold)))
  skip
  have hlL := And.right (And.right (by assumption : _ < _ ∧ _ < _ ∧ AllLt _ news))
  k_steps
  · refine heard_end (nw := [(_, _), (_, _)]) (by assumption) ?_ (by assumption) (by assumption) (lt_two (by assumption) (by assumption))
    exact ⟨_, resW_ok ((word_glue _ _ _).symm.trans (by assumption)), pair_dat (by assumption) (.head _) (.tail _ (.head _))⟩
  · refine heard_err (by assumption) ?_ (by assumption) (by assumption)
    exact resW_err ((word_glue _ _ _).symm.trans (by assumption))
  · k_unmd
    k_steps
    refine dat_ne (by assumption) (DatIn.cast (by assumption) (told_word (by assumption) (by assumption) _)) (fun q hq => by (repeat (first | exact hq | exact List.mem_append_left _ hq | apply List.Mem.tail | apply List.mem_append_right))) (.tuple (n := 0) (.head _) (.cons (word_dat (wd := ⟨_, _, _, _, _⟩) (.tail _ (.head _))) (.cons (.int _ _) .nil))) (fun q hq => hq) (ok_told (by assumption) _ _) (by ktr_units) ?_
    rename News _ _ _ _ => N9
    have hN9 := News.few N9 (fun q hq => List.Mem.tail _ (List.Mem.tail _ (List.mem_append_right _ (List.Mem.tail _ (List.Mem.tail _ (List.Mem.tail _ (List.Mem.tail _ (List.Mem.tail _ (List.Mem.tail _ (List.Mem.tail _ hq))))))))))
    clear N9
    k_steps
    · refine heard_end (nw := [(_, _), (_, _)]) (by assumption) ?_ (by assumption) (by assumption) (lt_two (by assumption) (by assumption))
      exact ⟨_, resW_ok ((word_glue _ _ _).symm.trans (by assumption)), pair_dat (by assumption) (.head _) (.tail _ (.head _))⟩
    · refine heard_err (by assumption) ?_ (by assumption) (by assumption)
      exact resW_err ((word_glue _ _ _).symm.trans (by assumption))
    · k_unmd
      k_steps
      refine dat_eq (by assumption) (DatIn.cast (by assumption) (told_bad (by assumption) (by assumption) _)) (fun q hq => by (repeat (first | exact hq | exact List.mem_append_left _ hq | apply List.Mem.tail | apply List.mem_append_right))) (.tuple (n := 0) (.head _) (.cons (.str _ _) (.cons (.int _ _) .nil))) (fun q hq => hq) ok_no (by ktr_units) ?_
      k_steps
      refine' hret _ _ _ _ _ _ _ _ _ ?zza ?zzb ?zzc ?zzd ?zze ?zzf ?zzg
      case zza => assumption
      case zzb => assumption
      case zzc => assumption
      case zzd => exact News.few (by assumption) (List.forall_mem_cons.mpr ⟨by k_mem, List.forall_mem_cons.mpr ⟨by k_mem, fun q hq => by (repeat (first | exact hq | exact List.mem_append_left _ hq | apply List.Mem.tail | apply List.mem_append_right))⟩⟩)
      case zze => assumption
      case zzf => assumption
      case zzg => assumption
end
end Mine
end
section
open PySem PySem.W PyProof.Rows PySem.Calls
namespace Mine



theorem News.two {g h : Heap} {L a b : Addr} {oa ob : Obj} {led : List (Addr × Obj)} (N : News g L h led) (ha : (a, oa) ∈ led) (hb : (b, ob) ∈ led) : News g L h ((a, oa) :: (b, ob) :: led.filter fun q => decide (q.1 ≠ a ∧ q.1 ≠ b)) :=
  News.few N (List.forall_mem_cons.mpr ⟨ha, List.forall_mem_cons.mpr ⟨hb, fun q hq => (List.mem_filter.mp hq).1⟩⟩)
theorem two_a {a b : Addr} {led : List (Addr × Obj)} : ∀ q ∈ led.filter fun q => decide (q.1 ≠ a ∧ q.1 ≠ b), q.1 ≠ a := fun q hq => (of_decide_eq_true (List.mem_filter.mp hq).2).1
theorem two_b {a b : Addr} {led : List (Addr × Obj)} : ∀ q ∈ led.filter fun q => decide (q.1 ≠ a ∧ q.1 ≠ b), q.1 ≠ b := fun q hq => (of_decide_eq_true (List.mem_filter.mp hq).2).2
theorem two_in {a b : Addr} {led : List (Addr × Obj)} {q : Addr × Obj} (h : q ∈ led) (ha : q.1 ≠ a) (hb : q.1 ≠ b) : q ∈ led.filter fun q => decide (q.1 ≠ a ∧ q.1 ≠ b) := List.mem_filter.mpr ⟨h, decide_eq_true ⟨ha, hb⟩⟩
def LawStop (P : Prop) : Prop := P
theorem LawStop.out {P : Prop} (h : LawStop P) : P := h
section
variable {w : World} {mean : ExcName → Option Value} {mg mb : Str → Option Value} {a : Addr} {ccd : Value} {base h₀ : Heap} {L : Addr} {m : Str → Option Value} {s : Shared} {Q : Flow → Shared → Prop} {E : Value → Shared → Prop}
theorem words_L3_1 : Flush := by
  (try w_top off)
  k_with_none
  k_with "mine k_ne" => (refine neN ?_; (try dsimp only); first | (refine Nat.ne_of_lt ?_; (repeat (first | exact Nat.lt_add_one _ | refine Nat.lt.step ?_)); done) | (refine Nat.ne_of_gt ?_; (repeat (first | exact Nat.lt_add_one _ | refine Nat.lt.step ?_)); done) | omega)
  k_with "mine spliced" => (k_here; with_reducible (first | refine args_s8 ?_ | refine args_s4 ?_ | refine args_s2 ?_ | refine args_s1 ?_ | refine args_i1 ?_))
  k_with "mine ktr_room" => ((try dsimp only [ktrTop, Around.deeper]); (try simp only [depth_under_make, depth_under_kw, depth_in1, depth_deeper, depth_caller, depth_mark]); (try dsimp only [ktrTop]); first | ((simp only [Nat.add_assoc]); exact room_le (by assumption) (by rfl)) | omega)
  k_with "mine ktr_units" => ((try dsimp only [ktrTop, Around.deeper]); (try simp only [units_in1, units_deeper, Around.mark_units, units_caller]); (try dsimp only [ktrTop]); first | ((simp only [Nat.add_assoc]); exact room_le (by assumption) (by rfl)) | omega)
  k_with "mine exec Raise some none" => (k_here; k_dflt (refine' raise_fault ?hhz1 ?_; (case hhz1 => first | exact rfl | assumption); k_whole))
  k_with "mine call ref" => (k_here; (with_reducible show wpAny _ _ (call (Value.ref 45) [_, _]) _ _ _); k_dflt (refine' fault_make ?k1z2 ?k2z2 ?k3z2 ?k4z2 ?k5z2 ?kKz2 ?kdz2 ?kuz2 ?_; (case k1z2 => k_asm); (case k2z2 => k_asm); (case k3z2 => k_asm); (case k4z2 => k_asm); (case k5z2 => k_asm); (case kKz2 => first | exact rfl | assumption); (case kdz2 => ktr_room); (case kuz2 => ktr_units)); intro h'q9 tk'q9 e'q9 t'q9 d'q9 od'q9 F'q9 hs'q9 N'q9 ne1'q9 ne2'q9; (refine ⟨_, _, _, rfl, (N'q9 _ (.head _)).1, rfl, rfl, rfl, Frag.In.keeps (by k_asm) (Fr.keep F'q9), ?_⟩); (try dsimp only))
  k_with "mine leaving ref" => (k_here; (refine' leave_onF ?k1z3 ?k2z3 ?k3z3 ?k4z3 ?_; (case k3z3 => assumption); (case k1z3 => assumption); (case k2z3 => assumption); (case k4z3 => exact fun q hq => (News.mk (by k_asm) q hq).2.2); intro h'q9 R'q9; (try dsimp only)))
  k_with "mine leaving ref" => (k_here; (refine' leave_raiseF ?k1z4 ?k2z4 ?k3z4 ?k4z4 ?k5z4 ?k6z4 ?_; (case k1z4 => assumption); (case k2z4 => assumption); (case k3z4 => assumption); (case k4z4 => assumption); (case k5z4 => assumption); (case k6z4 => assumption); intro h'q9 R'q9; (try dsimp only)))
  k_with "mine LeaveT" => (k_dflt (refine' leaveT_ ?Fz7 ?Nz7 ?Tz7 ?_; (case Fz7 => k_asm); (case Nz7 => k_asm); (case Tz7 => first | assumption | exact KtsTurn.refl | exact KtsTurn.trans (by assumption) (by assumption)); k_whole); intro kgq9 kTq9 kFq9 kNq9 kBq9; (try k_lift kBq9); (try dsimp only))
  k_with "mine LeaveG" => (k_dflt (refine' leaveG_ ?Fz9 ?Nz9 ?_; (case Fz9 => k_asm); (case Nz9 => k_asm); k_whole); intro kFq9 kNq9 kDq9; (try dsimp only))
  k_with "mine k_mem" => (refine List.mem_append_right _ ?_; k_mem)
  k_with "mine k_mem" => (refine List.mem_append_left _ ?_; k_mem)
  k_with "mine call ref" => (k_here; (with_reducible show wpAny _ _ (call (Value.ref 133) _) _ _ _); k_dflt (refine' one_strs ?k1z10 ?k2z10 ?k3z10 ?k4z10 ?Uz10 ?k5z10 ?kKz10 ?kdz10 ?kuz10 ?p0z10 ?p1z10 ?p2z10 ?hDz10 ?hDSz10 ?hiz10 ?s1z10 ?s2z10 ?s3z10 ?_; (case k1z10 => k_asm); (case k2z10 => k_asm); (case k3z10 => k_asm); (case k4z10 => k_asm); (case Uz10 => k_updF); (case k5z10 => k_asm); (case kKz10 => first | exact rfl | assumption); (case kdz10 => ktr_room); (case kuz10 => ktr_units); (case p0z10 => first | with_reducible assumption | assumption); (case p1z10 => first | with_reducible assumption | assumption); (case p2z10 => first | with_reducible assumption | assumption); (case hDz10 => k_mem); (case hDSz10 => k_ne); (case hiz10 => repeat' constructor); (case s1z10 => decide); (case s2z10 => decide); (case s3z10 => decide +kernel); skip); intro x'q9 y'q9 n'q9 t1'q9 t2'q9 z'q9 tz'q9 h'q9 tk'q9 hz'q9 hzl'q9 F'q9 N'q9 hx'q9 hy'q9 hy1'q9; (try dsimp only at N'q9); (try dsimp only); (try k_fold))
  k_with "mine call ref" => (k_here; (with_reducible show wpAny _ _ (call (Value.ref 133) _) _ _ _); k_dflt (refine' one_words ?hWz11 ?hdz11 ?hDz11 ?k1z11 ?k2z11 ?k3z11 ?k4z11 ?Uz11 ?k5z11 ?kKz11 ?kdz11 ?kuz11 ?p0z11 ?p1z11 ?p2z11 ?_; (case hDz11 => first | with_reducible assumption | assumption); (case hWz11 => first | with_reducible assumption | assumption); (case hdz11 => first | with_reducible assumption | assumption); (case k1z11 => k_asm); (case k2z11 => k_asm); (case k3z11 => k_asm); (case k4z11 => k_asm); (case Uz11 => k_updF); (case k5z11 => k_asm); (case kKz11 => first | exact rfl | assumption); (case kdz11 => ktr_room); (case kuz11 => ktr_units); (case p0z11 => first | with_reducible assumption | assumption); (case p1z11 => first | with_reducible assumption | assumption); (case p2z11 => first | with_reducible assumption | assumption); skip); intro x'q9 y'q9 n'q9 t1'q9 t2'q9 p'q9 W'q9 T'q9 u0'q9 u1'q9 u2'q9 u3'q9 h'q9 tk'q9 hp'q9 hpl'q9 hp0'q9 F'q9 N'q9 hW1'q9 hT1'q9 hx'q9 hy'q9 hy1'q9; (try dsimp only at N'q9); (try dsimp only); (try k_fold))
  k_with "mine call ref" => (k_here; (with_reducible show wpAny _ _ (call (Value.ref 133) _) _ _ _); k_dflt (refine' one_wrong ?hWz12 ?hdz12 ?hDz12 ?k1z12 ?k2z12 ?k3z12 ?k4z12 ?Uz12 ?k5z12 ?kKz12 ?kdz12 ?kuz12 ?p0z12 ?p1z12 ?p2z12 ?_; (case hDz12 => first | with_reducible assumption | assumption); (case hWz12 => first | with_reducible assumption | assumption); (case hdz12 => first | with_reducible assumption | assumption); (case k1z12 => k_asm); (case k2z12 => k_asm); (case k3z12 => k_asm); (case k4z12 => k_asm); (case Uz12 => k_updF); (case k5z12 => k_asm); (case kKz12 => first | exact rfl | assumption); (case kdz12 => ktr_room); (case kuz12 => ktr_units); (case p0z12 => first | with_reducible assumption | assumption); (case p1z12 => first | with_reducible assumption | assumption); (case p2z12 => first | with_reducible assumption | assumption); skip); intro x'q9 y'q9 n'q9 t1'q9 t2'q9 p'q9 W'q9 u0'q9 u1'q9 h'q9 tk'q9 hp'q9 hpl'q9 hp0'q9 hq0'q9 hq1'q9 F'q9 N'q9 hW1'q9 hx'q9 hy'q9 hy1'q9; (try dsimp only at N'q9); (try dsimp only); (try k_fold))
  k_with "mine call ref" => (k_here; (with_reducible show wpAny _ _ (call (Value.ref 173) _) _ _ _); k_dflt (refine' sign_right_upd ?k1z13 ?k2z13 ?k3z13 ?k4z13 ?Uz13 ?k5z13 ?kKz13 ?kdz13 ?kuz13 ?xbz13 ?tbz13 ?cbz13 ?hTz13 ?hrz13 ?hnz13 ?p0z13 ?p1z13 ?p2z13 ?p3z13 ?_; (case k1z13 => k_asm); (case k2z13 => k_asm); (case k3z13 => k_asm); (case k4z13 => k_asm); (case Uz13 => k_updF); (case k5z13 => k_asm); (case kKz13 => first | exact rfl | assumption); (case kdz13 => ktr_room); (case kuz13 => ktr_units); (case xbz13 => first | with_reducible assumption | assumption); (case tbz13 => first | with_reducible assumption | assumption); (case cbz13 => first | with_reducible assumption | assumption); (case hTz13 => first | with_reducible assumption | assumption); (case hrz13 => exact fun q hq => by (repeat (first | exact hq | exact List.mem_append_left _ hq | apply List.Mem.tail | apply List.mem_append_right))); (case hnz13 => first | with_reducible assumption | assumption); (case p0z13 => first | with_reducible assumption | omega | assumption); (case p1z13 => first | with_reducible assumption | omega | assumption); (case p2z13 => first | with_reducible assumption | omega | assumption); (case p3z13 => first | with_reducible assumption | assumption); skip); intro ps'q9 own'q9 g'q9 h'q9 tk'q9 kTq9 kBq9 kXq9 kTTq9 F'q9 N'q9 hT'q9 hd'q9; (try k_lift kBq9); (try dsimp only at N'q9); (try dsimp only); (try k_fold))
  k_with "mine newList" => (k_here; k_dflt (refine' newList_K ?k1z14 ?k2z14 ?_; (case k1z14 => k_asm); (case k2z14 => k_asm); k_whole); intro l'q9 h'q9 F'q9 N'q9 l1q9; (try k_sweep))
  k_with "mine execs cons" => (k_here; (with_reducible show wpAny _ _ (execs (Stmt.Assign [Expr.Tuple _ _ _] _ _ :: _) _) _ _ _); (refine LawStop.out ?_))
  k_with "mine call ref" => (k_here; (with_reducible show wpAny _ _ (call (Value.ref 180) _) _ _ _); k_dflt (refine' word_right_spec ?k1z16 ?k2z16 ?k3z16 ?k4z16 ?k5z16 ?kKz16 ?kdz16 ?kuz16 ?xbz16 ?tbz16 ?cbz16 ?hSz16 ?hPz16 ?hSPz16 ?p0z16 ?p1z16 ?p2z16 ?_; (case k1z16 => k_asm); (case k2z16 => k_asm); (case k3z16 => k_asm); (case k4z16 => exact News.two (by k_asm) (by k_mem) (by k_mem)); (case k5z16 => k_asm); (case kKz16 => first | exact rfl | assumption); (case kdz16 => ktr_room); (case kuz16 => ktr_units); (case xbz16 => assumption); (case tbz16 => assumption); (case cbz16 => assumption); (case hSz16 => exact two_a); (case hPz16 => exact two_b); (case hSPz16 => assumption); (case p0z16 => assumption); (case p1z16 => assumption); (case p2z16 => assumption); skip); intro x'q9 y'q9 n'q9 t1'q9 t2'q9 ps'q9 g'q9 h'q9 tk'q9 kTq9 kBq9 F'q9 N'q9 hx'q9 hy'q9 hy1'q9; (try k_lift kBq9); (try dsimp only); (try k_fold))
  exact trivial
set_option maxRecDepth 100000 in
set_option maxHeartbeats 8000000 in
theorem law_3 {r : DefRec} (hr : lawDef = some r) {S : Addr} {x y : Int} {n : Nat} {t1 t2 tt : Tok} {o1 : Obj} {p1 p2 p3 : Array Value} {rest : List (Addr × Obj)} {tx : Str}
   (B : Below callerA base [] h₀) (F : Fr h₀ L s.heap (fun y => if y = Str.ofString "text" then some (.str tx tt) else m y)) (X : (hd.heap_1 w.params).In h₀) (T : Top topProg LZ mean mg mb h₀) (XB : (hd.heap_1 w.params).In base) (TB : Top topProg LZ mean mg mb base) (CB1 : CodeHd base 172 168) (CB2 : CodeHd base 186 182) (CB4 : CodeHd base 179 175)
   (N : News h₀ L s.heap ((S, listOf #[.int x t1, .int y t2] n) :: ((L + 1 : Nat), o1) :: (175, tabObj #[]) :: (168, tabObj p1) :: (182, tabObj p2) :: (189, tabObj p3) :: rest))
   (ho1 : o1.data = .cell (some (.ref S))) (hx : 0 ≤ x) (hy : 0 ≤ y) (hy1 : y < 2147483647) (hTS : TabOk 138 22 (Str.ofString "_law_sign_right.<locals>.<lambda>") p1 rest) (hTR : TabOk 161 22 QR p2 rest)
   (hl : tx.length ≤ 1000) (h0 : 0 < tx.length) (hok : PyData.strOk tx = true)
   (hL : @LT.lt Nat _ 189 L) (n1 : S ≠ 182) (n2 : S ≠ (L + 1 : Nat)) (n3 : S ≠ 175) (n4 : S ≠ 168) (n5 : S ≠ 189)
   (hrS : ∀ q ∈ rest, q.1 ≠ S) (hrc : ∀ q ∈ rest, q.1 ≠ (L + 1 : Nat)) (hr175 : ∀ q ∈ rest, q.1 ≠ 175) (hr168 : ∀ q ∈ rest, q.1 ≠ 168) (hr182 : ∀ q ∈ rest, q.1 ≠ 182) (hr189 : ∀ q ∈ rest, q.1 ≠ 189)
   (hE : PassesOwn (model prg w) (callerA.deeper (envOfC r.name r.scope L a ccd)) (envOfC r.name r.scope L a ccd) E)
   (hQ : ∀ h' tk', (∀ b o, base.get? b = some o → h'.get? b = some o) → GrownAt 189 h' → GrownAt 182 h' → GrownAt 175 h' → GrownAt 168 h' → Q (.ret (.bool true)) { s with heap := h', toks := tk' }) :
   wpAny (model prg w) (callerA.deeper (envOfC r.name r.scope L a ccd)) (execs (r.body.drop 4) (envOfC r.name r.scope L a ccd)) Q E s := by
  have hr' := hr
  obtain rfl : r = _ := Option.some.inj (hr.symm.trans (rfl : lawDef = some _))
  clear hr
  have c168 : (168 : Addr) ≠ (L + 1 : Nat) := fun e => by have e : (168 : Nat) = L + 1 := e; omega
  have c175 : (175 : Addr) ≠ (L + 1 : Nat) := fun e => by have e : (175 : Nat) = L + 1 := e; omega
  have c182 : (182 : Addr) ≠ (L + 1 : Nat) := fun e => by have e : (182 : Nat) = L + 1 := e; omega
  have c189 : (189 : Addr) ≠ (L + 1 : Nat) := fun e => by have e : (189 : Nat) = L + 1 := e; omega
  have a2 : (182 : Addr) ≠ 175 := by decide
  have a3 : (168 : Addr) ≠ 175 := by decide
  have a4 : (189 : Addr) ≠ 175 := by decide
  have a5 : (168 : Addr) ≠ 182 := by decide
  have a6 : (189 : Addr) ≠ 182 := by decide
  dsimp only [List.drop]
  k_steps
  rename Fr _ _ _ _ => F9
  rename News _ _ _ _ => N9
  rename Below _ _ _ _ => B9
  unfold LawStop
  refine law_4 hr' (rest := (175, tabObj _) :: (168, tabObj _) :: (189, tabObj p3) :: rest) B9 F9 (XB.keeps B9.stays) (TB.keeps B9.stays) XB TB CB2
    (News.few N9 (List.forall_mem_cons.mpr ⟨.head _, List.forall_mem_cons.mpr ⟨.tail _ (.tail _ (two_in (by k_mem) (Ne.symm n1) a2)), List.forall_mem_cons.mpr ⟨.tail _ (.tail _ (two_in (by k_mem) (Ne.symm n2) (Ne.symm c175))), List.forall_mem_cons.mpr ⟨.tail _ (.head _), List.forall_mem_cons.mpr ⟨.tail _ (.tail _ (two_in (by k_mem) (Ne.symm n4) a3)), List.forall_mem_cons.mpr ⟨.tail _ (.tail _ (two_in (by k_mem) (Ne.symm n5) a4)),
      fun q hq => .tail _ (.tail _ (two_in (by (repeat (first | exact hq | exact List.mem_append_left _ hq | apply List.Mem.tail | apply List.mem_append_right))) (hrS q hq) (hr175 q hq)))⟩⟩⟩⟩⟩⟩))
    ho1 (by assumption) (by assumption) (by assumption) (hTR.mono fun q hq => .tail _ (.tail _ (.tail _ hq))) n1 n2 c182
    (List.forall_mem_cons.mpr ⟨Ne.symm n3, List.forall_mem_cons.mpr ⟨Ne.symm n4, List.forall_mem_cons.mpr ⟨Ne.symm n5, hrS⟩⟩⟩)
    (List.forall_mem_cons.mpr ⟨Ne.symm a2, List.forall_mem_cons.mpr ⟨a5, List.forall_mem_cons.mpr ⟨a6, hr182⟩⟩⟩)
    (List.forall_mem_cons.mpr ⟨c175, List.forall_mem_cons.mpr ⟨c168, List.forall_mem_cons.mpr ⟨c189, hrc⟩⟩⟩)
    (.tail _ (.head _)) (.head _) (.tail _ (.tail _ (.head _))) hE fun h' tk' a b c d e => hQ h' tk' a b c d e
end
end Mine
end
section
open PySem PySem.W PyProof.Rows PySem.Calls
namespace Mine


abbrev SG : List Str := [Str.ofString "<", Str.ofString "<", Str.ofString "=", Str.ofString ">", Str.ofString ".", Str.ofString "&", Str.ofString "|", Str.ofString "-", Str.ofString ":", Str.ofString "+", Str.ofString "a", Str.ofString "1", Str.ofString "#", Str.ofString "*"]
abbrev TSC : Scope := { kind := .function, names := [(Str.ofString ".0", .local), (Str.ofString "turn", .local), (Str.ofString "_law_one", .globalImplicit), (Str.ofString "signs", .free), (Str.ofString "source", .free)], isGenerator := false, isCoroutine := false }
theorem strs_snoc {ys : List Value} {zs : List Str} {z : Str} {t : Tok} (h : StrsAre ys zs) : StrsAre (ys ++ [.str z t]) (zs ++ [z]) := by
  induction h with
  | nil => exact .cons _ _ .nil
  | cons y t _ ih => exact .cons y t ih
section
variable {w : World} {mean : ExcName → Option Value} {mg mb : Str → Option Value} {dp un : Nat} {gd : Option (List Code)} {cn : Str} {cs₁ : Scope} {a : Addr} {ccd : Value} {cl : List (Str × Addr)} {outer : List Env} {A₀ : Around} {base h₀ : Heap} {L : Addr} {m : Str → Option Value} {s : Shared} {Q E : Value → Shared → Prop} {news : List (Addr × Obj)}

variable {m₂ : Str → Option Value} {I C D S l c1 c2 : Addr} {oI oC oD o1 o2 : Obj} {x y : Int} {n nl : Nat} {t1 t2 : Tok} {sgs : Array Value} {rest : List (Addr × Obj)} {E' : Value → Shared → Prop} {rest' : Value → List (Addr × Obj) → Prop} {p1 p2 p3 p4 : Pos}
theorem words_JT_1 : Flush := by
  (try w_top off)
  k_with_none
  k_with "mine k_ne" => (refine neN ?_; (try dsimp only); first | (refine Nat.ne_of_lt ?_; (repeat (first | exact Nat.lt_add_one _ | refine Nat.lt.step ?_)); done) | (refine Nat.ne_of_gt ?_; (repeat (first | exact Nat.lt_add_one _ | refine Nat.lt.step ?_)); done) | omega)
  k_with "mine spliced" => (k_here; with_reducible (first | refine args_s8 ?_ | refine args_s4 ?_ | refine args_s2 ?_ | refine args_s1 ?_ | refine args_i1 ?_))
  k_with "mine ktr_room" => ((try dsimp only [ktrTop, Around.deeper]); (try simp only [depth_under_make, depth_under_kw, depth_in1, depth_deeper, depth_caller, depth_mark]); (try dsimp only [ktrTop]); first | ((simp only [Nat.add_assoc]); exact room_le (by assumption) (by rfl)) | omega)
  k_with "mine ktr_units" => ((try dsimp only [ktrTop, Around.deeper]); (try simp only [units_in1, units_deeper, Around.mark_units, units_caller]); (try dsimp only [ktrTop]); first | ((simp only [Nat.add_assoc]); exact room_le (by assumption) (by rfl)) | omega)
  k_with "mine exec Raise some none" => (k_here; k_dflt (refine' raise_fault ?hhz1 ?_; (case hhz1 => first | exact rfl | assumption); k_whole))
  k_with "mine call ref" => (k_here; (with_reducible show wpAny _ _ (call (Value.ref 45) [_, _]) _ _ _); k_dflt (refine' fault_make ?k1z2 ?k2z2 ?k3z2 ?k4z2 ?k5z2 ?kKz2 ?kdz2 ?kuz2 ?_; (case k1z2 => k_asm); (case k2z2 => k_asm); (case k3z2 => k_asm); (case k4z2 => k_asm); (case k5z2 => k_asm); (case kKz2 => first | exact rfl | assumption); (case kdz2 => ktr_room); (case kuz2 => ktr_units)); intro h'q9 tk'q9 e'q9 t'q9 d'q9 od'q9 F'q9 hs'q9 N'q9 ne1'q9 ne2'q9; (refine ⟨_, _, _, rfl, (N'q9 _ (.head _)).1, rfl, rfl, rfl, Frag.In.keeps (by k_asm) (Fr.keep F'q9), ?_⟩); (try dsimp only))
  k_with "mine leaving ref" => (k_here; (refine' leave_onF ?k1z3 ?k2z3 ?k3z3 ?k4z3 ?_; (case k3z3 => assumption); (case k1z3 => assumption); (case k2z3 => assumption); (case k4z3 => exact fun q hq => (News.mk (by k_asm) q hq).2.2); intro h'q9 R'q9; (try dsimp only)))
  k_with "mine leaving ref" => (k_here; (refine' leave_raiseF ?k1z4 ?k2z4 ?k3z4 ?k4z4 ?k5z4 ?k6z4 ?_; (case k1z4 => assumption); (case k2z4 => assumption); (case k3z4 => assumption); (case k4z4 => assumption); (case k5z4 => assumption); (case k6z4 => assumption); intro h'q9 R'q9; (try dsimp only)))
  k_with "mine k_mem" => (refine List.mem_append_right _ ?_; k_mem)
  k_with "mine k_mem" => (refine List.mem_append_left _ ?_; k_mem)
  k_with "mine call ref" => (k_here; (with_reducible show wpAny _ _ (call (Value.ref 133) _) _ _ _); k_dflt (refine' one_strs ?k1z5 ?k2z5 ?k3z5 ?k4z5 ?Uz5 ?k5z5 ?kKz5 ?kdz5 ?kuz5 ?p0z5 ?p1z5 ?p2z5 ?hDz5 ?hDSz5 ?hiz5 ?s1z5 ?s2z5 ?s3z5 ?_; (case k1z5 => k_asm); (case k2z5 => k_asm); (case k3z5 => k_asm); (case k4z5 => k_asm); (case Uz5 => k_updF); (case k5z5 => k_asm); (case kKz5 => first | exact rfl | assumption); (case kdz5 => ktr_room); (case kuz5 => ktr_units); (case p0z5 => first | with_reducible assumption | assumption); (case p1z5 => first | with_reducible assumption | assumption); (case p2z5 => first | with_reducible assumption | assumption); (case hDz5 => k_mem); (case hDSz5 => k_ne); (case hiz5 => repeat' constructor); (case s1z5 => decide); (case s2z5 => decide); (case s3z5 => decide +kernel); skip); intro x'q9 y'q9 n'q9 t1'q9 t2'q9 z'q9 tz'q9 h'q9 tk'q9 hz'q9 hzl'q9 F'q9 N'q9 hx'q9 hy'q9 hy1'q9; (try dsimp only at N'q9); (try dsimp only); (try k_fold))
  k_with "mine call ref" => (k_here; (with_reducible show wpAny _ _ (call (Value.ref 133) _) _ _ _); k_dflt (refine' one_words ?hWz6 ?hdz6 ?hDz6 ?k1z6 ?k2z6 ?k3z6 ?k4z6 ?Uz6 ?k5z6 ?kKz6 ?kdz6 ?kuz6 ?p0z6 ?p1z6 ?p2z6 ?_; (case hDz6 => first | with_reducible assumption | assumption); (case hWz6 => first | with_reducible assumption | assumption); (case hdz6 => first | with_reducible assumption | assumption); (case k1z6 => k_asm); (case k2z6 => k_asm); (case k3z6 => k_asm); (case k4z6 => k_asm); (case Uz6 => k_updF); (case k5z6 => k_asm); (case kKz6 => first | exact rfl | assumption); (case kdz6 => ktr_room); (case kuz6 => ktr_units); (case p0z6 => first | with_reducible assumption | assumption); (case p1z6 => first | with_reducible assumption | assumption); (case p2z6 => first | with_reducible assumption | assumption); skip); intro x'q9 y'q9 n'q9 t1'q9 t2'q9 p'q9 W'q9 T'q9 u0'q9 u1'q9 u2'q9 u3'q9 h'q9 tk'q9 hp'q9 hpl'q9 hp0'q9 F'q9 N'q9 hW1'q9 hT1'q9 hx'q9 hy'q9 hy1'q9; (try dsimp only at N'q9); (try dsimp only); (try k_fold))
  k_with "mine call ref" => (k_here; (with_reducible show wpAny _ _ (call (Value.ref 133) _) _ _ _); k_dflt (refine' one_wrong ?hWz7 ?hdz7 ?hDz7 ?k1z7 ?k2z7 ?k3z7 ?k4z7 ?Uz7 ?k5z7 ?kKz7 ?kdz7 ?kuz7 ?p0z7 ?p1z7 ?p2z7 ?_; (case hDz7 => first | with_reducible assumption | assumption); (case hWz7 => first | with_reducible assumption | assumption); (case hdz7 => first | with_reducible assumption | assumption); (case k1z7 => k_asm); (case k2z7 => k_asm); (case k3z7 => k_asm); (case k4z7 => k_asm); (case Uz7 => k_updF); (case k5z7 => k_asm); (case kKz7 => first | exact rfl | assumption); (case kdz7 => ktr_room); (case kuz7 => ktr_units); (case p0z7 => first | with_reducible assumption | assumption); (case p1z7 => first | with_reducible assumption | assumption); (case p2z7 => first | with_reducible assumption | assumption); skip); intro x'q9 y'q9 n'q9 t1'q9 t2'q9 p'q9 W'q9 u0'q9 u1'q9 h'q9 tk'q9 hp'q9 hpl'q9 hp0'q9 hq0'q9 hq1'q9 F'q9 N'q9 hW1'q9 hx'q9 hy'q9 hy1'q9; (try dsimp only at N'q9); (try dsimp only); (try k_fold))
  exact trivial
set_option maxRecDepth 100000 in
set_option maxHeartbeats 1000000 in
theorem text_turn
   (B : Below A₀ base outer h₀) (X : (hd.heap_1 w.params).In h₀) (T : Top topProg LZ mean mg mb h₀) (hk : cs₁.kind = .function) (hdp : dp + 3 < recursionLimit) (hun : un + 30 < cLine) (CB : CodeHd h₀ 193 189)
   (hC : LCg.NsObj oC m₂) (F : Fr h₀ L s.heap m) (N : News h₀ L s.heap ((I, oI) :: (C, oC) :: (D, oD) :: (l, listOf sgs nl) :: (S, listOf #[.int x t1, .int y t2] n) :: (c2, o2) :: (c1, o1) :: rest))
   (off : LCg.Off3 I C D ((l, listOf sgs nl) :: (S, listOf #[.int x t1, .int y t2] n) :: (c2, o2) :: (c1, o1) :: rest)) (ne : ((@Ne Nat I C) ∧ (@Ne Nat I D) ∧ (@Ne Nat C D)))
   (ho1 : o1.data = .cell (some (.ref S))) (ho2 : o2.data = .cell (some (.ref l))) (hx : 0 ≤ x) (hy : 0 ≤ y) (hy1 : y < 2147483647)
   (hb1 : (compEnvC TSC [(Str.ofString "source", c1), (Str.ofString "signs", c2)] C (envX cn cs₁ L a ccd cl)).kindOf (Str.ofString "source") = some .cell) (hb2 : (compEnvC TSC [(Str.ofString "source", c1), (Str.ofString "signs", c2)] C (envX cn cs₁ L a ccd cl)).kindOf (Str.ofString "signs") = some .cell)
   (hSl : S ≠ l) (hS1 : S ≠ c1) (hS2 : S ≠ c2) (hSr : ∀ q ∈ rest, q.1 ≠ S) (hs : StrsAre sgs.toList SG)
   (k : ∀ z ∈ SG, ∀ tz x' y' n' t1' t2', 0 ≤ x' → 0 ≤ y' → y' < 2147483647 → rest' (.str z tz) ((l, listOf sgs nl) :: (S, listOf #[.int x' t1', .int y' t2'] n') :: (c2, o2) :: (c1, o1) :: rest)) :
   wpAny (model prg w) (ktrTop dp un gd cn cs₁ L a ccd cl outer) (eval (.Call (.Name (Str.ofString "_law_one") p1) [.Name (Str.ofString "source") p2, .Name (Str.ofString "signs") p3] [] p4) (compEnvC TSC [(Str.ofString "source", c1), (Str.ofString "signs", c2)] C (envX cn cs₁ L a ccd cl)))
     (LCg.CompEnd h₀ L m s I oI C oC D oD (fun _ => True) rest') E' s := by
  have q1 : ([(Str.ofString "source", c1), (Str.ofString "signs", c2)] : List (Str × Addr)).lookup (Str.ofString "source") = some c1 := by first | rfl | simp
  have q2 : ([(Str.ofString "source", c1), (Str.ofString "signs", c2)] : List (Str × Addr)).lookup (Str.ofString "signs") = some c2 := by first | rfl | simp
  iterate 5 walk1
  refine lcf_cell N (c := c1) (o := o1) q1 ?zm ho1 ?zq ?zk hb1 ?zh
  case zm => exact .tail _ (.tail _ (.tail _ (.tail _ (.tail _ (.tail _ (.head _))))))
  case zk => rfl
  case zh => decide
  walk1
  refine lcf_cell N (c := c2) (o := o2) q2 ?ym ho2 ?yq ?yk hb2 ?yh
  case ym => exact .tail _ (.tail _ (.tail _ (.tail _ (.tail _ (.head _)))))
  case yk => rfl
  case yh => decide
  walk1
  walk1
  have hrest : ∀ p ∈ (c2, o2) :: (c1, o1) :: rest, p.1 ≠ S := List.forall_mem_cons.mpr ⟨Ne.symm hS2, List.forall_mem_cons.mpr ⟨Ne.symm hS1, hSr⟩⟩
  refine one_strs B F X N (.tail (Ne.symm off.2.1.1) (.tail (Ne.symm off.2.1.2.1) (.tail (Ne.symm off.2.1.2.2) (.tail (Ne.symm hSl) (.head hrest))))) T hk (by omega) (by omega) hx hy hy1 (.tail _ (.tail _ (.tail _ (.head _)))) (Ne.symm hSl) hs (by decide) (by decide) (by decide +kernel) ?_
  intro x' y' n' t1' t2' z tz h' tk' hz hzl F' N' hx' hy' hy1'
  (try k_unfold)
  exact LCg.CompEnd.intro F' N' _ (fun q hq => hq) ⟨off.1, off.2.1, off.2.2⟩ trivial (k z hz tz x' y' n' t1' t2' hx' hy' hy1')
theorem text_rest {total : Nat} {Fin : List Value → List (Addr × Obj) → Prop} {P : Nat → Value → Prop}
   (B : Below A₀ base outer h₀) (X : (hd.heap_1 w.params).In h₀) (T : Top topProg LZ mean mg mb h₀) (hk : cs₁.kind = .function) (hdp : dp + 3 < recursionLimit) (hun : un + 30 < cLine) (CB : CodeHd h₀ 193 189)
   (ho1 : o1.data = .cell (some (.ref S))) (ho2 : o2.data = .cell (some (.ref l)))
   (hb1 : ∀ C, (compEnvC TSC [(Str.ofString "source", c1), (Str.ofString "signs", c2)] C (envX cn cs₁ L a ccd cl)).kindOf (Str.ofString "source") = some .cell) (hb2 : ∀ C, (compEnvC TSC [(Str.ofString "source", c1), (Str.ofString "signs", c2)] C (envX cn cs₁ L a ccd cl)).kindOf (Str.ofString "signs") = some .cell)
   (hSl : S ≠ l) (hS1 : S ≠ c1) (hS2 : S ≠ c2) (hSr : ∀ q ∈ rest, q.1 ≠ S) (hs : StrsAre sgs.toList SG)
   (fin : ∀ ys zs x' y' n' t1' t2', StrsAre ys zs → (∀ z ∈ zs, z ∈ SG) → zs.length = total → 0 ≤ x' → 0 ≤ y' → y' < 2147483647 → Fin ys ((l, listOf sgs nl) :: (S, listOf #[.int x' t1', .int y' t2'] n') :: (c2, o2) :: (c1, o1) :: rest)) :
   ∀ (k i : Nat) (ys : List Value) (zs : List Str) (x y : Int) (n : Nat) (t1 t2 : Tok), StrsAre ys zs → (∀ z ∈ zs, z ∈ SG) → zs.length + k = total → 0 ≤ x → 0 ≤ y → y < 2147483647 →
     LCg.CompRest prg w (ktrTop dp un gd cn cs₁ L a ccd cl outer) h₀ L m (envX cn cs₁ L a ccd cl) (.Call (.Name (Str.ofString "_law_one") p1) [.Name (Str.ofString "source") p2, .Name (Str.ofString "signs") p3] [] p4) (Str.ofString "turn") TSC [(Str.ofString "source", c1), (Str.ofString "signs", c2)] s (fun _ => True) P Fin k i ys
       ((l, listOf sgs nl) :: (S, listOf #[.int x t1, .int y t2] n) :: (c2, o2) :: (c1, o1) :: rest) := by
  intro k
  induction k with
  | zero =>
    intro i ys zs x y n t1 t2 h1 h2 h3 hx hy hy1
    exact fin ys zs x y n t1 t2 h1 h2 h3 hx hy hy1
  | succ k ih =>
    intro i ys zs x y n t1 t2 h1 h2 h3 hx hy hy1
    refine LCg.CompRest.succ ?_
    intro v I oI C oC D m₂ h tk E' hv hC hx2 F N off ne
    refine text_turn B X T hk hdp hun CB hC F N off ne ho1 ho2 hx hy hy1 (hb1 C) (hb2 C) hSl hS1 hS2 hSr hs fun z hz tz x' y' n' t1' t2' a b c => ?_
    refine ih (i + 1) _ (zs ++ [z]) x' y' n' t1' t2' (strs_snoc h1) (fun q hq => ?_) (by rw [List.length_append, List.length_singleton]; omega) a b c
    rcases List.mem_append.mp hq with hq | hq
    · exact h2 q hq
    · rw [List.mem_singleton.mp hq]; exact hz
end
end Mine
end
section
open PySem PySem.W PyProof.Rows PySem.Calls
namespace Mine
theorem far {a b : Nat} (h : b < a) : @Ne Addr a b := Nat.ne_of_gt h
theorem rng_ok {k : Int} (h0 : 0 ≤ k) (h1 : k < 3) : Builtin.Range.rangeSize 0 (1 + k) 1 = (((1 + k).toNat : Nat) : Int) ∧ Builtin.Range.small 0 (1 + k) 1 = true ∧ (1 + k).toNat ≤ sizeLine := by
  have hsz : Builtin.Range.rangeSize 0 (1 + k) 1 = (((1 + k).toNat : Nat) : Int) := by
    unfold Builtin.Range.rangeSize
    simp
    omega
  refine ⟨hsz, ?_, by rw [sizeLine_eq]; omega⟩
  simp [Builtin.Range.small, Builtin.Range.rangeFitsLong, hsz]
  omega
theorem strOk_app (a b : Str) (h1 : PyData.strOk a = true) (h2 : PyData.strOk b = true) : PyData.strOk (a ++ b) = true := by
  show Array.all (a.cps ++ b.cps) _ = true
  rw [Array.all_append]
  unfold PyData.strOk at h1 h2
  rw [h1, h2]
  rfl
theorem join_ok : ∀ zs : List Str, (∀ z ∈ zs, z.length = 1 ∧ PyData.strOk z = true) → PyData.strOk (Str.join (Str.ofString "") zs) = true ∧ (Str.join (Str.ofString "") zs).length = zs.length
  | [], _ => ⟨by decide +kernel, by decide +kernel⟩
  | [x], h => ⟨(h x (.head _)).2, (h x (.head _)).1⟩
  | x :: y :: r, h => by
    have ih := join_ok (y :: r) fun z hz => h z (.tail _ hz)
    have hx := h x (.head _)
    have e : Str.join (Str.ofString "") (x :: y :: r) = x ++ Str.ofString "" ++ Str.join (Str.ofString "") (y :: r) := rfl
    rw [e]
    refine ⟨strOk_app _ _ (strOk_app _ _ hx.2 (by decide +kernel)) ih.1, ?_⟩
    have z : (Str.ofString "").length = 0 := by decide +kernel
    rw [len_append, len_append, ih.2, hx.1, z]
    simp only [List.length_cons]
    omega
theorem sg_one : ∀ z ∈ SG, z.length = 1 ∧ PyData.strOk z = true := by decide +kernel
theorem txt_ok {zs : List Str} (h : ∀ z ∈ zs, z ∈ SG) : PyData.strOk (Txt.join (Str.ofString "") zs) = true ∧ (Txt.join (Str.ofString "") zs).length = zs.length := by
  have e : Txt.join (Str.ofString "") zs = Str.join (Str.ofString "") zs := StrLaws.glued_eq_join _ _
  rw [e]
  exact join_ok zs fun z hz => sg_one z (h z hz)
theorem sum_ok {zs : List Str} (h : ∀ z ∈ zs, z ∈ SG) : (zs.map (·.length)).sum = zs.length := by
  induction zs with
  | nil => rfl
  | cons a r ih => rw [List.map_cons, List.sum_cons, ih fun z hz => h z (.tail _ hz), (sg_one a (h a (.head _))).1, List.length_cons]; omega
theorem join_sg {prog : Program} {w : World} {A : Around} {E : Value → Shared → Prop} {s : Shared} {t : Tok} {Q : Value → Shared → Prop} {D L : Addr} {ys : List Value} {zs : List Str} {h₀ : Heap} {led : List (Addr × Obj)}
    (N : News h₀ L s.heap ((D, LCg.lst ys) :: led)) (hi : StrsAre ys zs) (hs : ∀ z ∈ zs, z ∈ SG) (hl : zs.length ≤ 3) (h0 : 1 ≤ zs.length)
    (h : ∀ tx t' k, tx.length ≤ 1000 → 0 < tx.length → PyData.strOk tx = true → Q (.str tx t') { s with toks := k }) : wpAny (model prog w) A (call (.builtin "str.join") [.str (Str.ofString "") t, .ref D]) Q E s := by
  have z : (Str.ofString "").length = 0 := by decide +kernel
  have hj := txt_ok hs
  refine join_list (News.isList N (.head _)) (by simpa using hi) (by rw [sum_ok hs, z]; omega) fun t' k => h _ t' k (by omega) (by omega) hj.1



section
variable {w : World} {mean : ExcName → Option Value} {mg mb : Str → Option Value} {a : Addr} {ccd : Value} {base h₀ : Heap} {L : Addr} {m : Str → Option Value} {s : Shared} {Q : Flow → Shared → Prop} {E : Value → Shared → Prop}
theorem words_L2_1 : Flush := by
  (try w_top off)
  k_with_none
  k_with "mine k_ne" => (refine neN ?_; (try dsimp only); first | (refine Nat.ne_of_lt ?_; (repeat (first | exact Nat.lt_add_one _ | refine Nat.lt.step ?_)); done) | (refine Nat.ne_of_gt ?_; (repeat (first | exact Nat.lt_add_one _ | refine Nat.lt.step ?_)); done) | omega)
  k_with "mine spliced" => (k_here; with_reducible (first | refine args_s8 ?_ | refine args_s4 ?_ | refine args_s2 ?_ | refine args_s1 ?_ | refine args_i1 ?_))
  k_with "mine ktr_room" => ((try dsimp only [ktrTop, Around.deeper]); (try simp only [depth_under_make, depth_under_kw, depth_in1, depth_deeper, depth_caller, depth_mark]); (try dsimp only [ktrTop]); first | ((simp only [Nat.add_assoc]); exact room_le (by assumption) (by rfl)) | omega)
  k_with "mine ktr_units" => ((try dsimp only [ktrTop, Around.deeper]); (try simp only [units_in1, units_deeper, Around.mark_units, units_caller]); (try dsimp only [ktrTop]); first | ((simp only [Nat.add_assoc]); exact room_le (by assumption) (by rfl)) | omega)
  k_with "mine exec Raise some none" => (k_here; k_dflt (refine' raise_fault ?hhz1 ?_; (case hhz1 => first | exact rfl | assumption); k_whole))
  k_with "mine call ref" => (k_here; (with_reducible show wpAny _ _ (call (Value.ref 45) [_, _]) _ _ _); k_dflt (refine' fault_make ?k1z2 ?k2z2 ?k3z2 ?k4z2 ?k5z2 ?kKz2 ?kdz2 ?kuz2 ?_; (case k1z2 => k_asm); (case k2z2 => k_asm); (case k3z2 => k_asm); (case k4z2 => k_asm); (case k5z2 => k_asm); (case kKz2 => first | exact rfl | assumption); (case kdz2 => ktr_room); (case kuz2 => ktr_units)); intro h'q9 tk'q9 e'q9 t'q9 d'q9 od'q9 F'q9 hs'q9 N'q9 ne1'q9 ne2'q9; (refine ⟨_, _, _, rfl, (N'q9 _ (.head _)).1, rfl, rfl, rfl, Frag.In.keeps (by k_asm) (Fr.keep F'q9), ?_⟩); (try dsimp only))
  k_with "mine leaving ref" => (k_here; (refine' leave_onF ?k1z3 ?k2z3 ?k3z3 ?k4z3 ?_; (case k3z3 => assumption); (case k1z3 => assumption); (case k2z3 => assumption); (case k4z3 => exact fun q hq => (News.mk (by k_asm) q hq).2.2); intro h'q9 R'q9; (try dsimp only)))
  k_with "mine leaving ref" => (k_here; (refine' leave_raiseF ?k1z4 ?k2z4 ?k3z4 ?k4z4 ?k5z4 ?k6z4 ?_; (case k1z4 => assumption); (case k2z4 => assumption); (case k3z4 => assumption); (case k4z4 => assumption); (case k5z4 => assumption); (case k6z4 => assumption); intro h'q9 R'q9; (try dsimp only)))
  k_with "mine LeaveT" => (k_dflt (refine' leaveT_ ?Fz7 ?Nz7 ?Tz7 ?_; (case Fz7 => k_asm); (case Nz7 => k_asm); (case Tz7 => first | assumption | exact KtsTurn.refl | exact KtsTurn.trans (by assumption) (by assumption)); k_whole); intro kgq9 kTq9 kFq9 kNq9 kBq9; (try k_lift kBq9); (try dsimp only))
  k_with "mine LeaveG" => (k_dflt (refine' leaveG_ ?Fz9 ?Nz9 ?_; (case Fz9 => k_asm); (case Nz9 => k_asm); k_whole); intro kFq9 kNq9 kDq9; (try dsimp only))
  k_with "mine k_mem" => (refine List.mem_append_right _ ?_; k_mem)
  k_with "mine k_mem" => (refine List.mem_append_left _ ?_; k_mem)
  k_with "mine call ref" => (k_here; (with_reducible show wpAny _ _ (call (Value.ref 133) _) _ _ _); k_dflt (refine' one_strs ?k1z10 ?k2z10 ?k3z10 ?k4z10 ?Uz10 ?k5z10 ?kKz10 ?kdz10 ?kuz10 ?p0z10 ?p1z10 ?p2z10 ?hDz10 ?hDSz10 ?hiz10 ?s1z10 ?s2z10 ?s3z10 ?_; (case k1z10 => k_asm); (case k2z10 => k_asm); (case k3z10 => k_asm); (case k4z10 => k_asm); (case Uz10 => k_updF); (case k5z10 => k_asm); (case kKz10 => first | exact rfl | assumption); (case kdz10 => ktr_room); (case kuz10 => ktr_units); (case p0z10 => first | with_reducible assumption | assumption); (case p1z10 => first | with_reducible assumption | assumption); (case p2z10 => first | with_reducible assumption | assumption); (case hDz10 => k_mem); (case hDSz10 => k_ne); (case hiz10 => repeat' constructor); (case s1z10 => decide); (case s2z10 => decide); (case s3z10 => decide +kernel); skip); intro x'q9 y'q9 n'q9 t1'q9 t2'q9 z'q9 tz'q9 h'q9 tk'q9 hz'q9 hzl'q9 F'q9 N'q9 hx'q9 hy'q9 hy1'q9; (try dsimp only at N'q9); (try dsimp only); (try k_fold))
  k_with "mine call ref" => (k_here; (with_reducible show wpAny _ _ (call (Value.ref 133) _) _ _ _); k_dflt (refine' one_words ?hWz11 ?hdz11 ?hDz11 ?k1z11 ?k2z11 ?k3z11 ?k4z11 ?Uz11 ?k5z11 ?kKz11 ?kdz11 ?kuz11 ?p0z11 ?p1z11 ?p2z11 ?_; (case hDz11 => first | with_reducible assumption | assumption); (case hWz11 => first | with_reducible assumption | assumption); (case hdz11 => first | with_reducible assumption | assumption); (case k1z11 => k_asm); (case k2z11 => k_asm); (case k3z11 => k_asm); (case k4z11 => k_asm); (case Uz11 => k_updF); (case k5z11 => k_asm); (case kKz11 => first | exact rfl | assumption); (case kdz11 => ktr_room); (case kuz11 => ktr_units); (case p0z11 => first | with_reducible assumption | assumption); (case p1z11 => first | with_reducible assumption | assumption); (case p2z11 => first | with_reducible assumption | assumption); skip); intro x'q9 y'q9 n'q9 t1'q9 t2'q9 p'q9 W'q9 T'q9 u0'q9 u1'q9 u2'q9 u3'q9 h'q9 tk'q9 hp'q9 hpl'q9 hp0'q9 F'q9 N'q9 hW1'q9 hT1'q9 hx'q9 hy'q9 hy1'q9; (try dsimp only at N'q9); (try dsimp only); (try k_fold))
  k_with "mine call ref" => (k_here; (with_reducible show wpAny _ _ (call (Value.ref 133) _) _ _ _); k_dflt (refine' one_wrong ?hWz12 ?hdz12 ?hDz12 ?k1z12 ?k2z12 ?k3z12 ?k4z12 ?Uz12 ?k5z12 ?kKz12 ?kdz12 ?kuz12 ?p0z12 ?p1z12 ?p2z12 ?_; (case hDz12 => first | with_reducible assumption | assumption); (case hWz12 => first | with_reducible assumption | assumption); (case hdz12 => first | with_reducible assumption | assumption); (case k1z12 => k_asm); (case k2z12 => k_asm); (case k3z12 => k_asm); (case k4z12 => k_asm); (case Uz12 => k_updF); (case k5z12 => k_asm); (case kKz12 => first | exact rfl | assumption); (case kdz12 => ktr_room); (case kuz12 => ktr_units); (case p0z12 => first | with_reducible assumption | assumption); (case p1z12 => first | with_reducible assumption | assumption); (case p2z12 => first | with_reducible assumption | assumption); skip); intro x'q9 y'q9 n'q9 t1'q9 t2'q9 p'q9 W'q9 u0'q9 u1'q9 h'q9 tk'q9 hp'q9 hpl'q9 hp0'q9 hq0'q9 hq1'q9 F'q9 N'q9 hW1'q9 hx'q9 hy'q9 hy1'q9; (try dsimp only at N'q9); (try dsimp only); (try k_fold))
  k_with "mine call ref" => (k_here; (with_reducible show wpAny _ _ (call (Value.ref 126) _) _ _ _); k_dflt (refine' take_upd ?k1z13 ?k2z13 ?k3z13 ?k4z13 ?Uz13 ?k5z13 ?kKz13 ?kdz13 ?kuz13 ?p0z13 ?p1z13 ?p2z13 ?p3z13 ?p4z13 ?_; (case k1z13 => k_asm); (case k2z13 => k_asm); (case k3z13 => k_asm); (case k4z13 => k_asm); (case Uz13 => k_updF); (case k5z13 => k_asm); (case kKz13 => first | exact rfl | assumption); (case kdz13 => ktr_room); (case kuz13 => ktr_units); (case p0z13 => first | with_reducible assumption | assumption); (case p1z13 => first | with_reducible assumption | assumption); (case p2z13 => first | with_reducible assumption | assumption); (case p3z13 => decide); (case p4z13 => decide); skip); intro x'q9 y'q9 k'q9 n'q9 t1'q9 t2'q9 t3'q9 h'q9 tk'q9 hk0'q9 hk1'q9 F'q9 N'q9 hx'q9 hy'q9 hy1'q9; (try dsimp only at N'q9); (try dsimp only); (try k_fold))
  k_with "mine eval ListComp" => (k_here; k_dflt (refine LCg.ListComp_U (F₀ := by k_asm) (by rfl) (by decide) (by rfl) (by decide) (by rfl) ?_); k_dflt lcg_toSrc)
  k_with "mine CompSrc" => (refine LawStop.out ?_)
  k_with "mine execs cons" => (k_here; (with_reducible show wpAny _ _ (execs (Stmt.If (Expr.BoolOp BoolOp.Or _ _) _ _ _ :: _) _) _ _ _); (refine LawStop.out ?_))
  exact trivial
set_option maxRecDepth 100000 in
set_option maxHeartbeats 8000000 in
theorem law_2 {r : DefRec} (hr : lawDef = some r) {S l : Addr} {x y : Int} {n nl : Nat} {t1 t2 : Tok} {o1 o2 : Obj} {p1 p2 p3 : Array Value} {rest : List (Addr × Obj)} {sgs : Array Value}
   (B : Below callerA base [] h₀) (F : Fr h₀ L s.heap m) (X : (hd.heap_1 w.params).In h₀) (T : Top topProg LZ mean mg mb h₀) (XB : (hd.heap_1 w.params).In base) (TB : Top topProg LZ mean mg mb base) (CB1 : CodeHd base 172 168) (CB2 : CodeHd base 186 182) (CB3 : CodeHd base 193 189) (CB4 : CodeHd base 179 175)
   (N : News h₀ L s.heap ((l, listOf sgs nl) :: (S, listOf #[.int x t1, .int y t2] n) :: ((L + 1 + 1 : Nat), o2) :: ((L + 1 : Nat), o1) :: (175, tabObj #[]) :: (168, tabObj p1) :: (182, tabObj p2) :: (189, tabObj p3) :: rest))
   (ho1 : o1.data = .cell (some (.ref S))) (ho2 : o2.data = .cell (some (.ref l))) (hs : StrsAre sgs.toList SG) (hx : 0 ≤ x) (hy : 0 ≤ y) (hy1 : y < 2147483647) (hTS : TabOk 138 22 (Str.ofString "_law_sign_right.<locals>.<lambda>") p1 rest) (hTR : TabOk 161 22 QR p2 rest)
   (hL : @LT.lt Nat _ 189 L) (n1 : S ≠ 182) (n2 : S ≠ (L + 1 : Nat)) (n3 : S ≠ 175) (n4 : S ≠ 168) (n5 : S ≠ 189) (n6 : S ≠ (L + 1 + 1 : Nat)) (n7 : S ≠ l) (hl : @LT.lt Nat _ (L + 1 + 1) l)
   (hrS : ∀ q ∈ rest, q.1 ≠ S) (hrc : ∀ q ∈ rest, q.1 ≠ (L + 1 : Nat)) (hrc2 : ∀ q ∈ rest, q.1 ≠ (L + 1 + 1 : Nat)) (hr175 : ∀ q ∈ rest, q.1 ≠ 175) (hr168 : ∀ q ∈ rest, q.1 ≠ 168) (hr182 : ∀ q ∈ rest, q.1 ≠ 182) (hr189 : ∀ q ∈ rest, q.1 ≠ 189)
   (hE : PassesOwn (model prg w) (callerA.deeper (envOfC r.name r.scope L a ccd)) (envOfC r.name r.scope L a ccd) E)
   (hQ : ∀ h' tk', (∀ b o, base.get? b = some o → h'.get? b = some o) → GrownAt 189 h' → GrownAt 182 h' → GrownAt 175 h' → GrownAt 168 h' → Q (.ret (.bool true)) { s with heap := h', toks := tk' }) :
   wpAny (model prg w) (callerA.deeper (envOfC r.name r.scope L a ccd)) (execs (r.body.drop 3) (envOfC r.name r.scope L a ccd)) Q E s := by
  have hr' := hr
  obtain rfl : r = _ := Option.some.inj (hr.symm.trans (rfl : lawDef = some _))
  clear hr
  have c168 : (168 : Addr) ≠ (L + 1 : Nat) := fun e => by have e : (168 : Nat) = L + 1 := e; omega
  have c175 : (175 : Addr) ≠ (L + 1 : Nat) := fun e => by have e : (175 : Nat) = L + 1 := e; omega
  have c182 : (182 : Addr) ≠ (L + 1 : Nat) := fun e => by have e : (182 : Nat) = L + 1 := e; omega
  have c189 : (189 : Addr) ≠ (L + 1 : Nat) := fun e => by have e : (189 : Nat) = L + 1 := e; omega
  dsimp only [List.drop]
  k_steps
  rename Fr _ _ _ _ => F₂
  rename News _ _ _ _ => N₂
  rename IsRange _ _ _ _ _ _ _ _ => R₂
  unfold LawStop
  refine LCg.CompSrc.range (n := _) rfl F₂ N₂ R₂ (rng_ok (by assumption) (by assumption)).2.1 (rng_ok (by assumption) (by assumption)).1 (rng_ok (by assumption) (by assumption)).2.2 fun gC => ?_
  refine' text_rest (total := _) ?zB ?zX ?zT ?zk ?zdp ?zun ?zCB ?zo1 ?zo2 ?zb1 ?zb2 ?zn1 ?zn2 ?zn3 ?zn4 ?zss ?fin _ 0 [] [] _ _ _ _ _ .nil (fun z hz => nomatch hz) ?zl ?zx0 ?zy0 ?zy1
  case zB => exact B
  case zX => exact X
  case zT => exact T
  case zk => rfl
  case zdp => ktr_room
  case zun => ktr_units
  case zCB => exact CB3.keeps B.stays
  case zo1 => exact ho1
  case zo2 => exact ho2
  case zb1 => intro C; rfl
  case zb2 => intro C; rfl
  case zn1 => exact n7
  case zn2 => exact n2
  case zn3 => exact n6
  case zn4 => exact List.forall_mem_cons.mpr ⟨Ne.symm n3, List.forall_mem_cons.mpr ⟨Ne.symm n4, List.forall_mem_cons.mpr ⟨Ne.symm n1, List.forall_mem_cons.mpr ⟨Ne.symm n5, hrS⟩⟩⟩⟩
  case zss => exact hs
  case zl => exact Nat.zero_add _
  case zx0 => assumption
  case zy0 => assumption
  case zy1 => assumption
  case fin =>
    intro ys' zs' x' y' n' t1' t2' hys' hzs' hzl' hx' hy' hy1'
    k_steps
    rename News _ _ _ _ => N₃
    refine join_sg N₃ hys' hzs' (by omega) (by omega) fun tx tt' k hl1 hl0 hok => ?_
    k_steps
    rename Fr _ _ _ _ => F9
    rename News _ _ _ _ => N9
    unfold LawStop
    refine law_3 hr' (rest := (l, listOf sgs nl) :: ((L + 1 + 1 : Nat), o2) :: rest) B F9 X T XB TB CB1 CB2 CB4 (News.few N9 (List.forall_mem_cons.mpr ⟨.tail _ (.tail _ (.head _)), List.forall_mem_cons.mpr ⟨.tail _ (.tail _ (.tail _ (.tail _ (.head _)))), List.forall_mem_cons.mpr ⟨.tail _ (.tail _ (.tail _ (.tail _ (.tail _ (.head _))))), List.forall_mem_cons.mpr ⟨.tail _ (.tail _ (.tail _ (.tail _ (.tail _ (.tail _ (.head _)))))), List.forall_mem_cons.mpr ⟨.tail _ (.tail _ (.tail _ (.tail _ (.tail _ (.tail _ (.tail _ (.head _))))))), List.forall_mem_cons.mpr ⟨.tail _ (.tail _ (.tail _ (.tail _ (.tail _ (.tail _ (.tail _ (.tail _ (.head _)))))))), List.forall_mem_cons.mpr ⟨.tail _ (.head _), List.forall_mem_cons.mpr ⟨.tail _ (.tail _ (.tail _ (.head _))), fun q hq => .tail _ (.tail _ (.tail _ (.tail _ (.tail _ (.tail _ (.tail _ (.tail _ (.tail _ (hq)))))))))⟩⟩⟩⟩⟩⟩⟩⟩)) ho1 (by assumption) (by assumption) (by assumption)
      (hTS.mono fun q hq => .tail _ (.tail _ hq)) (hTR.mono fun q hq => .tail _ (.tail _ hq)) hl1 hl0 hok hL n1 n2 n3 n4 n5 (List.forall_mem_cons.mpr ⟨Ne.symm n7, List.forall_mem_cons.mpr ⟨Ne.symm n6, hrS⟩⟩)
      (List.forall_mem_cons.mpr ⟨far (by omega), List.forall_mem_cons.mpr ⟨far (by omega), hrc⟩⟩) (List.forall_mem_cons.mpr ⟨far (by omega), List.forall_mem_cons.mpr ⟨far (by omega), hr175⟩⟩) (List.forall_mem_cons.mpr ⟨far (by omega), List.forall_mem_cons.mpr ⟨far (by omega), hr168⟩⟩) (List.forall_mem_cons.mpr ⟨far (by omega), List.forall_mem_cons.mpr ⟨far (by omega), hr182⟩⟩) (List.forall_mem_cons.mpr ⟨far (by omega), List.forall_mem_cons.mpr ⟨far (by omega), hr189⟩⟩)
      hE fun h' tk' a b c d e => hQ h' tk' a b c d e
end
end Mine
end
section
open PySem PySem.W PyProof.Rows PySem.Calls
namespace Mine



theorem forall_arr {P : Value → Prop} {l : List Value} (h : ∀ v ∈ l, P v) : ∀ v ∈ l.toArray, P v := fun v hv => h v (by simpa using hv)
theorem pairs_at {rest nws : List (Addr × Obj)} (_ : ∀ q ∈ rest, q ∈ nws) {l : List Value} {i : Nat} {v : Value} (hv : l.toArray[i]? = some v) (h : ∀ v ∈ l, PairAt rest v) : PairAt rest v := h v (by simpa using Array.mem_of_getElem? hv)

section
variable {w : World} {mean : ExcName → Option Value} {mg mb : Str → Option Value} {dp un : Nat} {gd : Option (List Code)} {cn : Str} {cs₁ : Scope} {a : Addr} {ccd : Value} {cl : List (Str × Addr)} {outer : List Env} {A₀ : Around} {base h₀ : Heap} {L : Addr} {m : Str → Option Value} {s : Shared} {Q E : Value → Shared → Prop} {news : List (Addr × Obj)}

theorem words_H11_1 : Flush := by
  (try w_top off)
  k_with_none
  k_with "mine k_ne" => (refine neN ?_; (try dsimp only); first | (refine Nat.ne_of_lt ?_; (repeat (first | exact Nat.lt_add_one _ | refine Nat.lt.step ?_)); done) | (refine Nat.ne_of_gt ?_; (repeat (first | exact Nat.lt_add_one _ | refine Nat.lt.step ?_)); done) | omega)
  k_with "mine spliced" => (k_here; with_reducible (first | refine args_s8 ?_ | refine args_s4 ?_ | refine args_s2 ?_ | refine args_s1 ?_ | refine args_i1 ?_))
  k_with "mine ktr_room" => ((try dsimp only [ktrTop, Around.deeper]); (try simp only [depth_under_make, depth_under_kw, depth_in1, depth_deeper, depth_caller, depth_mark]); (try dsimp only [ktrTop]); first | ((simp only [Nat.add_assoc]); exact room_le (by assumption) (by rfl)) | omega)
  k_with "mine ktr_units" => ((try dsimp only [ktrTop, Around.deeper]); (try simp only [units_in1, units_deeper, Around.mark_units, units_caller]); (try dsimp only [ktrTop]); first | ((simp only [Nat.add_assoc]); exact room_le (by assumption) (by rfl)) | omega)
  k_with "mine exec Raise some none" => (k_here; k_dflt (refine' raise_fault ?hhz1 ?_; (case hhz1 => first | exact rfl | assumption); k_whole))
  k_with "mine call ref" => (k_here; (with_reducible show wpAny _ _ (call (Value.ref 45) [_, _]) _ _ _); k_dflt (refine' fault_make ?k1z2 ?k2z2 ?k3z2 ?k4z2 ?k5z2 ?kKz2 ?kdz2 ?kuz2 ?_; (case k1z2 => k_asm); (case k2z2 => k_asm); (case k3z2 => k_asm); (case k4z2 => k_asm); (case k5z2 => k_asm); (case kKz2 => first | exact rfl | assumption); (case kdz2 => ktr_room); (case kuz2 => ktr_units)); intro h'q9 tk'q9 e'q9 t'q9 d'q9 od'q9 F'q9 hs'q9 N'q9 ne1'q9 ne2'q9; (refine ⟨_, _, _, rfl, (N'q9 _ (.head _)).1, rfl, rfl, rfl, Frag.In.keeps (by k_asm) (Fr.keep F'q9), ?_⟩); (try dsimp only))
  k_with "mine leaving ref" => (k_here; (refine' leave_onF ?k1z3 ?k2z3 ?k3z3 ?k4z3 ?_; (case k3z3 => assumption); (case k1z3 => assumption); (case k2z3 => assumption); (case k4z3 => exact fun q hq => (News.mk (by k_asm) q hq).2.2); intro h'q9 R'q9; (try dsimp only)))
  k_with "mine leaving ref" => (k_here; (refine' leave_raiseF ?k1z4 ?k2z4 ?k3z4 ?k4z4 ?k5z4 ?k6z4 ?_; (case k1z4 => assumption); (case k2z4 => assumption); (case k3z4 => assumption); (case k4z4 => assumption); (case k5z4 => assumption); (case k6z4 => assumption); intro h'q9 R'q9; (try dsimp only)))
  k_with "mine callWith ref" => (k_here; (with_reducible show wpAny _ _ (callWith _ (Value.ref _) _ (backTo _ (starEach (_ :: _) _)) []) _ _ _); k_dflt (refine' callWith_K ?k1z5 ?k2z5 ?_; (case k1z5 => k_asm); (case k2z5 => k_is); k_whole))
  k_with "mine LeaveT" => (k_dflt (refine' leaveT_ ?Fz8 ?Nz8 ?Tz8 ?_; (case Fz8 => k_asm); (case Nz8 => k_asm); (case Tz8 => first | assumption | exact KtsTurn.refl | exact KtsTurn.trans (by assumption) (by assumption)); k_whole); intro kgq9 kTq9 kFq9 kNq9 kBq9; (try k_lift kBq9); (try dsimp only))
  k_with "mine LeaveG" => (k_dflt (refine' leaveG_ ?Fz10 ?Nz10 ?_; (case Fz10 => k_asm); (case Nz10 => k_asm); k_whole); intro kFq9 kNq9 kDq9; (try dsimp only))
  k_with "mine k_mem" => (refine List.mem_append_right _ ?_; k_mem)
  k_with "mine k_mem" => (refine List.mem_append_left _ ?_; k_mem)
  k_with "mine exec For Tuple List cons nil" => (k_here; k_dflt (refine' wpAny_For ?_ ?hsz11; (case hsz11 => intro _; with_unfolding_all rfl)))
  k_with "mine exec For Tuple Name cons nil" => (k_here; k_dflt (refine' wpAny_For ?_ ?hsz12; (case hsz12 => intro _; with_unfolding_all rfl)))
  k_with "mine exec For Name Call cons nil" => (k_here; k_dflt (refine' wpAny_For ?_ ?hsz13; (case hsz13 => intro _; with_unfolding_all rfl)))
  k_with "mine call ref" => (k_here; (with_reducible show wpAny _ _ (call (Value.ref 173) _) _ _ _); k_dflt (refine' sign_right_upd ?k1z14 ?k2z14 ?k3z14 ?k4z14 ?Uz14 ?k5z14 ?kKz14 ?kdz14 ?kuz14 ?xbz14 ?tbz14 ?cbz14 ?hTz14 ?hrz14 ?hnz14 ?p0z14 ?p1z14 ?p2z14 ?p3z14 ?_; (case k1z14 => k_asm); (case k2z14 => k_asm); (case k3z14 => k_asm); (case k4z14 => k_asm); (case Uz14 => k_updF); (case k5z14 => k_asm); (case kKz14 => first | exact rfl | assumption); (case kdz14 => ktr_room); (case kuz14 => ktr_units); (case xbz14 => first | with_reducible assumption | assumption); (case tbz14 => first | with_reducible assumption | assumption); (case cbz14 => first | with_reducible assumption | assumption); (case hTz14 => first | with_reducible assumption | assumption); (case hrz14 => exact fun q hq => by (repeat (first | exact hq | exact List.mem_append_left _ hq | apply List.Mem.tail | apply List.mem_append_right))); (case hnz14 => first | with_reducible assumption | assumption); (case p0z14 => first | with_reducible assumption | omega | assumption); (case p1z14 => first | with_reducible assumption | omega | assumption); (case p2z14 => first | with_reducible assumption | omega | assumption); (case p3z14 => first | with_reducible assumption | assumption); skip); intro ps'q9 own'q9 g'q9 h'q9 tk'q9 kTq9 kBq9 kXq9 kTTq9 F'q9 N'q9 hT'q9 hd'q9; (try k_lift kBq9); (try dsimp only at N'q9); (try dsimp only); (try k_fold))
  k_with "mine call ref" => (k_here; (with_reducible show wpAny _ _ (call (Value.ref 105) _) _ _ _); k_dflt (refine' read_word_spec ?k1z15 ?k2z15 ?k3z15 ?k4z15 ?k5z15 ?kKz15 ?kdz15 ?kuz15 ?p0z15 ?p1z15 ?p2z15 ?_ ?_; (case k1z15 => k_asm); (case k2z15 => k_asm); (case k3z15 => k_asm); (case k4z15 => k_asm); (case k5z15 => k_asm); (case kKz15 => first | exact rfl | assumption); (case kdz15 => ktr_room); (case kuz15 => ktr_units); (case p0z15 => first | assumption | omega | (size_fits; done)); (case p1z15 => first | assumption | omega | (size_fits; done)); (case p2z15 => first | assumption | omega | (size_fits; done)); skip); (intro wd'q9 e'q9 hz'q9 ei'q9 hei'q9 D'q9 W'q9 t1'q9 t2'q9 t3'q9 t4'q9 t5'q9 te'q9 h'q9 tk'q9 F'q9 N'q9 ltWq9 ltDq9; (try replace ltDq9 := ltN ltDq9); (try k_lt ltWq9); (try dsimp only); (try k_fold)); rotate_left; (intro p'q9 hz'q9 e'q9 g'q9 h'q9 tk'q9 G'q9 R'q9; (try dsimp only)); rotate_left)
  k_with "mine eval Lambda" => (k_here; k_dflt (refine' lam_eval (ln := 169) (col := 22) (qual := Str.ofString "_law_told_right.<locals>.<lambda>") ?Fz16 ?Nz16 ?Tz16 ?Cz16 ?cdz16 ?Uz16 ?hTz16 ?hrz16 ?hgz16 ?hnz16 rfl rfl ?qz16 ?dz16 ?clz16 ?_; (case Fz16 => k_asm); (case Nz16 => k_asm); (case Tz16 => k_asm); (case Cz16 => first | assumption | exact CodeHd.keeps (by assumption) (Below.stays (by assumption))); (case cdz16 => exact rfl); (case Uz16 => k_updF); (case hTz16 => first | with_reducible assumption | assumption); (case hrz16 => exact (fun q hq => by repeat (first | exact hq | exact hr0 _ hq | apply List.Mem.tail | apply List.mem_append_right))); (case hgz16 => exact fun o' => (fun q hq => by repeat (first | exact hq | exact hr0 _ hq | apply List.Mem.tail | apply List.mem_append_right))); (case hnz16 => first | with_reducible assumption | assumption); (case qz16 => with_unfolding_all rfl); (case dz16 => exact rfl); (case clz16 => exact rfl); k_whole); intro f'q9 c'q9 oc'q9 vs'q9 t'q9 ct'q9 own'q9 h'q9 tk'q9 ps'q9 F'q9 N'q9 hm'q9 hd'q9 hv'q9 hT'q9 hne'q9 hlt'q9; (try dsimp only at N'q9))
  k_with "mine call ref" => (k_here; (with_reducible show wpAny _ _ (call (Value.ref 140) _) _ _ _); k_dflt (refine' heard_dat ?hRz17 ?k1z17 ?k2z17 ?k3z17 ?k4z17 ?k5z17 ?kKz17 ?kdz17 ?kuz17 ?xbz17 ?tbz17 ?hfz17 ?hsz17 ?_ ?_; (case hRz17 => first | with_reducible assumption | assumption); (case k1z17 => k_asm); (case k2z17 => k_asm); (case k3z17 => k_asm); (case k4z17 => k_asm); (case k5z17 => k_asm); (case kKz17 => first | exact rfl | assumption); (case kdz17 => ktr_room); (case kuz17 => ktr_units); (case xbz17 => first | with_reducible assumption | assumption); (case tbz17 => first | with_reducible assumption | assumption); (case hfz17 => k_mem); (case hsz17 => first | exact resW_ref _ | exact resL_ref _)); rotate_left; (intro D'q9 own'q9 g'q9 h'q9 tk'q9 kTq9 kBq9 kXq9 kTTq9 F'q9 N'q9 hD'q9 lt'q9; (try k_lift kBq9); (try dsimp only); (try k_fold)); rotate_left; (intro g'q9 L'q9 m'q9 s'q9 Q'q9 E'q9 F'q9 N'q9 B'q9 X'q9 T'q9 hq'q9 he'q9; (try k_lift B'q9)))
  k_with "mine leaving ref" => (k_here; (refine' leave_onX ?k1z19 ?k2z19 ?k3z19 ?k4z19 ?_; (case k3z19 => first | with_reducible assumption | assumption); (case k1z19 => first | with_reducible assumption | assumption); (case k2z19 => first | with_reducible assumption | assumption); (case k4z19 => exact fun q hq => (News.mk (by k_asm) q hq).2.2); intro h'q9 R'q9; (try dsimp only)))
  k_with "mine call ref" => (k_here; (with_reducible show wpAny _ _ (call (Value.ref _) []) _ _ _); k_dflt (refine wpAny_call ?_; ((refine' kla_code ?k1z18 ?k2z18 ?k3z18 ?k4z18 ?k5z18 ?kAz18 ?kFz18 ?kKz18 ?k6z18 ?k7z18 ?k8z18 ?k9z18 ?kBz18 ?_ ?c2z18 ?c3z18 ?c4z18 ?c5z18; (case kAz18 => exact rfl); (case kFz18 => exact rfl); (case kKz18 => first | exact rfl | assumption); (case k1z18 => k_asm); (case k2z18 => k_asm); (case k3z18 => k_asm); (case k4z18 => k_asm); (case k5z18 => k_asm); (case k6z18 => k_mem); (case k7z18 => exact codeRec_news (by k_asm) (by first | exact List.mem_cons_of_mem _ (by assumption) | k_mem) (by assumption) (by assumption)); (case k8z18 => ktr_room); (case k9z18 => exact rfl); (case c5z18 => decide); (case kBz18 => exact locs rfl); (case c2z18 => exact rfl); (case c3z18 => exact rfl); (case c4z18 => exact rfl); k_whole; intro g'q9 L'q9 h'q9 FG'q9 F'q9 N'q9 B'q9 X'q9 T'q9; (try dsimp only); (try k_lift B'q9); (try k_fold)))))
  k_with "mine newTuple" => (k_here; k_dflt (refine' kup_newTuple ?Fz21 ?Nz21 ?_ ?zz21; (case Fz21 => k_asm); (case Nz21 => k_asm); (case zz21 => kmk_size)); intro D'q9 h'q9 F'q9 N'q9 l1q9; (try k_sweep))
  k_with "mine newTuple" => (k_here; k_dflt (refine' tup_new ?kfz23 ?Fz23 ?Nz23 ?Oz23 ?zz23 ?_; (case kfz23 => assumption); (case Fz23 => k_asm); (case Nz23 => k_asm); (case Oz23 => first | with_reducible assumption | assumption); (case zz23 => kmk_size)); intro D'q9 h'q9 nws'q9 F'q9 N'q9 hO'q9 hs'q9 hm'q9; (try k_sweep))
  k_with "mine newList" => (k_here; k_dflt (refine' newList_K ?k1z24 ?k2z24 ?_; (case k1z24 => k_asm); (case k2z24 => k_asm); k_whole); intro l'q9 h'q9 F'q9 N'q9 l1q9; (try k_sweep))
  k_with "mine k_mem" => ((repeat (first | assumption | apply List.Mem.tail | apply List.mem_append_right)); done)
  k_with "mine k_ne" => first | exact lt_off (by assumption) (by k_mem) | exact Ne.symm (lt_off (by assumption) (by k_mem))
  k_with "mine call ref" => (k_here; (with_reducible show wpAny _ _ (call (Value.ref 166) _) _ _ _); k_dflt (refine' row_noneT ?k1z35 ?k2z35 ?k3z35 ?k4z35 ?k5z35 ?kKz35 ?kdz35 ?kuz35 ?kfz35 ?kOz35 ?p0z35 ?_; (case k1z35 => k_asm); (case k2z35 => k_asm); (case k3z35 => k_asm); (case k4z35 => k_asm); (case k5z35 => k_asm); (case kKz35 => first | exact rfl | assumption); (case kdz35 => ktr_room); (case kuz35 => ktr_units); (case kfz35 => assumption); (case kOz35 => first | with_reducible assumption | assumption); (case p0z35 => (repeat (first | with_reducible assumption | assumption | apply List.Mem.tail | refine (by with_reducible assumption : ∀ q ∈ _, q ∈ (_ : List (Addr × Obj))) _ ?_))); skip); intro W'q9 t1'q9 t2'q9 t3'q9 t4'q9 t5'q9 h'q9 tk'q9 nws'q9 F'q9 N'q9 hO'q9 hs'q9 hm'q9; (try dsimp only); (try k_fold))
  k_with "mine call ref" => (k_here; (with_reducible show wpAny _ _ (call (Value.ref 166) _) _ _ _); k_dflt (refine' row_someT ?k1z36 ?k2z36 ?k3z36 ?k4z36 ?k5z36 ?kKz36 ?kdz36 ?kuz36 ?kfz36 ?kOz36 ?p0z36 ?_; (case k1z36 => k_asm); (case k2z36 => k_asm); (case k3z36 => k_asm); (case k4z36 => k_asm); (case k5z36 => k_asm); (case kKz36 => first | exact rfl | assumption); (case kdz36 => ktr_room); (case kuz36 => ktr_units); (case kfz36 => assumption); (case kOz36 => first | with_reducible assumption | assumption); (case p0z36 => (repeat (first | with_reducible assumption | assumption | apply List.Mem.tail | refine (by with_reducible assumption : ∀ q ∈ _, q ∈ (_ : List (Addr × Obj))) _ ?_))); skip); intro W'q9 t1'q9 t2'q9 t3'q9 t4'q9 t5'q9 h'q9 tk'q9 nws'q9 F'q9 N'q9 hO'q9 hs'q9 hm'q9; (try dsimp only); (try k_fold))
  k_with "mine call ref" => (k_here; (with_reducible show wpAny _ _ (call (Value.ref 187) _) _ _ _); k_dflt (refine' rows_zip ?k1z37 ?k2z37 ?k3z37 ?k4z37 ?Uz37 ?k5z37 ?kKz37 ?kdz37 ?kuz37 ?xbz37 ?tbz37 ?cbz37 ?hTz37 ?hrz37 ?hnz37 ?hwz37 ?hgz37 ?hWz37 ?hGz37 ?hwrz37 ?hlenz37 ?hn6z37 ?h1z37 ?h2z37 ?hez37 ?_; (case k1z37 => k_asm); (case k2z37 => k_asm); (case k3z37 => k_asm); (case k4z37 => k_asm); (case Uz37 => k_updF); (case k5z37 => k_asm); (case kKz37 => first | exact rfl | assumption); (case kdz37 => ktr_room); (case kuz37 => ktr_units); (case xbz37 => first | with_reducible assumption | assumption); (case tbz37 => first | with_reducible assumption | assumption); (case cbz37 => first | with_reducible assumption | assumption); (case hTz37 => first | with_reducible assumption | assumption); (case hrz37 => (repeat' (first | refine List.forall_mem_append.mpr ⟨?_, ?_⟩ | exact fun q hq => (by (repeat (first | exact hq | exact List.mem_append_left _ hq | apply List.Mem.tail | apply List.mem_append_right)))))); (case hnz37 => first | with_reducible assumption | assumption); (case hwz37 => (repeat (first | exact List.Mem.head _ | apply List.Mem.tail | apply List.mem_append_right))); (case hgz37 => (repeat (first | exact List.Mem.head _ | apply List.Mem.tail | apply List.mem_append_right))); (case hWz37 => (first | exact .nil | exact .cons (d := TNAME) (t2 := 0) (t3 := 0) (by (first | ((repeat (first | exact List.Mem.head _ | apply List.Mem.tail | apply List.mem_append_right)); done) | ((repeat (first | assumption | apply List.Mem.tail | apply List.mem_append_right)); done))) (by (first | ((repeat (first | exact List.Mem.head _ | apply List.Mem.tail | apply List.mem_append_right)); done) | ((repeat (first | assumption | apply List.Mem.tail | apply List.mem_append_right)); done))) .nil | exact .cons (d := TNAME) (t2 := 0) (t3 := 0) (by (first | ((repeat (first | exact List.Mem.head _ | apply List.Mem.tail | apply List.mem_append_right)); done) | ((repeat (first | assumption | apply List.Mem.tail | apply List.mem_append_right)); done))) (by (first | ((repeat (first | exact List.Mem.head _ | apply List.Mem.tail | apply List.mem_append_right)); done) | ((repeat (first | assumption | apply List.Mem.tail | apply List.mem_append_right)); done))) (.cons (d := TSIGN) (t2 := 0) (t3 := 0) (by (first | ((repeat (first | exact List.Mem.head _ | apply List.Mem.tail | apply List.mem_append_right)); done) | ((repeat (first | assumption | apply List.Mem.tail | apply List.mem_append_right)); done))) (by (first | ((repeat (first | exact List.Mem.head _ | apply List.Mem.tail | apply List.mem_append_right)); done) | ((repeat (first | assumption | apply List.Mem.tail | apply List.mem_append_right)); done))) (.cons (d := TREGION) (t2 := 0) (t3 := 0) (by (first | ((repeat (first | exact List.Mem.head _ | apply List.Mem.tail | apply List.mem_append_right)); done) | ((repeat (first | assumption | apply List.Mem.tail | apply List.mem_append_right)); done))) (by (first | ((repeat (first | exact List.Mem.head _ | apply List.Mem.tail | apply List.mem_append_right)); done) | ((repeat (first | assumption | apply List.Mem.tail | apply List.mem_append_right)); done))) .nil)))); (case hGz37 => repeat' constructor); (case hwrz37 => first | exact .none | exact .some (by (repeat (first | exact List.Mem.head _ | apply List.Mem.tail)))); (case hlenz37 => rfl); (case hn6z37 => decide); (case h1z37 => decide +kernel); (case h2z37 => decide +kernel); (case hez37 => (first | (show _ ∈ ENDS; decide +kernel) | (show _ ∈ WRONG ∧ _ ∈ ENDS ++ [Str.ofString " ;"]; decide +kernel))); skip); intro ps'q9 own'q9 g'q9 h'q9 tk'q9 kTq9 kBq9 kXq9 kTTq9 F'q9 N'q9 hT'q9 hd'q9 hn'q9; (try k_lift kBq9); (try dsimp only at N'q9); (try dsimp only); (try k_fold))
  exact trivial
set_option maxRecDepth 100000 in
set_option maxHeartbeats 8000000 in
theorem told_right_spec 
   (B : Below A₀ base outer h₀) (F : Fr h₀ L s.heap m) (X : (hd.heap_1 w.params).In h₀) (N : News h₀ L s.heap ((168, tabObj #[]) :: (182, tabObj #[]) :: (189, tabObj #[]) :: news)) (T : Top topProg LZ mean mg mb h₀) (hk : cs₁.kind = .function)
   (hdp : dp + 60 < recursionLimit) (hun : un + 1200 < cLine) (XB : (hd.heap_1 w.params).In base) (TB : Top topProg LZ mean mg mb base) (CB1 : CodeHd base 172 168) (CB2 : CodeHd base 186 182) (CB3 : CodeHd base 193 189)
   (hn1 : ∀ p ∈ news, p.1 ≠ 168) (hn2 : ∀ p ∈ news, p.1 ≠ 182) (hn3 : ∀ p ∈ news, p.1 ≠ 189)
   (hret : ∀ (p1 p2 p3 : Array Value) (own : List (Addr × Obj)) (g' h' : Heap) (tk' : Nat), KtsTurn (outer.filterMap (·.frame)) h₀ g' → Below A₀ base outer g' → Fr g' L h' m → News g' L h' ((168, tabObj p1) :: (182, tabObj p2) :: (189, tabObj p3) :: (own ++ news)) → TabOk 138 22 (Str.ofString "_law_sign_right.<locals>.<lambda>") p1 (own ++ news) → TabOk 161 22 (Str.ofString "_law_rows_right.<locals>.<lambda>") p2 (own ++ news) → (∀ q ∈ own, ∀ p ∈ news, p.1 ≠ q.1) → (∀ q ∈ own, q.1 ≠ 168 ∧ q.1 ≠ 182 ∧ q.1 ≠ 189) → Q (.bool true) { s with heap := h', toks := tk' }) :
   wpAny (model prg w) (ktrTop dp un gd cn cs₁ L a ccd cl outer) (call (.ref 194) []) Q E s := by
  refine wpAny_call ?_
  k_dflt ((refine' codeT_defC ?k1z7 ?k2z7 ?k3z7 ?k4z7 ?k5z7 ?kAz7 ?kFz7 ?kKz7 ?k6z7 ?k7z7 ?k8z7 ?k9z7 ?kBz7 ?kDz7 ?_ ?c2z7 ?c3z7 ?c4z7; (case kAz7 => exact rfl); (case kFz7 => exact rfl); (case kKz7 => assumption); (case k1z7 => k_asm); (case k2z7 => k_asm); (case k3z7 => k_asm); (case k4z7 => k_asm); (case k5z7 => k_asm); (case k6z7 => k_is); (case k7z7 => k_is); (case k8z7 => ktr_room); (case k9z7 => exact BindsTo.of_eq rfl); (case kBz7 => exact rfl); (case kDz7 => decide +kernel); (case c2z7 => exact rfl); (case c3z7 => exact rfl); (case c4z7 => exact rfl); k_whole; intro g'q9 L'q9 h'q9 tk'q9 cells'q9 FG'q9 F'q9 N'q9 Y'q9 B'q9 X'q9 T'q9 l1q9; (try k_lt l1q9); k_cells Y'q9; (try simp only [List.cons_append, List.nil_append] at N'q9); (try dsimp only); (try k_lift B'q9); (try k_fold)))
  skip
  have hlL := And.right (And.right (And.right (by assumption : _ < _ ∧ _ < _ ∧ _ < _ ∧ AllLt _ news)))
  have hO0 := ofs_start (by assumption : 168 < _ ∧ 182 < _ ∧ 189 < _ ∧ AllLt _ news) hn1 hn2 hn3
  have hfo : FoldOn := trivial
  k_steps
  rename Fr _ _ _ _ => F₂
  rename News _ _ _ _ => N₂
  rename OffT _ _ _ => hOa
  have N₃ := lay_front (front := [_]) N₂
  have hO := OffT.front (front := [_]) hOa (tl_lt N₂ (by ((repeat' (first | exact List.forall_mem_nil _ | refine List.forall_mem_cons.mpr ⟨fun p hp => (by assumption : ∀ p ∈ _, p.1 < _) p (by (repeat (first | exact hp | exact List.mem_append_left _ hp | apply List.Mem.tail | apply List.mem_append_right))), ?_⟩)))))
  clear N₂
  dsimp only [List.cons_append, List.nil_append] at N₃ hO
  refine' for_list (outer := envX cn cs₁ L a ccd cl :: outer) (J := J1 _ _ _ _ _) rfl (by assumption) F₂ N₃ (J1.start (by assumption) (fun q hq => hq) hO) ?fix ?item ⟨_, _, _, rfl⟩ ?turn ?done (by passes_own)
  case fix =>
    rintro i g m nw ⟨u, oc, v, p1, nws, _, rfl, _, _, hr, _⟩
    exact .tail _ (.tail _ (.tail _ (.tail _ (.tail _ (hr _ (.head _))))))
  case item =>
    refine forall_arr ?_
    repeat' (first | exact List.forall_mem_nil _ | refine List.forall_mem_cons.mpr ⟨⟨_, rfl⟩, ?_⟩)
  case turn =>
    clear hfo
    intro i v I oI g m nw h tk hv hJ
    refine J1.elim hJ ?_
    clear hJ
    intro u oc vv p1 nws hoc hT1 hr hO1 hTT hBB F₃ N₃ hneI
    refine PairAt.elim (pairs_at hr hv (by ((repeat' (first | exact List.forall_mem_nil _ | refine List.forall_mem_cons.mpr ⟨⟨_, _, _, _, _, rfl, by (repeat (first | with_reducible assumption | assumption | apply List.Mem.tail | refine (by with_reducible assumption : ∀ q ∈ _, q ∈ (_ : List (Addr × Obj))) _ ?_)), by decide +kernel, by decide +kernel, by decide +kernel, by decide +kernel⟩, ?_⟩))))) ?_
    clear hv
    intro T₁ a₁ x₁ t1 t2 hm hl1 hl2 hl3 hok
    have X₃ := XB.keeps hBB.stays
    have T₃ := TB.keeps hBB.stays
    have hO2 := And.left hO1
    have hO3 := And.left (And.right hO1)
    have hO4 := And.left (And.right (And.right hO1))
    have hO5 := And.left (And.right (And.right (And.right hO1)))
    have hO6 := And.right (And.right (And.right (And.right hO1)))
    have hm := hr _ hm
    k_steps
    exact told1_end (by assumption) (by assumption) (by assumption) (fun z hz => by first | exact (if_neg hz).trans (if_neg hz) | simp [hz]) (by assumption) (by assumption) (by assumption) hr hO1 hneI (by assumption)
  case done =>
    intro g m nw h tk hJ
    refine J1.elim hJ ?_
    clear hJ
    intro u oc vv p1 nws1 hoc hT1 hra hO1 hTTa hBB F₃ N₃
    have X₃ := XB.keeps hBB.stays
    have T₃ := TB.keeps hBB.stays
    have hO2 := And.left hO1
    have hO3 := And.left (And.right hO1)
    have hO4 := And.left (And.right (And.right hO1))
    have hO5 := And.left (And.right (And.right (And.right hO1)))
    have hO6 := And.right (And.right (And.right (And.right hO1)))
    have hnews : ∀ q ∈ news, q ∈ nws1 := fun q hq => hra q (.tail _ (by (repeat (first | exact hq | refine (by with_reducible assumption : ∀ q ∈ _, q ∈ (_ : List (Addr × Obj))) _ ?_))))
    clear hra
    k_steps
    rename Fr _ _ _ _ => F₄
    rename News _ _ _ _ => N₄
    rename OffT _ _ _ => hOb
    rename ((_, tupO [Value.str (Str.ofString "sign") _, Value.none, Value.none]) ∈ _) => hSg
    rename ((_, tupO [Value.str (Str.ofString "region") _, Value.none, Value.none]) ∈ _) => hRg
    rename ((_, tupO [Value.str (Str.ofString "name") _, Value.none, Value.none]) ∈ _) => hNm
    have N₅ := lay_front (front := [_]) N₄
    have hO7 := OffT.front (front := [_]) hOb (tl_lt N₄ (by ((repeat' (first | exact List.forall_mem_nil _ | refine List.forall_mem_cons.mpr ⟨fun p hp => (by assumption : ∀ p ∈ _, p.1 < _) p (by (repeat (first | exact hp | exact List.mem_append_left _ hp | apply List.Mem.tail | apply List.mem_append_right))), ?_⟩)))))
    clear N₄
    dsimp only [List.cons_append, List.nil_append] at N₅ hO7
    refine' for_list (outer := envX cn cs₁ L a ccd cl :: outer) (J := J2 _ _ _ _ _) rfl (by assumption) F₄ N₅ (J2.start hoc (by assumption) (fun q hq => hq) hO7) ?fix2 ?item2 ⟨_, _, _, rfl⟩ ?turn2 ?done2 (by passes_own)
    case fix2 =>
      rintro i g m nw ⟨u, oc, oa, v, va, p3, nws, _, rfl, _, _, _, hr, _⟩
      exact .tail _ (.tail _ (.tail _ (.tail _ (.tail _ (hr _ (.head _))))))
    case item2 =>
      refine forall_arr ?_
      repeat' (first | exact List.forall_mem_nil _ | refine List.forall_mem_cons.mpr ⟨⟨_, rfl⟩, ?_⟩)
    case turn2 =>
      clear hfo
      intro i v I oI g m nw h tk hv hJ
      refine J2.elim hJ ?_
      clear hJ
      intro u oc oa vv va p3 nws hoc hoa hT3 hr hO1 hTT hBB F₃ N₃ hneI
      refine TripAt.elim (trips_at hr hv (by (exact List.forall_mem_cons.mpr ⟨trip_ok (by (repeat (first | with_reducible assumption | assumption | apply List.Mem.tail | refine (by with_reducible assumption : ∀ q ∈ _, q ∈ (_ : List (Addr × Obj))) _ ?_))) (by (repeat (first | with_reducible assumption | assumption | apply List.Mem.tail | refine (by with_reducible assumption : ∀ q ∈ _, q ∈ (_ : List (Addr × Obj))) _ ?_))) (by (repeat (first | with_reducible assumption | assumption | apply List.Mem.tail | refine (by with_reducible assumption : ∀ q ∈ _, q ∈ (_ : List (Addr × Obj))) _ ?_))) (by decide +kernel) (by kernel_rfl) (by decide +kernel), List.forall_mem_cons.mpr ⟨trip_ok (by (repeat (first | with_reducible assumption | assumption | apply List.Mem.tail | refine (by with_reducible assumption : ∀ q ∈ _, q ∈ (_ : List (Addr × Obj))) _ ?_))) (by (repeat (first | with_reducible assumption | assumption | apply List.Mem.tail | refine (by with_reducible assumption : ∀ q ∈ _, q ∈ (_ : List (Addr × Obj))) _ ?_))) (by (repeat (first | with_reducible assumption | assumption | apply List.Mem.tail | refine (by with_reducible assumption : ∀ q ∈ _, q ∈ (_ : List (Addr × Obj))) _ ?_))) (by decide +kernel) (by kernel_rfl) (by decide +kernel), List.forall_mem_cons.mpr ⟨trip_ok (by (repeat (first | with_reducible assumption | assumption | apply List.Mem.tail | refine (by with_reducible assumption : ∀ q ∈ _, q ∈ (_ : List (Addr × Obj))) _ ?_))) (by (repeat (first | with_reducible assumption | assumption | apply List.Mem.tail | refine (by with_reducible assumption : ∀ q ∈ _, q ∈ (_ : List (Addr × Obj))) _ ?_))) (by (repeat (first | with_reducible assumption | assumption | apply List.Mem.tail | refine (by with_reducible assumption : ∀ q ∈ _, q ∈ (_ : List (Addr × Obj))) _ ?_))) (by decide +kernel) (by kernel_rfl) (by decide +kernel), List.forall_mem_cons.mpr ⟨trip_bad (by (repeat (first | with_reducible assumption | assumption | apply List.Mem.tail | refine (by with_reducible assumption : ∀ q ∈ _, q ∈ (_ : List (Addr × Obj))) _ ?_))) (by (repeat (first | with_reducible assumption | assumption | apply List.Mem.tail | refine (by with_reducible assumption : ∀ q ∈ _, q ∈ (_ : List (Addr × Obj))) _ ?_))) (by decide +kernel) (by kernel_rfl), List.forall_mem_cons.mpr ⟨trip_bad (by (repeat (first | with_reducible assumption | assumption | apply List.Mem.tail | refine (by with_reducible assumption : ∀ q ∈ _, q ∈ (_ : List (Addr × Obj))) _ ?_))) (by (repeat (first | with_reducible assumption | assumption | apply List.Mem.tail | refine (by with_reducible assumption : ∀ q ∈ _, q ∈ (_ : List (Addr × Obj))) _ ?_))) (by decide +kernel) (by kernel_rfl), List.forall_mem_cons.mpr ⟨trip_bad (by (repeat (first | with_reducible assumption | assumption | apply List.Mem.tail | refine (by with_reducible assumption : ∀ q ∈ _, q ∈ (_ : List (Addr × Obj))) _ ?_))) (by (repeat (first | with_reducible assumption | assumption | apply List.Mem.tail | refine (by with_reducible assumption : ∀ q ∈ _, q ∈ (_ : List (Addr × Obj))) _ ?_))) (by decide +kernel) (by kernel_rfl), List.forall_mem_cons.mpr ⟨trip_ok (by (repeat (first | with_reducible assumption | assumption | apply List.Mem.tail | refine (by with_reducible assumption : ∀ q ∈ _, q ∈ (_ : List (Addr × Obj))) _ ?_))) (by (repeat (first | with_reducible assumption | assumption | apply List.Mem.tail | refine (by with_reducible assumption : ∀ q ∈ _, q ∈ (_ : List (Addr × Obj))) _ ?_))) (by (repeat (first | with_reducible assumption | assumption | apply List.Mem.tail | refine (by with_reducible assumption : ∀ q ∈ _, q ∈ (_ : List (Addr × Obj))) _ ?_))) (by decide +kernel) (by kernel_rfl) (by decide +kernel), List.forall_mem_cons.mpr ⟨trip_bad (by (repeat (first | with_reducible assumption | assumption | apply List.Mem.tail | refine (by with_reducible assumption : ∀ q ∈ _, q ∈ (_ : List (Addr × Obj))) _ ?_))) (by (repeat (first | with_reducible assumption | assumption | apply List.Mem.tail | refine (by with_reducible assumption : ∀ q ∈ _, q ∈ (_ : List (Addr × Obj))) _ ?_))) (by decide +kernel) (by kernel_rfl), List.forall_mem_nil _⟩⟩⟩⟩⟩⟩⟩⟩))) ?_
      clear hv
      intro R₁ Du x₁ k t1 t2 d hm hl1 hl2 hl3 hdd hde hdk
      have X₃ := XB.keeps hBB.stays
      have T₃ := TB.keeps hBB.stays
      have hO2 := And.left hO1
      have hO3 := And.left (And.right hO1)
      have hO4 := And.left (And.right (And.right hO1))
      have hO5 := And.left (And.right (And.right (And.right hO1)))
      have hO6 := And.right (And.right (And.right (And.right hO1)))
      have hm := hr _ hm
      have hdd := DatIn.mono hr hdd
      have hR : HRes (resW (wordA ((cs x₁).drop k.toNat) k.toNat)) := trivial
      k_steps
      · refine heard_end (nw := [(_, _), (_, _)]) (by assumption) ?_ (by assumption) (by assumption) (lt_two (by assumption) (by assumption))
        exact ⟨_, resW_ok (by assumption), pair_dat (by assumption) (.head _) (.tail _ (.head _))⟩
      · refine heard_err (by assumption) ?_ (by assumption) (by assumption)
        exact resW_err (by assumption)
      · refine dat_ne (by assumption) (DatIn.cast (by assumption) hde) (fun q hq => by (repeat (first | exact hq | exact List.mem_append_left _ hq | apply List.Mem.tail | apply List.mem_append_right))) hdd (fun q hq => by (repeat (first | exact hq | exact List.mem_append_left _ hq | apply List.Mem.tail | apply List.mem_append_right))) hdk (by ktr_units) ?_
        k_steps
        exact told2_end (by assumption) (by assumption) (by assumption) (fun z hz => by first | exact (if_neg hz).trans (if_neg hz) | simp [hz]) (by assumption) (by assumption) (by assumption) (by assumption) hr hO1 hneI (by assumption)
    case done2 =>
      clear hfo
      intro g m nw h tk hJ
      refine J2.elim hJ ?_
      clear hJ
      intro u oc oa vv va p3 nws hoc hoa hT3 hr hO1b hTTb hBB F₃ N₃
      have X₃ := XB.keeps hBB.stays
      have T₃ := TB.keeps hBB.stays
      have hO2 := And.left hO1b
      have hO3 := And.left (And.right hO1b)
      have hO4 := And.left (And.right (And.right hO1b))
      have hO5 := And.left (And.right (And.right (And.right hO1b)))
      have hO6 := And.right (And.right (And.right (And.right hO1b)))
      have hTR : TabOk 161 22 QR #[] nws := .inl rfl
      have hm1 := mem_up hr (fun q hq => by (repeat (first | exact hq | refine (by with_reducible assumption : ∀ q ∈ _, q ∈ (_ : List (Addr × Obj))) _ ?_))) hSg
      have hm2 := mem_up hr (fun q hq => by (repeat (first | exact hq | refine (by with_reducible assumption : ∀ q ∈ _, q ∈ (_ : List (Addr × Obj))) _ ?_))) hRg
      have hm3 := mem_up hr (fun q hq => by (repeat (first | exact hq | refine (by with_reducible assumption : ∀ q ∈ _, q ∈ (_ : List (Addr × Obj))) _ ?_))) hNm
      have hn1s : ∀ q ∈ nws1, q ∈ nws := fun q hq => hr q (.tail _ (by (repeat (first | exact hq | refine (by with_reducible assumption : ∀ q ∈ _, q ∈ (_ : List (Addr × Obj))) _ ?_))))
      k_steps
      have hch := KtsTurn.trans hTTa (KtsTurn.trans hTTb (KtsTurn.trans (by assumption) (KtsTurn.trans (by assumption) (KtsTurn.trans (by assumption) (KtsTurn.trans (by assumption) (by assumption))))))
      rename News _ _ _ _ => N9
      obtain ⟨own, N10, hs1, hs2, hs3⟩ := final_split (news := news) N9 (by k_mem) (by k_mem) (by k_mem) (fun q hq => (by have hq := hn1s q (hnews q hq); (repeat (first | exact hq | exact List.mem_append_left _ hq | apply List.Mem.tail | apply List.mem_append_right))))
      have hq1 := tab_final hT1 hs1 (fun q hq => (by have hq := hn1s q hq; (repeat (first | exact hq | exact List.mem_append_left _ hq | apply List.Mem.tail | apply List.mem_append_right)))) hO1.2.2.1 hO1.2.2.2.1 hO1.2.2.2.2
      have hq2 := tab_final (by assumption : TabOk 161 22 QR _ (_ ++ (_ ++ (_ ++ (_ ++ (_ ++ nws)))))) hs1 (by (repeat' (first | refine List.forall_mem_append.mpr ⟨?_, ?_⟩ | exact fun q hq => (by (repeat (first | exact hq | exact List.mem_append_left _ hq | apply List.Mem.tail | apply List.mem_append_right)))))) (by (repeat' (first | assumption | refine off_app ?_ (by assumption) (by k_mem)))) (by (repeat' (first | assumption | refine off_app ?_ (by assumption) (by k_mem)))) (by (repeat' (first | assumption | refine off_app ?_ (by assumption) (by k_mem))))
      clear N9
      k_steps
      exact hret _ _ _ _ _ _ _ (by assumption) (by assumption) (by assumption) (by assumption) hq1 hq2 hs3 hs2
end
end Mine
end
section
open PySem PySem.W PyProof.Rows PySem.Calls
namespace Mine
theorem TabOk.own {ln col : Nat} {qual : Str} {ps : Array Value} {own : List (Addr × Obj)} {a b : Addr} {oa ob : Obj} {v v' : Option Value} (h : TabOk ln col qual ps (own ++ [(a, oa), (b, ob), (175, tabObj #[])])) (ha : oa.data = .cell v) (hb : ob.data = .cell v') : TabOk ln col qual ps own := by
  rcases h with h | ⟨c, o, vs, t, h1, h2, h3, h4⟩
  · exact .inl h
  · refine .inr ⟨c, o, vs, t, h1, ?_, h3, h4⟩
    rcases List.mem_append.mp h2 with h2 | h2
    · exact h2
    · exfalso
      rcases List.mem_cons.mp h2 with h2 | h2
      · have e : o = oa := congrArg Prod.snd h2
        rw [e, ha] at h3; cases h3
      · rcases List.mem_cons.mp h2 with h2 | h2
        · have e : o = ob := congrArg Prod.snd h2
          rw [e, hb] at h3; cases h3
        · have h2 := List.mem_singleton.mp h2
          have e : o = tabObj #[] := congrArg Prod.snd h2
          rw [e] at h3
          injection h3 with h3
          rw [← h3] at h4
          cases h4
theorem law_order {g h : Heap} {L : Addr} {a b : Addr} {oa ob : Obj} {p1 p2 p3 : Array Value} {own : List (Addr × Obj)} (N : News g L h ((168, tabObj p1) :: (182, tabObj p2) :: (189, tabObj p3) :: (own ++ [(a, oa), (b, ob), (175, tabObj #[])]))) :
    News g L h ((a, oa) :: (b, ob) :: (175, tabObj #[]) :: (168, tabObj p1) :: (182, tabObj p2) :: (189, tabObj p3) :: own) := by
  refine News.few N (List.forall_mem_cons.mpr ⟨.tail _ (.tail _ (.tail _ (List.mem_append_right _ (.head _)))), List.forall_mem_cons.mpr ⟨.tail _ (.tail _ (.tail _ (List.mem_append_right _ (.tail _ (.head _))))), List.forall_mem_cons.mpr ⟨.tail _ (.tail _ (.tail _ (List.mem_append_right _ (.tail _ (.tail _ (.head _)))))), List.forall_mem_cons.mpr ⟨.head _, List.forall_mem_cons.mpr ⟨.tail _ (.head _), List.forall_mem_cons.mpr ⟨.tail _ (.tail _ (.head _)), fun q hq => .tail _ (.tail _ (.tail _ (List.mem_append_left _ hq)))⟩⟩⟩⟩⟩⟩)
theorem law_off {a b : Addr} {oa ob : Obj} {own : List (Addr × Obj)} (h2 : ∀ q ∈ own, q.1 ≠ 168 ∧ q.1 ≠ 182 ∧ q.1 ≠ 189) (h3 : ∀ q ∈ own, ∀ p ∈ [(a, oa), (b, ob), (175, tabObj #[])], p.1 ≠ q.1) :
    (∀ q ∈ own, q.1 ≠ a) ∧ (∀ q ∈ own, q.1 ≠ b) ∧ (∀ q ∈ own, q.1 ≠ 175) ∧ (∀ q ∈ own, q.1 ≠ 168) ∧ (∀ q ∈ own, q.1 ≠ 182) ∧ (∀ q ∈ own, q.1 ≠ 189) :=
  ⟨fun q hq => Ne.symm (h3 q hq _ (.head _)), fun q hq => Ne.symm (h3 q hq _ (.tail _ (.head _))), fun q hq => Ne.symm (h3 q hq _ (.tail _ (.tail _ (.head _)))), fun q hq => (h2 q hq).1, fun q hq => (h2 q hq).2.1, fun q hq => (h2 q hq).2.2⟩



section
variable {w : World} {mean : ExcName → Option Value} {mg mb : Str → Option Value} {a : Addr} {ccd : Value} {base h₀ : Heap} {L : Addr} {m : Str → Option Value} {s : Shared} {Q : Flow → Shared → Prop} {E : Value → Shared → Prop}
theorem words_L1_1 : Flush := by
  (try w_top off)
  k_with_none
  k_with "mine k_ne" => (refine neN ?_; (try dsimp only); first | (refine Nat.ne_of_lt ?_; (repeat (first | exact Nat.lt_add_one _ | refine Nat.lt.step ?_)); done) | (refine Nat.ne_of_gt ?_; (repeat (first | exact Nat.lt_add_one _ | refine Nat.lt.step ?_)); done) | omega)
  k_with "mine spliced" => (k_here; with_reducible (first | refine args_s8 ?_ | refine args_s4 ?_ | refine args_s2 ?_ | refine args_s1 ?_ | refine args_i1 ?_))
  k_with "mine ktr_room" => ((try dsimp only [ktrTop, Around.deeper]); (try simp only [depth_under_make, depth_under_kw, depth_in1, depth_deeper, depth_caller, depth_mark]); (try dsimp only [ktrTop]); first | ((simp only [Nat.add_assoc]); exact room_le (by assumption) (by rfl)) | omega)
  k_with "mine ktr_units" => ((try dsimp only [ktrTop, Around.deeper]); (try simp only [units_in1, units_deeper, Around.mark_units, units_caller]); (try dsimp only [ktrTop]); first | ((simp only [Nat.add_assoc]); exact room_le (by assumption) (by rfl)) | omega)
  k_with "mine exec Raise some none" => (k_here; k_dflt (refine' raise_fault ?hhz1 ?_; (case hhz1 => first | exact rfl | assumption); k_whole))
  k_with "mine call ref" => (k_here; (with_reducible show wpAny _ _ (call (Value.ref 45) [_, _]) _ _ _); k_dflt (refine' fault_make ?k1z2 ?k2z2 ?k3z2 ?k4z2 ?k5z2 ?kKz2 ?kdz2 ?kuz2 ?_; (case k1z2 => k_asm); (case k2z2 => k_asm); (case k3z2 => k_asm); (case k4z2 => k_asm); (case k5z2 => k_asm); (case kKz2 => first | exact rfl | assumption); (case kdz2 => ktr_room); (case kuz2 => ktr_units)); intro h'q9 tk'q9 e'q9 t'q9 d'q9 od'q9 F'q9 hs'q9 N'q9 ne1'q9 ne2'q9; (refine ⟨_, _, _, rfl, (N'q9 _ (.head _)).1, rfl, rfl, rfl, Frag.In.keeps (by k_asm) (Fr.keep F'q9), ?_⟩); (try dsimp only))
  k_with "mine leaving ref" => (k_here; (refine' leave_onF ?k1z3 ?k2z3 ?k3z3 ?k4z3 ?_; (case k3z3 => assumption); (case k1z3 => assumption); (case k2z3 => assumption); (case k4z3 => exact fun q hq => (News.mk (by k_asm) q hq).2.2); intro h'q9 R'q9; (try dsimp only)))
  k_with "mine leaving ref" => (k_here; (refine' leave_raiseF ?k1z4 ?k2z4 ?k3z4 ?k4z4 ?k5z4 ?k6z4 ?_; (case k1z4 => assumption); (case k2z4 => assumption); (case k3z4 => assumption); (case k4z4 => assumption); (case k5z4 => assumption); (case k6z4 => assumption); intro h'q9 R'q9; (try dsimp only)))
  k_with "mine LeaveT" => (k_dflt (refine' leaveT_ ?Fz7 ?Nz7 ?Tz7 ?_; (case Fz7 => k_asm); (case Nz7 => k_asm); (case Tz7 => first | assumption | exact KtsTurn.refl | exact KtsTurn.trans (by assumption) (by assumption)); k_whole); intro kgq9 kTq9 kFq9 kNq9 kBq9; (try k_lift kBq9); (try dsimp only))
  k_with "mine LeaveG" => (k_dflt (refine' leaveG_ ?Fz9 ?Nz9 ?_; (case Fz9 => k_asm); (case Nz9 => k_asm); k_whole); intro kFq9 kNq9 kDq9; (try dsimp only))
  k_with "mine k_mem" => (refine List.mem_append_right _ ?_; k_mem)
  k_with "mine k_mem" => (refine List.mem_append_left _ ?_; k_mem)
  k_with "mine call ref" => (k_here; (with_reducible show wpAny _ _ (call (Value.ref 194) _) _ _ _); k_dflt (refine' told_right_spec (news := [_, _, _]) ?k1z10 ?k2z10 ?k3z10 ?k4z10 ?k5z10 ?kKz10 ?kdz10 ?kuz10 ?xbz10 ?tbz10 ?c1z10 ?c2z10 ?c3z10 ?n1z10 ?n2z10 ?n3z10 ?_; (case k1z10 => k_asm); (case k2z10 => k_asm); (case k3z10 => k_asm); (case k4z10 => exact News.few (by k_asm) (List.forall_mem_cons.mpr ⟨.tail _ (.tail _ (.tail _ (.tail _ (.tail _ (.head _))))), List.forall_mem_cons.mpr ⟨.tail _ (.tail _ (.tail _ (.head _))), List.forall_mem_cons.mpr ⟨.tail _ (.tail _ (.head _)), List.forall_mem_cons.mpr ⟨.head _, List.forall_mem_cons.mpr ⟨.tail _ (.head _), List.forall_mem_cons.mpr ⟨.tail _ (.tail _ (.tail _ (.tail _ (.head _)))), List.forall_mem_nil _⟩⟩⟩⟩⟩⟩)); (case k5z10 => k_asm); (case kKz10 => first | exact rfl | assumption); (case kdz10 => ktr_room); (case kuz10 => ktr_units); (case xbz10 => first | with_reducible assumption | assumption); (case tbz10 => first | with_reducible assumption | assumption); (case c1z10 => first | with_reducible assumption | assumption); (case c2z10 => first | with_reducible assumption | assumption); (case c3z10 => first | with_reducible assumption | assumption); (case n1z10 => k_all); (case n2z10 => k_all); (case n3z10 => k_all); skip); intro p1'q9 p2'q9 p3'q9 own'q9 g'q9 h'q9 tk'q9 kTq9 kBq9 F'q9 N'q9 hq1'q9 hq2'q9 hs3'q9 hs2'q9; (try k_lift kBq9); (try dsimp only))
  k_with "mine call ref" => (k_here; (with_reducible show wpAny _ _ (call (Value.ref 119) _) _ _ _); k_dflt (refine' pool_spec ?k1z11 ?k2z11 ?k3z11 ?k4z11 ?k5z11 ?kKz11 ?kdz11 ?kuz11 ?hlz11 ?hiz11 ?hnz11 ?_; (case k1z11 => k_asm); (case k2z11 => k_asm); (case k3z11 => k_asm); (case k4z11 => k_asm); (case k5z11 => k_asm); (case kKz11 => first | exact rfl | assumption); (case kdz11 => ktr_room); (case kuz11 => ktr_units); (case hlz11 => first | with_reducible assumption | assumption); (case hiz11 => first | with_reducible assumption | assumption); (case hnz11 => first | with_reducible assumption | omega | assumption); skip); intro S'q9 x'q9 y'q9 n'q9 t1'q9 t2'q9 h'q9 tk'q9 F'q9 N'q9 lS'q9 hx'q9 hy'q9 hy1'q9; (have hS6' := tail6 lS'q9); (try dsimp only); (try k_fold))
  k_with "mine newList" => (k_here; k_dflt (refine' newList_K ?k1z12 ?k2z12 ?_; (case k1z12 => k_asm); (case k2z12 => k_asm); k_whole); intro l'q9 h'q9 F'q9 N'q9 l1q9; (try k_sweep))
  k_with "mine execs cons" => (k_here; (with_reducible show wpAny _ _ (execs (Stmt.Assign [Expr.Name (Str.ofString "text") _] _ _ :: _) _) _ _ _); (refine LawStop.out ?_))
  k_with "mine eval Name" => (k_here; (with_reducible show wpAny _ _ (eval (Expr.Name (Str.ofString "script") _) _) _ _ _); (refine' nameX_L ?zFz14 ?zmz14 ?_; (case zFz14 => k_asm); (case zmz14 => assumption)))
  exact trivial
set_option maxRecDepth 100000 in
set_option maxHeartbeats 8000000 in
theorem law_1b {r : DefRec} (hr : lawDef = some r) {sl : Addr} {vs : List Value} {ns : List Int} {o1 o2 : Obj} {v1 v2 : Option Value} {p1 p2 p3 : Array Value} {own : List (Addr × Obj)}
   (B : Below callerA base [] h₀) (F : Fr h₀ L s.heap m) (X : (hd.heap_1 w.params).In h₀) (T : Top topProg LZ mean mg mb h₀) (XB : (hd.heap_1 w.params).In base) (TB : Top topProg LZ mean mg mb base) (CB1 : CodeHd base 172 168) (CB2 : CodeHd base 186 182) (CB3 : CodeHd base 193 189) (CB4 : CodeHd base 179 175)
   (N : News h₀ L s.heap (((L + 1 + 1 : Nat), o2) :: ((L + 1 : Nat), o1) :: (175, tabObj #[]) :: (168, tabObj p1) :: (182, tabObj p2) :: (189, tabObj p3) :: own))
   (ho1 : o1.data = .cell v1) (ho2 : o2.data = .cell v2) (hm : m (Str.ofString "script") = some (.ref sl)) (hsl : h₀.IsList sl vs.toArray) (hi : IntsAre vs ns) (hn : ns.length ≤ 63) (hL : @LT.lt Nat _ 189 L)
   (hTS : TabOk 138 22 (Str.ofString "_law_sign_right.<locals>.<lambda>") p1 own) (hTR : TabOk 161 22 QR p2 own)
   (hr2 : ∀ q ∈ own, q.1 ≠ (L + 1 + 1 : Nat)) (hr1 : ∀ q ∈ own, q.1 ≠ (L + 1 : Nat)) (hr175 : ∀ q ∈ own, q.1 ≠ 175) (hr168 : ∀ q ∈ own, q.1 ≠ 168) (hr182 : ∀ q ∈ own, q.1 ≠ 182) (hr189 : ∀ q ∈ own, q.1 ≠ 189)
   (hE : PassesOwn (model prg w) (callerA.deeper (envOfC r.name r.scope L a ccd)) (envOfC r.name r.scope L a ccd) E)
   (hQ : ∀ h' tk', (∀ b o, base.get? b = some o → h'.get? b = some o) → GrownAt 189 h' → GrownAt 182 h' → GrownAt 175 h' → GrownAt 168 h' → Q (.ret (.bool true)) { s with heap := h', toks := tk' }) :
   wpAny (model prg w) (callerA.deeper (envOfC r.name r.scope L a ccd)) (execs (r.body.drop 1) (envOfC r.name r.scope L a ccd)) Q E s := by
  have hr' := hr
  obtain rfl : r = _ := Option.some.inj (hr.symm.trans (rfl : lawDef = some _))
  clear hr
  have c168 : (168 : Addr) ≠ (L + 1 : Nat) := Ne.symm (far (by omega))
  have c175 : (175 : Addr) ≠ (L + 1 : Nat) := Ne.symm (far (by omega))
  have c182 : (182 : Addr) ≠ (L + 1 : Nat) := Ne.symm (far (by omega))
  have c189 : (189 : Addr) ≠ (L + 1 : Nat) := Ne.symm (far (by omega))
  have d168 : (168 : Addr) ≠ (L + 1 + 1 : Nat) := Ne.symm (far (by omega))
  have d175 : (175 : Addr) ≠ (L + 1 + 1 : Nat) := Ne.symm (far (by omega))
  have d182 : (182 : Addr) ≠ (L + 1 + 1 : Nat) := Ne.symm (far (by omega))
  have d189 : (189 : Addr) ≠ (L + 1 + 1 : Nat) := Ne.symm (far (by omega))
  have c12 : ((L + 1 + 1 : Nat) : Addr) ≠ (L + 1 : Nat) := far (by omega)
  dsimp only [List.drop]
  k_steps
  rename Fr _ _ _ _ => F9
  rename News _ _ _ _ => N9
  have lS := (by assumption : ∀ p ∈ ((L + 1 + 1 : Nat), o2) :: ((L + 1 : Nat), o1) :: _, p.1 < _)
  have ll := (by assumption : ∀ p ∈ (_, _) :: ((L + 1 + 1 : Nat), o2) :: ((L + 1 : Nat), _) :: _, p.1 < _)
  unfold LawStop
  exact law_2 hr' B F9 X T XB TB CB1 CB2 CB3 CB4 N9 (by assumption) (by assumption) (by repeat' constructor) (by assumption) (by assumption) (by assumption) hTS hTR hL
    (Nat.ne_of_gt (lS _ (.tail _ (.tail _ (.tail _ (.tail _ (.head _))))))) (Nat.ne_of_gt (lS _ (.tail _ (.head _)))) (Nat.ne_of_gt (lS _ (.tail _ (.tail _ (.head _))))) (Nat.ne_of_gt (lS _ (.tail _ (.tail _ (.tail _ (.head _)))))) (Nat.ne_of_gt (lS _ (.tail _ (.tail _ (.tail _ (.tail _ (.tail _ (.head _)))))))) (Nat.ne_of_gt (lS _ (.head _))) (Nat.ne_of_lt (ll _ (.head _))) (ll _ (.tail _ (.head _))) (by assumption) hr1 hr2 hr175 hr168 hr182 hr189 hE fun h' tk' a b c d e => hQ h' tk' a b c d e
end
section
variable {w : World} {mean : ExcName → Option Value} {mg mb : Str → Option Value} {a : Addr} {ccd : Value} {base h₀ : Heap} {L : Addr} {m : Str → Option Value} {s : Shared} {Q : Flow → Shared → Prop} {E : Value → Shared → Prop}
theorem words_L1_2 : Flush := by
  (try w_top off)
  k_with_none
  k_with "mine k_ne" => (refine neN ?_; (try dsimp only); first | (refine Nat.ne_of_lt ?_; (repeat (first | exact Nat.lt_add_one _ | refine Nat.lt.step ?_)); done) | (refine Nat.ne_of_gt ?_; (repeat (first | exact Nat.lt_add_one _ | refine Nat.lt.step ?_)); done) | omega)
  k_with "mine spliced" => (k_here; with_reducible (first | refine args_s8 ?_ | refine args_s4 ?_ | refine args_s2 ?_ | refine args_s1 ?_ | refine args_i1 ?_))
  k_with "mine ktr_room" => ((try dsimp only [ktrTop, Around.deeper]); (try simp only [depth_under_make, depth_under_kw, depth_in1, depth_deeper, depth_caller, depth_mark]); (try dsimp only [ktrTop]); first | ((simp only [Nat.add_assoc]); exact room_le (by assumption) (by rfl)) | omega)
  k_with "mine ktr_units" => ((try dsimp only [ktrTop, Around.deeper]); (try simp only [units_in1, units_deeper, Around.mark_units, units_caller]); (try dsimp only [ktrTop]); first | ((simp only [Nat.add_assoc]); exact room_le (by assumption) (by rfl)) | omega)
  k_with "mine exec Raise some none" => (k_here; k_dflt (refine' raise_fault ?hhz1 ?_; (case hhz1 => first | exact rfl | assumption); k_whole))
  k_with "mine call ref" => (k_here; (with_reducible show wpAny _ _ (call (Value.ref 45) [_, _]) _ _ _); k_dflt (refine' fault_make ?k1z2 ?k2z2 ?k3z2 ?k4z2 ?k5z2 ?kKz2 ?kdz2 ?kuz2 ?_; (case k1z2 => k_asm); (case k2z2 => k_asm); (case k3z2 => k_asm); (case k4z2 => k_asm); (case k5z2 => k_asm); (case kKz2 => first | exact rfl | assumption); (case kdz2 => ktr_room); (case kuz2 => ktr_units)); intro h'q9 tk'q9 e'q9 t'q9 d'q9 od'q9 F'q9 hs'q9 N'q9 ne1'q9 ne2'q9; (refine ⟨_, _, _, rfl, (N'q9 _ (.head _)).1, rfl, rfl, rfl, Frag.In.keeps (by k_asm) (Fr.keep F'q9), ?_⟩); (try dsimp only))
  k_with "mine leaving ref" => (k_here; (refine' leave_onF ?k1z3 ?k2z3 ?k3z3 ?k4z3 ?_; (case k3z3 => assumption); (case k1z3 => assumption); (case k2z3 => assumption); (case k4z3 => exact fun q hq => (News.mk (by k_asm) q hq).2.2); intro h'q9 R'q9; (try dsimp only)))
  k_with "mine leaving ref" => (k_here; (refine' leave_raiseF ?k1z4 ?k2z4 ?k3z4 ?k4z4 ?k5z4 ?k6z4 ?_; (case k1z4 => assumption); (case k2z4 => assumption); (case k3z4 => assumption); (case k4z4 => assumption); (case k5z4 => assumption); (case k6z4 => assumption); intro h'q9 R'q9; (try dsimp only)))
  k_with "mine LeaveT" => (k_dflt (refine' leaveT_ ?Fz7 ?Nz7 ?Tz7 ?_; (case Fz7 => k_asm); (case Nz7 => k_asm); (case Tz7 => first | assumption | exact KtsTurn.refl | exact KtsTurn.trans (by assumption) (by assumption)); k_whole); intro kgq9 kTq9 kFq9 kNq9 kBq9; (try k_lift kBq9); (try dsimp only))
  k_with "mine LeaveG" => (k_dflt (refine' leaveG_ ?Fz9 ?Nz9 ?_; (case Fz9 => k_asm); (case Nz9 => k_asm); k_whole); intro kFq9 kNq9 kDq9; (try dsimp only))
  k_with "mine k_mem" => (refine List.mem_append_right _ ?_; k_mem)
  k_with "mine k_mem" => (refine List.mem_append_left _ ?_; k_mem)
  k_with "mine call ref" => (k_here; (with_reducible show wpAny _ _ (call (Value.ref 194) _) _ _ _); k_dflt (refine' told_right_spec (news := [_, _, _]) ?k1z10 ?k2z10 ?k3z10 ?k4z10 ?k5z10 ?kKz10 ?kdz10 ?kuz10 ?xbz10 ?tbz10 ?c1z10 ?c2z10 ?c3z10 ?n1z10 ?n2z10 ?n3z10 ?_; (case k1z10 => k_asm); (case k2z10 => k_asm); (case k3z10 => k_asm); (case k4z10 => exact News.few (by k_asm) (List.forall_mem_cons.mpr ⟨.tail _ (.tail _ (.tail _ (.tail _ (.tail _ (.head _))))), List.forall_mem_cons.mpr ⟨.tail _ (.tail _ (.tail _ (.head _))), List.forall_mem_cons.mpr ⟨.tail _ (.tail _ (.head _)), List.forall_mem_cons.mpr ⟨.head _, List.forall_mem_cons.mpr ⟨.tail _ (.head _), List.forall_mem_cons.mpr ⟨.tail _ (.tail _ (.tail _ (.tail _ (.head _)))), List.forall_mem_nil _⟩⟩⟩⟩⟩⟩)); (case k5z10 => k_asm); (case kKz10 => first | exact rfl | assumption); (case kdz10 => ktr_room); (case kuz10 => ktr_units); (case xbz10 => first | with_reducible assumption | assumption); (case tbz10 => first | with_reducible assumption | assumption); (case c1z10 => first | with_reducible assumption | assumption); (case c2z10 => first | with_reducible assumption | assumption); (case c3z10 => first | with_reducible assumption | assumption); (case n1z10 => k_all); (case n2z10 => k_all); (case n3z10 => k_all); skip); intro p1'q9 p2'q9 p3'q9 own'q9 g'q9 h'q9 tk'q9 kTq9 kBq9 F'q9 N'q9 hq1'q9 hq2'q9 hs3'q9 hs2'q9; (try k_lift kBq9); (try dsimp only))
  k_with "mine call ref" => (k_here; (with_reducible show wpAny _ _ (call (Value.ref 119) _) _ _ _); k_dflt (refine' pool_spec ?k1z11 ?k2z11 ?k3z11 ?k4z11 ?k5z11 ?kKz11 ?kdz11 ?kuz11 ?hlz11 ?hiz11 ?hnz11 ?_; (case k1z11 => k_asm); (case k2z11 => k_asm); (case k3z11 => k_asm); (case k4z11 => k_asm); (case k5z11 => k_asm); (case kKz11 => first | exact rfl | assumption); (case kdz11 => ktr_room); (case kuz11 => ktr_units); (case hlz11 => first | with_reducible assumption | assumption); (case hiz11 => first | with_reducible assumption | assumption); (case hnz11 => first | with_reducible assumption | omega | assumption); skip); intro S'q9 x'q9 y'q9 n'q9 t1'q9 t2'q9 h'q9 tk'q9 F'q9 N'q9 lS'q9 hx'q9 hy'q9 hy1'q9; (have hS6' := tail6 lS'q9); (try dsimp only); (try k_fold))
  k_with "mine newList" => (k_here; k_dflt (refine' newList_K ?k1z12 ?k2z12 ?_; (case k1z12 => k_asm); (case k2z12 => k_asm); k_whole); intro l'q9 h'q9 F'q9 N'q9 l1q9; (try k_sweep))
  k_with "mine execs cons" => (k_here; (with_reducible show wpAny _ _ (execs (Stmt.Assign [Expr.Name (Str.ofString "text") _] _ _ :: _) _) _ _ _); (refine LawStop.out ?_))
  k_with "mine eval Name" => (k_here; (with_reducible show wpAny _ _ (eval (Expr.Name (Str.ofString "script") _) _) _ _ _); (refine' nameX_L ?zFz14 ?zmz14 ?_; (case zFz14 => k_asm); (case zmz14 => assumption)))
  k_with "mine execs cons" => (k_here; (with_reducible show wpAny _ _ (execs (Stmt.Assign [Expr.Name (Str.ofString "source") _] _ _ :: _) _) _ _ _); (refine LawStop.out ?_))
  exact trivial
set_option maxRecDepth 100000 in
set_option maxHeartbeats 8000000 in
theorem law_1 {r : DefRec} (hr : lawDef = some r) {sl : Addr} {vs : List Value} {ns : List Int} {o1 o2 : Obj} {v1 v2 : Option Value}
   (B : Below callerA base [] h₀) (F : Fr h₀ L s.heap m) (XB : (hd.heap_1 w.params).In base) (TB : Top topProg LZ mean mg mb base) (CB1 : CodeHd base 172 168) (CB2 : CodeHd base 186 182) (CB3 : CodeHd base 193 189) (CB4 : CodeHd base 179 175)
   (N : News h₀ L s.heap [((L + 1 + 1 : Nat), o2), ((L + 1 : Nat), o1), (189, tabObj #[]), (182, tabObj #[]), (175, tabObj #[]), (168, tabObj #[])])
   (ho1 : o1.data = .cell v1) (ho2 : o2.data = .cell v2) (hm : m (Str.ofString "script") = some (.ref sl)) (hsl : base.IsList sl vs.toArray) (hi : IntsAre vs ns) (hn : ns.length ≤ 63) (hL : @LT.lt Nat _ 189 L)
   (hE : PassesOwn (model prg w) (callerA.deeper (envOfC r.name r.scope L a ccd)) (envOfC r.name r.scope L a ccd) E)
   (hQ : ∀ h' tk', (∀ b o, base.get? b = some o → h'.get? b = some o) → GrownAt 189 h' → GrownAt 182 h' → GrownAt 175 h' → GrownAt 168 h' → Q (.ret (.bool true)) { s with heap := h', toks := tk' }) :
   wpAny (model prg w) (callerA.deeper (envOfC r.name r.scope L a ccd)) (execs r.body (envOfC r.name r.scope L a ccd)) Q E s := by
  have hr' := hr
  obtain rfl : r = _ := Option.some.inj (hr.symm.trans (rfl : lawDef = some _))
  clear hr
  have X := XB.keeps B.stays
  have T := TB.keeps B.stays
  have c168 : (168 : Addr) ≠ (L + 1 : Nat) := Ne.symm (far (by omega))
  have c175 : (175 : Addr) ≠ (L + 1 : Nat) := Ne.symm (far (by omega))
  have c182 : (182 : Addr) ≠ (L + 1 : Nat) := Ne.symm (far (by omega))
  have c189 : (189 : Addr) ≠ (L + 1 : Nat) := Ne.symm (far (by omega))
  have d168 : (168 : Addr) ≠ (L + 1 + 1 : Nat) := Ne.symm (far (by omega))
  have d175 : (175 : Addr) ≠ (L + 1 + 1 : Nat) := Ne.symm (far (by omega))
  have d182 : (182 : Addr) ≠ (L + 1 + 1 : Nat) := Ne.symm (far (by omega))
  have d189 : (189 : Addr) ≠ (L + 1 + 1 : Nat) := Ne.symm (far (by omega))
  have c12 : ((L + 1 + 1 : Nat) : Addr) ≠ (L + 1 : Nat) := far (by omega)
  k_steps
  rename Fr _ _ _ _ => F1
  rename News _ _ _ _ => N1
  rename Below _ _ _ _ => B1
  obtain ⟨hoa, hob, ho175, ho168, ho182, ho189⟩ := law_off (by assumption) (by assumption)
  unfold LawStop
  exact law_1b hr' B1 F1 (XB.keeps B1.stays) (TB.keeps B1.stays) XB TB CB1 CB2 CB3 CB4 (law_order N1) ho1 ho2 hm (hsl.at fun o e => B1.stays _ o e) hi hn hL (TabOk.own (by assumption) ho2 ho1) (TabOk.own (by assumption) ho2 ho1) hoa hob ho175 ho168 ho182 ho189 hE fun h' tk' a b c d e => hQ h' tk' a b c d e
end
end Mine
end
section
open PySem PySem.W PyProof.Rows PySem.Calls
namespace Mine
set_option maxRecDepth 100000 in
set_option maxHeartbeats 8000000 in
theorem law_holds : PySem.Challenge.rw_xw0157_01.Holds := holds_law law_said fun _ => hd (by
  w_strict (k_go0; (all_goals try k_fold); (refine' law_1 (rfl : lawDef = some _) ?kB ?kF ?kX ?kT ?c1 ?c2 ?c3 ?c4 ?kN ?o1 ?o2 ?km ?kl ?ki ?kn ?kL ?kE ?kQ); (case kB => first | with_reducible assumption | assumption); (case kF => first | with_reducible assumption | assumption); (case kX => first | with_reducible assumption | assumption); (case kT => first | with_reducible assumption | assumption); (case c1 => first | with_reducible assumption | assumption); (case c2 => first | with_reducible assumption | assumption); (case c3 => first | with_reducible assumption | assumption); (case c4 => first | with_reducible assumption | assumption); (case kN => first | with_reducible assumption | assumption); (case o1 => first | with_reducible assumption | assumption); (case o2 => first | with_reducible assumption | assumption); (case km => rfl); (case kl => first | with_reducible assumption | assumption); (case ki => first | with_reducible assumption | assumption); (case kn => omega); (case kL => exact And.left (by first | with_reducible assumption | assumption)); (case kE => passes_own); (case kQ => (intro h' tk' hk g1 g2 g3 g4; exact ⟨⟨.inl ⟨.bool true, .bool true, [], rfl, fun _ => rfl, .bool true, (by wrow_post), fun _ => ⟨List.nodup_nil, fun a h => nomatch h⟩⟩, hk, rfl, by first | with_reducible assumption | assumption⟩, g1, g2, g3, g4, trivial⟩))))
end Mine
end
theorem PySem.Challenge.cw_xw0157_01_holds : PySem.Challenge.rw_xw0157_01.Holds :=
  Mine.law_holds
