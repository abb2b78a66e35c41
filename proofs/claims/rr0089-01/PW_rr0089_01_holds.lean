import PyProof.Rows.All
import Wide.All
import OpenK.AllK
import Wide.FinOn
import Lean
import PySem.Challenge.RW_rr0089_01
open PySem PySem.W PyProof.Rows
set_option Elab.async false
set_option compiler.extract_closed false
set_option linter.unusedVariables false
noncomputable section
namespace Mine

section
set_option maxRecDepth 100000
open PySem PySem.W PySem.Calls PyProof.Rows
/-- the run of a top, over a tree of objects -/
noncomputable def topRunT (tb : String → Option Builtin) (p : Program) (w : World) (n₀ : Nat) (ann : Option Value) : Nat → SharedT → Thread → Option SharedT
  | 0, _, _ => none
  | n + 1, s, t => match through t with
    | true => some s
    | false => match stepOk n₀ ann t with
      | false => none
      | true => match stepT (denote tb) p w s t with
        | some (s', t') => topRunT tb p w n₀ ann n s' t'
        | none => none
theorem topRunT_of {tb : String → Option Builtin} {p : Program} {w : World} {n₀ : Nat} {ann : Option Value} : ∀ {n : Nat} {s s' : SharedT} {t : Thread}, topRunT tb p w n₀ ann n s t = some s' → topRun tb p w n₀ ann n s.abs t = some s'.abs
  | 0, _, _, _, h => by cases h
  | n + 1, s, s', t, h => by
    unfold topRunT at h
    unfold topRun
    cases ht : through t with
    | true => rw [ht] at h; cases h; rfl
    | false =>
      rw [ht] at h
      cases hk : stepOk n₀ ann t with
      | false => rw [hk] at h; cases h
      | true =>
        rw [hk] at h
        cases hs : stepT (denote tb) p w s t with
        | none => rw [hs] at h; cases h
        | some r => obtain ⟨s₂, t₂⟩ := r; rw [hs] at h; rw [stepT_spec hs]; exact topRunT_of h
/-- the run in one go, with what is looked at -/
theorem left_once {p q : Program} {loose : List Str} {Xt : Shared → Bool} {α : Type} {Yf : Shared → α} {Ya : World → α} {N : Nat} {g0 : Bool} {T : Params → BT} {k : Nat} {life : Life} {m₀ : Nat} {ann : Option Value}
    (open_ : ∀ w : World, (fencedOpening treeTable p w N).map (fun s => (s.heap, s.gens, s.drawn, s.toks)) = some (boot_heap w.params, Array.mk [], boot_drawn, boot_toks))
    (hT : ∀ P, boot_heap P = absHeap (T P) k life)
    (size : ∀ w : World, ((boot_heap w.params).isNs mainGlobals && (Array.mk [] : Array GenState).size == 0, (boot_heap w.params).objs.size, (boot_heap w.params).nsMap mainGlobals "__annotations__") = (true, m₀, ann))
    (run : ∀ (w : World) (os : OsState), (topRunT treeTable p w m₀ ann N ⟨T w.params, k, life, Array.mk [], boot_drawn, boot_toks, os⟩ (topStub p)).map (fun s => ((staticsOk (importedModules p.main.body) (boot_heap w.params) s.abs.heap && namesBound p s.abs.heap && gensDone s.abs && laidKept (boot_heap w.params) s.abs.heap),
        openSeen q loose (importedModules p.main.body) Xt g0 s.abs, Yf s.abs)) = some (true, openGood q loose, Ya w)) : LeftO p q loose Xt Yf Ya N g0 := fun w => by
  obtain ⟨⟨h, gs, d, k', os⟩, e, e'⟩ := Option.map_eq_some_iff.mp (open_ w)
  obtain ⟨rfl, rfl, rfl, rfl⟩ : h = boot_heap w.params ∧ gs = Array.mk [] ∧ d = boot_drawn ∧ k' = boot_toks := by simpa using e'
  obtain ⟨z1, z2, z3⟩ : _ ∧ _ ∧ _ := by simpa only [Prod.mk.injEq] using size w
  obtain ⟨s, r, l⟩ := Option.map_eq_some_iff.mp (run w os)
  obtain ⟨l1, l2, l3⟩ : _ ∧ _ ∧ _ := by simpa only [Prod.mk.injEq] using l
  have r := topRunT_of r
  have r : topRun treeTable p w m₀ ann N ⟨boot_heap w.params, Array.mk [], boot_drawn, boot_toks, os⟩ (topStub p) = some s.abs := by rw [hT]; exact r
  have t : topFrom treeTable p w N ⟨boot_heap w.params, Array.mk [], boot_drawn, boot_toks, os⟩ = some s.abs := by
    unfold topFrom
    dsimp only
    rw [z1, z2, z3, r]
    show (match staticsOk (importedModules p.main.body) (boot_heap w.params) s.abs.heap && namesBound p s.abs.heap && gensDone s.abs && laidKept (boot_heap w.params) s.abs.heap with | true => _ | false => _) = _
    rw [l1]
  unfold openEnds
  rw [e]
  show (topFrom treeTable p w N _).map _ = _
  rw [t]
  exact congrArg some (Prod.ext l2 l3)
end

section
set_option maxRecDepth 100000
open PySem PySem.W PySem.Calls PyProof.Rows
/-- the same run by the library's quick twins -/
noncomputable def topRunQ (p : Program) (w : World) (n₀ : Nat) (ann : Option Value) : Nat → SharedT → Thread → Option SharedT
  | 0, _, _ => none
  | n + 1, s, t => match through t with
    | true => some s
    | false => match PySem.W.Fast.tw6613529449190102663 n₀ ann t with
      | false => none
      | true => match PySem.W.Fast.tw10156331382660048174 (PySem.W.Fast.tw11892475500146522536 PySem.W.Fast.tw14364793385576792824) p w s t with
        | some (s', t') => topRunQ p w n₀ ann n s' t'
        | none => none
theorem topRunQ_eq {p : Program} {w : World} {n₀ : Nat} {ann : Option Value} : ∀ {n : Nat} {s : SharedT} {t : Thread}, topRunT treeTable p w n₀ ann n s t = topRunQ p w n₀ ann n s t
  | 0, _, _ => rfl
  | n + 1, s, t => by
    have e1 : stepOk n₀ ann t = PySem.W.Fast.tw6613529449190102663 n₀ ann t := by rw [PySem.W.Fast.te6613529449190102663]
    have e2 : stepT (denote treeTable) p w s t = PySem.W.Fast.tw10156331382660048174 (PySem.W.Fast.tw11892475500146522536 PySem.W.Fast.tw14364793385576792824) p w s t := by rw [PySem.W.Fast.te10156331382660048174, PySem.W.Fast.te11892475500146522536, PySem.W.Fast.te14364793385576792824]
    unfold topRunT topRunQ
    cases through t with
    | true => rfl
    | false =>
      rw [e1]
      cases PySem.W.Fast.tw6613529449190102663 n₀ ann t with
      | false => rfl
      | true =>
        rw [e2]
        cases PySem.W.Fast.tw10156331382660048174 (PySem.W.Fast.tw11892475500146522536 PySem.W.Fast.tw14364793385576792824) p w s t with
        | none => rfl
        | some r => exact topRunQ_eq
end

section
set_option maxRecDepth 100000
open PySem PySem.W PySem.Calls PyProof.Rows
/-- the boot's objects as a tree -/
noncomputable def bootT (P : Params) : BT := .node (boot_o_0 P) (.node (boot_o_1 P) (.node (boot_o_3 P) (.node (boot_o_7 P) .nil .nil) .nil) (.node (boot_o_5 P) (.node (boot_o_9 P) .nil .nil) .nil)) (.node (boot_o_2 P) (.node (boot_o_4 P) (.node (boot_o_8 P) .nil .nil) .nil) (.node (boot_o_6 P) (.node (boot_o_10 P) .nil .nil) .nil))
theorem bootT_eq : ∀ P, boot_heap P = absHeap (bootT P) 11 {} := fun P => rfl
abbrev theP : Program := PySem.Challenge.pw_rr0089_01
/-- the statements that bind a name once -/
noncomputable def theQ : Program := view theP [0, 2, 3, 4, 5, 7, 8, 9, 11, 12, 14, 15, 16, 17, 18, 19, 20, 21]
/-- the run -/
noncomputable abbrev theRun (w : World) (os : OsState) : Option SharedT := topRunQ theP w 11 (some (.ref 6)) 5420 ⟨bootT w.params, 11, {}, Array.mk [], boot_drawn, boot_toks, os⟩ (topStub theP)
/-- the looks at the end of the top, by the quick twins -/
noncomputable abbrev looksOk (w : World) (s : SharedT) : Bool := staticsOk (PySem.W.Fast.tw5923862056798008813 theP.main.body) (boot_heap w.params) s.abs.heap && namesBound theP s.abs.heap && gensDone s.abs && laidKept (boot_heap w.params) s.abs.heap
end

section
set_option maxRecDepth 100000
open PySem PySem.W PySem.Calls PyProof.Rows
theorem law_said : PySem.Challenge.rw_rr0089_01.wellSaid = true := by
  rw [PySem.W.Fast.te9446332074065402090]
  unfold PySem.W.Fast.tw9446332074065402090
  iterate 18 refine look_both ?_ ?_
  · unfold PySem.W.Fast.tw17960256430627541270
    iterate 2 refine look_both ?_ ?_
    · unfold PySem.W.Fast.tw2436336058641802641
      iterate 13 refine look_both ?_ ?_
      · unfold PySem.W.Fast.tw12908688711261696721
        iterate 5 refine look_both ?_ ?_
        all_goals decide +kernel
      all_goals decide +kernel
    all_goals decide +kernel
  all_goals decide +kernel
end

section
set_option maxRecDepth 100000
open PySem PySem.W PySem.Calls PyProof.Rows
noncomputable abbrev seenQ (s : SharedT) := PySem.W.Fast.tw4187177175401517315 theQ [] (PySem.W.Fast.tw5923862056798008813 theP.main.body) (fun s => xlAt theQ [] s && recOk [] s) true s.abs
theorem run_seen : ∀ (w : World) (os : OsState), (theRun w os).map seenQ = some (openGood theQ []) := by
  intro w os
  kernel_rfl
theorem left_of {α : Type} {Yf : Shared → α} {Ya : World → α} (run : ∀ (w : World) (os : OsState), (theRun w os).map (fun s => (looksOk w s, Yf s.abs)) = some (true, Ya w)) :
    LeftO theP theQ [] (fun s => xlAt theQ [] s && recOk [] s) Yf Ya 5420 := by
  refine left_once (T := bootT) (k := 11) (life := {}) (m₀ := 11) (ann := some (.ref 6)) (boot_open rfl rfl fun s => rfl) bootT_eq (fun w => by kernel_rfl) fun w os => ?_
  rw [topRunQ_eq, PySem.W.Fast.te4187177175401517315, PySem.W.Fast.te5923862056798008813]
  have h1 := run w os
  have h2 := run_seen w os
  unfold theRun at h1 h2
  cases h : topRunQ theP w 11 (some (.ref 6)) 5420 ⟨bootT w.params, 11, {}, Array.mk [], boot_drawn, boot_toks, os⟩ (topStub theP) with
  | none => rw [h] at h1; cases h1
  | some s =>
    rw [h] at h1 h2
    have h1 := Prod.mk.inj (Option.some.inj h1)
    have h2 := Option.some.inj h2
    exact congrArg some (Prod.ext h1.1 (Prod.ext h2 h1.2))
abbrev theR : OpenRow := PySem.Challenge.rw_rr0089_01.row
theorem my_open {H : Hook} {d : DefRec} {kwd : List (Str × Expr)} (run : ∀ (w : World) (os : OsState), (theRun w os).map (fun s => (looksOk w s, H.obs s.abs)) = some (true, H.val w))
    (hdef : defOf theQ theR.name = some (d, kwd)) (hp : theR.prog.theDef theR.name = some (d.params, d.body, d.scope)) (hk : kwWritten? d.params.kwonlyargs d.params.kw_defaults = some kwd)
    (k1 : theR.wellSaid = true) (ok : (chainsOk theQ && opensWell theR.prog && (frees theR.toRowW && theR.within.isEmpty)) = true)
    (hw : theR.toRowW.promised) (hc : WalkO theQ [] (XL theQ []) H.says theR.toRowW d kwd fun f vs => PySem.call f vs) : theR.Holds := by
  refine holds_open (q := theQ) (loose := []) (Xt := fun s => xlAt theQ [] s && recOk [] s) (XP := XL theQ []) (Yf := H.obs) (Ya := H.val) (YP := H.says) (N := 5420) (left_of run) H.of H.keeps (fun s e => xl_of s (Bool.and_eq_true_iff.mp e).1) XL.keeps hdef hp hk (fun s e => recFacts_of (Bool.and_eq_true_iff.mp e).2) rfl k1 ok ⟨rfl, rfl, rfl, rfl, rfl, by decide +kernel⟩ hw hc
end

section
open PySem PySem.W PyProof.Rows
local macro_rules
  | `(tactic| o_law) => `(tactic| refine holds_law Mine.law_said fun said => ?_)
local macro_rules
  | `(tactic| o_head $H) => `(tactic| apply Mine.my_open (H := $H) (by intro w os; kernel_rfl) (by rfl) (by rfl) (by rfl) (by assumption) (by decide +kernel))
set_option maxRecDepth 100000 in
set_option maxHeartbeats 8000000 in
open_top hd for PySem.Challenge.rw_rr0089_01
end

section
set_option maxRecDepth 100000
open PySem PySem.W PyProof.Rows PySem.Calls

/-! # abstract values -/
inductive PV where
  | none
  | bool (b : Bool)
  | int (i : Int)
  | str (x : Str)
  | tup (l : List PV)
  | ref (a : Addr)
  | blt (id : String)
  | typ (n : String)

mutual
inductive V (h : Heap) : Value → PV → Prop
  | none : V h Value.none PV.none
  | bool (b : Bool) : V h (Value.bool b) (PV.bool b)
  | int (i : Int) (t : Tok) : V h (Value.int i t) (PV.int i)
  | str (x : Str) (t : Tok) : V h (Value.str x t) (PV.str x)
  | tup {a : Addr} {vs : List Value} {ds : List PV} : h.IsTuple a vs.toArray → VS h vs ds → V h (Value.ref a) (PV.tup ds)
  | ref (a : Addr) : V h (Value.ref a) (PV.ref a)
  | blt (id : String) : V h (Value.builtin id) (PV.blt id)
  | typ (n : String) : V h (Value.type n) (PV.typ n)
inductive VS (h : Heap) : List Value → List PV → Prop
  | nil : VS h [] []
  | cons {v : Value} {d : PV} {vs : List Value} {ds : List PV} : V h v d → VS h vs ds → VS h (v :: vs) (d :: ds)
end

/-- tuples stay -/
noncomputable def TK (h h' : Heap) : Prop := ∀ a items, h.IsTuple a items → h'.IsTuple a items
theorem TK.refl (h : Heap) : TK h h := fun _ _ x => x
theorem TK.trans {a b c : Heap} (x : TK a b) (y : TK b c) : TK a c := fun _ _ z => y _ _ (x _ _ z)
mutual
theorem V.mono {h h' : Heap} (k : TK h h') : ∀ {v : Value} {d : PV}, V h v d → V h' v d
  | _, _, .none => .none
  | _, _, .bool b => .bool b
  | _, _, .int i t => .int i t
  | _, _, .str x t => .str x t
  | _, _, .tup ht r => .tup (k _ _ ht) (VS.mono k r)
  | _, _, .ref a => .ref a
  | _, _, .blt i => .blt i
  | _, _, .typ i => .typ i
theorem VS.mono {h h' : Heap} (k : TK h h') : ∀ {vs : List Value} {ds : List PV}, VS h vs ds → VS h' vs ds
  | _, _, .nil => .nil
  | _, _, .cons x r => .cons (V.mono k x) (VS.mono k r)
end
theorem VS.length {h : Heap} {vs : List Value} {ds : List PV} (x : VS h vs ds) : vs.length = ds.length := by
  induction vs generalizing ds with
  | nil => cases x; rfl
  | cons v vs ih => cases x with | cons _ r => simp [ih r]
theorem VS.append {h : Heap} {vs ws : List Value} {ds es : List PV} (x : VS h vs ds) (y : VS h ws es) : VS h (vs ++ ws) (ds ++ es) := by
  induction vs generalizing ds with
  | nil => cases x; exact y
  | cons v vs ih => cases x with | cons a r => exact .cons a (ih r)
theorem VS.one {h : Heap} {v : Value} {d : PV} (x : V h v d) : VS h [v] [d] := .cons x .nil
theorem VS.get {h : Heap} {vs : List Value} {ds : List PV} (x : VS h vs ds) {i : Nat} {d : PV} (hd : ds[i]? = some d) : ∃ v, vs[i]? = some v ∧ V h v d := by
  induction vs generalizing ds i with
  | nil => cases x; simp at hd
  | cons v vs ih =>
    cases x with
    | cons a r =>
      cases i with
      | zero => simp at hd; subst hd; exact ⟨v, by simp, a⟩
      | succ i => simp at hd; obtain ⟨u, hu, q⟩ := ih r hd; exact ⟨u, by simpa using hu, q⟩
theorem VS.getNone {h : Heap} {vs : List Value} {ds : List PV} (x : VS h vs ds) {i : Nat} (hd : ds[i]? = none) : vs[i]? = none := by
  have := x.length; simp at hd ⊢; omega
theorem VS.reverse {h : Heap} {vs : List Value} {ds : List PV} (x : VS h vs ds) : VS h vs.reverse ds.reverse := by
  induction vs generalizing ds with
  | nil => cases x; exact .nil
  | cons v vs ih => cases x with | cons a r => rw [List.reverse_cons, List.reverse_cons]; exact (ih r).append (.one a)

/-! # the store -/
inductive Ob where
  | list (l : List PV)
  | dict (kvs : List (Str × PV))
  | attrs (fs : List (Str × PV))
  | inst (C dx : Addr)
  | set (xs : List Str)
abbrev St := Addr → Option Ob
noncomputable def St.set (σ : St) (a : Addr) (o : Ob) : St := fun x => if x = a then some o else σ x
theorem St.set_self (σ : St) (a : Addr) (o : Ob) : σ.set a o a = some o := by simp [St.set]
theorem St.set_ne (σ : St) {a b : Addr} (o : Ob) (h : b ≠ a) : σ.set a o b = σ b := by simp [St.set, h]

inductive KVS (h : Heap) : List (Str × Value) → List (Str × PV) → Prop
  | nil : KVS h [] []
  | cons {k : Str} {v : Value} {d : PV} {vs : List (Str × Value)} {ds : List (Str × PV)} : V h v d → KVS h vs ds → KVS h ((k, v) :: vs) ((k, d) :: ds)
theorem KVS.mono {h h' : Heap} (k : TK h h') {vs : List (Str × Value)} {ds : List (Str × PV)} (x : KVS h vs ds) : KVS h' vs ds := by
  induction x with
  | nil => exact .nil
  | cons a _ ih => exact .cons (a.mono k) ih

/-- the constants of a proof: the program's state behind its top -/
structure Cx where
  prog : Program
  w : World
  K : Frag
  p : Program
  loose : List Str
  mean : ExcName → Option Value
  mg : Str → Option Value
  mb : Str → Option Value
  G : Heap
  hK : K.In G
  hT : Top p loose mean mg mb G
abbrev Cx.M (C : Cx) : Model := model C.prog C.w

/-- an object's own dict, entry by entry -/
inductive AEnts (h : Heap) : List DictEntry → List (Str × PV) → Prop
  | nil : AEnts h [] []
  | cons {e : DictEntry} {k : Str} {t : Tok} {d : PV} {es : List DictEntry} {fs : List (Str × PV)} : e.key = .str k t → V h e.val d → AEnts h es fs → AEnts h (e :: es) ((k, d) :: fs)
theorem AEnts.mono {h h' : Heap} (k : TK h h') {es : List DictEntry} {fs : List (Str × PV)} (x : AEnts h es fs) : AEnts h' es fs := by
  induction x with
  | nil => exact .nil
  | cons a b _ ih => exact .cons a (b.mono k) ih
noncomputable def PList (h : Heap) (a : Addr) (vs : List Value) : Prop := ∃ n, h.get? a = some { cls := .type "list", data := .seq vs.toArray n }
noncomputable def ObAt (C : Cx) (h : Heap) (a : Addr) : Ob → Prop
  | .list ds => ∃ vs, PList h a vs ∧ VS h vs ds
  | .dict ds => ∃ kvs, h.DictOf (strKind C.prog C.w) a kvs ∧ KVS h kvs ds
  | .attrs fs => ∃ es n, h.get? a = some (dictOf es n) ∧ AEnts h es fs ∧ fs.length ≤ 900
  | .inst D dx => h.get? a = some (instObj D dx)
  | .set xs => h.SetOf (strKind C.prog C.w) a (fun k => xs.any (· == k)) xs.length

/-! # objects that stay (a frame's own slots may turn) -/
noncomputable def Sim (o o' : Obj) : Prop := o' = o ∨ ((∃ es n, o.data = .dict es n) ∧ o'.cls = o.cls ∧ o'.dict = o.dict ∧ o'.data = o.data)
theorem Sim.refl (o : Obj) : Sim o o := .inl rfl
theorem Sim.trans {a b c : Obj} (x : Sim a b) (y : Sim b c) : Sim a c := by
  rcases x with rfl | ⟨x1, x2, x3, x4⟩
  · exact y
  · rcases y with rfl | ⟨_, y2, y3, y4⟩
    · exact .inr ⟨x1, x2, x3, x4⟩
    · exact .inr ⟨x1, y2.trans x2, y3.trans x3, y4.trans x4⟩
theorem Sim.data {a b : Obj} (x : Sim a b) : b.data = a.data := by rcases x with rfl | ⟨_, _, _, x⟩; rfl; exact x
theorem Sim.cls {a b : Obj} (x : Sim a b) : b.cls = a.cls := by rcases x with rfl | ⟨_, x, _, _⟩; rfl; exact x
theorem Sim.exact {a b : Obj} (x : Sim a b) (h : ∀ es n, a.data ≠ .dict es n) : b = a := by rcases x with rfl | ⟨⟨es, n, e⟩, _⟩; rfl; exact absurd e (h es n)
noncomputable def Kept (B h : Heap) : Prop := ∀ b o, B.get? b = some o → ∃ o', h.get? b = some o' ∧ Sim o o'
theorem Kept.refl (h : Heap) : Kept h h := fun _ o e => ⟨o, e, .refl o⟩
theorem Kept.of {B h : Heap} (k : ∀ b o, B.get? b = some o → h.get? b = some o) : Kept B h := fun b o e => ⟨o, k b o e, .refl o⟩
theorem Kept.trans {a b c : Heap} (x : Kept a b) (y : Kept b c) : Kept a c := fun i o e => by
  obtain ⟨o1, e1, s1⟩ := x i o e
  obtain ⟨o2, e2, s2⟩ := y i o1 e1
  exact ⟨o2, e2, s1.trans s2⟩
theorem Kept.none {B h : Heap} (k : Kept B h) {b : Addr} (e : h.get? b = none) : B.get? b = none := by
  cases q : B.get? b with
  | none => rfl
  | some o => obtain ⟨o', e', _⟩ := k b o q; rw [e] at e'; cases e'
theorem Kept.tuple {B h : Heap} (k : Kept B h) {a : Addr} {items : Array Value} (x : B.IsTuple a items) : h.IsTuple a items := by
  obtain ⟨o, e, c, n, d⟩ := x
  obtain ⟨o', e', s⟩ := k a o e
  exact ⟨o', e', s.cls.trans c, n, s.data.trans d⟩
theorem Kept.ns {B h : Heap} (k : Kept B h) {a : Addr} {m : Str → Option Value} (x : B.Ns a m) : h.Ns a m := by
  obtain ⟨o, es, ep, e, d, r⟩ := x
  obtain ⟨o', e', s⟩ := k a o e
  exact ⟨o', es, ep, e', s.data.trans d, r⟩
theorem Kept.cell {B h : Heap} (k : Kept B h) {a : Addr} {v : Option Value} (x : B.IsCell a v) : h.IsCell a v := by
  obtain ⟨o, e, d⟩ := x
  obtain ⟨o', e', s⟩ := k a o e
  exact ⟨o', e', s.data.trans d⟩

open Classical in
noncomputable def hid (h : Heap) (P : Addr → Prop) : Heap := hideAll h ((List.range h.objs.size).filter fun a => decide (P a))
theorem hid_get {h : Heap} {P : Addr → Prop} {b : Addr} {o : Obj} (e : h.get? b = some o) (n : ¬ P b) : (hid h P).get? b = some o :=
  hideAll_get _ e fun q => n (by simpa using (List.mem_filter.mp q).2)
theorem hid_of {h : Heap} {P : Addr → Prop} {b : Addr} {o : Obj} (e : (hid h P).get? b = some o) : h.get? b = some o ∧ ¬ P b := by
  have e1 := of_hideAll _ e
  refine ⟨e1, fun p => ?_⟩
  have : b ∈ (List.range h.objs.size).filter (fun a => @decide (P a) (Classical.propDecidable _)) := List.mem_filter.mpr ⟨List.mem_range.mpr (Heap.lt_size e1), by simpa using p⟩
  have h2 := hideAll_none (h := h) _ this
  unfold hid at e
  rw [h2] at e
  cases e
theorem hid_none {h : Heap} {P : Addr → Prop} {b : Addr} (p : P b) : (hid h P).get? b = none := by
  cases q : (hid h P).get? b with
  | none => rfl
  | some o => exact absurd p (hid_of q).2
theorem hid_sub {h : Heap} {P : Addr → Prop} : Kept (hid h P) h := .of fun _ _ e => (hid_of e).1

/-! # the store in the heap -/
structure RepS (C : Cx) (B h : Heap) (σ : St) : Prop where
  ground : ∀ b o, C.G.get? b = some o → h.get? b = some o
  gB : Kept C.G B
  base : Kept B h
  st : ∀ a o, σ a = some o → ObAt C h a o
  sep : ∀ a o, σ a = some o → B.get? a = none
  sys : ∀ a o, σ a = some o → (a == sysModules) = false

theorem ObAt.get {C : Cx} {h : Heap} {a : Addr} {o : Ob} (x : ObAt C h a o) : ∃ ob, h.get? a = some ob ∧ ∀ c, ob.data ≠ .cell c := by
  cases o with
  | list ds => obtain ⟨vs, ⟨n, e⟩, _⟩ := x; exact ⟨_, e, nofun⟩
  | dict ds => obtain ⟨kvs, ⟨o, es, ep, e, ed, d, _⟩, _⟩ := x; exact ⟨_, e, by rw [d]; nofun⟩
  | attrs fs => obtain ⟨es, n, e, _⟩ := x; exact ⟨_, e, nofun⟩
  | inst D dx => exact ⟨_, x, nofun⟩
  | set xs => obtain ⟨o, es, ep, t, e, ex, d, _⟩ := x; exact ⟨_, e, by rw [d]; nofun⟩
theorem ObAt.notTuple {C : Cx} {h : Heap} {a : Addr} {o : Ob} (x : ObAt C h a o) {items : Array Value} (t : h.IsTuple a items) : False := by
  obtain ⟨o', e', c', n', d'⟩ := t
  cases o with
  | list ds => obtain ⟨vs, ⟨n, e⟩, _⟩ := x; rw [e] at e'; cases e'; exact absurd c' (by simp)
  | dict ds => obtain ⟨kvs, ⟨o, es, ep, e, ed, d, _⟩, _⟩ := x; rw [e] at e'; cases e'; rw [d] at d'; cases d'
  | attrs fs => obtain ⟨es, n, e, _⟩ := x; rw [e] at e'; cases e'; cases d'
  | inst D dx => rw [show h.get? a = some (instObj D dx) from x] at e'; cases e'; cases d'
  | set xs => obtain ⟨o, es, ep, t, e, ex, d, _⟩ := x; rw [e] at e'; cases e'; rw [d] at d'; cases d'
theorem ObAt.mono {C : Cx} {h h' : Heap} {a : Addr} {o : Ob} (x : ObAt C h a o) (k : TK h h') (e : ∀ ob, h.get? a = some ob → h'.get? a = some ob) : ObAt C h' a o := by
  cases o with
  | list ds => obtain ⟨vs, ⟨n, q⟩, r⟩ := x; exact ⟨vs, ⟨n, e _ q⟩, r.mono k⟩
  | dict ds => obtain ⟨kvs, ⟨o, es, ep, q, t⟩, r⟩ := x; exact ⟨kvs, ⟨o, es, ep, e _ q, t⟩, r.mono k⟩
  | attrs fs => obtain ⟨es, n, q, r, z⟩ := x; exact ⟨es, n, e _ q, r.mono k, z⟩
  | inst D dx => exact e _ x
  | set xs => obtain ⟨o, es, ep, t, q, r⟩ := x; exact ⟨o, es, ep, t, e _ q, r⟩

/-- a variable's place -/
inductive VarAt (env : Env) (h : Heap) (mv : Str → Option Value) (x : Str) (d : PV) : Prop
  | loc {v : Value} : env.kindOf x = some .local → mv x = some v → V h v d → VarAt env h mv x d
  | cell {c : Addr} {v : Value} : env.kindOf x = some .cell → env.cells.lookup x = some c → h.IsCell c (some v) → V h v d → VarAt env h mv x d

abbrev Loc := List (Str × PV)
noncomputable def Loc.get (m : Loc) (x : Str) : Option PV := m.lookup x
noncomputable def Loc.set : Loc → Str → PV → Loc
  | [], x, v => [(x, v)]
  | (y, w) :: r, x, v => if y == x then (x, v) :: r else (y, w) :: Loc.set r x v

structure Rep (C : Cx) (B : Heap) (env : Env) (own : List Addr) (h : Heap) (m : Loc) (σ : St) : Prop extends RepS C B h σ where
  fn : env.scope.kind = .function
  loc : ∃ mv, h.Ns env.locals mv ∧ ∀ x d, m.get x = some d → VarAt env h mv x d
  ownL : env.locals ∈ own
  ownsep : ∀ a ∈ own, B.get? a = none ∧ σ a = none
  ownat : ∀ a ∈ own, a = env.locals ∨ ∃ v, h.IsCell a v

theorem Loc.get_set (m : Loc) (x : Str) (v : PV) (y : Str) : (m.set x v).get y = if y = x then some v else m.get y := by
  induction m with
  | nil =>
    unfold Loc.set Loc.get
    by_cases h : y = x
    · subst h; simp [List.lookup]
    · have : (y == x) = false := by simpa using h
      simp [List.lookup, this, h]
  | cons p r ih =>
    obtain ⟨z, w⟩ := p
    unfold Loc.set
    by_cases hz : (z == x) = true
    · rw [if_pos hz]
      have hz' : z = x := by simpa using hz
      subst hz'
      unfold Loc.get
      by_cases h : y = z
      · subst h; simp [List.lookup]
      · have : (y == z) = false := by simpa using h
        simp [List.lookup, this, h]
    · rw [if_neg hz]
      have hz' : z ≠ x := by simpa using hz
      unfold Loc.get at ih ⊢
      by_cases h : y = z
      · subst h; simp [List.lookup, hz']
      · have : (y == z) = false := by simpa using h
        simp only [List.lookup, this]; exact ih

theorem ns_unique {h : Heap} {a : Addr} {m m' : Str → Option Value} (x : h.Ns a m) (y : h.Ns a m') : m = m' := by
  obtain ⟨o, es, ep, e, d, _, f⟩ := x
  obtain ⟨o', es', ep', e', d', _, f'⟩ := y
  rw [e] at e'; cases e'; rw [d] at d'; cases d'
  funext z; rw [← f z, ← f' z]
theorem ns_not_cell {h : Heap} {a : Addr} {m : Str → Option Value} {v : Option Value} (x : h.Ns a m) (y : h.IsCell a v) : False := by
  obtain ⟨o, es, ep, e, d, _⟩ := x
  obtain ⟨o', e', d'⟩ := y
  rw [e] at e'; cases e'; rw [d] at d'; cases d'
theorem ns_not_tuple {h : Heap} {a : Addr} {m : Str → Option Value} {items : Array Value} (x : h.Ns a m) (y : h.IsTuple a items) : False := by
  obtain ⟨o, es, ep, e, d, _⟩ := x
  obtain ⟨o', e', _, _, d'⟩ := y
  rw [e] at e'; cases e'; rw [d] at d'; cases d'
theorem cell_not_tuple {h : Heap} {a : Addr} {v : Option Value} {items : Array Value} (x : h.IsCell a v) (y : h.IsTuple a items) : False := by
  obtain ⟨o, e, d⟩ := x
  obtain ⟨o', e', _, _, d'⟩ := y
  rw [e] at e'; cases e'; rw [d] at d'; cases d'

section
variable {C : Cx} {B h : Heap} {env : Env} {own : List Addr} {m : Loc} {σ : St}
theorem RepS.tuple_free (R : RepS C B h σ) {a : Addr} {items : Array Value} (x : h.IsTuple a items) : σ a = none := by
  cases q : σ a with
  | none => rfl
  | some o =>
    exact ((R.st a o q).notTuple x).elim
theorem Rep.tuple_free (R : Rep C B env own h m σ) {a : Addr} {items : Array Value} (x : h.IsTuple a items) : σ a = none ∧ a ∉ own := by
  refine ⟨R.toRepS.tuple_free x, fun q => ?_⟩
  obtain ⟨mv, n, _⟩ := R.loc
  rcases R.ownat a q with rfl | ⟨v, c⟩
  · exact ns_not_tuple n x
  · exact cell_not_tuple c x

/-- all but the store -/
noncomputable def maxS (h : Heap) (σ : St) : Heap := hid h fun a => σ a ≠ none
/-- all but the store and the frame's own -/
noncomputable def maxB (h : Heap) (σ : St) (own : List Addr) : Heap := hid h fun a => σ a ≠ none ∨ a ∈ own

theorem RepS.kept_max (R : RepS C B h σ) : Kept B (maxS h σ) := fun b o e => by
  obtain ⟨o', e', s⟩ := R.base b o e
  refine ⟨o', hid_get e' fun q => ?_, s⟩
  cases hs : σ b with
  | none => exact q hs
  | some x => have := R.sep b x hs; rw [e] at this; cases this
theorem Rep.kept_max (R : Rep C B env own h m σ) : Kept B (maxB h σ own) := fun b o e => by
  obtain ⟨o', e', s⟩ := R.base b o e
  refine ⟨o', hid_get e' fun q => ?_, s⟩
  rcases q with q | q
  · cases hs : σ b with
    | none => exact q hs
    | some x => have := R.sep b x hs; rw [e] at this; cases this
  · have := (R.ownsep b q).1; rw [e] at this; cases this
theorem RepS.max (R : RepS C B h σ) : RepS C (maxS h σ) h σ where
  ground := R.ground
  gB := R.gB.trans R.kept_max
  base := hid_sub
  st := R.st
  sep := fun a o e => hid_none (by rw [e]; simp)
  sys := R.sys
theorem Rep.max (R : Rep C B env own h m σ) : Rep C (maxB h σ own) env own h m σ where
  ground := R.ground
  gB := R.gB.trans R.kept_max
  base := hid_sub
  st := R.st
  sep := fun a o e => hid_none (.inl (by rw [e]; simp))
  sys := R.sys
  fn := R.fn
  loc := R.loc
  ownL := R.ownL
  ownsep := fun a q => ⟨hid_none (.inr q), (R.ownsep a q).2⟩
  ownat := R.ownat
theorem RepS.rebase {B' h' : Heap} {σ' : St} (k : Kept B B') (g : Kept C.G B) (R : RepS C B' h' σ') : RepS C B h' σ' where
  ground := R.ground
  gB := g
  base := k.trans R.base
  st := R.st
  sep := fun a o e => k.none (R.sep a o e)
  sys := R.sys
theorem Rep.rebase {B' h' : Heap} {m' : Loc} {σ' : St} (k : Kept B B') (g : Kept C.G B) (R : Rep C B' env own h' m' σ') : Rep C B env own h' m' σ' where
  toRepS := R.toRepS.rebase k g
  fn := R.fn
  loc := R.loc
  ownL := R.ownL
  ownsep := fun a q => ⟨k.none (R.ownsep a q).1, (R.ownsep a q).2⟩
  ownat := R.ownat
theorem RepS.tk {h' : Heap} (R : RepS C B h σ) (k : Kept (maxS h σ) h') : TK h h' := fun a items x => by
  have f := R.tuple_free x
  obtain ⟨o, e, r⟩ := x
  exact k.tuple ⟨o, hid_get e (by rw [f]; simp), r⟩
theorem Rep.tk {h' : Heap} (R : Rep C B env own h m σ) (k : Kept (maxB h σ own) h') : TK h h' := fun a items x => by
  have f := R.tuple_free x
  obtain ⟨o, e, r⟩ := x
  exact k.tuple ⟨o, hid_get e (by rw [f.1]; simp [f.2]), r⟩

theorem VarAt.mono {h' : Heap} {mv : Str → Option Value} {x : Str} {d : PV} (X : VarAt env h mv x d) (k : TK h h') (c : ∀ a v, h.IsCell a v → h'.IsCell a v) : VarAt env h' mv x d := by
  cases X with
  | loc a b r => exact .loc a b (r.mono k)
  | cell a b q r => exact .cell a b (c _ _ q) (r.mono k)

/-- a frame comes back from a step on the store alone -/
theorem Rep.back {h' : Heap} {σ' : St} (R : Rep C B env own h m σ) (k : TK h h') (R' : RepS C (maxS h σ) h' σ') : Rep C B env own h' m σ' := by
  have g := R.toRepS.kept_max
  have own_in : ∀ a ∈ own, ∀ o, h.get? a = some o → (maxS h σ).get? a = some o := fun a q o e => hid_get e (by rw [(R.ownsep a q).2]; simp)
  obtain ⟨mv, n, vars⟩ := R.loc
  have nsB : (maxS h σ).Ns env.locals mv := n.at' fun o e => own_in _ R.ownL o e
  have cellk : ∀ a v, h.IsCell a v → h'.IsCell a v := fun a v ⟨o, e, d⟩ => by
    refine R'.base.cell ⟨o, hid_get e fun q => ?_, d⟩
    cases hs : σ a with
    | none => exact q hs
    | some x =>
      obtain ⟨ob, e', nc⟩ := (R.st a x hs).get
      rw [e] at e'; cases e'; exact nc _ d
  exact {
    toRepS := R'.rebase g R.gB
    fn := R.fn
    loc := ⟨mv, R'.base.ns nsB, fun x d e => (vars x d e).mono k cellk⟩
    ownL := R.ownL
    ownsep := fun a q => ⟨(R.ownsep a q).1, by
      cases hs : σ' a with
      | none => rfl
      | some x =>
        have hB := R'.sep a x hs
        have : ∃ o, h.get? a = some o := by
          rcases R.ownat a q with rfl | ⟨v, o, e, _⟩
          · obtain ⟨o, _, _, e, _⟩ := n; exact ⟨o, e⟩
          · exact ⟨o, e⟩
        obtain ⟨o, e⟩ := this
        rw [own_in a q o e] at hB; cases hB⟩
    ownat := fun a q => (R.ownat a q).imp id fun ⟨v, c⟩ => ⟨v, cellk a v c⟩ }
end

/-! # around -/
noncomputable def Room (n : Nat) (A : Around) : Prop := A.handled = none ∧ A.depth + 2 * n ≤ 990 ∧ A.units + 30 * n ≤ 9800
theorem Room.le {n k : Nat} {A : Around} (x : Room n A) (h : k ≤ n) : Room k A := ⟨x.1, by have := x.2.1; omega, by have := x.2.2; omega⟩
noncomputable def FrB (C : Cx) (B : Heap) (e : Env) : Prop := e.scope.kind ≠ .module ∧ ∃ L o es n, e.frame = some L ∧ C.G.get? L = none ∧ B.get? L = some o ∧ o.data = .dict es n
noncomputable def FineC (C : Cx) (n : Nat) (B : Heap) (A : Around) : Prop := Room n A ∧ ∃ l, A.frames = some l ∧ ∀ e ∈ l, FrB C B e
noncomputable def Fine (C : Cx) (n : Nat) (B : Heap) (A : Around) (env : Env) : Prop :=
  Room n A ∧ ∃ l, A.frames = some l ∧ ∀ e ∈ l, FrB C B e ∨ (e.scope.kind ≠ .module ∧ e.frame = some env.locals ∧ C.G.get? env.locals = none)
theorem FrB.mono {C : Cx} {B B' : Heap} {e : Env} (x : FrB C B e) (k : Kept B B') : FrB C B' e := by
  obtain ⟨a, L, o, es, n, h1, h2, h3, h4⟩ := x
  obtain ⟨o', e', s⟩ := k L o h3
  exact ⟨a, L, o', es, n, h1, h2, e', s.data.trans h4⟩
theorem FineC.mono {C : Cx} {n k : Nat} {B B' : Heap} {A : Around} (x : FineC C n B A) (h : Kept B B') (hk : k ≤ n) : FineC C k B' A :=
  ⟨x.1.le hk, let ⟨l, a, b⟩ := x.2; ⟨l, a, fun e he => (b e he).mono h⟩⟩
theorem Fine.mono {C : Cx} {n k : Nat} {B B' : Heap} {A : Around} {env : Env} (x : Fine C n B A env) (h : Kept B B') (hk : k ≤ n) : Fine C k B' A env :=
  ⟨x.1.le hk, let ⟨l, a, b⟩ := x.2; ⟨l, a, fun e he => (b e he).imp (fun q => q.mono h) id⟩⟩
theorem Fine.call {C : Cx} {n : Nat} {B h : Heap} {A : Around} {env : Env} {own : List Addr} {m : Loc} {σ : St} (x : Fine C n B A env) (R : Rep C B env own h m σ) : FineC C n (maxS h σ) A := by
  refine ⟨x.1, ?_⟩
  obtain ⟨l, a, b⟩ := x.2
  refine ⟨l, a, fun e he => ?_⟩
  rcases b e he with q | ⟨q1, q2, q3⟩
  · exact q.mono R.toRepS.kept_max
  · obtain ⟨mv, ⟨o, es, ep, e1, e2, _⟩, _⟩ := R.loc
    exact ⟨q1, env.locals, o, es, ep, q2, q3, hid_get e1 (by rw [(R.ownsep _ R.ownL).2]; simp), e2⟩

noncomputable def NoE : Value → Shared → Prop := fun _ _ => False
noncomputable def SPost (C : Cx) (B : Heap) (Q : PV → St → Prop) (s : Shared) (v : Value) (s' : Shared) : Prop :=
  ∃ d σ' h tk, s' = { s with heap := h, toks := tk } ∧ V h v d ∧ TK s.heap h ∧ RepS C B h σ' ∧ Q d σ'
noncomputable def EPost (C : Cx) (B : Heap) (env : Env) (own : List Addr) (m : Loc) (Q : PV → St → Prop) (s : Shared) (v : Value) (s' : Shared) : Prop :=
  ∃ d σ' h tk, s' = { s with heap := h, toks := tk } ∧ V h v d ∧ TK s.heap h ∧ Rep C B env own h m σ' ∧ Q d σ'
noncomputable def BPost (C : Cx) (B : Heap) (env : Env) (own : List Addr) (m : Loc) (Q : Bool → St → Prop) (s : Shared) (b : Bool) (s' : Shared) : Prop :=
  ∃ σ' h tk, s' = { s with heap := h, toks := tk } ∧ TK s.heap h ∧ Rep C B env own h m σ' ∧ Q b σ'
noncomputable def LPost (C : Cx) (B : Heap) (env : Env) (own : List Addr) (m : Loc) (Q : List PV → St → Prop) (s : Shared) (vs : List Value) (s' : Shared) : Prop :=
  ∃ ds σ' h tk, s' = { s with heap := h, toks := tk } ∧ VS h vs ds ∧ TK s.heap h ∧ Rep C B env own h m σ' ∧ Q ds σ'
noncomputable def FPost (C : Cx) (B : Heap) (env : Env) (own : List Addr) (Qn : Loc → St → Prop) (Qr : PV → St → Prop) (s : Shared) (f : Flow) (s' : Shared) : Prop :=
  ∃ h tk, s' = { s with heap := h, toks := tk } ∧ TK s.heap h ∧ match f with
    | .next => ∃ m' σ', Rep C B env own h m' σ' ∧ Qn m' σ'
    | .ret v => ∃ d m' σ', V h v d ∧ Rep C B env own h m' σ' ∧ Qr d σ'
    | _ => False

/-- an operation on the store -/
noncomputable def Op (C : Cx) (n : Nat) (A : Around) (σ : St) (s : Shared) (t : Sem Value) (Q : PV → St → Prop) : Prop :=
  ∀ B, FineC C n B A → RepS C B s.heap σ → wpAny C.M A t (SPost C B Q s) NoE s
/-- an expression -/
noncomputable def E (C : Cx) (n : Nat) (A : Around) (env : Env) (own : List Addr) (m : Loc) (σ : St) (e : Expr) (Q : PV → St → Prop) : Prop :=
  ∀ B s, Fine C n B A env → Rep C B env own s.heap m σ → wpAny C.M A (eval e env) (EPost C B env own m Q s) NoE s
/-- a test -/
noncomputable def T (C : Cx) (n : Nat) (A : Around) (env : Env) (own : List Addr) (m : Loc) (σ : St) (e : Expr) (Q : Bool → St → Prop) : Prop :=
  ∀ B s, Fine C n B A env → Rep C B env own s.heap m σ → wpAny C.M A (isTrue e env (eval e env)) (BPost C B env own m Q s) NoE s
/-- the items of a display, the arguments of a call -/
noncomputable def Es (C : Cx) (n : Nat) (A : Around) (env : Env) (own : List Addr) (m : Loc) (σ : St) (pos : Pos) (es : List Expr) (Q : List PV → St → Prop) : Prop :=
  ∀ B s, Fine C n B A env → Rep C B env own s.heap m σ → wpAny C.M A (spliced (backTo pos (starEach es env))) (LPost C B env own m Q s) NoE s
/-- a statement -/
noncomputable def S1 (C : Cx) (n : Nat) (A : Around) (env : Env) (own : List Addr) (m : Loc) (σ : St) (st : Stmt) (Qn : Loc → St → Prop) (Qr : PV → St → Prop) : Prop :=
  ∀ B s, Fine C n B A env → Rep C B env own s.heap m σ → wpAny C.M A (exec st env) (FPost C B env own Qn Qr s) NoE s
/-- statements -/
noncomputable def S (C : Cx) (n : Nat) (A : Around) (env : Env) (own : List Addr) (m : Loc) (σ : St) (st : List Stmt) (Qn : Loc → St → Prop) (Qr : PV → St → Prop) : Prop :=
  ∀ B s, Fine C n B A env → Rep C B env own s.heap m σ → wpAny C.M A (execs st env) (FPost C B env own Qn Qr s) NoE s
/-- what a call hands back -/
noncomputable def RPost (C : Cx) (B : Heap) (Q : PV → St → Prop) (s : Shared) (r : Result) (s' : Shared) : Prop := match r with
  | .ok (.ret v) => SPost C B Q s v s'
  | _ => False
/-- a call -/
noncomputable def CallJ (C : Cx) (n : Nat) (f : Value) (args : List PV) (σ : St) (Q : PV → St → Prop) : Prop :=
  ∀ A B s vals, VS s.heap vals args → FineC C n B A → RepS C B s.heap σ → codeAny C.M A (.call f ⟨vals, []⟩) (RPost C B Q s) s

theorem noE {P : Prop} {e : Value} {s : Shared} (x : NoE e s) : P := x.elim

section
variable {C : Cx} {n : Nat} {A : Around} {env : Env} {own : List Addr} {m : Loc} {σ : St} {B : Heap} {s : Shared}
/-- what a proof for every base gives: tuples stay -/
theorem epost_tk {t : Sem Value} {Q : PV → St → Prop} (F : Fine C n B A env) (R : Rep C B env own s.heap m σ)
    (h : ∀ B', Fine C n B' A env → Rep C B' env own s.heap m σ → wpAny C.M A t (fun v s' => ∃ d σ' h tk, s' = { s with heap := h, toks := tk } ∧ V h v d ∧ Rep C B' env own h m σ' ∧ Q d σ') NoE s) :
    wpAny C.M A t (EPost C B env own m Q s) NoE s := by
  refine wpAny_mono (h _ (F.mono R.kept_max (Nat.le_refl _)) R.max) ?_ fun _ _ x => x
  rintro v s' ⟨d, σ', h', tk, rfl, hv, R', q⟩
  exact ⟨d, σ', h', tk, rfl, hv, R.tk R'.base, R'.rebase R.kept_max R.gB, q⟩
theorem Op.of {t : Sem Value} {Q : PV → St → Prop}
    (h : ∀ B, FineC C n B A → RepS C B s.heap σ → wpAny C.M A t (fun v s' => ∃ d σ' h tk, s' = { s with heap := h, toks := tk } ∧ V h v d ∧ RepS C B h σ' ∧ Q d σ') NoE s) : Op C n A σ s t Q := by
  intro B F R
  refine wpAny_mono (h _ (F.mono R.kept_max (Nat.le_refl _)) R.max) ?_ fun _ _ x => x
  rintro v s' ⟨d, σ', h', tk, rfl, hv, R', q⟩
  exact ⟨d, σ', h', tk, rfl, hv, R.tk R'.base, R'.rebase R.kept_max R.gB, q⟩
theorem Op.lift {t : Sem Value} {Q : PV → St → Prop} (h : Op C n A σ s t Q) (F : Fine C n B A env) (R : Rep C B env own s.heap m σ) : wpAny C.M A t (EPost C B env own m Q s) NoE s := by
  refine wpAny_mono (h _ (F.call R) R.toRepS.max) ?_ fun _ _ x => x
  rintro v s' ⟨d, σ', h', tk, rfl, hv, k, R', q⟩
  exact ⟨d, σ', h', tk, rfl, hv, k, R.back k R', q⟩
end

theorem CallJ.op {C : Cx} {n : Nat} {A : Around} {f : Value} {args : List PV} {σ : St} {Q : PV → St → Prop} (h : CallJ C n f args σ Q) {s : Shared} {vals : List Value} (hv : VS s.heap vals args) : Op C n A σ s (call f vals) Q := fun B F R =>
  wpAny_call (codeAny_mono (h A B s vals hv F R) fun r s' q => by
    cases r with
    | error e => exact q.elim
    | ok f => cases f with
      | ret v => exact q
      | next => exact q.elim
      | brk => exact q.elim
      | cont => exact q.elim)
/-- a proof for every base: tuples stay -/
theorem CallJ.of {C : Cx} {n : Nat} {f : Value} {args : List PV} {σ : St} {Q : PV → St → Prop}
    (h : ∀ A B s vals, VS s.heap vals args → FineC C n B A → RepS C B s.heap σ → codeAny C.M A (.call f ⟨vals, []⟩) (fun r s' => match r with
      | .ok (.ret v) => ∃ d σ' h tk, s' = { s with heap := h, toks := tk } ∧ V h v d ∧ RepS C B h σ' ∧ Q d σ'
      | _ => False) s) : CallJ C n f args σ Q := fun A B s vals hv F R => by
  refine codeAny_mono (h A _ s vals hv (F.mono R.kept_max (Nat.le_refl _)) R.max) fun r s' q => ?_
  cases r with
  | error e => exact q.elim
  | ok f => cases f with
    | ret v =>
      obtain ⟨d, σ', h', tk, rfl, hv, R', q⟩ := q
      exact ⟨d, σ', h', tk, rfl, hv, R.tk R'.base, R'.rebase R.kept_max R.gB, q⟩
    | next => exact q.elim
    | brk => exact q.elim
    | cont => exact q.elim

/-! # how a post is taken apart: the goal stands once -/
section
variable {C : Cx} {B : Heap} {env : Env} {own : List Addr} {m : Loc} {s : Shared}
theorem EPost.elim {Q : PV → St → Prop} {P : Value → Shared → Prop} (k : ∀ (d : PV) (σ' : St) (h : Heap) (tk : Nat) (v : Value), V h v d → TK s.heap h → Rep C B env own h m σ' → Q d σ' → P v { s with heap := h, toks := tk }) : ∀ v s', EPost C B env own m Q s v s' → P v s' := by
  rintro v _ ⟨d, σ', h, tk, rfl, hv, K, R, q⟩; exact k d σ' h tk v hv K R q
theorem LPost.elim {Q : List PV → St → Prop} {P : List Value → Shared → Prop} (k : ∀ (ds : List PV) (σ' : St) (h : Heap) (tk : Nat) (v : List Value), VS h v ds → TK s.heap h → Rep C B env own h m σ' → Q ds σ' → P v { s with heap := h, toks := tk }) : ∀ v s', LPost C B env own m Q s v s' → P v s' := by
  rintro v _ ⟨d, σ', h, tk, rfl, hv, K, R, q⟩; exact k d σ' h tk v hv K R q
theorem BPost.elim {Q : Bool → St → Prop} {P : Bool → Shared → Prop} (k : ∀ (σ' : St) (h : Heap) (tk : Nat) (b : Bool), TK s.heap h → Rep C B env own h m σ' → Q b σ' → P b { s with heap := h, toks := tk }) : ∀ b s', BPost C B env own m Q s b s' → P b s' := by
  rintro b _ ⟨σ', h, tk, rfl, K, R, q⟩; exact k σ' h tk b K R q
theorem FPost.elim {Qn : Loc → St → Prop} {Qr : PV → St → Prop} {P : Flow → Shared → Prop} (k : ∀ (h : Heap) (tk : Nat) (f : Flow), TK s.heap h → (match f with
    | .next => ∃ m' σ', Rep C B env own h m' σ' ∧ Qn m' σ'
    | .ret v => ∃ d m' σ', V h v d ∧ Rep C B env own h m' σ' ∧ Qr d σ'
    | _ => False) → P f { s with heap := h, toks := tk }) : ∀ f s', FPost C B env own Qn Qr s f s' → P f s' := by
  rintro f _ ⟨h, tk, rfl, K, r⟩; exact k h tk f K r
end
theorem V.ref_eq {h : Heap} {v : Value} {a : Addr} (x : V h v (.ref a)) : v = .ref a := by cases x; rfl
theorem V.blt_eq {h : Heap} {v : Value} {a : String} (x : V h v (.blt a)) : v = .builtin a := by cases x; rfl
theorem V.typ_eq {h : Heap} {v : Value} {a : String} (x : V h v (.typ a)) : v = .type a := by cases x; rfl
theorem V.bool_eq {h : Heap} {v : Value} {a : Bool} (x : V h v (.bool a)) : v = .bool a := by cases x; rfl

end

section
set_option maxRecDepth 100000
open PySem PySem.W PyProof.Rows PySem.Calls
section
variable {C : Cx} {n : Nat} {A : Around} {env : Env} {own : List Addr} {m : Loc} {σ : St} {B : Heap} {s : Shared}

theorem EPost.from {Q : PV → St → Prop} {h1 : Heap} {tk1 : Nat} {v : Value} {s' : Shared} (k : TK s.heap h1) (p : EPost C B env own m Q { s with heap := h1, toks := tk1 } v s') : EPost C B env own m Q s v s' := by
  obtain ⟨d, σ', h, tk, rfl, a, b, r⟩ := p
  exact ⟨d, σ', h, tk, rfl, a, k.trans b, r⟩
theorem BPost.from {Q : Bool → St → Prop} {h1 : Heap} {tk1 : Nat} {v : Bool} {s' : Shared} (k : TK s.heap h1) (p : BPost C B env own m Q { s with heap := h1, toks := tk1 } v s') : BPost C B env own m Q s v s' := by
  obtain ⟨σ', h, tk, rfl, b, r⟩ := p
  exact ⟨σ', h, tk, rfl, k.trans b, r⟩
theorem LPost.from {Q : List PV → St → Prop} {h1 : Heap} {tk1 : Nat} {v : List Value} {s' : Shared} (k : TK s.heap h1) (p : LPost C B env own m Q { s with heap := h1, toks := tk1 } v s') : LPost C B env own m Q s v s' := by
  obtain ⟨d, σ', h, tk, rfl, a, b, r⟩ := p
  exact ⟨d, σ', h, tk, rfl, a, k.trans b, r⟩
theorem FPost.from {Qn : Loc → St → Prop} {Qr : PV → St → Prop} {h1 : Heap} {tk1 : Nat} {v : Flow} {s' : Shared} (k : TK s.heap h1) (p : FPost C B env own Qn Qr { s with heap := h1, toks := tk1 } v s') : FPost C B env own Qn Qr s v s' := by
  obtain ⟨h, tk, rfl, b, r⟩ := p
  exact ⟨h, tk, rfl, k.trans b, r⟩
theorem SPost.from {Q : PV → St → Prop} {h1 : Heap} {tk1 : Nat} {v : Value} {s' : Shared} (k : TK s.heap h1) (p : SPost C B Q { s with heap := h1, toks := tk1 } v s') : SPost C B Q s v s' := by
  obtain ⟨d, σ', h, tk, rfl, a, b, r⟩ := p
  exact ⟨d, σ', h, tk, rfl, a, k.trans b, r⟩

theorem E.mono {e : Expr} {Q Q' : PV → St → Prop} (h : E C n A env own m σ e Q) (k : ∀ d σ', Q d σ' → Q' d σ') : E C n A env own m σ e Q' := fun B s F R =>
  wpAny_mono (h B s F R) (fun _ _ ⟨d, σ', h, tk, e, a, b, r, q⟩ => ⟨d, σ', h, tk, e, a, b, r, k _ _ q⟩) fun _ _ x => x
theorem T.mono {e : Expr} {Q Q' : Bool → St → Prop} (h : T C n A env own m σ e Q) (k : ∀ d σ', Q d σ' → Q' d σ') : T C n A env own m σ e Q' := fun B s F R =>
  wpAny_mono (h B s F R) (fun _ _ ⟨σ', h, tk, e, b, r, q⟩ => ⟨σ', h, tk, e, b, r, k _ _ q⟩) fun _ _ x => x
theorem S.mono {st : List Stmt} {Qn Qn' : Loc → St → Prop} {Qr Qr' : PV → St → Prop} (h : S C n A env own m σ st Qn Qr) (k : ∀ m' σ', Qn m' σ' → Qn' m' σ') (k2 : ∀ d σ', Qr d σ' → Qr' d σ') :
    S C n A env own m σ st Qn' Qr' := fun B s F R =>
  wpAny_mono (h B s F R) (fun f s' ⟨h, tk, e, b, r⟩ => ⟨h, tk, e, b, by
    cases f with
    | next => obtain ⟨m', σ', r, q⟩ := r; exact ⟨m', σ', r, k _ _ q⟩
    | ret v => obtain ⟨d, m', σ', r, q1, q⟩ := r; exact ⟨d, m', σ', r, q1, k2 _ _ q⟩
    | brk => exact r
    | cont => exact r⟩) fun _ _ x => x
theorem S1.mono {st : Stmt} {Qn Qn' : Loc → St → Prop} {Qr Qr' : PV → St → Prop} (h : S1 C n A env own m σ st Qn Qr) (k : ∀ m' σ', Qn m' σ' → Qn' m' σ') (k2 : ∀ d σ', Qr d σ' → Qr' d σ') :
    S1 C n A env own m σ st Qn' Qr' := fun B s F R =>
  wpAny_mono (h B s F R) (fun f s' ⟨h, tk, e, b, r⟩ => ⟨h, tk, e, b, by
    cases f with
    | next => obtain ⟨m', σ', r, q⟩ := r; exact ⟨m', σ', r, k _ _ q⟩
    | ret v => obtain ⟨d, m', σ', r, q1, q⟩ := r; exact ⟨d, m', σ', r, q1, k2 _ _ q⟩
    | brk => exact r
    | cont => exact r⟩) fun _ _ x => x
/-- what a frame knows may be forgotten -/
theorem Rep.weaken {h : Heap} {m' : Loc} (R : Rep C B env own h m σ) (k : ∀ x d, m'.get x = some d → m.get x = some d) : Rep C B env own h m' σ :=
  { R with loc := let ⟨mv, a, b⟩ := R.loc; ⟨mv, a, fun x d e => b x d (k x d e)⟩ }
/-- the store may be forgotten in part -/
theorem RepS.weaken {h : Heap} {σ' : St} (R : RepS C B h σ) (k : ∀ a o, σ' a = some o → σ a = some o) : RepS C B h σ' :=
  { R with st := fun a o e => R.st a o (k a o e), sep := fun a o e => R.sep a o (k a o e), sys := fun a o e => R.sys a o (k a o e) }
theorem Rep.weakenS {h : Heap} {σ' : St} (R : Rep C B env own h m σ) (k : ∀ a o, σ' a = some o → σ a = some o) : Rep C B env own h m σ' :=
  { R with
    toRepS := R.toRepS.weaken k
    ownsep := fun a q => ⟨(R.ownsep a q).1, by
      cases e : σ' a with
      | none => rfl
      | some o => have := k a o e; rw [(R.ownsep a q).2] at this; cases this⟩ }

theorem epost_same {Q : PV → St → Prop} {v : Value} {d : PV} {k : Nat} (R : Rep C B env own s.heap m σ) (hv : V s.heap v d) (q : Q d σ) : EPost C B env own m Q s v { s with toks := k } := ⟨d, σ, s.heap, k, rfl, hv, .refl _, R, q⟩
theorem epost_same' {Q : PV → St → Prop} {v : Value} {d : PV} (R : Rep C B env own s.heap m σ) (hv : V s.heap v d) (q : Q d σ) : EPost C B env own m Q s v s := ⟨d, σ, s.heap, s.toks, rfl, hv, .refl _, R, q⟩

/-! ## constants, names -/
theorem E_int {i : Int} {k : Nat} {p : Pos} {Q : PV → St → Prop} (q : Q (.int i) σ) : E C n A env own m σ (.Constant (.int i) k p) Q := fun _ _ _ R =>
  wpAny_Constant_int (epost_same R (.int _ _) q)
theorem E_str {x : Str} {k : Nat} {p : Pos} {Q : PV → St → Prop} (q : Q (.str x) σ) : E C n A env own m σ (.Constant (.str x) k p) Q := fun _ _ _ R =>
  wpAny_Constant_str (epost_same R (.str _ _) q)
theorem E_bool {b : Bool} {k : Nat} {p : Pos} {Q : PV → St → Prop} (q : Q (.bool b) σ) : E C n A env own m σ (.Constant (.bool b) k p) Q := fun _ _ _ R =>
  wpAny_pure (epost_same' R (.bool _) q)
theorem E_none {k : Nat} {p : Pos} {Q : PV → St → Prop} (q : Q .none σ) : E C n A env own m σ (.Constant .none k p) Q := fun _ _ _ R =>
  wpAny_pure (epost_same' R .none q)
theorem E_var {x : Str} {p : Pos} {d : PV} {Q : PV → St → Prop} (hx : m.get x = some d) (q : Q d σ) (hd : (x == ("__debug__" : Str)) = false := by decide) : E C n A env own m σ (.Name x p) Q := fun _ s _ R => by
  obtain ⟨mv, ns, vars⟩ := R.loc
  cases vars x d hx with
  | loc a b r => exact wpAny_Name (wpAny_loadName_local R.fn a ns b (epost_same' R r q)) hd
  | cell a b c r => exact wpAny_Name (wpAny_loadName_cell R.fn a b c (epost_same' R r q)) hd
theorem E_glob {x : Str} {p : Pos} {v : Value} {d : PV} {Q : PV → St → Prop} (e : nsIn C.K mainGlobals x = some (some v)) (hv : ∀ h, V h v d) (q : Q d σ)
    (hg : env.globals = mainGlobals := by rfl) (hx : env.kindOf x = some .globalImplicit := by rfl) (hd : (x == ("__debug__" : Str)) = false := by decide) : E C n A env own m σ (.Name x p) Q := fun _ s _ R =>
  Name_function_global R.fn hx (loadGlobal_global (env := env) (by rw [hg]; exact C.hT.g.keeps R.ground) (mg_of C.hK C.hT.g e) (epost_same' R (hv _) q)) hd
theorem E_blt {x : Str} {p : Pos} {v : Value} {d : PV} {Q : PV → St → Prop} (e : nsIn C.K mainGlobals x = some none) (hb : bootBuiltins x = some v) (hv : ∀ h, V h v d) (q : Q d σ)
    (hg : env.globals = mainGlobals := by rfl) (hbn : env.builtins = builtinsNs := by rfl) (hx : env.kindOf x = some .globalImplicit := by rfl) (hn : x ≠ "__name__" := by decide) (hd : (x == ("__debug__" : Str)) = false := by decide) :
    E C n A env own m σ (.Name x p) Q := fun _ s _ R =>
  Name_function_global R.fn hx (loadGlobal_builtin (env := env) (by rw [hg]; exact C.hT.g.keeps R.ground) (mg_none_of C.hK C.hT.g e) (by rw [hbn]; exact C.hT.b.keeps R.ground) ((C.hT.builtins x hn).trans hb) (epost_same' R (hv _) q)) hd

/-! ## two operands -/
noncomputable def O2 (C : Cx) (n : Nat) (A : Around) (t : Value → Value → Sem Value) (p q : PV) (σ : St) (Q : PV → St → Prop) : Prop :=
  ∀ s v w, V s.heap v p → V s.heap w q → Op C n A σ s (t v w) Q
theorem seq2 {e1 e2 : Expr} {t : Value → Value → Sem Value} {Q : PV → St → Prop} (h : E C n A env own m σ e1 fun p σ1 => E C n A env own m σ1 e2 fun q σ2 => O2 C n A t p q σ2 Q)
    (F : Fine C n B A env) (R : Rep C B env own s.heap m σ) :
    wpAny C.M A (eval e1 env) (fun a s₁ => wpAny C.M A (eval e2 env) (fun b s₂ => wpAny C.M A (t a b) (EPost C B env own m Q s) NoE s₂) NoE s₁) NoE s := by
  refine wpAny_mono (h B s F R) ?_ fun _ _ x => x
  refine EPost.elim fun p σ1 h1 tk1 v1 V1 K1 R1 q => ?_
  refine wpAny_mono (q B _ F R1) ?_ fun _ _ x => x
  refine EPost.elim fun p2 σ2 h2 tk2 v2 V2 K2 R2 q2 => ?_
  refine wpAny_mono ((q2 _ v1 v2 (V1.mono K2) V2).lift F R2) ?_ fun _ _ x => x
  intro v s' p
  exact (p.from K2).from K1
theorem E_bin {e1 e2 : Expr} {op : Operator} {pos : Pos} {Q : PV → St → Prop} (h : E C n A env own m σ e1 fun p σ1 => E C n A env own m σ1 e2 fun q σ2 => O2 C n A (binaryOp op) p q σ2 Q) :
    E C n A env own m σ (.BinOp e1 op e2 pos) Q := fun _ _ F R => wpAny_BinOp (seq2 h F R)
theorem E_cmp {e1 e2 : Expr} {op : CmpOp} {pos : Pos} {Q : PV → St → Prop} (h : E C n A env own m σ e1 fun p σ1 => E C n A env own m σ1 e2 fun q σ2 => O2 C n A (compareOp op) p q σ2 Q)
    (hm : behindInMarks op e2 = false := by with_unfolding_all rfl) : E C n A env own m σ (.Compare e1 [op] [e2] pos) Q := fun _ _ F R => wpAny_Compare1 (seq2 h F R) hm
theorem T_cmp {e1 e2 : Expr} {op : CmpOp} {pos : Pos} {Q : Bool → St → Prop} (h : E C n A env own m σ e1 fun p σ1 => E C n A env own m σ1 e2 fun q σ2 => O2 C n A (compareOp op) p q σ2 fun d σ3 => ∃ b, d = .bool b ∧ Q b σ3)
    (hm : behindInMarks op e2 = false := by with_unfolding_all rfl) : T C n A env own m σ (.Compare e1 [op] [e2] pos) Q := fun B s F R => by
  refine wpAny_isTrue_Compare1 (wpAny_mono (seq2 h F R) (fun _ _ h1 => wpAny_mono h1 (fun _ _ h2 => wpAny_mono h2 ?_ fun _ _ x => x) fun _ _ x => x) fun _ _ x => x) hm
  refine EPost.elim fun d σ3 h3 tk3 v V3 K3 R3 hrest => ?_
  obtain ⟨b, rfl, q⟩ := hrest
  (first | obtain rfl := V3.ref_eq | obtain rfl := V3.blt_eq | obtain rfl := V3.typ_eq | obtain rfl := V3.bool_eq | cases V3)
  exact wpAny_truthy_bool ⟨σ3, h3, tk3, rfl, K3, R3, q⟩

/-! ## tests -/
theorem T_val {e : Expr} {Q : Bool → St → Prop} (h : E C n A env own m σ e fun d σ1 => ∃ b, d = .bool b ∧ Q b σ1)
    (he : ∀ whole, isTrue e env whole = (do let v ← whole; standAt e.pos; holding [v] (truthy v)) := by intro _; rfl) : T C n A env own m σ e Q := fun B s F R => by
  refine wpAny_isTrue_value (wpAny_mono (h B s F R) ?_ fun _ _ x => x) (he _)
  refine EPost.elim fun d σ3 h3 tk3 v V3 K3 R3 hrest => ?_
  obtain ⟨b, rfl, q⟩ := hrest
  (first | obtain rfl := V3.ref_eq | obtain rfl := V3.blt_eq | obtain rfl := V3.typ_eq | obtain rfl := V3.bool_eq | cases V3)
  exact wpAny_truthy_bool ⟨σ3, h3, tk3, rfl, K3, R3, q⟩
theorem T_not {e : Expr} {pos : Pos} {Q : Bool → St → Prop} (h : T C n A env own m σ e fun b σ1 => Q (!b) σ1) : T C n A env own m σ (.UnaryOp .Not e pos) Q := fun B s F R =>
  wpAny_isTrue_Not (wpAny_mono (h B s F R) (fun _ _ x => x) fun _ _ x => x)
noncomputable def Ts (C : Cx) (n : Nat) (A : Around) (env : Env) (own : List Addr) (m : Loc) (σ : St) (op : BoolOp) (es : List Expr) (Q : Bool → St → Prop) : Prop :=
  ∀ B s, Fine C n B A env → Rep C B env own s.heap m σ → wpAny C.M A (allTrue op es env) (BPost C B env own m Q s) NoE s
theorem T_bool {op : BoolOp} {es : List Expr} {pos : Pos} {Q : Bool → St → Prop} (h : Ts C n A env own m σ op es Q) : T C n A env own m σ (.BoolOp op es pos) Q := fun B s F R =>
  wpAny_isTrue_BoolOp (h B s F R)
theorem Ts_and {e : Expr} {es : List Expr} {Q : Bool → St → Prop} (h : T C n A env own m σ e fun b σ1 => if b = true then Ts C n A env own m σ1 .And es Q else Q false σ1) : Ts C n A env own m σ .And (e :: es) Q := fun B s F R => by
  refine wpAny_allTrue_And_cons (wpAny_mono (h B s F R) ?_ fun _ _ x => x)
  refine BPost.elim fun σ1 h1 tk1 b K1 R1 q => ?_
  cases b with
  | true => exact wpAny_mono (q B _ F R1) (fun _ _ p => p.from K1) fun _ _ x => x
  | false => exact ⟨σ1, h1, tk1, rfl, K1, R1, q⟩
theorem Ts_or {e : Expr} {es : List Expr} {Q : Bool → St → Prop} (h : T C n A env own m σ e fun b σ1 => if b = true then Q true σ1 else Ts C n A env own m σ1 .Or es Q) : Ts C n A env own m σ .Or (e :: es) Q := fun B s F R => by
  refine wpAny_allTrue_Or_cons (wpAny_mono (h B s F R) ?_ fun _ _ x => x)
  refine BPost.elim fun σ1 h1 tk1 b K1 R1 q => ?_
  cases b with
  | false => exact wpAny_mono (q B _ F R1) (fun _ _ p => p.from K1) fun _ _ x => x
  | true => exact ⟨σ1, h1, tk1, rfl, K1, R1, q⟩
theorem Ts_and_nil {Q : Bool → St → Prop} (q : Q true σ) : Ts C n A env own m σ .And [] Q := fun B s F R => wpAny_pure ⟨σ, s.heap, s.toks, rfl, .refl _, R, q⟩
theorem Ts_or_nil {Q : Bool → St → Prop} (q : Q false σ) : Ts C n A env own m σ .Or [] Q := fun B s F R => wpAny_pure ⟨σ, s.heap, s.toks, rfl, .refl _, R, q⟩
theorem E_or2 {x y : Expr} {pos : Pos} {Q : PV → St → Prop} (h : E C n A env own m σ x fun d σ1 => ∃ b, d = .bool b ∧ if b = true then Q (.bool true) σ1 else E C n A env own m σ1 y Q) : E C n A env own m σ (.BoolOp .Or [x, y] pos) Q := fun B s F R => by
  refine wpAny_Or2 (wpAny_mono (h B s F R) ?_ fun _ _ x => x)
  refine EPost.elim fun d σ1 h1 tk1 v V1 K1 R1 hrest => ?_
  obtain ⟨b, rfl, q⟩ := hrest
  (first | obtain rfl := V1.ref_eq | obtain rfl := V1.blt_eq | obtain rfl := V1.typ_eq | obtain rfl := V1.bool_eq | cases V1)
  refine wpAny_truthy_bool ?_
  cases b with
  | true => exact ⟨_, σ1, h1, tk1, rfl, .bool true, K1, R1, q⟩
  | false => exact wpAny_mono (q B _ F R1) (fun _ _ p => p.from K1) fun _ _ x => x
theorem E_if {t a b : Expr} {pos : Pos} {Q : PV → St → Prop} (h : T C n A env own m σ t fun c σ1 => if c = true then E C n A env own m σ1 a Q else E C n A env own m σ1 b Q) : E C n A env own m σ (.IfExp t a b pos) Q := fun B s F R => by
  refine wpAny_IfExp (wpAny_mono (h B s F R) ?_ fun _ _ x => x)
  refine BPost.elim fun σ1 h1 tk1 c K1 R1 q => ?_
  cases c with
  | true => exact wpAny_mono (q B _ F R1) (fun _ _ p => p.from K1) fun _ _ x => x
  | false => exact wpAny_mono (q B _ F R1) (fun _ _ p => p.from K1) fun _ _ x => x

/-! ## displays -/
theorem Es_nil {pos : Pos} {Q : List PV → St → Prop} (q : Q [] σ) : Es C n A env own m σ pos [] Q := fun B s F R => wpAny_pure ⟨[], σ, s.heap, s.toks, rfl, .nil, .refl _, R, q⟩
theorem Es_cons {e : Expr} {es : List Expr} {pos : Pos} {Q : List PV → St → Prop} (h : E C n A env own m σ e fun d σ1 => Es C n A env own m σ1 pos es fun ds σ2 => Q (d :: ds) σ2)
    (he : starEach (e :: es) env = (false, eval e env) :: starEach es env := by rfl) : Es C n A env own m σ pos (e :: es) Q := fun B s F R => by
  rw [he]
  show wpAny _ _ (spliced ((false, eval e env) :: backTo pos (starEach es env))) _ _ _
  refine spliced_cons (wpAny_mono (h B s F R) ?_ fun _ _ x => x)
  refine EPost.elim fun d σ1 h1 tk1 v V1 K1 R1 q => ?_
  refine wpAny_mono (q B _ F R1) ?_ fun _ _ x => x
  refine LPost.elim fun ds σ2 h2 tk2 vs V2 K2 R2 q2 => ?_
  exact ⟨d :: ds, σ2, h2, tk2, rfl, .cons (V1.mono K2) V2, K1.trans K2, R2, q2⟩

theorem push_keep (h : Heap) (o : Obj) : ∀ b o', h.get? b = some o' → (h.push o).get? b = some o' := fun _ _ e => Heap.get?_push_of_some o e
theorem TK.of {h h' : Heap} (k : ∀ b o, h.get? b = some o → h'.get? b = some o) : TK h h' := fun _ _ ⟨o, e, r⟩ => ⟨o, k _ _ e, r⟩
/-- more objects: nothing is lost -/
theorem RepS.keeps {h h' : Heap} (R : RepS C B h σ) (k : ∀ b o, h.get? b = some o → h'.get? b = some o) : RepS C B h' σ where
  ground := fun b o e => k b o (R.ground b o e)
  gB := R.gB
  base := R.base.trans (.of k)
  st := fun a o e => (R.st a o e).mono (.of k) fun ob q => k _ _ q
  sep := R.sep
  sys := R.sys
theorem Rep.keeps {h h' : Heap} (R : Rep C B env own h m σ) (k : ∀ b o, h.get? b = some o → h'.get? b = some o) : Rep C B env own h' m σ where
  toRepS := R.toRepS.keeps k
  fn := R.fn
  loc := let ⟨mv, a, b⟩ := R.loc; ⟨mv, a.keeps k, fun x d e => (b x d e).mono (.of k) fun c v ⟨o, q, r⟩ => ⟨o, k _ _ q, r⟩⟩
  ownL := R.ownL
  ownsep := R.ownsep
  ownat := fun a q => (R.ownat a q).imp id fun ⟨v, o, e, r⟩ => ⟨v, o, k _ _ e, r⟩
theorem RepS.fresh {h : Heap} (R : RepS C B h σ) : σ h.objs.size = none := by
  cases e : σ h.objs.size with
  | none => rfl
  | some o => obtain ⟨ob, q, _⟩ := (R.st _ o e).get; exact absurd (Heap.lt_size q) (Nat.lt_irrefl _)
theorem RepS.freshB {h : Heap} (R : RepS C B h σ) : B.get? h.objs.size = none := by
  cases e : B.get? h.objs.size with
  | none => rfl
  | some o => obtain ⟨ob, q, _⟩ := R.base _ o e; exact absurd (Heap.lt_size q) (Nat.lt_irrefl _)
theorem RepS.freshSys {h : Heap} (R : RepS C B h σ) : (h.objs.size == sysModules) = false := by
  obtain ⟨mc, n, _⟩ := C.hT.nolimit
  have := (n.keeps R.ground).lt
  exact beq_eq_false_iff_ne.mpr fun q => by rw [q] at this; exact absurd this (by decide)
theorem Rep.freshOwn {h : Heap} (R : Rep C B env own h m σ) : h.objs.size ∉ own := fun q => by
  rcases R.ownat _ q with e | ⟨v, o, e, _⟩
  · obtain ⟨mv, a, _⟩ := R.loc; rw [← e] at a; exact absurd a.lt (Nat.lt_irrefl _)
  · exact absurd (Heap.lt_size e) (Nat.lt_irrefl _)
/-- a new object enters the store -/
theorem RepS.alloc {h : Heap} {ob : Obj} {o : Ob} (R : RepS C B h σ) (hf : ob.isFreed = false) (ho : ObAt C (h.push ob) h.objs.size o) : RepS C B (h.push ob) (σ.set h.objs.size o) where
  ground := fun b o e => push_keep _ _ b o (R.ground b o e)
  gB := R.gB
  base := R.base.trans (.of (push_keep _ _))
  st := fun a o' e => by
    by_cases q : a = h.objs.size
    · subst q; rw [St.set_self] at e; cases e; exact ho
    · rw [St.set_ne _ _ q] at e; exact (R.st a o' e).mono (.of (push_keep _ _)) fun ob q => push_keep _ _ _ _ q
  sep := fun a o' e => by
    by_cases q : a = h.objs.size
    · subst q; exact R.freshB
    · rw [St.set_ne _ _ q] at e; exact R.sep a o' e
  sys := fun a o' e => by
    by_cases q : a = h.objs.size
    · subst q; exact R.freshSys
    · rw [St.set_ne _ _ q] at e; exact R.sys a o' e
theorem Rep.alloc {h : Heap} {ob : Obj} {o : Ob} (R : Rep C B env own h m σ) (hf : ob.isFreed = false) (ho : ObAt C (h.push ob) h.objs.size o) : Rep C B env own (h.push ob) m (σ.set h.objs.size o) :=
  { R.keeps (push_keep h ob) with
    toRepS := R.toRepS.alloc hf ho
    ownsep := fun a q => ⟨(R.ownsep a q).1, by
      have hne : a ≠ h.objs.size := fun e => R.freshOwn (by rw [← e]; exact q)
      rw [St.set_ne _ _ hne]; exact (R.ownsep a q).2⟩ }

theorem E_tuple {es : List Expr} {k : Nat} {pos : Pos} {Q : PV → St → Prop} (h : Es C n A env own m σ pos es fun ds σ1 => ds.length ≤ 1000 ∧ Q (.tup ds) σ1) : E C n A env own m σ (.Tuple es k pos) Q := fun B s F R => by
  refine wpAny_Tuple (wpAny_mono (h B s F R) ?_ fun _ _ x => x)
  refine LPost.elim fun ds σ1 h1 tk1 vs V1 K1 R1 hrest => ?_
  obtain ⟨hl, q⟩ := hrest
  refine ⟨by rw [V1.length, sizeLine_eq]; omega, .tup ds, σ1, h1.push { cls := .type "tuple", data := .seq vs.toArray }, tk1, rfl, ?_, K1.trans (.of (push_keep _ _)), R1.keeps (push_keep _ _), q⟩
  exact .tup ⟨_, Heap.get?_push_size _ rfl, rfl, 0, rfl⟩ (V1.mono (.of (push_keep _ _)))
theorem E_list {es : List Expr} {pos : Pos} {Q : PV → St → Prop} (h : Es C n A env own m σ pos es fun ds σ1 => ds.length ≤ 1000 ∧ ∀ a, σ1 a = none → Q (.ref a) (σ1.set a (.list ds))) : E C n A env own m σ (.List es pos) Q := fun B s F R => by
  refine wpAny_List (wpAny_mono (h B s F R) ?_ fun _ _ x => x)
  refine LPost.elim fun ds σ1 h1 tk1 vs V1 K1 R1 hrest => ?_
  obtain ⟨hl, q⟩ := hrest
  refine ⟨by rw [V1.length, sizeLine_eq]; omega, .ref h1.objs.size, _, h1.push { cls := .type "list", data := .seq vs.toArray }, tk1, rfl, .ref _, K1.trans (.of (push_keep _ _)), R1.alloc rfl ?_, q _ R1.toRepS.fresh⟩
  exact ⟨vs, ⟨0, Heap.get?_push_size _ rfl⟩, V1.mono (.of (push_keep _ _))⟩

/-! ## statements -/
theorem S_nil {Qn : Loc → St → Prop} {Qr : PV → St → Prop} (q : Qn m σ) : S C n A env own m σ [] Qn Qr := fun B s F R => wpAny_pure ⟨s.heap, s.toks, rfl, .refl _, m, σ, R, q⟩
theorem S_cons {st : Stmt} {rest : List Stmt} {Qn : Loc → St → Prop} {Qr : PV → St → Prop} (h : S1 C n A env own m σ st (fun m' σ' => S C n A env own m' σ' rest Qn Qr) Qr) : S C n A env own m σ (st :: rest) Qn Qr := fun B s F R => by
  refine wpAny_execs_cons (wpAny_mono (h B s F R) ?_ fun _ _ x => x)
  refine FPost.elim fun h1 tk1 f K1 r => ?_
  cases f with
  | next => obtain ⟨m', σ', R1, q⟩ := r; exact wpAny_mono (q B _ F R1) (fun _ _ p => p.from K1) fun _ _ x => x
  | ret v => exact ⟨h1, tk1, rfl, K1, r⟩
  | brk => exact r.elim
  | cont => exact r.elim
theorem S_if {t : Expr} {a b : List Stmt} {pos : Pos} {Qn : Loc → St → Prop} {Qr : PV → St → Prop} (h : T C n A env own m σ t fun c σ1 => if c = true then S C n A env own m σ1 a Qn Qr else S C n A env own m σ1 b Qn Qr) : S1 C n A env own m σ (.If t a b pos) Qn Qr := fun B s F R => by
  refine wpAny_If (wpAny_mono (h B s F R) ?_ fun _ _ x => x)
  refine BPost.elim fun σ1 h1 tk1 c K1 R1 q => ?_
  cases c with
  | true => exact wpAny_mono (q B _ F R1) (fun _ _ p => p.from K1) fun _ _ x => x
  | false => exact wpAny_mono (q B _ F R1) (fun _ _ p => p.from K1) fun _ _ x => x
theorem S_ret {e : Expr} {pos : Pos} {Qn : Loc → St → Prop} {Qr : PV → St → Prop} (h : E C n A env own m σ e Qr) : S1 C n A env own m σ (.Return (some e) pos) Qn Qr := fun B s F R => by
  refine wpAny_Return_some (wpAny_mono (h B s F R) ?_ fun _ _ x => x)
  refine EPost.elim fun d σ1 h1 tk1 v V1 K1 R1 q => ?_
  exact ⟨h1, tk1, rfl, K1, d, m, σ1, V1, R1, q⟩
theorem S_expr {e : Expr} {pos : Pos} {Qn : Loc → St → Prop} {Qr : PV → St → Prop} (h : E C n A env own m σ e fun _ σ1 => Qn m σ1) (hi : interactive env = false := by rfl) (hs : swapsWith e none pos.line env = pure false := by rfl) :
    S1 C n A env own m σ (.Expr e pos) Qn Qr := fun B s F R => by
  refine wpAny_Expr_any (wpAny_mono (h B s F R) ?_ fun _ _ x => x) hi hs
  refine EPost.elim fun d σ1 h1 tk1 v V1 K1 R1 q => ?_
  exact ⟨h1, tk1, rfl, K1, m, σ1, R1, q⟩

/-! ## stores to names -/
/-- a cell of the frame's own -/
noncomputable def CellOwn (env : Env) (own : List Addr) : Prop := (∀ x c, env.cells.lookup x = some c → c ∈ own ∧ c ≠ env.locals) ∧ ∀ x y c, env.cells.lookup x = some c → env.cells.lookup y = some c → x = y
theorem IsCell_unique {h : Heap} {a : Addr} {v w : Option Value} (x : h.IsCell a v) (y : h.IsCell a w) : v = w := by
  obtain ⟨o, e, d⟩ := x
  obtain ⟨o', e', d'⟩ := y
  rw [e] at e'; cases e'; rw [d] at d'; cases d'; rfl
/-- an object of the frame's own turns -/
theorem RepS.ownTurn {h h' : Heap} {a : Addr} (R : RepS C B h σ) (hB : B.get? a = none) (hσ : σ a = none) (hs : Heap.SameBut a h h') (k : TK h h') : RepS C B h' σ where
  ground := fun b o e => (hs.2 b fun q => by
    obtain ⟨o', e', _⟩ := R.gB b o e
    rw [q, hB] at e'; cases e').trans (R.ground b o e)
  gB := R.gB
  base := fun b o e => by
    obtain ⟨o', e', r⟩ := R.base b o e
    exact ⟨o', (hs.2 b fun q => by rw [q, hB] at e; cases e).trans e', r⟩
  st := fun b o e => (R.st b o e).mono k fun ob q => (hs.2 b fun z => by rw [z, hσ] at e; cases e).trans q
  sep := R.sep
  sys := R.sys
theorem Rep.tkOwn {h h' : Heap} {a : Addr} (R : Rep C B env own h m σ) (ha : a ∈ own) (hs : Heap.SameBut a h h') : TK h h' := fun b items x => by
  have := (R.tuple_free x).2
  obtain ⟨o, e, r⟩ := x
  exact ⟨o, (hs.2 b fun q => this (q ▸ ha)).trans e, r⟩
theorem Rep.storeLocal {h h' : Heap} {mv : Str → Option Value} {x : Str} {v : Value} {d : PV} (R : Rep C B env own h m σ) (ns : h.Ns env.locals mv) (hk : env.kindOf x = some .local) (hn : h'.Ns env.locals fun y => if y = x then some v else mv y)
    (hs : Heap.SameBut env.locals h h') (hv : V h' v d) : Rep C B env own h' (m.set x d) σ := by
  have k := R.tkOwn R.ownL hs
  obtain ⟨hB, hσ⟩ := R.ownsep _ R.ownL
  have ck : ∀ c v, h.IsCell c v → h'.IsCell c v := fun c v q => by
    have hne : c ≠ env.locals := fun e => ns_not_cell ns (e ▸ q)
    obtain ⟨o, e, r⟩ := q
    exact ⟨o, (hs.2 c hne).trans e, r⟩
  refine { R with toRepS := R.toRepS.ownTurn hB hσ hs k, loc := ⟨_, hn, fun y d' e => ?_⟩, ownat := fun a q => (R.ownat a q).imp id fun ⟨v, c⟩ => ⟨v, ck a v c⟩ }
  obtain ⟨mv', ns', vars⟩ := R.loc
  obtain rfl := ns_unique ns ns'
  rw [Loc.get_set] at e
  by_cases hy : y = x
  · subst hy; rw [if_pos rfl] at e; cases e; exact .loc hk (if_pos rfl) hv
  · rw [if_neg hy] at e
    cases (vars y d' e).mono k ck with
    | loc a b r => exact .loc a (by rw [if_neg hy]; exact b) r
    | cell a b q r => exact .cell a b q r
theorem Rep.storeCell {h h' : Heap} {x : Str} {c : Addr} {v₀ : Option Value} {v : Value} {d : PV} (R : Rep C B env own h m σ) (O : CellOwn env own) (hk : env.kindOf x = some .cell) (hc : env.cells.lookup x = some c) (h0 : h.IsCell c v₀) (hn : h'.IsCell c (some v))
    (hs : Heap.SameBut c h h') (hv : V h' v d) : Rep C B env own h' (m.set x d) σ := by
  have k := R.tkOwn (O.1 x c hc).1 hs
  obtain ⟨hB, hσ⟩ := R.ownsep _ (O.1 x c hc).1
  obtain ⟨mv, ns, vars⟩ := R.loc
  have hne : env.locals ≠ c := fun e => ns_not_cell ns (e ▸ h0)
  refine { R with toRepS := R.toRepS.ownTurn hB hσ hs k, loc := ⟨mv, ns.at' fun o e => (hs.2 _ hne).trans e, fun y d' e => ?_⟩, ownat := fun a q => (R.ownat a q).imp id fun ⟨w, z⟩ => ?_ }
  · rw [Loc.get_set] at e
    by_cases hy : y = x
    · subst hy; rw [if_pos rfl] at e; cases e; exact .cell hk hc hn hv
    · rw [if_neg hy] at e
      cases vars y d' e with
      | loc a b r => exact .loc a b (r.mono k)
      | cell a b q r =>
        rename_i c' v'
        have : c' ≠ c := fun e => hy (O.2 y x c (e ▸ b) hc)
        obtain ⟨o, e', r'⟩ := q
        exact .cell a b ⟨o, (hs.2 _ this).trans e', r'⟩ (r.mono k)
  · by_cases q : a = c
    · subst q; exact ⟨_, hn⟩
    · obtain ⟨o, e, r⟩ := z; exact ⟨w, o, (hs.2 a q).trans e, r⟩

/-- where a name may be stored -/
inductive Place (env : Env) (own : List Addr) (x : Str) : Prop
  | loc : env.kindOf x = some .local → Place env own x
  | cell {c : Addr} : env.kindOf x = some .cell → CellOwn env own → env.cells.lookup x = some c → Place env own x
theorem store_at {x : Str} {v : Value} {d : PV} {Q : Unit → Shared → Prop} {X : Value → Shared → Prop} (P : Place env own x) (R : Rep C B env own s.heap m σ) (hv : V s.heap v d)
    (h : ∀ h' tk, TK s.heap h' → Rep C B env own h' (m.set x d) σ → Q () { s with heap := h', toks := tk }) : wpAny C.M A (storeName env x v) Q X s := by
  obtain ⟨mv, ns, vars⟩ := R.loc
  cases P with
  | loc hk =>
    refine wpAny_storeName_local hk ns (fun h' hn hs => ?_) (by rw [R.fn]; rfl)
    have k := R.tkOwn R.ownL hs
    exact h h' _ k (R.storeLocal ns hk hn hs (hv.mono k))
  | cell hk O hc =>
    obtain ⟨hm, hne⟩ := O.1 _ _ hc
    rcases R.ownat _ hm with e | ⟨v₀, h0⟩
    · exact absurd e hne
    · refine wpAny_storeName_cell R.fn hk hc h0 fun h' hn hs => ?_
      have k := R.tkOwn hm hs
      exact h h' s.toks k (R.storeCell O hk hc h0 hn hs (hv.mono k))
end
end

section
set_option maxRecDepth 100000
open PySem PySem.W PyProof.Rows PySem.Calls

/-! ## several names at once -/
noncomputable def namesOf : List Expr → Option (List Str)
  | [] => some []
  | .Name x _ :: r => (namesOf r).map (x :: ·)
  | _ => none
noncomputable def setAll (m : Loc) : List Str → List PV → Loc
  | x :: xs, d :: ds => setAll (m.set x d) xs ds
  | _, _ => m

section
variable {C : Cx} {n : Nat} {A : Around} {env : Env} {own : List Addr} {m : Loc} {σ : St} {B : Heap} {s : Shared}

theorem S_assign {x : Str} {p' pos : Pos} {value : Expr} {Qn : Loc → St → Prop} {Qr : PV → St → Prop} (P : Place env own x) (h : E C n A env own m σ value fun d σ1 => Qn (m.set x d) σ1)
    (hs : swapsWith value (some (.Name x p')) pos.line env = pure false := by rfl) : S1 C n A env own m σ (.Assign [.Name x p'] value pos) Qn Qr := fun B s F R => by
  refine wpAny_Assign_Name (wpAny_mono (h B s F R) ?_ fun _ _ x => x) hs
  refine EPost.elim fun d σ1 h1 tk1 v V1 K1 R1 q => ?_
  exact store_at P R1 V1 fun h2 tk2 K2 R2 => ⟨h2, tk2, rfl, K1.trans K2, _, _, R2, q⟩

theorem namesOf_cons {e : Expr} {r : List Expr} {xs : List Str} (h : namesOf (e :: r) = some xs) : ∃ x p ys, e = .Name x p ∧ namesOf r = some ys ∧ xs = x :: ys := by
  cases e <;> simp only [namesOf, reduceCtorEq] at h
  obtain ⟨ys, hy, rfl⟩ := Option.map_eq_some_iff.mp h
  exact ⟨_, _, ys, rfl, hy, rfl⟩
theorem assignEach_Name (x : Str) (p : Pos) (r : List Expr) : assignEach (.Name x p :: r) env = (false, assign (.Name x p) env) :: assignEach r env := rfl
theorem assign_names {elts : List Expr} : ∀ {xs : List Str} {vs : List Value} {ds : List PV} {m : Loc} {s : Shared} {Q : Unit → Shared → Prop} {X : Value → Shared → Prop}, namesOf elts = some xs → (∀ x ∈ xs, Place env own x) → Rep C B env own s.heap m σ → VS s.heap vs ds → vs.length = xs.length →
    (∀ h' tk, TK s.heap h' → Rep C B env own h' (setAll m xs ds) σ → Q () { s with heap := h', toks := tk }) → wpAny C.M A (assignInOrder ((assignEach elts env).map (·.2)) vs) Q X s := by
  induction elts with
  | nil =>
    intro xs vs ds m s Q X he P R hv hl q
    cases he
    have : vs = [] := by simpa using hl
    subst this; cases hv
    exact wpAny_pure (q s.heap s.toks (.refl _) R)
  | cons e r ih =>
    intro xs vs ds m s Q X he P R hv hl q
    obtain ⟨x, p, ys, rfl, hy, rfl⟩ := namesOf_cons he
    cases hv with
    | nil => simp at hl
    | cons a b =>
      rename_i v d vs ds
      rw [assignEach_Name, List.map_cons]
      refine wpAny_assignInOrder_more (wpAny_assign_Name (store_at (P x (.head _)) R a fun h2 tk2 K2 R2 => ?_))
      exact ih hy (fun x hx => P x (.tail _ hx)) R2 (b.mono K2) (by simpa using hl) fun h3 tk3 K3 R3 => q h3 tk3 (K2.trans K3) R3
theorem bind_names {xs : List Str} : ∀ {vs : List Value} {ds : List PV} {m : Loc} {s : Shared} {Q : Unit → Shared → Prop} {X : Value → Shared → Prop}, (∀ x ∈ xs, Place env own x) → Rep C B env own s.heap m σ → VS s.heap vs ds → vs.length = xs.length →
    (∀ h' tk, TK s.heap h' → Rep C B env own h' (setAll m xs ds) σ → Q () { s with heap := h', toks := tk }) → wpAny C.M A (assignInOrder (xs.map fun n => bindName env n) vs) Q X s := by
  induction xs with
  | nil =>
    intro vs ds m s Q X P R hv hl q
    have : vs = [] := by simpa using hl
    subst this; cases hv
    exact wpAny_pure (q s.heap s.toks (.refl _) R)
  | cons x r ih =>
    intro vs ds m s Q X P R hv hl q
    cases hv with
    | nil => simp at hl
    | cons a b =>
      rename_i v d vs ds
      rw [List.map_cons]
      refine wpAny_assignInOrder_more (wpAny_bindName (store_at (P x (.head _)) R a fun h2 tk2 K2 R2 => ?_))
      exact ih (fun x hx => P x (.tail _ hx)) R2 (b.mono K2) (by simpa using hl) fun h3 tk3 K3 R3 => q h3 tk3 (K2.trans K3) R3
theorem assignEach_len {elts : List Expr} : ∀ {xs : List Str}, namesOf elts = some xs → (assignEach elts env).length = xs.length ∧ (assignEach elts env).findIdx? (·.1) = none := by
  induction elts with
  | nil => intro xs h; cases h; exact ⟨rfl, rfl⟩
  | cons e r ih =>
    intro xs h
    obtain ⟨x, p, ys, rfl, hy, rfl⟩ := namesOf_cons h
    obtain ⟨a, b⟩ := ih hy
    rw [assignEach_Name]
    refine ⟨by simp [a], ?_⟩
    rw [List.findIdx?_cons]; simp [b]
/-- the frame's own turns nothing of the store: a fresh iterator -/
theorem Rep.extBut {h h' : Heap} (R : Rep C B env own h m σ) (hs : Heap.ExtBut h.objs.size h h') : Rep C B env own h' m σ := R.keeps fun b o e => hs b o (Nat.ne_of_lt (Heap.lt_size e)) e
theorem extBut_tk {h h' : Heap} (hs : Heap.ExtBut h.objs.size h h') : TK h h' := .of fun b o e => hs b o (Nat.ne_of_lt (Heap.lt_size e)) e

/-- a target: a name, or a tuple of names -/
inductive Tgt (env : Env) (own : List Addr) : Expr → PV → Loc → Loc → Prop
  | name {x : Str} {p : Pos} {d : PV} {m : Loc} : Place env own x → Tgt env own (.Name x p) d m (m.set x d)
  | tuple {elts : List Expr} {k : Nat} {p : Pos} {xs : List Str} {ds : List PV} {m : Loc} : namesOf elts = some xs → (∀ x ∈ xs, Place env own x) → ds.length = xs.length → Tgt env own (.Tuple elts k p) (.tup ds) m (setAll m xs ds)
theorem assign_tgt {t : Expr} {v : Value} {d : PV} {m' : Loc} {Q : Unit → Shared → Prop} {X : Value → Shared → Prop} (hh : A.handled = none) (T : Tgt env own t d m m') (R : Rep C B env own s.heap m σ) (hv : V s.heap v d)
    (h : ∀ h' tk, TK s.heap h' → Rep C B env own h' m' σ → Q () { s with heap := h', toks := tk }) : wpAny C.M A (assign t env v) Q X s := by
  cases T with
  | name P => exact wpAny_assign_Name (store_at P R hv h)
  | tuple hn P hl =>
    cases hv with
    | tup ht hvs =>
      rename_i a vs
      obtain ⟨e1, e2⟩ := assignEach_len (env := env) hn
      refine wpAny_assign_Tuple hh ht (by rw [e1]; simp [hvs.length, hl]) e2 fun h' hs => ?_
      have K := extBut_tk hs
      exact assign_names hn P (R.extBut hs) (hvs.mono K) (by simp [hvs.length, hl]) fun h2 tk2 K2 R2 => h h2 tk2 (K.trans K2) R2

theorem S_unpack {elts : List Expr} {k : Nat} {p' pos : Pos} {value : Expr} {xs : List Str} {Qn : Loc → St → Prop} {Qr : PV → St → Prop} (hn : namesOf elts = some xs) (P : ∀ x ∈ xs, Place env own x)
    (h : E C n A env own m σ value fun d σ1 => ∃ ds, d = .tup ds ∧ ds.length = xs.length ∧ Qn (setAll m xs ds) σ1)
    (hs : swapsWithSole [.Tuple elts k p'] value pos.line env = pure false := by rfl) (hw : swappedStores [.Tuple elts k p'] value env = pure none := by rfl) : S1 C n A env own m σ (.Assign [.Tuple elts k p'] value pos) Qn Qr := fun B s F R => by
  refine wpAny_Assign_stores (wpAny_mono (h B s F R) ?_ fun _ _ x => x) hs hw
  refine EPost.elim fun d σ1 h1 tk1 v V1 K1 R1 hrest => ?_
  obtain ⟨ds, rfl, hl, q⟩ := hrest
  show wpAny _ _ (assign (.Tuple elts k p') env v) _ _ _
  exact assign_tgt F.1.1 (.tuple hn P hl) R1 V1 fun h2 tk2 K2 R2 => ⟨h2, tk2, rfl, K1.trans K2, _, _, R2, q⟩

theorem exec_Assign (targets : List Expr) (value : Expr) (pos : Pos) : exec (.Assign targets value pos) env = (do
    standAt pos
    if ← swapsWithSole targets value pos.line env then do
      evalThenUse value env fun v => assignAll v ((assignEach targets env).map (·.2))
      pure .next
    else do
      let v ← eval value env
      assignStores env v (← swappedStores targets value env) ((assignEach targets env).map (·.2))) := rfl
/-- two or three names, a display of as many: the stores go from behind -/
theorem S_swap {elts : List Expr} {k : Nat} {p' pos : Pos} {value : Expr} {xs : List Str} {Qn : Loc → St → Prop} {Qr : PV → St → Prop} (P : ∀ x ∈ xs, Place env own x)
    (hw : swappedStores [.Tuple elts k p'] value env = pure (some xs))
    (h : E C n A env own m σ value fun d σ1 => ∃ ds, d = .tup ds ∧ ds.length = xs.length ∧ Qn (setAll m xs.reverse ds.reverse) σ1)
    (hs : swapsWithSole [.Tuple elts k p'] value pos.line env = pure false := by rfl) : S1 C n A env own m σ (.Assign [.Tuple elts k p'] value pos) Qn Qr := fun B s F R => by
  rw [exec_Assign, hs]
  refine wpAny_bind (wpAny_standAt (wpAny_bind (wpAny_pure ?_)))
  rw [if_neg (by decide)]
  refine wpAny_bind (wpAny_mono (h B s F R) ?_ fun _ _ x => x)
  refine EPost.elim fun d σ1 h1 tk1 v V1 K1 R1 hrest => ?_
  obtain ⟨ds, rfl, hl, q⟩ := hrest
  rw [hw]
  refine wpAny_bind (wpAny_pure ?_)
  unfold assignStores
  refine wpAny_bind (wpAny_rule (wpAny_bind ?_))
  cases V1 with
  | tup ht hvs =>
    rename_i a vs
    have : xs.length = vs.toArray.size := by simp [hvs.length, hl]
    rw [this]
    refine wpAny_unpackItems_tuple F.1.1 ht fun h' hs' => ?_
    have K := extBut_tk hs'
    refine wpAny_bind (bind_names (fun x hx => P x (List.mem_reverse.mp hx)) (R1.extBut hs') (hvs.mono K).reverse (by simp [hvs.length, hl]) fun h2 tk2 K2 R2 => ?_)
    exact wpAny_pure ⟨h2, tk2, rfl, K1.trans (K.trans K2), _, _, R2, q⟩

/-! ## attributes -/
noncomputable def attrOK (K : Frag) (D : Addr) (name : Str) : Bool := plainGet K D name && hasDictIn K D && (match findIn K (.ref D) name with | some attr => noGet K attr | none => false)
noncomputable def setOK (K : Frag) (D : Addr) (name : Str) : Bool := findIn K (.ref D) "__setattr__" == some (some (.builtin "object.__setattr__")) && plainOver K D && takerIn K D name == some none && hasDictIn K D
noncomputable def methOK (K : Frag) (D : Addr) (name : Str) (f : Addr) : Bool := plainGet K D name && findIn K (.ref D) name == some (some (.ref f)) && isFn K (.ref f)

theorem AEnts.noRef {h : Heap} {es : List DictEntry} {fs : List (Str × PV)} (x : AEnts h es fs) : es.any (·.refKey) = false := by
  induction x with
  | nil => rfl
  | cons a _ _ ih => rw [List.any_cons, ih]; simp [DictEntry.refKey, a]
theorem AEnts.get {h : Heap} {es : List DictEntry} {fs : Loc} (x : AEnts h es fs) (name : Str) : match Loc.get fs name with
    | some d => ∃ v, getL name es = some (some v) ∧ V h v d
    | none => getL name es = some none := by
  have nr := x.noRef
  unfold getL
  induction x with
  | nil => rfl
  | cons a b r ih =>
    rename_i e k t d es fs
    have nr' : es.any (·.refKey) = false := by rw [List.any_cons, Bool.or_eq_false_iff] at nr; exact nr.2
    by_cases hk : name = k
    · subst hk
      have e1 : e.key.isStr name = true := by rw [a]; simp [Value.isStr]
      simp only [Loc.get, List.lookup_cons, beq_self_eq_true, List.find?_cons, e1]
      exact ⟨_, rfl, b⟩
    · have e1 : e.key.isStr name = false := by rw [a]; simp [Value.isStr, Ne.symm hk]
      have e2 : (name == k) = false := by simpa using hk
      simp only [Loc.get, List.lookup_cons, e2, List.find?_cons, e1, nr]
      have := ih nr'
      simp only [Loc.get, nr'] at this
      exact this
theorem AEnts.put {h : Heap} {es : List DictEntry} {fs : Loc} {name : Str} {hsh : Int} {t : Tok} {v : Value} {d : PV} (x : AEnts h es fs) (hv : V h v d) : AEnts h (putL name hsh (.str name t) v es) (Loc.set fs name d) := by
  induction x with
  | nil => exact .cons rfl hv .nil
  | cons a b r ih =>
    rename_i e k t' d' es fs
    unfold putL Loc.set
    by_cases hk : k = name
    · subst hk
      have e1 : e.key.isStr k = true := by rw [a]; simp [Value.isStr]
      rw [if_pos e1, if_pos (by simp)]
      exact .cons a hv r
    · have e1 : ¬ e.key.isStr name = true := by rw [a]; simp [Value.isStr, hk]
      rw [if_neg e1, if_neg (by simpa using hk)]
      exact .cons a b ih
theorem Loc.set_len (m : Loc) (x : Str) (v : PV) : (Loc.set m x v).length ≤ m.length + 1 := by
  induction m with
  | nil => simp [Loc.set]
  | cons p r ih => unfold Loc.set; split <;> simp; omega
theorem putL_len {h : Heap} {es : List DictEntry} {fs : Loc} (x : AEnts h es fs) : es.length = fs.length := by
  induction x with
  | nil => rfl
  | cons _ _ _ ih => simp [ih]
theorem V.handed {h : Heap} {v : Value} {d : PV} (x : V h v d) (hd : ∀ id, d ≠ .blt id) : handedIn v = true := by
  cases x <;> first | rfl | exact absurd rfl (hd _)
theorem instAt_of {h : Heap} {x D dx : Addr} {od : Obj} (h1 : h.get? x = some (instObj D dx)) (h2 : h.get? dx = some od) : InstAt h x (instObj D dx) D (some od) := ⟨h1, rfl, rfl, h2⟩

/-- an object with its attributes -/
noncomputable def Inst (σ : St) (x D : Addr) (fs : Loc) : Prop := ∃ dx, σ x = some (.inst D dx) ∧ σ dx = some (.attrs fs)

theorem op_getattr {x D : Addr} {fs : Loc} {name : Str} {d : PV} {Q : PV → St → Prop} (I : Inst σ x D fs) (ok : attrOK C.K D name = true) (hd : Loc.get fs name = some d) (hb : ∀ id, d ≠ .blt id) (q : Q d σ) :
    Op C n A σ s (getAttr (.ref x) name true) Q := .of fun B F R => by
  obtain ⟨dx, e1, e2⟩ := I
  obtain ⟨es, en, ho, hes, _⟩ := R.st _ _ e2
  have := hes.get name
  rw [hd] at this
  obtain ⟨v, hl, hv2⟩ := this
  unfold attrOK at ok
  simp only [Bool.and_eq_true] at ok
  obtain ⟨⟨ok1, ok2⟩, ok3⟩ := ok
  split at ok3
  · rename_i attr ha
    have X : C.K.In s.heap := C.hK.keeps R.ground
    exact get_value X (instAt_of (R.st _ _ e1) ho) (plainGet_of ok1).1 (findObj_own ok2 ha ok3 hl) (hv2.handed hb) ⟨d, σ, s.heap, _, rfl, hv2, R, q⟩
  · cases ok3
theorem E_attr {e : Expr} {name : Str} {pos : Pos} {Q : PV → St → Prop} (h : E C n A env own m σ e fun p σ1 => ∃ x D fs d, p = .ref x ∧ Inst σ1 x D fs ∧ attrOK C.K D name = true ∧ Loc.get fs name = some d ∧ (∀ id, d ≠ .blt id) ∧ Q d σ1)
    (he : eval (.Attribute e name pos) env = (do
      let o ← eval e env
      standAt pos.atName
      let r ← holding [o] (getAttr o name true)
      letTemporaryGo e o r
      pure r) := by with_unfolding_all rfl) : E C n A env own m σ (.Attribute e name pos) Q := fun B s F R => by
  refine Attribute_any_ (wpAny_mono (h B s F R) ?_ fun _ _ x => x) he
  refine EPost.elim fun p σ1 h1 tk1 v V1 K1 R1 hrest => ?_
  obtain ⟨x, D, fs, d, rfl, I, ok, hd, hb, q⟩ := hrest
  (first | obtain rfl := V1.ref_eq | obtain rfl := V1.blt_eq | obtain rfl := V1.typ_eq | obtain rfl := V1.bool_eq | cases V1)
  exact wpAny_mono ((op_getattr I ok hd hb q).lift F R1) (fun _ _ p => p.from K1) fun _ _ x => x

/-- an object of the store turns -/
theorem RepS.turn {h h' : Heap} {a : Addr} {o o' : Ob} (R : RepS C B h σ) (e : σ a = some o) (hs : Heap.SameBut a h h') (ho : TK h h' → ObAt C h' a o') : RepS C B h' (σ.set a o') := by
  have hB := R.sep a o e
  have k : TK h h' := fun b items x => by
    have := R.tuple_free x
    obtain ⟨ob, q, r⟩ := x
    exact ⟨ob, (hs.2 b fun z => by rw [z, e] at this; cases this).trans q, r⟩
  exact {
    ground := fun b ob q => (hs.2 b fun z => by
      obtain ⟨o', e', _⟩ := R.gB b ob q
      rw [z, hB] at e'; cases e').trans (R.ground b ob q)
    gB := R.gB
    base := fun b ob q => by
      obtain ⟨o', e', r⟩ := R.base b ob q
      exact ⟨o', (hs.2 b fun z => by rw [z, hB] at q; cases q).trans e', r⟩
    st := fun b ob q => by
      by_cases z : b = a
      · subst z; rw [St.set_self] at q; cases q; exact ho k
      · rw [St.set_ne _ _ z] at q; exact (R.st b ob q).mono k fun _ y => (hs.2 b z).trans y
    sep := fun b ob q => by
      by_cases z : b = a
      · subst z; exact hB
      · rw [St.set_ne _ _ z] at q; exact R.sep b ob q
    sys := fun b ob q => by
      by_cases z : b = a
      · subst z; exact R.sys b o e
      · rw [St.set_ne _ _ z] at q; exact R.sys b ob q }

theorem op_setattr {x D dx : Addr} {fs : Loc} {name : Str} {d : PV} {v : Value} {Q : PV → St → Prop} (e1 : σ x = some (.inst D dx)) (e2 : σ dx = some (.attrs fs)) (ok : setOK C.K D name = true) (hf : fs.length < 900) (hv : V s.heap v d) (q : Q .none (σ.set dx (.attrs (Loc.set fs name d)))) :
    Op C n A σ s (do setAttr (.ref x) name v; pure .none) Q := .of fun B F R => by
  obtain ⟨hh, gg, dd, tt, oo⟩ := s
  dsimp only at R hv ⊢
  obtain ⟨es, en, ho, hes, hfs⟩ := R.st _ _ e2
  unfold setOK at ok
  simp only [Bool.and_eq_true, beq_iff_eq] at ok
  obtain ⟨⟨⟨ok1, ok2⟩, ok3⟩, ok4⟩ := ok
  have X : C.K.In hh := C.hK.keeps R.ground
  have I := instAt_of (R.st _ _ e1) ho
  obtain ⟨cd, hc, hd'⟩ := any_some ok4
  have hl : (lookIn name (dictOf es en)).isSome = true := by
    rw [lookIn_dict]
    have := hes.get name
    split at this
    · obtain ⟨v, e, _⟩ := this; rw [e]; rfl
    · rw [this]; rfl
  refine wpAny_bind (set_plain X I ok1 (osa_open X I ok2 ok3 fun b => ?_))
  have hx : hh.get? x = some (instObj D dx) := R.st _ _ e1
  refine wpAny_bind (wpAny_pure (wpAny_bind (wpAny_bind (wpAny_loadPart hx (wpAny_bind ((looks_clsIn X hc).here ?_))))))
  rw [hd']
  refine wpAny_pure (a := some dx) (wpAny_bind (wpAny_pure (wpAny_bind ?_)))
  unfold nsSet
  refine wpAny_bind (wpAny_bind (wpAny_askSetting (wpAny_pure (wpAny_bind (wpAny_mkText (wpAny_bind (wpAny_loadPart ho ?_)))))))
  dsimp only
  have c : (!es.toArray.any (·.key.isStr name) && es.toArray.any (·.refKey)) = false := by
    have := hes.noRef
    simp only [List.any_toArray, this, Bool.and_false]
  rw [aRefKeyMayBeTheName_at, c]
  refine wpAny_updatePart ho ?_
  have D' := Heap.get?_update_self (h := hh) (Obj.putName name (PyData.keyHash C.w.params name) (.str name (tt + 1)) v) ho (by rw [putName_dict]; rfl)
  rw [putName_dict] at D'
  have hz : (putL name (PyData.keyHash C.w.params name) (.str name (tt + 1)) v es).length ≤ 900 := by
    rw [putL_len (hes.put (t := tt + 1) hv)]; exact Nat.le_trans (Loc.set_len _ _ _) hf
  refine wpAny_bind (wpAny_lookBehind D' (pastItsLine_dict (by rw [List.size_toArray, sizeLine_eq]; omega)) ?_)
  have hs := Heap.SameBut.update hh dx (Obj.putName name (PyData.keyHash C.w.params name) (.str name (tt + 1)) v)
  have R' := R.turn (o' := .attrs (Loc.set fs name d)) e2 hs fun k => ⟨_, _, D', (hes.mono k).put (hv.mono k), Nat.le_trans (Loc.set_len _ _ _) hf⟩
  refine wpAny_pure ?_
  exact wpAny_pure ⟨.none, _, _, _, rfl, .none, R', q⟩

theorem S_setattr {o value : Expr} {name : Str} {p' pos : Pos} {Qn : Loc → St → Prop} {Qr : PV → St → Prop}
    (h : E C n A env own m σ value fun d σ1 => E C n A env own m σ1 o fun p σ2 => ∃ x D dx fs, p = .ref x ∧ σ2 x = some (.inst D dx) ∧ σ2 dx = some (.attrs fs) ∧ setOK C.K D name = true ∧ List.length fs < 900 ∧ Qn m (σ2.set dx (.attrs (Loc.set fs name d))))
    (hs : swapsWith value (some (.Attribute o name p')) pos.line env = pure false := by rfl) : S1 C n A env own m σ (.Assign [.Attribute o name p'] value pos) Qn Qr := fun B s F R => by
  refine plainObj_wpAny_Assign_Attribute (wpAny_mono (h B s F R) ?_ fun _ _ x => x) hs
  refine EPost.elim fun d σ1 h1 tk1 v V1 K1 R1 h2 => ?_
  refine wpAny_mono (h2 B _ F R1) ?_ fun _ _ x => x
  refine EPost.elim fun p σ2 h2 tk2 u V2 K2 R2 hrest => ?_
  obtain ⟨x, D, dx, fs, rfl, e1, e2, ok, hf, q⟩ := hrest
  (first | obtain rfl := V2.ref_eq | obtain rfl := V2.blt_eq | obtain rfl := V2.typ_eq | obtain rfl := V2.bool_eq | cases V2)
  have := (op_setattr (n := n) (A := A) (s := { s with heap := h2, toks := tk2 }) (Q := fun _ σ' => Qn m σ') e1 e2 ok hf (V1.mono K2) q).lift F R2
  have fin := wpAny_mono this (fun v s' (p : EPost C B env own m _ _ v s') => (show FPost C B env own Qn Qr s .next s' from by
    obtain ⟨d', σ3, h3, tk3, rfl, V3, K3, R3, q3⟩ := p
    exact ⟨h3, tk3, rfl, K1.trans (K2.trans K3), m, σ3, R3, q3⟩)) fun _ _ x => x
  intro Γ p hΓ
  have z := fin Γ p hΓ
  rw [Sem.wp_bind'] at z
  exact z
end
end

section
set_option maxRecDepth 100000
open PySem PySem.W PyProof.Rows PySem.Calls PySem.SeqAt
mutual
noncomputable def py : PV → PyData
  | .bool b => .bool b
  | .int i => .int i
  | .str x => .str x
  | .tup l => .tuple (pys l)
  | _ => .none
noncomputable def pys : List PV → List PyData
  | [] => []
  | d :: r => py d :: pys r
end
mutual
noncomputable def pure? : PV → Bool
  | .none | .bool _ | .int _ | .str _ => true
  | .tup l => pures l
  | _ => false
noncomputable def pures : List PV → Bool
  | [] => true
  | d :: r => pure? d && pures r
end
mutual
theorem V.reads {h : Heap} : ∀ {v : Value} {d : PV}, V h v d → pure? d = true → ∃ as, Reads h v (py d) as
  | _, _, .none, _ => ⟨_, by unfold py; exact .none⟩
  | _, _, .bool b, _ => ⟨_, by unfold py; exact .bool b⟩
  | _, _, .int i t, _ => ⟨_, by unfold py; exact .int i t⟩
  | _, _, .str x t, _ => ⟨_, by unfold py; exact .str x t⟩
  | _, _, .tup ht r, e => by
    unfold pure? at e
    obtain ⟨as, q⟩ := VS.reads r e
    obtain ⟨o, e1, e2, n, e3⟩ := ht
    unfold py
    exact ⟨_, .tuple e1 e2 e3 q⟩
  | _, _, .ref a, e => by unfold pure? at e; cases e
  | _, _, .blt a, e => by unfold pure? at e; cases e
  | _, _, .typ a, e => by unfold pure? at e; cases e
theorem VS.reads {h : Heap} : ∀ {vs : List Value} {ds : List PV}, VS h vs ds → pures ds = true → ∃ as, ReadsAll h vs (pys ds) as
  | _, _, .nil, _ => ⟨_, by unfold pys; exact .nil⟩
  | _, _, .cons x r, e => by
    unfold pures at e
    rw [Bool.and_eq_true] at e
    obtain ⟨as, q⟩ := V.reads x e.1
    obtain ⟨bs, p⟩ := VS.reads r e.2
    unfold pys
    exact ⟨_, .cons q p⟩
end

section
variable {C : Cx} {n : Nat} {A : Around} {env : Env} {own : List Addr} {m : Loc} {σ : St} {B : Heap} {s : Shared}

theorem PList.isList {h : Heap} {a : Addr} {vs : List Value} (x : PList h a vs) : h.IsList a vs.toArray := let ⟨n, e⟩ := x; ⟨_, e, rfl, n, rfl⟩
theorem Op.val {t : Sem Value} {d : PV} {Q : PV → St → Prop} (q : Q d σ) (h : ∀ (X : Value → Shared → Prop), C.K.In s.heap → RepS C B s.heap σ → (∀ v tk, V s.heap v d → X v { s with toks := tk }) → wpAny C.M A t X NoE s) (R : RepS C B s.heap σ) :
    wpAny C.M A t (fun v s' => ∃ d σ' h tk, s' = { s with heap := h, toks := tk } ∧ V h v d ∧ RepS C B h σ' ∧ Q d σ') NoE s := h _ (C.hK.keeps R.ground) R fun v tk hv => ⟨d, σ, s.heap, tk, rfl, hv, R, q⟩

/-! ## ints, texts -/
theorem o_add {a b : Int} {Q : PV → St → Prop} (q : Q (.int (a + b)) σ) : O2 C n A (binaryOp .Add) (.int a) (.int b) σ Q := fun s v w hv hw => by
  cases hv; cases hw; exact .of fun B F R => add_int ⟨_, σ, s.heap, _, rfl, .int _ _, R, q⟩
theorem o_sub {a b : Int} {Q : PV → St → Prop} (q : Q (.int (a - b)) σ) : O2 C n A (binaryOp .Sub) (.int a) (.int b) σ Q := fun s v w hv hw => by
  cases hv; cases hw; exact .of fun B F R => sub_int ⟨_, σ, s.heap, _, rfl, .int _ _, R, q⟩
theorem o_mul {a b : Int} {Q : PV → St → Prop} (hm : IntMulOk a b) (q : Q (.int (a * b)) σ) : O2 C n A (binaryOp .Mult) (.int a) (.int b) σ Q := fun s v w hv hw => by
  cases hv; cases hw; exact .of fun B F R => mul_int ⟨_, σ, s.heap, _, rfl, .int _ _, R, q⟩ hm
theorem o_mod {a b : Int} {Q : PV → St → Prop} (hb : b ≠ 0) (q : Q (.int (a.fmod b)) σ) : O2 C n A (binaryOp .Mod) (.int a) (.int b) σ Q := fun s v w hv hw => by
  cases hv; cases hw; exact .of fun B F R => mod_int' hb ⟨_, σ, s.heap, _, rfl, .int _ _, R, q⟩
theorem o_cat {x y : Str} {Q : PV → St → Prop} (hz : x.length + y.length ≤ 1000) (q : Q (.str (x ++ y)) σ) : O2 C n A (binaryOp .Add) (.str x) (.str y) σ Q := fun s v w hv hw => by
  cases hv; cases hw; exact .of fun B F R => add_str (fun t' tk => ⟨_, σ, s.heap, _, rfl, .str _ _, R, q⟩) (by rw [sizeLine_eq]; omega)
theorem o_eq_int {a b : Int} {Q : PV → St → Prop} (q : Q (.bool (a == b)) σ) : O2 C n A (compareOp .Eq) (.int a) (.int b) σ Q := fun s v w hv hw => by
  cases hv; cases hw; exact .of fun B F R => eq_int ⟨_, σ, s.heap, s.toks, rfl, .bool _, R, q⟩
theorem o_ne_int {a b : Int} {Q : PV → St → Prop} (q : Q (.bool (a != b)) σ) : O2 C n A (compareOp .NotEq) (.int a) (.int b) σ Q := fun s v w hv hw => by
  cases hv; cases hw; exact .of fun B F R => ne_int ⟨_, σ, s.heap, s.toks, rfl, .bool _, R, q⟩
theorem o_lt {a b : Int} {Q : PV → St → Prop} (q : Q (.bool (decide (a < b))) σ) : O2 C n A (compareOp .Lt) (.int a) (.int b) σ Q := fun s v w hv hw => by
  cases hv; cases hw; exact .of fun B F R => lt_int ⟨_, σ, s.heap, s.toks, rfl, .bool _, R, q⟩
theorem o_gt {a b : Int} {Q : PV → St → Prop} (q : Q (.bool (decide (b < a))) σ) : O2 C n A (compareOp .Gt) (.int a) (.int b) σ Q := fun s v w hv hw => by
  cases hv; cases hw; exact .of fun B F R => gt_int ⟨_, σ, s.heap, s.toks, rfl, .bool _, R, q⟩
theorem o_ge {a b : Int} {Q : PV → St → Prop} (q : Q (.bool (decide (b ≤ a))) σ) : O2 C n A (compareOp .GtE) (.int a) (.int b) σ Q := fun s v w hv hw => by
  cases hv; cases hw; exact .of fun B F R => ge_int ⟨_, σ, s.heap, s.toks, rfl, .bool _, R, q⟩
theorem o_eq_str {x y : Str} {Q : PV → St → Prop} (q : Q (.bool (x == y)) σ) : O2 C n A (compareOp .Eq) (.str x) (.str y) σ Q := fun s v w hv hw => by
  cases hv; cases hw; exact .of fun B F R => eq_str ⟨_, σ, s.heap, s.toks, rfl, .bool _, R, q⟩
theorem o_ne_str {x y : Str} {Q : PV → St → Prop} (q : Q (.bool (x != y)) σ) : O2 C n A (compareOp .NotEq) (.str x) (.str y) σ Q := fun s v w hv hw => by
  cases hv; cases hw; exact .of fun B F R => ne_str ⟨_, σ, s.heap, s.toks, rfl, .bool _, R, q⟩
/-- two written things of one shape, compared -/
theorem o_ne_same {d : PV} {Q : PV → St → Prop} (hp : pure? d = true) (hc : (py d).canLay0 = true) (hd : (py d).depth ≤ 64) (q : Q (.bool false) σ) : O2 C n A (compareOp .NotEq) d d σ Q := fun s v w hv hw =>
  .of fun B F R => by
    obtain ⟨as, r1⟩ := hv.reads hp
    obtain ⟨bs, r2⟩ := hw.reads hp
    refine compareNe_reads r1 r2 hc hc (by have := F.1.2.2; have e : cLine = 9900 := rfl; omega) ?_
    rw [eqv_refl _ hc]
    exact ⟨_, σ, s.heap, s.toks, rfl, .bool _, R, q⟩
/-- a list of texts against the empty list -/
theorem o_eq_nil {a b : Addr} {ds : List PV} {Q : PV → St → Prop} (e1 : σ a = some (.list ds)) (e2 : σ b = some (.list [])) (q : Q (.bool ds.isEmpty) σ) : O2 C n A (compareOp .Eq) (.ref a) (.ref b) σ Q := fun s v w hv hw =>
  .of fun B F R => by
    cases hv; cases hw
    obtain ⟨vs, p1, h1⟩ := R.st _ _ e1
    obtain ⟨ws, p2, h2⟩ := R.st _ _ e2
    cases h2
    have hu : A.units < cLine := by have := F.1.2.2; have e : cLine = 9900 := rfl; omega
    cases h1 with
    | nil => exact eq_listAt (e := fun _ => true) p1.isList p2.isList rfl hu (fun j h1 _ => absurd h1 (by simp)) ⟨_, σ, s.heap, s.toks, rfl, .bool _, R, q⟩
    | cons x r => exact eq_list_lengthsAt p1.isList p2.isList (by simp) hu ⟨_, σ, s.heap, s.toks, rfl, .bool _, R, q⟩

/-! ## lists and tuples joined -/
theorem o_add_list {a b : Addr} {xs ys : List PV} {Q : PV → St → Prop} (e1 : σ a = some (.list xs)) (e2 : σ b = some (.list ys)) (hz : xs.length + ys.length ≤ 1000) (q : ∀ c, σ c = none → Q (.ref c) (σ.set c (.list (xs ++ ys)))) :
    O2 C n A (binaryOp .Add) (.ref a) (.ref b) σ Q := fun s v w hv hw => .of fun B F R => by
  cases hv; cases hw
  obtain ⟨vs, ⟨n1, p1⟩, h1⟩ := R.st _ _ e1
  obtain ⟨ws, ⟨n2, p2⟩, h2⟩ := R.st _ _ e2
  refine PySem.P.add_list (l := a) (b := b) (items := vs.toArray) (items2 := ws.toArray) p1 p2 ?_ (by simp [h1.length, h2.length, sizeLine_eq]; omega)
  have k := TK.of (push_keep s.heap { cls := .type "list", data := .seq (vs.toArray ++ ws.toArray) })
  refine ⟨_, _, _, s.toks, rfl, .ref _, R.alloc (o := .list (xs ++ ys)) rfl ⟨vs ++ ws, ⟨0, ?_⟩, (h1.mono k).append (h2.mono k)⟩, q _ R.fresh⟩
  rw [Heap.get?_push_size _ rfl]; simp
theorem emptyTup {h : Heap} {v : Value} (x : V h v (.tup [])) : ∃ a, v = .ref a ∧ h.IsTuple a #[] := by
  cases x with
  | tup ht r => cases r; exact ⟨_, rfl, ht⟩
theorem eq_listNil {h : Heap} {v : Value} {ds : List PV} (x : V h v (.tup ds)) : ∃ a vs, v = .ref a ∧ h.IsTuple a vs.toArray ∧ VS h vs ds := by
  cases x with
  | tup ht r => exact ⟨_, _, rfl, ht, r⟩

/-! ## items -/
/-- a slice is no plain index -/
noncomputable def PlainIx (e : Expr) : Prop := ∀ o i, subscripted e false o i = operate [o, i] (getItem o i)
theorem E_sub {value slice : Expr} {pos : Pos} {Q : PV → St → Prop} (h : E C n A env own m σ value fun p σ1 => E C n A env own m σ1 slice fun q σ2 => O2 C n A (subscriptTail value slice) p q σ2 Q) :
    E C n A env own m σ (.Subscript value slice pos) Q := fun B s F R => Subscript_ (seq2 h F R)
theorem valueAt_kvs {h : Heap} {kvs : List (Str × Value)} {ds : Loc} (x : KVS h kvs ds) (k : Str) : match Loc.get ds k with
    | some d => ∃ v, valueAt kvs k = some v ∧ V h v d
    | none => valueAt kvs k = none := by
  induction x with
  | nil => rfl
  | cons a b ih =>
    rename_i k' v d vs ds
    by_cases hk : k = k'
    · subst hk
      simp only [Loc.get, List.lookup_cons, beq_self_eq_true, valueAt, List.find?_cons, decide_true]
      exact ⟨_, rfl, a⟩
    · have e2 : (k == k') = false := by simpa using hk
      have e3 : decide (k' = k) = false := by simpa using Ne.symm hk
      simp only [Loc.get, List.lookup_cons, e2, valueAt, List.find?_cons, e3] at ih ⊢
      exact ih
theorem o_item_dict {a : Addr} {ds : Loc} {k : Str} {d : PV} {value slice : Expr} {Q : PV → St → Prop} (e : σ a = some (.dict ds)) (hk : Loc.get ds k = some d) (q : Q d σ) (hs : PlainIx slice := by intro _ _; rfl) :
    O2 C n A (subscriptTail value slice) (.ref a) (.str k) σ Q := fun s v w hv hw => .of fun B F R => by
  cases hv; cases hw
  obtain ⟨kvs, p, hkv⟩ := R.st _ _ e
  have := valueAt_kvs hkv k
  rw [hk] at this
  obtain ⟨v, e1, hv⟩ := this
  refine tail_any p.typeIs slot_dict_getitem.lookup ?_ (hs _ _)
  exact wpAny_getItem_of (knd := PySem.strKind C.prog C.w) (k := k) (by simp [PySem.strKind, Value.isStrOf]) p.mapOf e1 ⟨d, σ, s.heap, _, rfl, hv, R, q⟩
theorem o_item_list {a : Addr} {ds : List PV} {i : Int} {d : PV} {value slice : Expr} {Q : PV → St → Prop} (e : σ a = some (.list ds)) (h0 : 0 ≤ i) (h1 : i < 2 ^ 62) (hd : ds[i.toNat]? = some d) (q : Q d σ) (hs : PlainIx slice := by intro _ _; rfl) :
    O2 C n A (subscriptTail value slice) (.ref a) (.int i) σ Q := fun s v w hv hw => .of fun B F R => by
  cases hv; cases hw
  obtain ⟨vs, p, hvs⟩ := R.st _ _ e
  obtain ⟨v, e1, hv⟩ := hvs.get hd
  refine tail_any p.isList.typeIs slot_list_getitem.lookup ?_ (hs _ _)
  exact wpAny_getItem_list p.isList h0 (by omega) (by simpa using e1) ⟨d, σ, s.heap, s.toks, rfl, hv, R, q⟩
theorem o_item_last {a : Addr} {ds : List PV} {d : PV} {value slice : Expr} {Q : PV → St → Prop} (e : σ a = some (.list ds)) (hd : ds.getLast? = some d) (q : Q d σ) (hs : PlainIx slice := by intro _ _; rfl) :
    O2 C n A (subscriptTail value slice) (.ref a) (.int (-1)) σ Q := fun s v w hv hw => .of fun B F R => by
  cases hv; cases hw
  obtain ⟨vs, p, hvs⟩ := R.st _ _ e
  have hl : 0 < ds.length := by cases ds with | nil => simp at hd | cons _ _ => simp
  rw [List.getLast?_eq_getElem?] at hd
  obtain ⟨v, e1, hv⟩ := hvs.get hd
  have hvl := hvs.length
  refine tail_any p.isList.typeIs slot_list_getitem.lookup ?_ (hs _ _)
  refine wpAny_getItem_list_neg p.isList (by omega) (by simp; omega) (by omega) (x := v) ?_ ⟨d, σ, s.heap, s.toks, rfl, hv, R, q⟩
  have : ((-1 : Int) + (vs.toArray.size : Int)).toNat = ds.length - 1 := by simp; omega
  rw [this]; simpa using e1
theorem o_item_tuple {ds : List PV} {i : Int} {d : PV} {value slice : Expr} {Q : PV → St → Prop} (h0 : 0 ≤ i) (h1 : i < 2 ^ 62) (hd : ds[i.toNat]? = some d) (q : Q d σ) (hs : PlainIx slice := by intro _ _; rfl) :
    O2 C n A (subscriptTail value slice) (.tup ds) (.int i) σ Q := fun s v w hv hw => .of fun B F R => by
  obtain ⟨a, vs, rfl, ht, hvs⟩ := eq_listNil hv
  cases hw
  obtain ⟨v, e1, hv⟩ := hvs.get hd
  have hlt : i.toNat < ds.length := by
    rcases Nat.lt_or_ge i.toNat ds.length with h | h
    · exact h
    · rw [List.getElem?_eq_none h] at hd; cases hd
  refine item_tupleT (l := vs) (j := i.toNat) ht (by omega) (by omega) ?_ e1 ⟨d, σ, s.heap, s.toks, rfl, hv, R, q⟩ (hs _ _)
  rw [hvs.length]
  unfold seqIndex?
  have e1 : ¬ i < 0 := by omega
  have e2 : (i : Int) < (ds.length : Int) := by omega
  simp [e1, h0, e2]

/-! ## in, not in -/
theorem o_in_dict {a : Addr} {ds : Loc} {k : Str} {Q : PV → St → Prop} (e : σ a = some (.dict ds)) (q : Q (.bool (Loc.get ds k).isSome) σ) : O2 C n A (compareOp .In) (.str k) (.ref a) σ Q := fun s v w hv hw => .of fun B F R => by
  cases hv; cases hw
  obtain ⟨kvs, p, hkv⟩ := R.st _ _ e
  refine wpAny_in_of (knd := PySem.strKind C.prog C.w) (k := k) (by simp [PySem.strKind, Value.isStrOf]) (R.sys _ _ e) p.mapOf ?_
  have : (valueAt kvs k).isSome = (Loc.get ds k).isSome := by
    have := valueAt_kvs hkv k
    split at this
    · rename_i h; obtain ⟨v, e1, _⟩ := this; rw [e1, h]; rfl
    · rename_i h; rw [this, h]; rfl
  rw [this]
  exact ⟨_, σ, s.heap, _, rfl, .bool _, R, q⟩
theorem o_notin_dict {a : Addr} {ds : Loc} {k : Str} {Q : PV → St → Prop} (e : σ a = some (.dict ds)) (q : Q (.bool (!(Loc.get ds k).isSome)) σ) : O2 C n A (compareOp .NotIn) (.str k) (.ref a) σ Q := fun s v w hv hw => .of fun B F R => by
  cases hv; cases hw
  obtain ⟨kvs, p, hkv⟩ := R.st _ _ e
  refine wpAny_notIn_of (knd := PySem.strKind C.prog C.w) (k := k) (by simp [PySem.strKind, Value.isStrOf]) (R.sys _ _ e) p.mapOf ?_
  have : (valueAt kvs k).isSome = (Loc.get ds k).isSome := by
    have := valueAt_kvs hkv k
    split at this
    · rename_i h; obtain ⟨v, e1, _⟩ := this; rw [e1, h]; rfl
    · rename_i h; rw [this, h]; rfl
  rw [this]
  exact ⟨_, σ, s.heap, _, rfl, .bool _, R, q⟩
theorem VS.strs {h : Heap} : ∀ {xs : List Str} {vs : List Value}, VS h vs (xs.map .str) → StrsAre vs xs
  | [], _, x => by cases x; exact .nil
  | y :: ys, _, x => by
    cases x with
    | cons a r => cases a; exact .cons _ _ (VS.strs r)
theorem o_in_list {a : Addr} {xs : List Str} {k : Str} {Q : PV → St → Prop} (e : σ a = some (.list (xs.map .str))) (q : Q (.bool (xs.any (· == k))) σ) : O2 C n A (compareOp .In) (.str k) (.ref a) σ Q := fun s v w hv hw => .of fun B F R => by
  cases hv; cases hw
  obtain ⟨vs, p, hvs⟩ := R.st _ _ e
  exact in_list_strs p.isList hvs.strs ⟨_, σ, s.heap, s.toks, rfl, .bool _, R, q⟩
theorem o_notin_list {a : Addr} {xs : List Str} {k : Str} {Q : PV → St → Prop} (e : σ a = some (.list (xs.map .str))) (q : Q (.bool (!(xs.any (· == k)))) σ) : O2 C n A (compareOp .NotIn) (.str k) (.ref a) σ Q := fun s v w hv hw => .of fun B F R => by
  cases hv; cases hw
  obtain ⟨vs, p, hvs⟩ := R.st _ _ e
  exact notin_list_strs p.isList hvs.strs ⟨_, σ, s.heap, s.toks, rfl, .bool _, R, q⟩
theorem eq_isStr (k : Str) (t : Tok) {A : Around} {s : Shared} : ∀ {vs : List Value} {ys : List Str}, StrsAre vs ys → ∀ y, y ∈ vs → EqAt A s y (.str k t) (isStrOf k y)
  | _, _, .cons z u r, y, hy => by
    cases hy with
    | head => exact fun _ _ _ _ h => eqGives_str z k u t _ _ _ _ _ _ h
    | tail _ hy => exact eq_isStr k t r y hy
theorem o_in_tuple {xs : List Str} {k : Str} {Q : PV → St → Prop} (q : Q (.bool (xs.any (· == k))) σ) : O2 C n A (compareOp .In) (.str k) (.tup (xs.map .str)) σ Q := fun s v w hv hw => .of fun B F R => by
  cases hv
  obtain ⟨a, vs, rfl, ht, hvs⟩ := eq_listNil hw
  refine in_tupleAt (items := vs.toArray) (isStrOf k) ht (fun y hy => eq_isStr k _ hvs.strs y (by simpa using hy)) ?_
  rw [List.any_toArray, any_isStrOf k hvs.strs]
  exact ⟨_, σ, s.heap, s.toks, rfl, .bool _, R, q⟩
end
end

section
set_option maxRecDepth 100000
open PySem PySem.W PyProof.Rows PySem.Calls PySem.SeqAt
section
variable {C : Cx} {n : Nat} {A : Around} {env : Env} {own : List Addr} {m : Loc} {σ : St} {B : Heap} {s : Shared}

/-! ## stores into a dict -/
theorem KVS.keys {h : Heap} {kvs : List (Str × Value)} {ds : Loc} (x : KVS h kvs ds) : kvs.map (·.1) = ds.map (·.1) := by
  induction x with
  | nil => rfl
  | cons _ _ ih => simp [ih]
theorem KVS.length {h : Heap} {kvs : List (Str × Value)} {ds : Loc} (x : KVS h kvs ds) : kvs.length = ds.length := by
  have := congrArg List.length x.keys; simpa using this
theorem map_no {k : Str} {v : Value} {kvs : List (Str × Value)} (h : k ∉ kvs.map (·.1)) : kvs.map (fun kv => if kv.1 = k then (kv.1, v) else kv) = kvs := by
  induction kvs with
  | nil => rfl
  | cons p r ih =>
    simp only [List.map_cons, List.mem_cons, not_or] at h
    rw [List.map_cons, ih h.2, if_neg (fun e => h.1 e.symm)]
theorem KVS.put {h : Heap} {kvs : List (Str × Value)} {ds : Loc} {k : Str} {v : Value} {d : PV} (x : KVS h kvs ds) (hn : (kvs.map (·.1)).Nodup) (hv : V h v d) : KVS h (stored kvs k v) (Loc.set ds k d) := by
  induction x with
  | nil => exact .cons hv .nil
  | cons a b ih =>
    rename_i k' v' d' vs ds
    simp only [List.map_cons, List.nodup_cons] at hn
    unfold Loc.set
    by_cases hk : k' = k
    · subst hk
      rw [if_pos (by simp)]
      unfold stored
      rw [if_pos (by simp)]
      simp only [List.map_cons, if_true]
      rw [map_no hn.1]
      exact .cons hv b
    · rw [if_neg (by simpa using hk)]
      have := ih hn.2
      unfold stored at this ⊢
      have e : ((k', v') :: vs).any (fun kv => decide (kv.1 = k)) = vs.any (fun kv => decide (kv.1 = k)) := by simp [hk]
      rw [e]
      split
      · rename_i q; rw [if_pos q] at this; simp only [List.map_cons, if_neg hk]; exact .cons a this
      · rename_i q; rw [if_neg q] at this; exact .cons a this
theorem op_setitem {a : Addr} {ds : Loc} {k : Str} {d : PV} {v w : Value} {Q : PV → St → Prop} (e : σ a = some (.dict ds)) (hz : ds.length ≤ 900) (hv : V s.heap v d) (hw : V s.heap w (.str k)) (q : Q .none (σ.set a (.dict (Loc.set ds k d)))) :
    Op C n A σ s (do setItem (.ref a) w v; pure .none) Q := .of fun B F R => by
  obtain ⟨kvs, p, hkv⟩ := R.st _ _ e
  have hn : (kvs.map (·.1)).Nodup := let ⟨_, _, _, _, _, _, _, _, q⟩ := p; q
  cases hw
  refine wpAny_bind (wpAny_setItem_pairs (knd := PySem.strKind C.prog C.w) (k := k) (by simp [PySem.strKind, Value.isStrOf]) p (fun h' hm hs => ?_) (by rw [hkv.length, sizeLine_eq]; omega))
  exact wpAny_pure ⟨.none, _, h', _, rfl, .none, R.turn (o' := .dict (Loc.set ds k d)) e hs fun kk => ⟨_, hm, (hkv.mono kk).put hn (hv.mono kk)⟩, q⟩
/-- a statement's operation that hands back nothing -/
theorem unit_op {t : Sem Unit} {Q : PV → St → Prop} {v : Flow → Shared → Prop} {X : Value → Shared → Prop} (h : Op C n A σ s (do t; pure .none) Q) (F : Fine C n B A env) (R : Rep C B env own s.heap m σ)
    (k : ∀ h' tk σ', TK s.heap h' → Rep C B env own h' m σ' → (∃ d, Q d σ') → v .next { s with heap := h', toks := tk }) : wpAny C.M A t (fun _ => v .next) X s := by
  have fin := wpAny_mono (h.lift F R) (fun u s' (p : EPost C B env own m Q s u s') => (show v .next s' from by
    obtain ⟨d', σ3, h3, tk3, rfl, V3, K3, R3, q3⟩ := p
    exact k h3 tk3 σ3 K3 R3 ⟨d', q3⟩)) fun e s (x : NoE e s) => (x.elim : X e s)
  intro Γ p hΓ
  have z := fin Γ p hΓ
  rw [Sem.wp_bind'] at z
  exact z
theorem S_setitem {o i value : Expr} {p' pos : Pos} {Qn : Loc → St → Prop} {Qr : PV → St → Prop}
    (h : E C n A env own m σ value fun d σ1 => E C n A env own m σ1 o fun p σ2 => E C n A env own m σ2 i fun q σ3 => ∃ a ds k, p = .ref a ∧ q = .str k ∧ σ3 a = some (.dict ds) ∧ List.length ds ≤ 900 ∧ Qn m (σ3.set a (.dict (Loc.set ds k d))))
    (hs : swapsWith value (some (.Subscript o i p')) pos.line env = pure false := by rfl) : S1 C n A env own m σ (.Assign [.Subscript o i p'] value pos) Qn Qr := fun B s F R => by
  refine wpAny_Assign_Subscript (wpAny_mono (h B s F R) ?_ fun _ _ x => x) hs
  refine EPost.elim fun d σ1 h1 tk1 v V1 K1 R1 H2 => ?_
  refine wpAny_mono (H2 B _ F R1) ?_ fun _ _ x => x
  refine EPost.elim fun p σ2 h2 tk2 u V2 K2 R2 H3 => ?_
  refine wpAny_mono (H3 B _ F R2) ?_ fun _ _ x => x
  refine EPost.elim fun q σ3 h3 tk3 w V3 K3 R3 hrest => ?_
  obtain ⟨a, ds, k, rfl, rfl, e, hz, q⟩ := hrest
  (first | obtain rfl := V2.ref_eq | obtain rfl := V2.blt_eq | obtain rfl := V2.typ_eq | obtain rfl := V2.bool_eq | cases V2)
  refine unit_op (Q := fun _ σ' => Qn m σ') (op_setitem (n := n) (A := A) (s := { s with heap := h3, toks := tk3 }) e hz ((V1.mono K2).mono K3) V3 q) F R3 fun h' tk σ' K4 R4 q4 => ?_
  obtain ⟨_, q4⟩ := q4
  exact ⟨h', tk, rfl, K1.trans (K2.trans (K3.trans K4)), m, σ', R4, q4⟩
theorem E_dict0 {pos : Pos} {Q : PV → St → Prop} (q : ∀ a, σ a = none → Q (.ref a) (σ.set a (.dict []))) : E C n A env own m σ (.Dict [] [] pos) Q := fun B s F R => by
  refine wpAny_Dict_empty ⟨_, _, _, s.toks, rfl, .ref _, .of (push_keep _ _), R.alloc (o := .dict []) rfl ⟨[], .new _, .nil⟩, q _ R.toRepS.fresh⟩

/-! ## a method of a list, of a dict -/
noncomputable def KindOf (σ : St) (a : Addr) (T : String) : Prop := (T = "list" ∧ ∃ ds, σ a = some (.list ds)) ∨ (T = "dict" ∧ ∃ ds, σ a = some (.dict ds))
theorem KindOf.type {a : Addr} {T : String} (R : RepS C B s.heap σ) (k : KindOf σ a T) : s.TypeIs (.ref a) T ∧ (∀ b, Value.ref a = .ref b → ∃ ob, s.heap.get? b = some ob ∧ ob.dict = none) := by
  rcases k with ⟨rfl, ds, e⟩ | ⟨rfl, ds, e⟩
  · obtain ⟨vs, ⟨n, p⟩, _⟩ := R.st _ _ e
    exact ⟨⟨_, p, rfl⟩, fun b hb => by cases hb; exact ⟨_, p, rfl⟩⟩
  · obtain ⟨kvs, ⟨o, es, ep, p, x, _⟩, _⟩ := R.st _ _ e
    exact ⟨⟨_, p, x.1⟩, fun b hb => by cases hb; exact ⟨_, p, x.2.1⟩⟩
theorem E_bmeth {o e : Expr} {rest : List Expr} {name : Str} {apos pos : Pos} {T id : String} {Q : PV → St → Prop} (pa : PlainAttrs T) (slot : Slot T name id) (hty : typeOf (.builtin id) = pure (.type "method_descriptor"))
    (h : E C n A env own m σ o fun p σ1 => ∃ a, p = .ref a ∧ KindOf σ1 a T ∧ Es C n A env own m σ1 pos (e :: rest) fun ds σ2 => ∀ s vals, VS s.heap vals ds → Op C n A σ2 s (call (.builtin id) (.ref a :: vals)) Q)
    (hbase : attributeBase o name env (eval o env) = eval o env := by rfl)
    (hfew : ((backTo pos (starEach (e :: rest) env)).all (fun x => !x.1) && (backToKw pos (keywordEach [] env)).all (fun x => x.1.isSome)
      && decide ((e :: rest).length + ([] : List Keyword).length + (if ([] : List Keyword).isEmpty then 0 else 1) < 30)) = true := by rfl)
    (hline : (apos.endLine == pos.line) = true := by rfl) (he : starEach (e :: rest) env = (false, eval e env) :: starEach rest env := by rfl) (hplain : (backTo pos (starEach rest env)).any (·.1) = false := by rfl) :
    E C n A env own m σ (.Call (.Attribute o name apos) (e :: rest) [] pos) Q := fun B s F R => by
  refine wpAny_Call_method hbase hfew hline pa slot hty (wpAny_mono (h B s F R) ?_ fun _ _ x => x)
  refine EPost.elim fun p σ1 h1 tk1 v V1 K1 R1 hrest => ?_
  obtain ⟨a, rfl, k, h2⟩ := hrest
  (first | obtain rfl := V1.ref_eq | obtain rfl := V1.blt_eq | obtain rfl := V1.typ_eq | obtain rfl := V1.bool_eq | cases V1)
  have t := k.type (s := { s with heap := h1, toks := tk1 }) R1.toRepS
  refine ⟨t.1, t.2, callWith_method1 (wpAny_mono (h2 B _ F R1) ?_ fun _ _ x => x) he hplain⟩
  refine LPost.elim fun ds σ2 h2 tk2 vals V2 K2 R2 h3 => ?_
  exact wpAny_mono ((h3 _ _ V2).lift F R2) (fun _ _ p => (p.from K2).from K1) fun _ _ x => x
theorem E_bmeth0 {o : Expr} {name : Str} {apos pos : Pos} {T id : String} {Q : PV → St → Prop} (pa : PlainAttrs T) (slot : Slot T name id) (hty : typeOf (.builtin id) = pure (.type "method_descriptor"))
    (h : E C n A env own m σ o fun p σ1 => ∃ a, p = .ref a ∧ KindOf σ1 a T ∧ ∀ s, Op C n A σ1 s (call (.builtin id) [.ref a]) Q)
    (hbase : attributeBase o name env (eval o env) = eval o env := by rfl)
    (hfew : ((backTo pos (starEach [] env)).all (fun x => !x.1) && (backToKw pos (keywordEach [] env)).all (fun x => x.1.isSome)
      && decide (([] : List Expr).length + ([] : List Keyword).length + (if ([] : List Keyword).isEmpty then 0 else 1) < 30)) = true := by rfl)
    (hline : (apos.endLine == pos.line) = true := by rfl) :
    E C n A env own m σ (.Call (.Attribute o name apos) [] [] pos) Q := fun B s F R => by
  refine wpAny_Call_method hbase hfew hline pa slot hty (wpAny_mono (h B s F R) ?_ fun _ _ x => x)
  refine EPost.elim fun p σ1 h1 tk1 v V1 K1 R1 hrest => ?_
  obtain ⟨a, rfl, k, h2⟩ := hrest
  (first | obtain rfl := V1.ref_eq | obtain rfl := V1.blt_eq | obtain rfl := V1.typ_eq | obtain rfl := V1.bool_eq | cases V1)
  have t := k.type (s := { s with heap := h1, toks := tk1 }) R1.toRepS
  exact ⟨t.1, t.2, callWith_method0 (wpAny_mono ((h2 _).lift F R1) (fun _ _ p => p.from K1) fun _ _ x => x)⟩

/-- a list's object turns as a whole -/
theorem plist_turn {a : Addr} {vs ws : List Value} {f : Array Value → Array Value} {h : Heap} (p : PList h a vs) (e : f vs.toArray = ws.toArray) : PList (h.update a (Obj.mapSeq f)) a ws := by
  obtain ⟨n, p⟩ := p
  have := Heap.get?_update_self (Obj.mapSeq f) p (by simp [Obj.mapSeq, Obj.isFreed])
  rw [show Obj.mapSeq f { cls := .type "list", data := .seq vs.toArray n } = { cls := .type "list", data := .seq ws.toArray (if (f vs.toArray).size == vs.toArray.size then n else n + 1) } by simp only [Obj.mapSeq, e]] at this
  exact ⟨_, this⟩
theorem op_append {a : Addr} {ds : List PV} {d : PV} {v : Value} {Q : PV → St → Prop} (e : σ a = some (.list ds)) (hz : ds.length ≤ 900) (hv : V s.heap v d) (q : Q .none (σ.set a (.list (ds ++ [d])))) : Op C n A σ s (call (.builtin "list.append") [.ref a, v]) Q := .of fun B F R => by
  obtain ⟨vs, p, hvs⟩ := R.st _ _ e
  have p0 := p
  obtain ⟨n0, p1⟩ := p
  refine wpAny_call_entry slot_list_append p0.isList.typeIs entry_list_append ?_ (args_list_append _ _)
  show wpAny _ _ (updateSeq a (·.push v) >>= fun _ => ret .none) _ _ s
  refine wpAny_bind (wpAny_updateSeq p1 rfl (wpAny_pure ⟨.none, rfl, ?_⟩) (hz := by have := hvs.length; simp [sizeLine_eq]; omega) (_hz' := by have := hvs.length; simp [sizeLine_eq]; omega))
  · refine ⟨.none, _, _, s.toks, rfl, .none, R.turn (o' := .list (ds ++ [d])) e (Heap.SameBut.update ..) fun k => ⟨vs ++ [v], ?_, (hvs.mono k).append (.one (hv.mono k))⟩, q⟩
    exact plist_turn p0 (by simp)
theorem E_append {o x : Expr} {apos pos : Pos} {Q : PV → St → Prop}
    (h : E C n A env own m σ o fun p σ1 => ∃ a, p = .ref a ∧ (∃ ds, σ1 a = some (.list ds)) ∧ E C n A env own m σ1 x fun d σ2 => ∃ ds, σ2 a = some (.list ds) ∧ List.length ds ≤ 900 ∧ Q .none (σ2.set a (.list (ds ++ [d]))))
    (hbase : attributeBase o "append" env (eval o env) = eval o env := by rfl)
    (hfew : ((backTo pos (starEach (x :: []) env)).all (fun x => !x.1) && (backToKw pos (keywordEach [] env)).all (fun x => x.1.isSome)
      && decide ((x :: []).length + ([] : List Keyword).length + (if ([] : List Keyword).isEmpty then 0 else 1) < 30)) = true := by rfl)
    (hline : (apos.endLine == pos.line) = true := by rfl) (he : starEach (x :: []) env = (false, eval x env) :: starEach [] env := by rfl) :
    E C n A env own m σ (.Call (.Attribute o "append" apos) [x] [] pos) Q :=
  E_bmeth PySem.F.plainAttrs_list slot_list_append type_list_append (h.mono fun p σ1 ⟨a, e1, e2, h2⟩ => ⟨a, e1, .inl ⟨rfl, e2⟩, Es_cons (he := he) (h2.mono fun d σ2 ⟨ds, e3, hz, q⟩ => Es_nil fun s vals hv => by
    cases hv with
    | cons hv r => cases r; exact op_append e3 hz hv q)⟩) hbase hfew hline he rfl
theorem op_reverse {a : Addr} {ds : List PV} {Q : PV → St → Prop} (e : σ a = some (.list ds)) (hz : ds.length ≤ 900) (q : Q .none (σ.set a (.list ds.reverse))) : Op C n A σ s (call (.builtin "list.reverse") [.ref a]) Q := .of fun B F R => by
  obtain ⟨vs, p, hvs⟩ := R.st _ _ e
  have p0 := p
  obtain ⟨n0, p1⟩ := p
  refine call_meets PySem.F.slot_list_reverse p0.isList.typeIs PySem.F.entry_list_reverse (PySem.F.args_list_reverse_1 _) (PySem.AutoSeq1.list_reverse_list_0 a vs.toArray n0 (by have := hvs.length; simp [sizeLine_eq]; omega)) ⟨p1, ?_⟩
  refine ⟨.none, _, _, s.toks, rfl, .none, R.turn (o' := .list ds.reverse) e (Heap.SameBut.update ..) fun k => ⟨vs.reverse, plist_turn p0 (by simp), (hvs.mono k).reverse⟩, q⟩
theorem E_reverse {o : Expr} {apos pos : Pos} {Q : PV → St → Prop}
    (h : E C n A env own m σ o fun p σ1 => ∃ a ds, p = .ref a ∧ σ1 a = some (.list ds) ∧ List.length ds ≤ 900 ∧ Q .none (σ1.set a (.list ds.reverse)))
    (hbase : attributeBase o "reverse" env (eval o env) = eval o env := by rfl)
    (hfew : ((backTo pos (starEach [] env)).all (fun x => !x.1) && (backToKw pos (keywordEach [] env)).all (fun x => x.1.isSome)
      && decide (([] : List Expr).length + ([] : List Keyword).length + (if ([] : List Keyword).isEmpty then 0 else 1) < 30)) = true := by rfl)
    (hline : (apos.endLine == pos.line) = true := by rfl) : E C n A env own m σ (.Call (.Attribute o "reverse" apos) [] [] pos) Q :=
  E_bmeth0 PySem.F.plainAttrs_list PySem.F.slot_list_reverse PySem.F.type_list_reverse (h.mono fun p σ1 ⟨a, ds, e1, e2, hz, q⟩ => ⟨a, e1, .inl ⟨rfl, ds, e2⟩, fun s => op_reverse e2 hz q⟩) hbase hfew hline

/-! ## built-in functions -/
theorem E_blt1 {f e : Expr} {rest : List Expr} {np pos : Pos} {x : Str} {id : String} {Q : PV → St → Prop} (hf : E C n A env own m σ (.Name x np) fun p σ1 => p = .blt id ∧ Es C n A env own m σ1 pos (e :: rest) fun ds σ2 => ∀ s vals, VS s.heap vals ds → Op C n A σ2 s (call (.builtin id) vals) Q)
    (he : starEach (e :: rest) env = (false, eval e env) :: starEach rest env := by rfl) (hplain : (backTo pos (starEach rest env)).any (·.1) = false := by rfl) : E C n A env own m σ (.Call (.Name x np) (e :: rest) [] pos) Q := fun B s F R => by
  refine wpAny_Call_ofName (wpAny_mono (hf B s F R) ?_ fun _ _ x => x)
  refine EPost.elim fun p σ1 h1 tk1 v V1 K1 R1 hrest => ?_
  obtain ⟨rfl, h2⟩ := hrest
  (first | obtain rfl := V1.ref_eq | obtain rfl := V1.blt_eq | obtain rfl := V1.typ_eq | obtain rfl := V1.bool_eq | cases V1)
  refine callWith_method1 (wpAny_mono (h2 B _ F R1) ?_ fun _ _ x => x) he hplain
  refine LPost.elim fun ds σ2 h2 tk2 vals V2 K2 R2 h3 => ?_
  exact wpAny_mono ((h3 _ _ V2).lift F R2) (fun _ _ p => (p.from K2).from K1) fun _ _ x => x
theorem E_typ1 {e : Expr} {rest : List Expr} {np pos : Pos} {x : Str} {T : String} {Q : PV → St → Prop} (hf : E C n A env own m σ (.Name x np) fun p σ1 => p = .typ T ∧ Es C n A env own m σ1 pos (e :: rest) fun ds σ2 => ∀ s vals, VS s.heap vals ds → Op C n A σ2 s (call (.type T) vals) Q)
    (he : starEach (e :: rest) env = (false, eval e env) :: starEach rest env := by rfl) (hplain : (backTo pos (starEach rest env)).any (·.1) = false := by rfl) : E C n A env own m σ (.Call (.Name x np) (e :: rest) [] pos) Q := fun B s F R => by
  refine wpAny_Call_ofName (wpAny_mono (hf B s F R) ?_ fun _ _ x => x)
  refine EPost.elim fun p σ1 h1 tk1 v V1 K1 R1 hrest => ?_
  obtain ⟨rfl, h2⟩ := hrest
  (first | obtain rfl := V1.ref_eq | obtain rfl := V1.blt_eq | obtain rfl := V1.typ_eq | obtain rfl := V1.bool_eq | cases V1)
  refine PyProof.Rows.callWith_type1 (wpAny_mono (h2 B _ F R1) ?_ fun _ _ x => x) he hplain
  refine LPost.elim fun ds σ2 h2 tk2 vals V2 K2 R2 h3 => ?_
  exact wpAny_mono ((h3 _ _ V2).lift F R2) (fun _ _ p => (p.from K2).from K1) fun _ _ x => x
/-- what len tells -/
noncomputable def LenOf (σ : St) (p : PV) (k : Nat) : Prop := (∃ a ds, p = .ref a ∧ σ a = some (.list ds) ∧ k = ds.length) ∨ (∃ ds, p = .tup ds ∧ k = ds.length)
theorem op_len {p : PV} {k : Nat} {v : Value} {Q : PV → St → Prop} (l : LenOf σ p k) (hk : k ≤ 1000) (hv : V s.heap v p) (q : Q (.int k) σ) : Op C n A σ s (call (.builtin "len") [v]) Q := .of fun B F R => by
  rcases l with ⟨a, ds, rfl, e, rfl⟩ | ⟨ds, rfl, rfl⟩
  · cases hv
    obtain ⟨vs, p, hvs⟩ := R.st _ _ e
    have := hvs.length
    refine Calls.call_len_list p.isList (by simp; omega) ⟨_, σ, s.heap, _, rfl, ?_, R, q⟩
    have e : vs.toArray.size = ds.length := by simp [this]
    rw [e]; exact .int _ _
  · obtain ⟨a, vs, rfl, ht, hvs⟩ := eq_listNil hv
    have := hvs.length
    refine len_tuple ht (by simp; omega) ⟨_, σ, s.heap, _, rfl, ?_, R, q⟩
    have e : vs.toArray.size = ds.length := by simp [this]
    rw [e]; exact .int _ _
end
end

section
set_option maxRecDepth 100000
open PySem PySem.W PyProof.Rows PySem.Calls PySem.SeqAt
section
variable {C : Cx} {n : Nat} {A : Around} {env : Env} {own : List Addr} {m : Loc} {σ : St} {B : Heap} {s : Shared}

theorem CallJ.mono {f : Value} {args : List PV} {Q Q' : PV → St → Prop} (h : CallJ C n f args σ Q) (k : ∀ d σ', Q d σ' → Q' d σ') : CallJ C n f args σ Q' := fun A B s vals hv F R =>
  codeAny_mono (h A B s vals hv F R) fun r s' q => by
    cases r with
    | error e => exact q.elim
    | ok f => cases f with
      | ret v => obtain ⟨d, σ', h, tk, e, a, b, r, q⟩ := q; exact ⟨d, σ', h, tk, e, a, b, r, k _ _ q⟩
      | next => exact q.elim
      | brk => exact q.elim
      | cont => exact q.elim
theorem CallJ.le {f : Value} {args : List PV} {k : Nat} {Q : PV → St → Prop} (h : CallJ C k f args σ Q) (hk : k ≤ n) : CallJ C n f args σ Q := fun A B s vals hv F R => h A B s vals hv (F.mono (.refl _) hk) R

/-! ## calls of the text's own -/
theorem E_call {e : Expr} {rest : List Expr} {np pos : Pos} {x : Str} {Q : PV → St → Prop} (hf : E C n A env own m σ (.Name x np) fun p σ1 => ∃ a, p = .ref a ∧ keepIn C.K (.ref a) = true ∧ Es C n A env own m σ1 pos (e :: rest) fun ds σ2 => CallJ C n (.ref a) ds σ2 Q)
    (he : starEach (e :: rest) env = (false, eval e env) :: starEach rest env := by rfl) (hplain : (backTo pos (starEach rest env)).any (·.1) = false := by rfl) : E C n A env own m σ (.Call (.Name x np) (e :: rest) [] pos) Q := fun B s F R => by
  refine wpAny_Call_ofName (wpAny_mono (hf B s F R) ?_ fun _ _ x => x)
  refine EPost.elim fun p σ1 h1 tk1 v V1 K1 R1 hrest => ?_
  obtain ⟨a, rfl, hk, H2⟩ := hrest
  (first | obtain rfl := V1.ref_eq | obtain rfl := V1.blt_eq | obtain rfl := V1.typ_eq | obtain rfl := V1.bool_eq | cases V1)
  refine callWith_K C.hK hk (wpAny_mono (H2 B _ F R1) ?_ fun _ _ x => x) he hplain
  refine LPost.elim fun ds σ2 h2 tk2 vals V2 K2 R2 H3 => ?_
  exact ⟨C.hK.keeps R2.ground, wpAny_mono ((H3.op V2).lift F R2) (fun _ _ p => (p.from K2).from K1) fun _ _ x => x⟩
theorem getmeth {x D f : Addr} {fs : Loc} {name : Str} {pl : Sem Bool} {Q : Value × List Value → Shared → Prop} {X : Value → Shared → Prop} (I : Inst σ x D fs) (ok : methOK C.K D name f = true) (hn : Loc.get fs name = none) (R : RepS C B s.heap σ) (q : Q (.ref f, [.ref x]) s) :
    wpAny C.M A (getMethod (.ref x) name pl) Q X s := by
  obtain ⟨dx, e1, e2⟩ := I
  obtain ⟨es, en, ho, hes, _⟩ := R.st _ _ e2
  have hl := hes.get name
  rw [hn] at hl
  unfold methOK at ok
  simp only [Bool.and_eq_true, beq_iff_eq] at ok
  obtain ⟨⟨ok1, ok2⟩, ok3⟩ := ok
  exact method_fn (C.hK.keeps R.ground) (instAt_of (R.st _ _ e1) ho) (plainGet_of ok1).1 (plainGet_of ok1).2 ok2 (beq_iff_eq.mp ok3) (by show (lookIn name (dictOf es en)).map _ = _; rw [lookIn_dict, hl]; rfl) q
theorem keep_of_meth {D f : Addr} {name : Str} (ok : methOK C.K D name f = true) (hf : fnIn C.K f = true) : keepIn C.K (.ref f) = true := by
  unfold fnIn at hf
  unfold keepIn
  split at hf
  · rename_i h; simp [h]
  · cases hf
theorem E_meth {o e : Expr} {rest : List Expr} {name : Str} {apos pos : Pos} {pl : Sem Bool} {Q : PV → St → Prop}
    (h : E C n A env own m σ o fun p σ1 => ∃ x D fs f, p = .ref x ∧ Inst σ1 x D fs ∧ methOK C.K D name f = true ∧ fnIn C.K f = true ∧ Loc.get fs name = none ∧ Es C n A env own m σ1 pos (e :: rest) fun ds σ2 => CallJ C n (.ref f) (.ref x :: ds) σ2 Q)
    (hm : eval (.Call (.Attribute o name apos) (e :: rest) [] pos) env = (do
      let ov ← eval o env
      standAt apos.atName
      let (f, first) ← holding [ov] (getMethod ov name pl)
      callWith pos f first (backTo pos (starEach (e :: rest) env)) (backToKw pos (keywordEach [] env))) := by rfl)
    (he : starEach (e :: rest) env = (false, eval e env) :: starEach rest env := by rfl) (hplain : (backTo pos (starEach rest env)).any (·.1) = false := by rfl) :
    E C n A env own m σ (.Call (.Attribute o name apos) (e :: rest) [] pos) Q := fun B s F R => by
  refine methodCall_KW (wpAny_mono (h B s F R) ?_ fun _ _ x => x) hm
  refine EPost.elim fun p σ1 h1 tk1 v V1 K1 R1 hrest => ?_
  obtain ⟨x, D, fs, f, rfl, I, ok, hfn, hn, H2⟩ := hrest
  (first | obtain rfl := V1.ref_eq | obtain rfl := V1.blt_eq | obtain rfl := V1.typ_eq | obtain rfl := V1.bool_eq | cases V1)
  refine getmeth (s := { s with heap := h1, toks := tk1 }) I ok hn R1.toRepS ?_
  refine callWith_K C.hK (keep_of_meth ok hfn) (wpAny_mono (H2 B _ F R1) ?_ fun _ _ x => x) he hplain
  refine LPost.elim fun ds σ2 h2 tk2 vals V2 K2 R2 H3 => ?_
  exact ⟨C.hK.keeps R2.ground, wpAny_mono ((H3.op (.cons (.ref _) V2)).lift F R2) (fun _ _ p => (p.from K2).from K1) fun _ _ x => x⟩
theorem E_meth0 {o : Expr} {name : Str} {apos pos : Pos} {pl : Sem Bool} {Q : PV → St → Prop}
    (h : E C n A env own m σ o fun p σ1 => ∃ x D fs f, p = .ref x ∧ Inst σ1 x D fs ∧ methOK C.K D name f = true ∧ fnIn C.K f = true ∧ Loc.get fs name = none ∧ CallJ C n (.ref f) [.ref x] σ1 Q)
    (hm : eval (.Call (.Attribute o name apos) [] [] pos) env = (do
      let ov ← eval o env
      standAt apos.atName
      let (f, first) ← holding [ov] (getMethod ov name pl)
      callWith pos f first (backTo pos (starEach [] env)) (backToKw pos (keywordEach [] env))) := by rfl) :
    E C n A env own m σ (.Call (.Attribute o name apos) [] [] pos) Q := fun B s F R => by
  refine methodCall_KW (wpAny_mono (h B s F R) ?_ fun _ _ x => x) hm
  refine EPost.elim fun p σ1 h1 tk1 v V1 K1 R1 hrest => ?_
  obtain ⟨x, D, fs, f, rfl, I, ok, hfn, hn, H2⟩ := hrest
  (first | obtain rfl := V1.ref_eq | obtain rfl := V1.blt_eq | obtain rfl := V1.typ_eq | obtain rfl := V1.bool_eq | cases V1)
  refine getmeth (s := { s with heap := h1, toks := tk1 }) I ok hn R1.toRepS ?_
  refine callWith_K0 (C.hK.keeps R1.ground) (keep_of_meth ok hfn) ?_
  exact wpAny_mono ((H2.op (s := { s with heap := h1, toks := tk1 }) (.cons (.ref _) .nil)).lift F R1) (fun _ _ p => p.from K1) fun _ _ x => x

/-! ## a def's body -/
theorem lookup_zip {α β : Type} (f : α → β → Prop) : ∀ {xs : List Str} {as : List α} {bs : List β}, xs.Nodup → as.length = xs.length → bs.length = xs.length → (∀ (i : Nat) (a : α) (b : β), as[i]? = some a → bs[i]? = some b → f a b) →
    ∀ x b, (xs.zip bs).lookup x = some b → ∃ a, (xs.zip as).reverse.lookup x = some a ∧ f a b
  | [], _, _, _, _, _, _, x, b, h => by simp at h
  | y :: ys, [], _, _, h1, _, _, _, _, _ => by simp at h1
  | y :: ys, _ :: _, [], _, _, h1, _, _, _, _ => by simp at h1
  | y :: ys, a :: as, b :: bs, hn, h1, h2, hf, x, b', h => by
    rw [List.nodup_cons] at hn
    simp only [List.zip_cons_cons, List.reverse_cons, List.lookup_append]
    simp only [List.zip_cons_cons, List.lookup_cons] at h
    by_cases hx : x = y
    · subst hx
      simp only [beq_self_eq_true, Option.some.injEq] at h
      subst h
      have no : (xs : List (Str × α)) → (∀ p ∈ xs, p.1 ≠ x) → xs.lookup x = none := fun xs hxs => by
        rw [List.lookup_eq_none_iff]; intro p hp; simpa using (hxs p hp).symm
      have : ((ys.zip as).reverse).lookup x = none := no _ fun p hp e => hn.1 (by
        have := (List.of_mem_zip (List.mem_reverse.mp hp)).1; rw [e] at this; exact this)
      rw [this]
      exact ⟨a, by simp, hf 0 a b rfl rfl⟩
    · have e : (x == y) = false := by simpa using hx
      rw [e] at h
      obtain ⟨a', e1, e2⟩ := lookup_zip f hn.2 (by simpa using h1) (by simpa using h2) (fun i a b p q => hf (i + 1) a b (by simpa using p) (by simpa using q)) x b' h
      exact ⟨a', by rw [e1]; simp, e2⟩
theorem VS.zip {h : Heap} {vs : List Value} {ds : List PV} (x : VS h vs ds) : ∀ (i : Nat) (a : Value) (b : PV), vs[i]? = some a → ds[i]? = some b → V h a b := fun i a b ha hb => by
  obtain ⟨v, e, q⟩ := x.get hb
  rw [ha] at e; cases e; exact q

section
variable {name qual : Str} {params : Arguments} {body : List Stmt} {scope : Scope} {cl : List (Str × Addr)} {dV kV doc pm cdv ct oc : Value} {an od : Option Addr} {osl : Array (Option Value)} {f : Addr}
theorem Fine.enter {e : Env} (F : FineC C (n + 1) B A) (hk : e.scope.kind = .function) (hf : e.frame = some e.locals) (hG : C.G.get? e.locals = none) : Fine C n B (A.deeper e) e := by
  obtain ⟨⟨r1, r2, r3⟩, l, hl, hfr⟩ := F
  refine ⟨⟨r1, by show A.depth + 1 + 2 * n ≤ 990; omega, by show A.units + 3 + 30 * n ≤ 9800; omega⟩, e :: l, Around.frames_deeper hl, fun e' he => ?_⟩
  cases he with
  | head => exact .inr ⟨by rw [hk]; nofun, hf, hG⟩
  | tail _ he => exact .inl (hfr e' he)
theorem call_fn {xs : List Str} {args : List PV} {Q : PV → St → Prop} (ho : C.K.lookup f = some ⟨oc, od, .func (fnX name qual params body scope cl dV kV doc pm an cdv ct), osl⟩) (hcd : codeIn C.K cdv qual = true)
    (hbind : ∀ vals : List Value, vals.length = args.length → bindArgs (fnX name qual params body scope cl dV kV doc pm an cdv ct) ⟨vals, []⟩ = pure (xs.zip vals)) (hlx : xs.length = args.length) (hnd : xs.Nodup) (hloc : ∀ x ∈ xs, scope.names.lookup x = some .local)
    (hcell : ∀ x ∈ scope.names, x.2 ≠ .cell) (hk : scope.kind = .function) (hco : scope.isCoroutine = false) (hgen : scope.isGenerator = false)
    (h : ∀ A L, S C n A (envX qual scope L f cdv cl) [L] (xs.zip args) σ body (fun _ σ' => Q .none σ') Q) : CallJ C (n + 1) (.ref f) args σ Q := .of fun A B s vals hv F R => by
  have hvl := hv.length
  have hlz : ∀ x ∈ xs.zip vals, scope.names.lookup x.1 = some .local := fun x hx => hloc _ (List.of_mem_zip hx).1
  refine codeAny_call_def (fd := fnX name qual params body scope cl dV kV doc pm an cdv ct) (body := body) (binds := xs.zip vals) (by have := F.1.2.1; show A.depth < 1000; omega) (R.ground _ _ (C.hK _ _ ho)) rfl (C.hT.nolimit.keeps R.ground) ((codeRec_of C.hK hcd).keeps R.ground) rfl (BindsTo.of_eq (hbind vals hvl)) hcell hlz (fun h₀ hns hk₀ => ?_) hco hgen hk
  have hG : C.G.get? s.heap.objs.size = none := by
    cases q : C.G.get? s.heap.objs.size with
    | none => rfl
    | some o => exact absurd (Heap.lt_size (R.ground _ _ q)) (Nat.lt_irrefl _)
  have R0 : Rep C B (envX qual scope s.heap.objs.size f cdv cl) [s.heap.objs.size] h₀ (xs.zip args) σ := {
    toRepS := R.keeps hk₀
    fn := hk
    loc := ⟨_, hns, fun x d e => by
      obtain ⟨v, e1, e2⟩ := lookup_zip (fun v d => V h₀ v d) hnd (hvl.trans hlx.symm) hlx.symm ((hv.mono (.of hk₀)).zip) x d e
      refine .loc (hloc x ?_) e1 e2
      have hm : (x, d) ∈ xs.zip args := by
        have : ∀ (l : List (Str × PV)), l.lookup x = some d → (x, d) ∈ l := fun l => by
          induction l with
          | nil => intro h; simp at h
          | cons p r ih =>
            intro h
            rw [List.lookup_cons] at h
            split at h
            · rename_i q; cases h; rw [beq_iff_eq.mp q]; exact .head _
            · exact .tail _ (ih h)
        exact this _ e
      exact (List.of_mem_zip hm).1⟩
    ownL := .head _
    ownsep := fun a ha => by
      rw [List.mem_singleton] at ha; subst ha; exact ⟨R.freshB, R.fresh⟩
    ownat := fun a ha => .inl (List.mem_singleton.mp ha) }
  refine wpAny_mono (h _ _ B { s with heap := h₀, toks := s.toks + (xs.zip vals).length } (Fine.enter F hk rfl hG) R0) ?_ fun e s x => x.elim
  refine FPost.elim fun h1 tk1 fl K1 r => ?_
  cases fl with
  | next => obtain ⟨m', σ', R1, q⟩ := r; exact ⟨.none, σ', h1, tk1, rfl, .none, R1.toRepS, q⟩
  | ret v => obtain ⟨d, m', σ', V1, R1, q⟩ := r; exact ⟨d, σ', h1, tk1, rfl, V1, R1.toRepS, q⟩
  | brk => exact r.elim
  | cont => exact r.elim

theorem bindL_get {k : Str → Option NameKind} : ∀ {xs : List Str} {vals : List Value} {m₀ : Str → Option Value} {x : Str}, xs.Nodup → k x = some .local → bindL k (xs.zip vals) m₀ x = ((xs.zip vals).lookup x).or (m₀ x)
  | [], _, _, _, _, _ => by simp [bindL]
  | y :: ys, [], _, _, _, _ => by simp [bindL]
  | y :: ys, v :: vs, m₀, x, hn, hx => by
    rw [List.nodup_cons] at hn
    simp only [List.zip_cons_cons, bindL, List.lookup_cons]
    rw [bindL_get hn.2 hx]
    by_cases e : x = y
    · subst e
      have : (ys.zip vs).lookup x = none := by
        rw [List.lookup_eq_none_iff]; intro p hp; have := (List.of_mem_zip hp).1; simp; rintro rfl; exact hn.1 this
      simp [this, hx]
    · have e2 : (x == y) = false := by simpa using e
      rw [e2]
      split <;> simp [e]
theorem bindC_get {k : Str → Option NameKind} : ∀ {xs : List Str} {vals : List Value} {m₀ : Str → Option Value} {x : Str}, xs.Nodup → k x ≠ some .local → bindC k (xs.zip vals) m₀ x = ((xs.zip vals).lookup x).or (m₀ x)
  | [], _, _, _, _, _ => by simp [bindC]
  | y :: ys, [], _, _, _, _ => by simp [bindC]
  | y :: ys, v :: vs, m₀, x, hn, hx => by
    rw [List.nodup_cons] at hn
    simp only [List.zip_cons_cons, bindC, List.lookup_cons]
    rw [bindC_get hn.2 hx]
    by_cases e : x = y
    · subst e
      have : (ys.zip vs).lookup x = none := by
        rw [List.lookup_eq_none_iff]; intro p hp; have := (List.of_mem_zip hp).1; simp; rintro rfl; exact hn.1 this
      simp [this, hx]
    · have e2 : (x == y) = false := by simpa using e
      rw [e2]
      split <;> simp [e]
theorem lookup_zip2 {α β : Type} (f : α → β → Prop) : ∀ {xs : List Str} {as : List α} {bs : List β}, as.length = xs.length → bs.length = xs.length → (∀ (i : Nat) (a : α) (b : β), as[i]? = some a → bs[i]? = some b → f a b) →
    ∀ x b, (xs.zip bs).lookup x = some b → x ∈ xs ∧ ∃ a, (xs.zip as).lookup x = some a ∧ f a b
  | [], _, _, _, _, _, x, b, h => by simp at h
  | y :: ys, [], _, h1, _, _, _, _, _ => by simp at h1
  | y :: ys, _ :: _, [], _, h1, _, _, _, _ => by simp at h1
  | y :: ys, a :: as, b :: bs, h1, h2, hf, x, b', h => by
    simp only [List.zip_cons_cons, List.lookup_cons] at h ⊢
    by_cases hx : x = y
    · subst hx
      simp only [beq_self_eq_true, Option.some.injEq] at h ⊢
      subst h
      exact ⟨.head _, a, rfl, hf 0 a b rfl rfl⟩
    · have e : (x == y) = false := by simpa using hx
      rw [e] at h ⊢
      obtain ⟨q, r⟩ := lookup_zip2 f (by simpa using h1) (by simpa using h2) (fun i a b p q => hf (i + 1) a b (by simpa using p) (by simpa using q)) x b' h
      exact ⟨.tail _ q, r⟩
theorem mem_of_lookup {cs : List (Str × Addr)} {x : Str} {c : Addr} (h : cs.lookup x = some c) : (x, c) ∈ cs := by
  induction cs with
  | nil => simp at h
  | cons p r ih =>
    rw [List.lookup_cons] at h
    split at h
    · rename_i q; cases h; rw [beq_iff_eq.mp q]; exact .head _
    · exact .tail _ (ih h)
theorem pairwise_inj : ∀ {cs : List (Str × Addr)}, (cs.Pairwise fun x y => x.2 ≠ y.2) → ∀ {p q : Str × Addr}, p ∈ cs → q ∈ cs → p.2 = q.2 → p = q
  | [], _, _, _, h, _, _ => nomatch h
  | c :: cs, hp, p, q, h1, h2, e => by
    rw [List.pairwise_cons] at hp
    cases h1 with
    | head => cases h2 with
      | head => rfl
      | tail _ h2 => exact absurd e (hp.1 _ h2)
    | tail _ h1 => cases h2 with
      | head => exact absurd e.symm (hp.1 _ h1)
      | tail _ h2 => exact pairwise_inj hp.2 h1 h2 e
theorem call_fnC {xs : List Str} {args : List PV} {Q : PV → St → Prop} (ho : C.K.lookup f = some ⟨oc, od, .func (fnX name qual params body scope [] dV kV doc pm an cdv ct), osl⟩) (hcd : codeIn C.K cdv qual = true)
    (hbind : ∀ vals : List Value, vals.length = args.length → bindArgs (fnX name qual params body scope [] dV kV doc pm an cdv ct) ⟨vals, []⟩ = pure (xs.zip vals)) (hlx : xs.length = args.length) (hnd : xs.Nodup)
    (hloc : (xs.all fun y => scope.names.lookup y == some .local || scope.names.lookup y == some .cell) = true) (hk : scope.kind = .function) (hco : scope.isCoroutine = false) (hgen : scope.isGenerator = false)
    (h : ∀ A L own, CellOwn (envOfC qual scope L f cdv) own → S C n A (envOfC qual scope L f cdv) own (xs.zip args) σ body (fun _ σ' => Q .none σ') Q) : CallJ C (n + 1) (.ref f) args σ Q := .of fun A B s vals hv F R => by
  have hvl := hv.length
  have hkind : ∀ n, ∀ x ∈ xs.zip vals, scope.names.lookup x.1 = some .local ∨ (scope.names.lookup x.1 = some .cell ∧ ((cellsFrom n scope.names []).lookup x.1).isSome = true) := fun n x hx => by
    have := List.all_eq_true.mp hloc _ (List.of_mem_zip hx).1
    rcases Bool.or_eq_true_iff.mp this with q | q
    · exact .inl (by simpa using q)
    · have q' : scope.names.lookup x.1 = some .cell := by simpa using q
      exact .inr ⟨q', cellsFrom_some _ _ _ (.inl q')⟩
  have X : C.K.In s.heap := C.hK.keeps R.ground
  refine codeAny_call_function (by have := F.1.2.1; show A.depth < 1000; omega) (X _ _ ho) rfl hco hgen rfl ((codeRec_of C.hK hcd).keeps R.ground) (BindsTo.of_eq (hbind vals hvl) _ _ _ _ ?_)
  refine wpAny_newFunctionEnv_cells hk (hkind _) fun env' he s' x => ?_
  subst he
  obtain ⟨h₁, tk, rfl, hk₁⟩ := x.done
  refine ⟨(C.hT.nolimit.keeps R.ground).keeps hk₁, codeAny_func ?_⟩
  have hG : C.G.get? s.heap.objs.size = none := by
    cases q : C.G.get? s.heap.objs.size with
    | none => rfl
    | some o => exact absurd (Heap.lt_size (R.ground _ _ q)) (Nat.lt_irrefl _)
  have big : ∀ c, s.heap.objs.size ≤ c → B.get? c = none ∧ σ c = none := fun c hc => by
    constructor
    · cases q : B.get? c with
      | none => rfl
      | some o => obtain ⟨o', e, _⟩ := R.base _ _ q; exact absurd (Heap.lt_size e) (Nat.not_lt.mpr hc)
    · cases q : σ c with
      | none => rfl
      | some o => obtain ⟨o', e, _⟩ := (R.st _ _ q).get; exact absurd (Heap.lt_size e) (Nat.not_lt.mpr hc)
  let cs := cellsFrom (s.heap.objs.size + 1) scope.names []
  have co : CellOwn (envOfC qual scope s.heap.objs.size f cdv) (s.heap.objs.size :: (cs.map (·.1)).filterMap fun y => cs.lookup y) := ⟨fun y c e => ⟨.tail _ (List.mem_filterMap.mpr ⟨y, List.mem_map.mpr ⟨_, mem_of_lookup e, rfl⟩, e⟩), fun q => by
      have := x.above y c (mem_of_lookup e)
      change c = s.heap.objs.size at q
      exact absurd this (by rw [q]; exact Nat.lt_irrefl _)⟩,
    fun y z c e1 e2 => congrArg Prod.fst (pairwise_inj x.apart (mem_of_lookup e1) (mem_of_lookup e2) rfl)⟩
  have R0 : Rep C B (envOfC qual scope s.heap.objs.size f cdv) (s.heap.objs.size :: (cs.map (·.1)).filterMap fun y => cs.lookup y) h₁ (xs.zip args) σ := {
    toRepS := R.keeps hk₁
    fn := hk
    loc := ⟨_, x.toInCall.ns, fun y d e => by
      obtain ⟨hm, v, e1, e2⟩ := lookup_zip2 (fun v d => V h₁ v d) (hvl.trans hlx.symm) hlx.symm ((hv.mono (.of hk₁)).zip) y d e
      have := List.all_eq_true.mp hloc _ hm
      rcases Bool.or_eq_true_iff.mp this with q | q
      · have q' : scope.names.lookup y = some .local := by simpa using q
        exact .loc q' (by rw [bindL_get hnd q', e1]; rfl) e2
      · have q' : scope.names.lookup y = some .cell := by simpa using q
        obtain ⟨c, hc⟩ := Option.isSome_iff_exists.mp (cellsFrom_some scope.names (s.heap.objs.size + 1) [] (.inl q'))
        have hcell := x.cell y c hc
        have hne : (newEnv scope s.heap.objs.size mainGlobals (cellsFrom (s.heap.objs.size + 1) scope.names []) (qual ++ ".<locals>.") (some f) cdv none builtinsNs).kindOf y ≠ some .local := by
          show scope.names.lookup y ≠ _
          rw [q']; nofun
        rw [bindC_get hnd hne, e1] at hcell
        exact .cell q' hc hcell e2⟩
    ownL := .head _
    ownsep := fun a ha => by
      cases ha with
      | head => exact big _ (Nat.le_refl _)
      | tail _ ha =>
        obtain ⟨y, hy, e⟩ := List.mem_filterMap.mp ha
        exact big _ (Nat.le_of_lt (x.above y a (mem_of_lookup e)))
    ownat := fun a ha => by
      cases ha with
      | head => exact .inl rfl
      | tail _ ha =>
        obtain ⟨y, hy, e⟩ := List.mem_filterMap.mp ha
        exact .inr ⟨_, x.cell y a e⟩ }
  refine wpAny_mono (h _ _ _ co B { s with heap := h₁, toks := tk } (Fine.enter F hk rfl hG) R0) ?_ fun e s x => x.elim
  refine FPost.elim fun h1 tk1 fl K1 r => ?_
  cases fl with
  | next => obtain ⟨m', σ', R1, q⟩ := r; exact ⟨.none, σ', h1, tk1, rfl, .none, R1.toRepS, q⟩
  | ret v => obtain ⟨d, m', σ', V1, R1, q⟩ := r; exact ⟨d, σ', h1, tk1, rfl, V1, R1.toRepS, q⟩
  | brk => exact r.elim
  | cont => exact r.elim
end
end
end

section
set_option maxRecDepth 100000
open PySem PySem.W PyProof.Rows PySem.Calls PySem.SeqAt
section
variable {C : Cx} {n : Nat} {A : Around} {env : Env} {own : List Addr} {m : Loc} {σ : St} {B : Heap} {s : Shared}

/-! ## an own class made -/
theorem call_class {D fI : Addr} {args : List PV} {Q : PV → St → Prop} (hm : makesIn C.K D = true) (hi : findIn C.K (.ref D) "__init__" = some (some (.ref fI))) (hf : isFn C.K (.ref fI) = true)
    (h : ∀ x dx, σ x = none → σ dx = none → x ≠ dx → CallJ C n (.ref fI) (.ref x :: args) ((σ.set dx (.attrs [])).set x (.inst D dx)) fun r σ' => r = .none ∧ Q (.ref x) σ') : CallJ C (n + 1) (.ref D) args σ Q := .of fun A B s vals hv F R => by
  obtain ⟨hh, gg, dd, tt, oo⟩ := s
  dsimp only at R hv
  have X : C.K.In hh := C.hK.keeps R.ground
  refine make_core (makes_of X hm) (looks_findIn X hi) (fun self => bind_fn X self (beq_iff_eq.mp hf)) (.inl rfl) ?_
  have e1 : (hh.push emptyDict).objs.size = hh.objs.size + 1 := Heap.size_push ..
  have R1 : RepS C B (hh.push emptyDict) (σ.set hh.objs.size (.attrs [])) := R.alloc rfl ⟨[], 0, Heap.get?_push_size _ rfl, .nil, by simp⟩
  have R2 := R1.alloc (ob := instObj D hh.objs.size) (o := .inst D hh.objs.size) rfl (Heap.get?_push_size _ rfl)
  rw [e1] at R2
  have k : ∀ b o, hh.get? b = some o → ((hh.push emptyDict).push (instObj D hh.objs.size)).get? b = some o := fun b o e => Heap.get?_push_of_some _ (Heap.get?_push_of_some _ e)
  have f1 : σ (hh.objs.size + 1) = none := by
    cases q : σ (hh.objs.size + 1) with
    | none => rfl
    | some o => obtain ⟨ob, e, _⟩ := (R.st _ _ q).get; exact absurd (Heap.lt_size e) (Nat.not_lt.mpr (Nat.le_succ _))
  have F' : FineC C n B (A.under (.builtin "type.__call__" ⟨.ref D :: vals, []⟩)) := by
    obtain ⟨⟨r1, r2, r3⟩, l, hl, hfr⟩ := F
    refine ⟨⟨r1, ?_, ?_⟩, l, hl, hfr⟩
    · show A.depth + 1 + 2 * n ≤ 990; omega
    · have : (Code.builtin "type.__call__" ⟨.ref D :: vals, []⟩).cUnits ≤ 3 := by first | decide | (show (1 : Nat) ≤ 3; decide) | (simp [Code.cUnits, Code.frames])
      show A.units + (Code.builtin "type.__call__" ⟨.ref D :: vals, []⟩).cUnits + 30 * n ≤ 9800
      omega
  refine codeAny_mono (h _ _ f1 R.fresh (Nat.succ_ne_self _) _ _ ⟨(hh.push emptyDict).push (instObj D hh.objs.size), gg, dd, tt, oo⟩ _ (.cons (.ref _) (hv.mono (.of k))) F' R2) fun r s' q => ?_
  cases r with
  | error e => exact q.elim
  | ok f => cases f with
    | ret v =>
      obtain ⟨d, σ', h', tk, rfl, hv, _, R', rfl, q⟩ := q
      cases hv
      exact ⟨rfl, .ref _, σ', h', tk, rfl, .ref _, R', q⟩
    | next => exact q.elim
    | brk => exact q.elim
    | cont => exact q.elim

/-! ## iterators -/
noncomputable def SameOff (adr : List Addr) (h h' : Heap) : Prop := ∀ b o, b ∉ adr → h.get? b = some o → h'.get? b = some o
structure Iter (C : Cx) (target : Expr) (it : Value) (ds : List PV) (ok : St → Prop) (ist : Nat → Heap → Prop) (adr : List Addr) : Prop where
  frame : ∀ i h h', ist i h → TK h h' → (∀ a ∈ adr, ∀ o, h.get? a = some o → h'.get? a = some o) → ist i h'
  has : ∀ i h, ist i h → ∀ a ∈ adr, ∃ o, h.get? a = some o ∧ (∀ es n, o.data ≠ .dict es n) ∧ o.cls ≠ .type "tuple" ∧ ∃ vs, o.data = .fields vs
  next : ∀ (A : Around) (B : Heap) (s : Shared) (σ : St) (i : Nat) (d : PV) (X : Value → Shared → Prop) (Q : Value → Shared → Prop), A.handled = none → RepS C B s.heap σ → ok σ → ist i s.heap → ds[i]? = some d →
    (∀ v h' tk, V h' v d → ist (i + 1) h' → SameOff adr s.heap h' → Q v { s with heap := h', toks := tk }) → wpAny C.M A (pyNext it) (fun r s1 => ∃ v, r = some v ∧ wpAny C.M A (letOwnedTupleGo target it v) (fun _ s2 => Q v s2) X s1) X s
  stop : ∀ (A : Around) (B : Heap) (s : Shared) (σ : St) (X : Value → Shared → Prop) (Q : Shared → Prop), A.handled = none → RepS C B s.heap σ → ok σ → ist ds.length s.heap →
    (∀ h' tk, SameOff adr s.heap h' → Q { s with heap := h', toks := tk }) → wpAny C.M A (pyNext it) (fun r s1 => r = none ∧ Q s1) X s
  self : ∀ (A : Around) (s : Shared) (i : Nat) (X : Value → Shared → Prop) (Q : Value → Shared → Prop), ist i s.heap → Q it s → wpAny C.M A (pyIter it) Q X s
/-- what is iterated: its items, and what must hold of the store for them -/
noncomputable def Src (C : Cx) (n : Nat) (A : Around) (env : Env) (own : List Addr) (m : Loc) (σ : St) (target iter : Expr) (K : List PV → (St → Prop) → St → Prop) : Prop :=
  ∀ B s, Fine C n B A env → Rep C B env own s.heap m σ → wpAny C.M A (eval iter env) (fun x s1 => wpAny C.M A (pyIter x) (fun it s2 => ∃ h tk σ2 ds ok ist adr, s2 = { s with heap := h, toks := tk } ∧ TK s.heap h ∧ Rep C B env own h m σ2 ∧
    Iter C target it ds ok ist adr ∧ ist 0 h ∧ (∃ a, it = .ref a) ∧ (∀ a ∈ adr, B.get? a = none ∧ σ2 a = none ∧ a ∉ own) ∧ K ds ok σ2) NoE s1) NoE s

theorem RepS.off {h h' : Heap} {adr : List Addr} (R : RepS C B h σ) (hs : SameOff adr h h') (ha : ∀ a ∈ adr, B.get? a = none ∧ σ a = none) (k : TK h h') : RepS C B h' σ where
  ground := fun b o e => hs b o (fun q => by
    obtain ⟨o', e', _⟩ := R.gB b o e
    rw [(ha b q).1] at e'; cases e') (R.ground b o e)
  gB := R.gB
  base := fun b o e => by
    obtain ⟨o', e', r⟩ := R.base b o e
    exact ⟨o', hs b o' (fun q => by rw [(ha b q).1] at e; cases e) e', r⟩
  st := fun b o e => (R.st b o e).mono k fun ob q => hs b ob (fun z => by rw [(ha b z).2] at e; cases e) q
  sep := R.sep
  sys := R.sys
theorem Rep.off {h h' : Heap} {adr : List Addr} (R : Rep C B env own h m σ) (hs : SameOff adr h h') (ha : ∀ a ∈ adr, B.get? a = none ∧ σ a = none ∧ a ∉ own) (hc : ∀ a ∈ adr, ∀ v, ¬ h.IsCell a v) (k : TK h h') : Rep C B env own h' m σ where
  toRepS := R.toRepS.off hs (fun a q => ⟨(ha a q).1, (ha a q).2.1⟩) k
  fn := R.fn
  loc := by
    obtain ⟨mv, ns, vars⟩ := R.loc
    refine ⟨mv, ns.at' fun o e => hs _ o (fun q => (ha _ q).2.2 R.ownL) e, fun x d e => ?_⟩
    cases vars x d e with
    | loc a b r => exact .loc a b (r.mono k)
    | cell a b q r =>
      rename_i c v
      by_cases hca : c ∈ adr
      · exact absurd q (hc c hca _)
      · obtain ⟨o, e, d⟩ := q; exact .cell a b ⟨o, hs _ o hca e, d⟩ (r.mono k)
  ownL := R.ownL
  ownsep := R.ownsep
  ownat := fun a q => (R.ownat a q).imp id fun ⟨v, o, e, d⟩ => ⟨v, o, hs _ o (fun z => (ha a z).2.2 q) e, d⟩
theorem Iter.noCell {target : Expr} {it : Value} {ds : List PV} {ok : St → Prop} {ist : Nat → Heap → Prop} {adr : List Addr} (I : Iter C target it ds ok ist adr) {i : Nat} {h : Heap} (x : ist i h) : ∀ a ∈ adr, ∀ v, ¬ h.IsCell a v := fun a ha v ⟨o, e, d⟩ => by
  obtain ⟨o', e', _, _, vs, d'⟩ := I.has i h x a ha
  rw [e] at e'; cases e'; rw [d] at d'; cases d'
theorem Iter.noTuple {target : Expr} {it : Value} {ds : List PV} {ok : St → Prop} {ist : Nat → Heap → Prop} {adr : List Addr} (I : Iter C target it ds ok ist adr) {i : Nat} {h : Heap} (x : ist i h) {a : Addr} (ha : a ∈ adr) {items : Array Value} : ¬ h.IsTuple a items := fun ⟨o, e, c, _⟩ => by
  obtain ⟨o', e', _, c', _⟩ := I.has i h x a ha
  rw [e] at e'; cases e'; exact c' c
theorem Iter.tkOff {target : Expr} {it : Value} {ds : List PV} {ok : St → Prop} {ist : Nat → Heap → Prop} {adr : List Addr} (I : Iter C target it ds ok ist adr) {i : Nat} {h h' : Heap} (x : ist i h) (hs : SameOff adr h h') : TK h h' := fun a items t => by
  have := fun ha => I.noTuple x (a := a) ha t
  obtain ⟨o, e, r⟩ := t
  exact ⟨o, hs a o this e, r⟩

/-! ## for -/
theorem codeAny_for {R : Result → Shared → Prop} {target : Expr} {it : Value} {body orelse : List Stmt} (I : Nat → Shared → Prop)
    (turn : ∀ n s, I n s → wpAny C.M A (pyNext it) (fun r s₁ => match r with
      | none => wpAny C.M A (execs orelse env) (fun f s₃ => R (.ok f) s₃) NoE s₁
      | some v => wpAny C.M A (letOwnedTupleGo target it v) (fun _ s₂ => wpAny C.M A (assign target env v) (fun _ s₂ => wpAny C.M A (execs body env) (fun f s₃ => match f with
          | .next | .cont => ∃ m, m < n ∧ I m s₃
          | .brk => R (.ok .next) s₃
          | .ret v => R (.ok (.ret v)) s₃) NoE s₂) NoE s₂) NoE s₁) NoE s)
    (n : Nat) (h : I n s) : codeAny C.M A (.forLoop target it body orelse env) R s := by
  refine codeAny_loop' rfl I (fun n s hI => ?_) n h
  show wpAny _ _ ((forTurn target it body orelse env).onRaise (fun x => do noteFrame x env; theTreesLotGoes x)) _ _ s
  refine wpAny_noted ?_
  simp only [forTurn]
  refine wpAny_bind (wpAny_standAt (wpAny_bind (wpAny_onRaise (wpAny_mono (turn n s hI) (fun r s₁ h₁ => ?_) fun _ _ h' => h'.elim))))
  cases r with
  | none => exact wpAny_pure (.inr ⟨rfl, codeAny_block (wpAny_mono h₁ (fun _ _ x => x) fun _ _ x => x.elim)⟩)
  | some v =>
    refine wpAny_bind (wpAny_mono h₁ (fun _ s₂ h₂ => ?_) fun _ _ x => x.elim)
    refine wpAny_bind (wpAny_mono h₂ (fun _ s₂ h₂ => wpAny_bind (wpAny_mono h₂ (fun f s₃ h₃ => ?_) fun _ _ h' => h'.elim)) fun _ _ h' => h'.elim)
    cases f with
    | next => exact wpAny_pure (.inl ⟨rfl, h₃⟩)
    | cont => exact wpAny_pure (.inl ⟨rfl, h₃⟩)
    | brk => exact wpAny_pure h₃
    | ret v => exact wpAny_pure h₃

noncomputable def ForI (C : Cx) (B : Heap) (env : Env) (own : List Addr) (s : Shared) (len : Nat) (ist : Nat → Heap → Prop) (adr : List Addr) (I : Nat → Loc → St → Prop) (k : Nat) (s' : Shared) : Prop :=
  ∃ i h' tk' m' σ', k = len - i ∧ i ≤ len ∧ s' = { s with heap := h', toks := tk' } ∧ TK s.heap h' ∧ Rep C B env own h' m' σ' ∧ ist i h' ∧ (∀ a ∈ adr, B.get? a = none ∧ σ' a = none ∧ a ∉ own) ∧ I i m' σ'
theorem ForI.elim {len : Nat} {ist : Nat → Heap → Prop} {adr : List Addr} {I : Nat → Loc → St → Prop} {P : Nat → Shared → Prop} (k : ∀ (i : Nat) (h' : Heap) (tk' : Nat) (m' : Loc) (σ' : St), i ≤ len → TK s.heap h' → Rep C B env own h' m' σ' → ist i h' → (∀ a ∈ adr, B.get? a = none ∧ σ' a = none ∧ a ∉ own) → I i m' σ' → P (len - i) { s with heap := h', toks := tk' }) : ∀ j s', ForI C B env own s len ist adr I j s' → P j s' := by
  rintro j _ ⟨i, h', tk', m', σ', rfl, hle, rfl, K', R', ii, ha, hI⟩; exact k i h' tk' m' σ' hle K' R' ii ha hI
theorem S_for {target iter : Expr} {body : List Stmt} {pos : Pos} {Qn : Loc → St → Prop} {Qr : PV → St → Prop}
    (h : Src C n A env own m σ target iter fun ds ok σ2 => ∃ I : Nat → Loc → St → Prop, I 0 m σ2 ∧ (∀ i m' σ', I i m' σ' → ok σ') ∧
      (∀ i m' σ' d, ds[i]? = some d → I i m' σ' → ∃ m'', Tgt env own target d m' m'' ∧ S C n A env own m'' σ' body (fun m3 σ3 => I (i + 1) m3 σ3) Qr) ∧ (∀ m' σ', I ds.length m' σ' → Qn m' σ'))
    (hs : ∀ x, foldedSetIterable iter env x = pure x := by intro _; rfl) : S1 C n A env own m σ (.For target iter body [] pos) Qn Qr := fun B s F R => by
  refine wpAny_For (wpAny_mono (h B s F R) (fun x s1 h1 => wpAny_mono h1 ?_ fun _ _ x => x.elim) fun _ _ x => x.elim) hs
  rintro it _ ⟨h2, tk2, σ2, ds, ok, ist, adr, rfl, K2, R2, IT, i0, ⟨ait, rfl⟩, hadr, I, I0, hok, step, fin⟩
  refine codeAny_for (C := C) (ForI C B env own s ds.length ist adr I) ?_ (ds.length - 0)
    ⟨0, h2, tk2, m, σ2, rfl, Nat.zero_le _, rfl, K2, R2, i0, hadr, I0⟩
  refine ForI.elim fun i h' tk' m' σ' hle K' R' ii ha hI => ?_
  have hh := F.1.1
  by_cases hlt : i < ds.length
  · have hd : ds[i]? = some ds[i] := by simp [hlt]
    refine wpAny_mono (IT.next A B { s with heap := h', toks := tk' } σ' i _ NoE (fun v s2 => wpAny C.M A (assign target env v) (fun _ s₂ => wpAny C.M A (execs body env) (fun f s₃ => match f with
          | .next | .cont => ∃ k, k < ds.length - i ∧ ForI C B env own s ds.length ist adr I k s₃
          | .brk => FPost C B env own Qn Qr s .next s₃
          | .ret v => FPost C B env own Qn Qr s (.ret v) s₃) NoE s₂) NoE s2) hh R'.toRepS (hok _ _ _ hI) ii hd ?_) ?_ fun _ _ x => x
    · intro v h3 tk3 V3 i3 off3
      have K3 := IT.tkOff ii off3
      have R3 := R'.off off3 ha (IT.noCell ii) K3
      obtain ⟨m'', tg, body⟩ := step i m' σ' _ hd hI
      have Fm := F.mono R3.kept_max (Nat.le_refl _)
      have inMax : ∀ a ∈ adr, ∀ o, h3.get? a = some o → (maxB h3 σ' own).get? a = some o := fun a haa o e => hid_get e (by simp [(ha a haa).2.1, (ha a haa).2.2])
      have keepA : ∀ h', Kept (maxB h3 σ' own) h' → ∀ a ∈ adr, ∀ o, h3.get? a = some o → h'.get? a = some o := fun h' k a haa o e => by
        obtain ⟨o', e', sm⟩ := k a o (inMax a haa o e)
        obtain ⟨o2, e2, cf, _⟩ := IT.has _ _ i3 a haa
        rw [e] at e2; cases e2
        rw [sm.exact cf] at e'; exact e'
      refine assign_tgt (s := { s with heap := h3, toks := tk3 }) hh tg R3.max V3 fun h4 tk4 K4 R4 => ?_
      refine wpAny_mono (body _ { s with heap := h4, toks := tk4 } Fm R4) ?_ fun _ _ x => x
      refine FPost.elim fun h5 tk5 f K5 r => ?_
      have KK := K'.trans (K3.trans (K4.trans K5))
      cases f with
      | next =>
        obtain ⟨m3, σ3, R5, q⟩ := r
        refine ⟨ds.length - (i + 1), by omega, i + 1, h5, tk5, m3, σ3, rfl, hlt, rfl, KK, R5.rebase R3.kept_max R3.gB, IT.frame _ h3 h5 i3 (K4.trans K5) (keepA h5 R5.base), fun a haa => ⟨(ha a haa).1, ?_, (ha a haa).2.2⟩, q⟩
        cases z : σ3 a with
        | none => rfl
        | some o =>
          obtain ⟨o2, e2, _⟩ := IT.has _ _ i3 a haa
          have := R5.sep a o z
          rw [inMax a haa _ e2] at this; cases this
      | ret v =>
        obtain ⟨d, m3, σ3, V5, R5, q⟩ := r
        exact ⟨h5, tk5, rfl, KK, d, m3, σ3, V5, R5.rebase R3.kept_max R3.gB, q⟩
      | brk => exact r.elim
      | cont => exact r.elim
    · rintro r s1 ⟨v, rfl, q⟩; exact q
  · have hi : i = ds.length := by omega
    subst hi
    refine wpAny_mono (IT.stop A B { s with heap := h', toks := tk' } σ' NoE (fun s1 => wpAny C.M A (execs [] env) (fun f s₃ => FPost C B env own Qn Qr s f s₃) NoE s1) hh R'.toRepS (hok _ _ _ hI) ii ?_) ?_ fun _ _ x => x
    · intro h3 tk3 off3
      have K3 := IT.tkOff ii off3
      exact wpAny_pure ⟨h3, tk3, rfl, K'.trans K3, m', σ', R'.off off3 ha (IT.noCell ii) K3, fin _ _ hI⟩
    · rintro r s1 ⟨rfl, q⟩; exact q

end
end

section
set_option maxRecDepth 100000
open PySem PySem.W PyProof.Rows PySem.Calls PySem.SeqAt
section
variable {C : Cx} {n : Nat} {A : Around} {env : Env} {own : List Addr} {m : Loc} {σ : St} {B : Heap} {s : Shared}

theorem owned_pure {target : Expr} {I : Addr} {o : Obj} {T : String} {fs : Array Value} {v : Value} {Q : Unit → Shared → Prop} {X : Value → Shared → Prop} (ho : s.heap.get? I = some o) (hc : o.cls = .type T) (hd : o.data = .fields fs)
    (hT : (["enumerate", "zip", "dict_itemiterator", "dict_reverseitemiterator", "odict_iterator", "itertools.zip_longest", "itertools.pairwise"].contains T) = false) (q : Q () s) : wpAny C.M A (letOwnedTupleGo target (.ref I) v) Q X s := by
  unfold letOwnedTupleGo
  split
  · cases v <;> first | exact wpAny_pure q | skip
    refine wpAny_bind (wpAny_load ho ?_)
    rw [hc, hd]
    dsimp only
    rw [hT]
    exact wpAny_pure q
  · cases v <;> first | exact wpAny_pure q | skip
    refine wpAny_bind (wpAny_load ho ?_)
    rw [hc, hd]
    dsimp only
    rw [hT]
    exact wpAny_pure q
  · exact wpAny_pure q

theorem sameOff_of {a : Addr} {h h' : Heap} (hs : Heap.SameBut a h h') : SameOff [a] h h' := fun b o hb e => (hs.2 b (by simpa using hb)).trans e
theorem sameOff_ext {a : Addr} {h h' : Heap} (hs : Heap.ExtBut a h h') : SameOff [a] h h' := fun b o hb e => hs b o (by simpa using hb) e
theorem isListIter_at {h h' : Heap} {a l : Addr} {i : Nat} (x : h.IsListIter a l i) (e : ∀ o, h.get? a = some o → h'.get? a = some o) : h'.IsListIter a l i := let ⟨o, q, r⟩ := x; ⟨o, e o q, r⟩
theorem isTupleIter_at {h h' : Heap} {a l : Addr} {i : Nat} (x : h.IsTupleIter a l i) (e : ∀ o, h.get? a = some o → h'.get? a = some o) : h'.IsTupleIter a l i := let ⟨o, q, r⟩ := x; ⟨o, e o q, r⟩

theorem iter_list (target : Expr) (I a : Addr) (ds : List PV) : Iter C target (.ref I) ds (fun σ => σ a = some (.list ds)) (fun i h => h.IsListIter I a i) [I] where
  frame := fun i h h' x _ e => isListIter_at x (e I (.head _))
  has := fun i h x b hb => by
    rw [List.mem_singleton] at hb; subst hb
    obtain ⟨o, e, c, d⟩ := x
    exact ⟨o, e, by rw [d]; nofun, by rw [c]; simp, _, d⟩
  next := fun A B s σ i d X Q hh R ok x hd k => by
    obtain ⟨vs, p, hvs⟩ := R.st _ _ ok
    obtain ⟨v, e1, hv⟩ := hvs.get hd
    refine wpAny_pyNext_list_item x p.isList (x := v) (by simpa using e1) fun h' hit hs => ⟨v, rfl, ?_⟩
    have off := sameOff_of hs
    have tk : TK s.heap h' := fun b items t => by
      have hne : b ≠ I := by
        rintro rfl
        obtain ⟨o, e, c, d⟩ := x; obtain ⟨o', e', c', _⟩ := t
        rw [e] at e'; cases e'; rw [c] at c'; simp at c'
      obtain ⟨o, e, r⟩ := t; exact ⟨o, (hs.2 b hne).trans e, r⟩
    obtain ⟨o, e, c, d⟩ := id hit
    exact owned_pure (s := { s with heap := h' }) e c d (by decide) (k v h' s.toks (hv.mono tk) hit off)
  stop := fun A B s σ X Q hh R ok x k => by
    obtain ⟨vs, p, hvs⟩ := R.st _ _ ok
    exact wpAny_pyNext_list_end hh x p.isList (by simp [hvs.length]) fun h' hs => ⟨rfl, k h' s.toks (sameOff_ext hs)⟩
  self := fun A s i X Q x q => wpAny_pyIter_listiter x q
theorem iter_tuple (target : Expr) (I a : Addr) (vs : List Value) (ds : List PV) : Iter C target (.ref I) ds (fun σ => True) (fun i h => h.IsTupleIter I a i ∧ h.IsTuple a vs.toArray ∧ VS h vs ds) [I] where
  frame := fun i h h' x k e => ⟨isTupleIter_at x.1 (e I (.head _)), k _ _ x.2.1, x.2.2.mono k⟩
  has := fun i h x b hb => by
    rw [List.mem_singleton] at hb; subst hb
    obtain ⟨⟨o, e, c, d⟩, _⟩ := x
    exact ⟨o, e, by rw [d]; nofun, by rw [c]; simp, _, d⟩
  next := fun A B s σ i d X Q hh R ok x hd k => by
    obtain ⟨x, ht, hvs⟩ := x
    obtain ⟨v, e1, hv⟩ := hvs.get hd
    refine wpAny_pyNext_tuple_item x ht (x := v) (by simpa using e1) fun h' hit hs => ⟨v, rfl, ?_⟩
    have off := sameOff_of hs
    have tk : TK s.heap h' := fun b items t => by
      have hne : b ≠ I := by
        rintro rfl
        obtain ⟨o, e, c, d⟩ := x; obtain ⟨o', e', c', _⟩ := t
        rw [e] at e'; cases e'; rw [c] at c'; simp at c'
      obtain ⟨o, e, r⟩ := t; exact ⟨o, (hs.2 b hne).trans e, r⟩
    obtain ⟨o, e, c, d⟩ := id hit
    exact owned_pure (s := { s with heap := h' }) e c d (by decide) (k v h' s.toks (hv.mono tk) ⟨hit, tk _ _ ht, hvs.mono tk⟩ off)
  stop := fun A B s σ X Q hh R ok x k => by
    obtain ⟨x, ht, hvs⟩ := x
    exact wpAny_pyNext_tuple_end hh x ht (by simp [hvs.length]) fun h' hs => ⟨rfl, k h' s.toks (sameOff_ext hs)⟩
  self := fun A s i X Q x q => wpAny_pyIter_tupleiter x.1 q
noncomputable def upTo (k : Nat) : List PV := (List.range k).map fun i : Nat => PV.int (i : Int)
theorem upTo_get {k i : Nat} {d : PV} (h : (upTo k)[i]? = some d) : i < k ∧ d = .int i := by
  unfold upTo at h
  rw [List.getElem?_map] at h
  obtain ⟨j, e1, e2⟩ := Option.map_eq_some_iff.mp h
  obtain ⟨h1, h2⟩ := List.getElem?_eq_some_iff.mp e1
  simp at h1 h2
  subst h2
  exact ⟨h1, e2.symm⟩
theorem upTo_len (k : Nat) : (upTo k).length = k := by simp [upTo]
theorem iter_range (target : Expr) (I : Addr) (k : Nat) : Iter C target (.ref I) (upTo k) (fun σ => True) (fun i h => IsRangeIter h I (i : Int) ((k : Int) - (i : Int)) 1) [I] where
  frame := fun i h h' x _ e => e I (.head _) _ x
  has := fun i h x b hb => by
    rw [List.mem_singleton] at hb; subst hb
    exact ⟨_, x, by simp, by simp, _, rfl⟩
  next := fun A B s σ i d X Q hh R ok x hd kk => by
    obtain ⟨hlt, rfl⟩ := upTo_get hd
    refine wpAny_pyNext_range_item x (by omega) fun h' hit hs => ⟨_, rfl, ?_⟩
    have hit' : IsRangeIter h' I ((i + 1 : Nat) : Int) ((k : Int) - ((i + 1 : Nat) : Int)) 1 := by
      have e1 : ((i + 1 : Nat) : Int) = (i : Int) + 1 := by omega
      have e2 : (k : Int) - ((i + 1 : Nat) : Int) = (k : Int) - (i : Int) - 1 := by omega
      rw [e2, e1]; exact hit
    exact owned_pure (s := { s with heap := h', toks := s.toks + 1 }) hit' rfl rfl (by decide) (kk _ h' (s.toks + 1) (.int _ _) hit' (sameOff_of hs))
  stop := fun A B s σ X Q hh R ok x kk => by
    rw [upTo_len] at x
    exact wpAny_pyNext_range_end hh x (by omega) fun h' hs => ⟨rfl, kk h' s.toks (sameOff_ext hs)⟩
  self := fun A s i X Q x q => wpAny_pyIter_rangeiter x q
/-- (0, d0), (1, d1) .. -/
noncomputable def numbered (ds : List PV) : List PV := ds.zipIdx.map fun p => PV.tup [.int (p.2 : Int), p.1]
theorem numbered_get {ds : List PV} {i : Nat} {d : PV} (h : (numbered ds)[i]? = some d) : ∃ x, ds[i]? = some x ∧ d = .tup [.int i, x] := by
  unfold numbered at h
  rw [List.getElem?_map, List.getElem?_zipIdx] at h
  obtain ⟨j, e1, e2⟩ := Option.map_eq_some_iff.mp h
  obtain ⟨x, h1, h2⟩ := Option.map_eq_some_iff.mp e1
  subst h2
  exact ⟨x, h1, by rw [← e2]; simp⟩
theorem numbered_len (ds : List PV) : (numbered ds).length = ds.length := by simp [numbered]
theorem iter_enum (elts : List Expr) (k0 : Nat) (p0 : Pos) (e it a : Addr) (hne : e ≠ it) (ds : List PV) : Iter C (.Tuple elts k0 p0) (.ref e) (numbered ds) (fun σ => σ a = some (.list ds)) (fun i h => (∃ old, IsEnum h e it (i : Int) old) ∧ h.IsListIter it a i) [e, it] where
  frame := fun i h h' x _ k => ⟨let ⟨o, q⟩ := x.1; ⟨o, k e (.head _) _ q⟩, isListIter_at x.2 (k it (.tail _ (.head _)))⟩
  has := fun i h x b hb => by
    obtain ⟨⟨old, q⟩, o, e1, c, d⟩ := x
    cases hb with
    | head => exact ⟨_, q, by simp, by simp, _, rfl⟩
    | tail _ hb =>
      cases hb with
      | head => exact ⟨o, e1, by rw [d]; nofun, by rw [c]; simp, _, d⟩
      | tail _ hb => cases hb
  next := fun A B s σ i d X Q hh R ok x hd k => by
    obtain ⟨x0, hx0, rfl⟩ := numbered_get hd
    obtain ⟨vs, p, hvs⟩ := R.st _ _ ok
    obtain ⟨v, e1, hv⟩ := hvs.get hx0
    obtain ⟨⟨old, he⟩, hit⟩ := x
    refine wpAny_pyNext_enum_item he hit p.isList (x := v) (by simpa using e1) hne fun h' ho hit' ht hsz hk => ⟨_, rfl, ?_⟩
    have hte : e < s.heap.objs.size := Heap.lt_size he
    refine wpAny_letOwnedTupleGo_enum (s := { s with heap := h', toks := s.toks + 1 }) ho fun h2 he2 hs2 => ?_
    have tk1 : TK s.heap h' := fun b items t => by
      have n1 : b ≠ e := by
        rintro rfl
        obtain ⟨o', e', c', _⟩ := t
        rw [he] at e'; cases e'; simp at c'
      have n2 : b ≠ it := by
        rintro rfl
        obtain ⟨o, e, c, d⟩ := hit; obtain ⟨o', e', c', _⟩ := t
        rw [e] at e'; cases e'; rw [c] at c'; simp at c'
      obtain ⟨o, q, r⟩ := t; exact ⟨o, hk b o n1 n2 q, r⟩
    have tk2 : TK h' h2 := fun b items t => by
      have n1 : b ≠ e := by
        rintro rfl
        obtain ⟨o', e', c', _⟩ := t
        rw [show h'.get? b = some _ from ho] at e'; cases e'; simp at c'
      obtain ⟨o, q, r⟩ := t; exact ⟨o, (hs2.2 b n1).trans q, r⟩
    have hitne : it ≠ e := fun q => hne q.symm
    refine k _ h2 (s.toks + 1) (.tup (vs := [.int i s.toks, v]) (tk2 _ _ ⟨_, ht, rfl, 0, rfl⟩) (.cons (.int _ _) (.cons ((hv.mono tk1).mono tk2) .nil))) ⟨⟨_, by
      have e1 : ((i + 1 : Nat) : Int) = (i : Int) + 1 := by omega
      rw [e1]; exact he2⟩, isListIter_at hit' fun o q => (hs2.2 it hitne).trans q⟩ fun b o hb q => ?_
    have n1 : b ≠ e := fun z => hb (by rw [z]; exact .head _)
    have n2 : b ≠ it := fun z => hb (by rw [z]; exact .tail _ (.head _))
    exact (hs2.2 b n1).trans (hk b o n1 n2 q)
  stop := fun A B s σ X Q hh R ok x k => by
    obtain ⟨vs, p, hvs⟩ := R.st _ _ ok
    obtain ⟨⟨old, he⟩, hit⟩ := x
    rw [numbered_len] at hit he
    refine wpAny_pyNext_enum_end hh he hit p.isList (by simp [hvs.length]) fun h' hs => ⟨rfl, k h' s.toks fun b o hb q => hs b o (fun z => hb (by rw [z]; exact .tail _ (.head _))) q⟩
  self := fun A s i X Q x q => let ⟨⟨old, he⟩, _⟩ := x; wpAny_pyIter_enum he q

/-! ## sources -/
theorem newAdr (R : Rep C B env own s.heap m σ) : ∀ a, s.heap.objs.size ≤ a → B.get? a = none ∧ σ a = none ∧ a ∉ own := fun a ha => by
  have no : ∀ o, s.heap.get? a ≠ some o := fun o e => absurd (Heap.lt_size e) (Nat.not_lt.mpr ha)
  refine ⟨?_, ?_, fun q => ?_⟩
  · cases e : B.get? a with
    | none => rfl
    | some o => obtain ⟨o', e', _⟩ := R.base _ _ e; exact absurd e' (no _)
  · cases e : σ a with
    | none => rfl
    | some o => obtain ⟨o', e', _⟩ := (R.st _ _ e).get; exact absurd e' (no _)
  · rcases R.ownat a q with rfl | ⟨v, o, e, _⟩
    · obtain ⟨mv, ⟨o, _, _, e, _⟩, _⟩ := R.loc; exact no _ e
    · exact no _ e
theorem src_list {target iter : Expr} {K : List PV → (St → Prop) → St → Prop} (h : E C n A env own m σ iter fun p σ1 => ∃ a ds, p = .ref a ∧ σ1 a = some (.list ds) ∧ K ds (fun σ' => σ' a = some (.list ds)) σ1) : Src C n A env own m σ target iter K := fun B s F R => by
  refine wpAny_mono (h B s F R) ?_ fun _ _ x => x
  refine EPost.elim fun p σ1 h1 tk1 v V1 K1 R1 hrest => ?_
  obtain ⟨a, ds, rfl, e, q⟩ := hrest
  (first | obtain rfl := V1.ref_eq | obtain rfl := V1.blt_eq | obtain rfl := V1.typ_eq | obtain rfl := V1.bool_eq | cases V1)
  obtain ⟨vs, p, hvs⟩ := R1.st _ _ e
  refine wpAny_pyIter_list p.isList ⟨_, tk1, σ1, ds, _, _, [h1.objs.size], rfl, K1.trans (.of (push_keep _ _)), R1.keeps (push_keep _ _), iter_list target h1.objs.size a ds, ?_, ⟨_, rfl⟩, fun b hb => ?_, q⟩
  · exact ⟨_, Heap.get?_push_size _ rfl, rfl, rfl⟩
  · rw [List.mem_singleton] at hb; subst hb; exact newAdr (s := { s with heap := h1, toks := tk1 }) R1 _ (Nat.le_refl _)
theorem src_tuple {target iter : Expr} {K : List PV → (St → Prop) → St → Prop} (h : E C n A env own m σ iter fun p σ1 => ∃ ds, p = .tup ds ∧ K ds (fun _ => True) σ1) : Src C n A env own m σ target iter K := fun B s F R => by
  refine wpAny_mono (h B s F R) ?_ fun _ _ x => x
  refine EPost.elim fun p σ1 h1 tk1 v V1 K1 R1 hrest => ?_
  obtain ⟨ds, rfl, q⟩ := hrest
  obtain ⟨a, vs, rfl, ht, hvs⟩ := eq_listNil V1
  have k := TK.of (push_keep h1 { cls := .type "tuple_iterator", data := .fields #[.ref a, .int 0 0] })
  refine wpAny_pyIter_tuple ht ⟨_, tk1, σ1, ds, _, _, [h1.objs.size], rfl, K1.trans k, R1.keeps (push_keep _ _), iter_tuple target h1.objs.size a vs ds, ?_, ⟨_, rfl⟩, fun b hb => ?_, q⟩
  · exact ⟨⟨_, Heap.get?_push_size _ rfl, rfl, rfl⟩, k _ _ ht, hvs.mono k⟩
  · rw [List.mem_singleton] at hb; subst hb; exact newAdr (s := { s with heap := h1, toks := tk1 }) R1 _ (Nat.le_refl _)
/-- the value of a call of a type on one argument, step by step -/
theorem typ_call {e : Expr} {np pos : Pos} {x : Str} {T : String} {G : PV → St → Prop} {Q : Value → Shared → Prop} (F : Fine C n B A env) (R : Rep C B env own s.heap m σ)
    (hf : E C n A env own m σ (.Name x np) fun p σ1 => p = .typ T ∧ E C n A env own m σ1 e G)
    (k : ∀ v d σ2 h tk, TK s.heap h → V h v d → Rep C B env own h m σ2 → G d σ2 → wpAny C.M A (call (.type T) [v]) Q NoE { s with heap := h, toks := tk })
    (he : starEach (e :: []) env = (false, eval e env) :: starEach [] env := by rfl) : wpAny C.M A (eval (.Call (.Name x np) [e] [] pos) env) Q NoE s := by
  refine wpAny_Call_ofName (wpAny_mono (hf B s F R) ?_ fun _ _ x => x)
  refine EPost.elim fun p σ1 h1 tk1 v V1 K1 R1 hrest => ?_
  obtain ⟨rfl, h2⟩ := hrest
  (first | obtain rfl := V1.ref_eq | obtain rfl := V1.blt_eq | obtain rfl := V1.typ_eq | obtain rfl := V1.bool_eq | cases V1)
  refine PyProof.Rows.callWith_type1 (wpAny_mono (Es_cons (pos := pos) (he := he) (Q := fun ds σ3 => ∃ d, ds = [d] ∧ G d σ3) (h2.mono fun d σ2 q => Es_nil ⟨d, rfl, q⟩) B _ F R1) ?_ fun _ _ x => x) he rfl
  refine LPost.elim fun ds σ2 h2 tk2 vals V2 K2 R2 hrest => ?_
  obtain ⟨d, rfl, q⟩ := hrest
  cases V2 with
  | cons a r => cases r; exact k _ d σ2 h2 tk2 (K1.trans K2) a R2 q
theorem src_range {target e : Expr} {np pos : Pos} {x : Str} {K : List PV → (St → Prop) → St → Prop} (h : E C n A env own m σ (.Name x np) fun p σ1 => p = .typ "range" ∧ E C n A env own m σ1 e fun d σ2 => ∃ k : Nat, d = .int k ∧ k ≤ 1000 ∧ K (upTo k) (fun _ => True) σ2)
    (he : starEach (e :: []) env = (false, eval e env) :: starEach [] env := by rfl) : Src C n A env own m σ target (.Call (.Name x np) [e] [] pos) K := fun B s F R => by
  refine typ_call F R h (fun v d σ2 h2 tk2 K2 V2 R2 q => ?_) he
  obtain ⟨k, rfl, hk, q⟩ := q
  (first | obtain rfl := V2.ref_eq | obtain rfl := V2.blt_eq | obtain rfl := V2.typ_eq | obtain rfl := V2.bool_eq | cases V2)
  rename_i t
  refine PySem.call_range_1 ?_
  have kk := push_keep h2 { cls := .type "range", data := .fields #[.int 0 tk2, .int k t, .int 1 (tk2 + 1)] }
  have R3 := R2.keeps kk
  refine wpAny_pyIter_range (IsRange.new h2 0 k 1 tk2 t (tk2 + 1)) (small_one (by omega) (by omega) (by omega) (by omega)) ?_
  refine ⟨_, _, σ2, _, _, _, [_], rfl, K2.trans (.of fun b o q => push_keep _ _ b o (kk b o q)), R3.keeps (push_keep _ _), iter_range target _ k, ?_, ⟨_, rfl⟩, fun b hb => ?_, q⟩
  · rw [rangeSize_nat]
    have := Heap.get?_push_size (h2.push { cls := .type "range", data := .fields #[.int 0 tk2, .int k t, .int 1 (tk2 + 1)] }) (o := { cls := .type "range_iterator", data := .fields #[rawInt 0, rawInt (((k : Int) - 0).toNat : Int), rawInt 1] }) rfl
    have e : (((k : Int) - 0).toNat : Int) = (k : Int) - ((0 : Nat) : Int) := by omega
    rw [e] at this ⊢
    exact this
  · rw [List.mem_singleton] at hb; subst hb
    exact newAdr (s := { s with heap := h2.push _, toks := tk2 }) R3 _ (Nat.le_refl _)
theorem src_enum {elts : List Expr} {k0 : Nat} {p0 : Pos} {e : Expr} {np pos : Pos} {x : Str} {K : List PV → (St → Prop) → St → Prop} (h : E C n A env own m σ (.Name x np) fun p σ1 => p = .typ "enumerate" ∧ E C n A env own m σ1 e fun d σ2 => ∃ a ds, d = .ref a ∧ σ2 a = some (.list ds) ∧ K (numbered ds) (fun σ' => σ' a = some (.list ds)) σ2)
    (he : starEach (e :: []) env = (false, eval e env) :: starEach [] env := by rfl) : Src C n A env own m σ (.Tuple elts k0 p0) (.Call (.Name x np) [e] [] pos) K := fun B s F R => by
  refine typ_call F R h (fun v d σ2 h2 tk2 K2 V2 R2 q => ?_) he
  obtain ⟨a, ds, rfl, e1, q⟩ := q
  (first | obtain rfl := V2.ref_eq | obtain rfl := V2.blt_eq | obtain rfl := V2.typ_eq | obtain rfl := V2.bool_eq | cases V2)
  obtain ⟨vs, p, hvs⟩ := R2.st _ _ e1
  refine call_enumerate_list p.isList fun h' hE hI hsz hk => ?_
  have R3 := R2.keeps hk
  refine wpAny_pyIter_enum hE ?_
  refine ⟨_, _, σ2, _, _, _, [_, _], rfl, K2.trans (.of hk), R3, iter_enum elts k0 p0 _ _ a (Nat.succ_ne_self _) ds, ⟨⟨_, hE⟩, hI⟩, ⟨_, rfl⟩, fun b hb => ?_, q⟩
  refine newAdr (s := { s with heap := h2, toks := tk2 }) R2 _ ?_
  simp only [List.mem_cons, List.mem_nil_iff, or_false] at hb
  rcases hb with rfl | rfl
  · exact Nat.le_succ _
  · exact Nat.le_refl _
end
end

section
set_option maxRecDepth 100000
open PySem PySem.W PyProof.Rows PySem.Calls PySem.SeqAt
section
variable {C : Cx} {n : Nat} {A : Around} {env : Env} {own : List Addr} {m : Loc} {σ : St} {B : Heap} {s : Shared}

/-! ## while -/
theorem S_while {test : Expr} {body : List Stmt} {pos : Pos} {Qn : Loc → St → Prop} {Qr : PV → St → Prop} (I : Nat → Loc → St → Prop) (k₀ : Nat) (h0 : I k₀ m σ)
    (step : ∀ k m' σ', I k m' σ' → ∃ m0 : Loc, (∀ x d, m0.get x = some d → m'.get x = some d) ∧ T C n A env own m0 σ' test fun b σ2 => if b = true then S C n A env own m0 σ2 body (fun m3 σ3 => ∃ j, j < k ∧ I j m3 σ3) Qr else Qn m0 σ2) : S1 C n A env own m σ (.While test body [] pos) Qn Qr := fun B s F R => by
  refine wpAny_While (codeAny_whileLoop (fun k s' => ∃ h' tk' m' σ', s' = { s with heap := h', toks := tk' } ∧ TK s.heap h' ∧ Rep C B env own h' m' σ' ∧ I k m' σ') ?_ k₀ ⟨s.heap, s.toks, m, σ, rfl, .refl _, R, h0⟩)
  rintro k _ ⟨h1, tk1, m1, σ1, rfl, K1, R1, hI⟩
  obtain ⟨m0, hm0, st⟩ := step k m1 σ1 hI
  refine wpAny_mono (st B { s with heap := h1, toks := tk1 } F (R1.weaken hm0)) ?_ fun _ _ x => x.elim
  refine BPost.elim fun σ2 h2 tk2 b K2 R2 q => ?_
  cases b with
  | true =>
    simp only [if_true] at q ⊢
    refine wpAny_mono (q B { s with heap := h2, toks := tk2 } F R2) ?_ fun _ _ x => x.elim
    refine FPost.elim fun h3 tk3 f K3 r => ?_
    cases f with
    | next => obtain ⟨m3, σ3, R3, j, hj, q⟩ := r; exact ⟨j, hj, h3, tk3, m3, σ3, rfl, K1.trans (K2.trans K3), R3, q⟩
    | ret v => obtain ⟨d, m3, σ3, V3, R3, q⟩ := r; exact ⟨h3, tk3, rfl, K1.trans (K2.trans K3), d, m3, σ3, V3, R3, q⟩
    | brk => exact r.elim
    | cont => exact r.elim
  | false =>
    simp only [Bool.false_eq_true, if_false] at q ⊢
    exact wpAny_pure ⟨h2, tk2, rfl, K1.trans K2, m0, σ2, R2, q⟩

/-! ## list comprehensions -/
theorem codeAny_comp {elt target iter : Expr} {ifs : List Expr} {scope : Scope} {pos : Pos} {it acc : Value} {cenv : Env} {R : Result → Shared → Prop} (I : Nat → Shared → Prop)
    (turn : ∀ n s, I n s → wpAny C.M A (pyNext it) (fun r s₁ => match r with
      | none => R (.ok .next) s₁
      | some v => wpAny C.M A (letOwnedTupleGo target it v) (fun _ s₂ => wpAny C.M A (assign target cenv v) (fun _ s₂ =>
          wpAny C.M A (forIn ifs true fun c r => if r = true then do let ok ← isTrue c cenv (eval c cenv); pure (ForInStep.yield ok) else pure (ForInStep.yield r)) (fun ok s₃ =>
            if ok = true then wpAny C.M A (eval elt cenv) (fun x s₄ =>
              wpAny C.M A (call (.builtin "list.append") [acc, x]) (fun _ s₅ => ∃ m, m < n ∧ I m s₅) NoE s₄) NoE s₃
            else ∃ m, m < n ∧ I m s₃) NoE s₂) NoE s₂) NoE s₁) NoE s)
    (n : Nat) (h : I n s) :
    codeAny C.M A (.compLoop (.ListComp elt [⟨target, iter, ifs, 0⟩] scope pos) 0 it acc cenv) R s := by
  refine codeAny_loop rfl I (fun n s hI => ?_) n h
  show wpAny _ A ((compTurn (.ListComp elt [⟨target, iter, ifs, 0⟩] scope pos) 0 it acc cenv).onRaise (fun x => do noteFrame x cenv; theTreesLotGoes x)) _ _ s
  refine wpAny_noted ?_
  rw [compTurn_list]
  refine wpAny_bind (wpAny_standAt (wpAny_bind (wpAny_mono (turn n s hI) (fun r s₁ h₁ => ?_) fun _ _ h' => h'.elim)))
  cases r with
  | none => exact wpAny_pure h₁
  | some v =>
    refine wpAny_bind (wpAny_mono h₁ (fun _ s₂ h₂ => ?_) fun _ _ x => x.elim)
    refine wpAny_bind (wpAny_mono h₂ (fun _ s₂ h₂ => wpAny_bind (wpAny_mono h₂ (fun ok s₃ h₃ => ?_) fun _ _ h' => h'.elim)) fun _ _ h' => h'.elim)
    cases ok with
    | false => exact wpAny_pure ⟨rfl, h₃⟩
    | true =>
      exact wpAny_bind (wpAny_bind (wpAny_mono h₃ (fun x s₄ h₄ => wpAny_bind (wpAny_mono h₄ (fun _ s₅ h₅ => wpAny_pure (wpAny_pure ⟨rfl, h₅⟩)) fun _ _ h' => h'.elim)) fun _ _ h' => h'.elim))

/-- the tests of a comprehension -/
noncomputable def Ifs (C : Cx) (n : Nat) (A : Around) (env : Env) (own : List Addr) (m : Loc) (σ : St) (ifs : List Expr) (Q : Bool → St → Prop) : Prop :=
  ∀ B s, Fine C n B A env → Rep C B env own s.heap m σ → wpAny C.M A (forIn ifs true fun c r => if r = true then do let ok ← isTrue c env (eval c env); pure (ForInStep.yield ok) else pure (ForInStep.yield r)) (BPost C B env own m Q s) NoE s
theorem Ifs_nil {Q : Bool → St → Prop} (q : Q true σ) : Ifs C n A env own m σ [] Q := fun B s F R => wpAny_tests_nil ⟨σ, s.heap, s.toks, rfl, .refl _, R, q⟩
theorem Ifs_one {c : Expr} {Q : Bool → St → Prop} (h : T C n A env own m σ c Q) : Ifs C n A env own m σ [c] Q := fun B s F R => wpAny_tests_one (h B s F R)

/-- what a block sees of the frame around it -/
noncomputable def Capt (env cenv : Env) (m mc : Loc) : Prop := ∀ x d, mc.get x = some d → m.get x = some d ∧ env.kindOf x = some .cell ∧ cenv.kindOf x = some .cell ∧ cenv.cells.lookup x = env.cells.lookup x

theorem Rep.back' {h h' : Heap} {σ' : St} {B' : Heap} (R : Rep C B env own h m σ) (kB : Kept B B') (hown : ∀ a ∈ own, ∀ o, h.get? a = some o → B'.get? a = some o) (hcell : ∀ a v, h.IsCell a v → B'.IsCell a v) (k : TK h h') (R' : RepS C B' h' σ') : Rep C B env own h' m σ' := by
  obtain ⟨mv, n, vars⟩ := R.loc
  have nsB : B'.Ns env.locals mv := n.at' fun o e => hown _ R.ownL o e
  have cellk : ∀ a v, h.IsCell a v → h'.IsCell a v := fun a v q => R'.base.cell (hcell a v q)
  exact {
    toRepS := R'.rebase kB R.gB
    fn := R.fn
    loc := ⟨mv, R'.base.ns nsB, fun x d e => (vars x d e).mono k cellk⟩
    ownL := R.ownL
    ownsep := fun a q => ⟨(R.ownsep a q).1, by
      cases hs : σ' a with
      | none => rfl
      | some x =>
        have hB := R'.sep a x hs
        have : ∃ o, h.get? a = some o := by
          rcases R.ownat a q with rfl | ⟨v, o, e, _⟩
          · obtain ⟨o, _, _, e, _⟩ := n; exact ⟨o, e⟩
          · exact ⟨o, e⟩
        obtain ⟨o, e⟩ := this
        rw [hown a q o e] at hB; cases hB⟩
    ownat := fun a q => (R.ownat a q).imp id fun ⟨v, c⟩ => ⟨v, cellk a v c⟩ }

/-- the accumulator: a list that is the comprehension's own -/
theorem append_own {D : Addr} {vs : List Value} {v : Value} {Q : Value → Shared → Prop} {X : Value → Shared → Prop} (p : PList s.heap D vs) (hz : vs.length ≤ 1000) (h : ∀ h', PList h' D (vs ++ [v]) → Heap.SameBut D s.heap h' → Q .none { s with heap := h' }) :
    wpAny C.M A (call (.builtin "list.append") [.ref D, v]) Q X s := by
  have p0 := p
  obtain ⟨n0, p1⟩ := p
  refine wpAny_call_entry slot_list_append p0.isList.typeIs entry_list_append ?_ (args_list_append _ _)
  show wpAny _ _ (updateSeq D (·.push v) >>= fun _ => ret .none) _ _ s
  refine wpAny_bind (wpAny_updateSeq p1 rfl (wpAny_pure ⟨.none, rfl, ?_⟩) (hz := by simp [sizeLine_eq]; omega) (_hz' := by simp [sizeLine_eq]; omega))
  exact h _ (plist_turn p0 (by simp)) (Heap.SameBut.update ..)

theorem capture {cenv : Env} {own' : List Addr} {B' h h' : Heap} {mc : Loc} {σ' : St} (R : Rep C B env own h m σ) (cp : Capt env cenv m mc) (hcell : ∀ a v, h.IsCell a v → B'.IsCell a v) (k : TK h h') (R' : Rep C B' cenv own' h' [] σ') : Rep C B' cenv own' h' mc σ' := by
  have L : ∃ mv, h'.Ns cenv.locals mv ∧ ∀ x d, mc.get x = some d → VarAt cenv h' mv x d := by
    obtain ⟨mv, ns, _⟩ := R'.loc
    refine ⟨mv, ns, fun x d e => ?_⟩
    obtain ⟨e1, e2, e3, e4⟩ := cp x d e
    obtain ⟨_, _, vars⟩ := R.loc
    cases vars x d e1 with
    | loc a _ _ => rw [e2] at a; cases a
    | cell a b q r => exact .cell e3 (e4.trans b) (R'.base.cell (hcell _ _ q)) (r.mono k)
  exact { R' with loc := L }

/-- the invariant of a comprehension, and its turn -/
noncomputable def CompJ (C : Cx) (n : Nat) (A : Around) (env : Env) (m : Loc) (scope : Scope) (cl : List (Str × Addr)) (mc : Loc) (target elt : Expr) (ifs : List Expr) (K : List PV → St → Prop) (ds : List PV) (ok : St → Prop) (σ2 : St) : Prop :=
  ds.length ≤ 900 ∧ ∃ I : Nat → List PV → St → Prop, I 0 [] σ2 ∧ (∀ i acc σ', I i acc σ' → ok σ') ∧
    (∀ L i acc σ' d, ds[i]? = some d → I i acc σ' → ∃ mt, Tgt (compEnvC scope cl L env) [L] target d mc mt ∧
      Ifs C n A (compEnvC scope cl L env) [L] mt σ' ifs fun b σ3 => if b = true then E C n A (compEnvC scope cl L env) [L] mt σ3 elt fun x σ4 => I (i + 1) (acc ++ [x]) σ4 else I (i + 1) acc σ3) ∧
    (∀ acc σ', I ds.length acc σ' → K acc σ')

noncomputable def CmpI (C : Cx) (Bc : Heap) (cenv : Env) (L : Addr) (h1 : Heap) (s : Shared) (len : Nat) (ist : Nat → Heap → Prop) (adr : List Addr) (J : Nat → List PV → St → Prop) (k : Nat) (s' : Shared) : Prop :=
  ∃ i h' tk' acc vs σ', k = len - i ∧ i ≤ len ∧ s' = { s with heap := h', toks := tk' } ∧ TK h1 h' ∧ Rep C Bc cenv [L] h' [] σ' ∧ ist i h' ∧
      (∀ a ∈ adr, σ' a = none) ∧ PList h' h1.objs.size vs ∧ VS h' vs acc ∧ acc.length ≤ i ∧ σ' h1.objs.size = none ∧ J i acc σ'
theorem CmpI.elim {Bc : Heap} {cenv : Env} {L : Addr} {h1 : Heap} {len : Nat} {ist : Nat → Heap → Prop} {adr : List Addr} {J : Nat → List PV → St → Prop} {P : Nat → Shared → Prop}
    (k : ∀ (i : Nat) (h' : Heap) (tk' : Nat) (acc : List PV) (vs : List Value) (σ' : St), i ≤ len → TK h1 h' → Rep C Bc cenv [L] h' [] σ' → ist i h' → (∀ a ∈ adr, σ' a = none) → PList h' h1.objs.size vs → VS h' vs acc → acc.length ≤ i → σ' h1.objs.size = none → J i acc σ' → P (len - i) { s with heap := h', toks := tk' }) :
    ∀ j s', CmpI C Bc cenv L h1 s len ist adr J j s' → P j s' := by
  rintro j _ ⟨i, h', tk', acc, vs, σ', rfl, hle, rfl, K', R', ii, ha, hp, hvs, hacc, hσD, hJ⟩; exact k i h' tk' acc vs σ' hle K' R' ii ha hp hvs hacc hσD hJ

set_option maxHeartbeats 1000000 in
theorem comp_core {target iter elt : Expr} {ifs : List Expr} {scope : Scope} {pos : Pos} {cl : List (Str × Addr)} {mc : Loc} {K : List PV → St → Prop} {use : Option (Value → Sem Unit)} {Q : Value → Shared → Prop} (F : Fine C n B A env) (R : Rep C B env own s.heap m σ)
    (hclos : closureFor scope env = pure cl) (hcell : ∀ y ∈ scope.names, y.2 ≠ .cell) (hkind : scope.kind = .function) (hnames : ∀ y ∈ scope.names, y.2 = .local → scope.names.lookup y.1 = some .local)
    (cp : ∀ L, Capt env (compEnvC scope cl L env) m mc)
    (h : Src C n A env own m σ target iter (CompJ C n A env m scope cl mc target elt ifs K))
    (fin : ∀ D L h' tk acc σ', TK s.heap h' → Rep C B env own h' m (σ'.set D (.list acc)) → σ' D = none → L ∉ own → B.get? L = none → σ'.set D (.list acc) L = none → (∃ mv, h'.Ns L mv) → K acc σ' →
      compPost C.M A NoE use Q (.ref D) L (.ok .next) { s with heap := h', toks := tk })
    (hs : ∀ x, foldedSetIterable iter env x = pure x := by intro _; rfl) :
    wpAny C.M A (comprehension (.ListComp elt [⟨target, iter, ifs, 0⟩] scope pos) scope env (firstIterPos [⟨target, iter, ifs, 0⟩] pos) (newList []) false (eval iter env) use) Q NoE s := by
  refine wpAny_comprehension_free rfl hs hclos hkind hnames (wpAny_mono (h B s F R) (fun x s1 h1 => wpAny_mono h1 ?_ fun _ _ x => x) fun _ _ x => x)
  rintro it _ ⟨h1, tk1, σ1, ds, ok, ist, adr, rfl, K1, R1, IT, i0, ⟨I, rfl⟩, hadr, hlen, J, J0, hok, step, done⟩
  refine wpAny_newObj_type (wpAny_newFunctionEnv hcell (by intro y hy; simp at hy) (fun h3 hns3 hsb3 => ?_) hkind)
  dsimp only at hns3 hsb3 ⊢
  generalize hH2 : h1.push { cls := .type "list", dict := none, data := .seq ([] : List Value).toArray } = H2 at hns3 hsb3 ⊢
  have hC : H2.objs.size = h1.objs.size + 1 := by rw [← hH2, Heap.size_push]
  have hDC : h1.objs.size ≠ H2.objs.size := by rw [hC]; exact Nat.ne_of_lt (Nat.lt_succ_self _)
  have up2 : ∀ b o, h1.get? b = some o → H2.get? b = some o := fun b o e => hH2 ▸ Heap.get?_push_of_some _ e
  have up : ∀ b o, h1.get? b = some o → h3.get? b = some o := fun b o e => hsb3.extBut b o (by rw [hC]; exact Nat.ne_of_lt (Nat.lt_succ_of_lt (Heap.lt_size e))) (Heap.get?_push_of_some _ (up2 b o e))
  have hD3 : PList h3 h1.objs.size [] := ⟨0, hsb3.extBut _ _ hDC (Heap.get?_push_of_some _ (hH2 ▸ Heap.get?_push_size _ rfl))⟩
  -- the base of the block: all but the store, the iterator
  let Bc := hid h1 fun a => σ1 a ≠ none ∨ a ∈ adr
  have inBc : ∀ b o, h1.get? b = some o → σ1 b = none → b ∉ adr → Bc.get? b = some o := fun b o e e1 e2 => hid_get e (by simp [e1, e2])
  have kB : Kept B Bc := fun b o e => by
    obtain ⟨o', e', sm⟩ := R1.base b o e
    refine ⟨o', inBc b o' e' ?_ fun q => ?_, sm⟩
    · cases z : σ1 b with
      | none => rfl
      | some x => have := R1.sep b x z; rw [e] at this; cases this
    · have := (hadr b q).1; rw [e] at this; cases this
  have hown : ∀ a ∈ own, ∀ o, h1.get? a = some o → Bc.get? a = some o := fun a ha o e => inBc a o e (R1.ownsep a ha).2 fun q => (hadr a q).2.2 ha
  have hcellB : ∀ a v, h1.IsCell a v → Bc.IsCell a v := fun a v ⟨o, e, d⟩ => by
    refine ⟨o, inBc a o e ?_ fun q => IT.noCell i0 a q v ⟨o, e, d⟩, d⟩
    cases z : σ1 a with
    | none => rfl
    | some x => obtain ⟨ob, e', nc⟩ := (R1.st a x z).get; rw [e] at e'; cases e'; exact absurd d (nc _)
  have gBc : Kept C.G Bc := R1.gB.trans kB
  have fresh : ∀ a, h1.objs.size ≤ a → Bc.get? a = none ∧ σ1 a = none ∧ a ∉ adr := fun a ha => by
    have no : ∀ o, h1.get? a ≠ some o := fun o e => absurd (Heap.lt_size e) (Nat.not_lt.mpr ha)
    refine ⟨?_, ?_, fun q => ?_⟩
    · cases e : Bc.get? a with
      | none => rfl
      | some o => exact absurd (hid_of e).1 (no _)
    · cases e : σ1 a with
      | none => rfl
      | some o => obtain ⟨o', e', _⟩ := (R1.st _ _ e).get; exact absurd e' (no _)
    · obtain ⟨o, e, _⟩ := IT.has 0 h1 i0 a q; exact no _ e
  have hLsz : h1.objs.size ≤ H2.objs.size := by rw [hC]; exact Nat.le_succ _
  have Rc : Rep C Bc (compEnvC scope cl H2.objs.size env) [H2.objs.size] h3 [] σ1 := {
    ground := fun b o e => up b o (R1.ground b o e)
    gB := gBc
    base := hid_sub.trans (.of up)
    st := fun a o e => (R1.st a o e).mono (.of up) fun ob q => up _ _ q
    sep := fun a o e => hid_none (.inl (by rw [e]; simp))
    sys := R1.sys
    fn := by show scope.kind = _; exact hkind
    loc := ⟨_, hns3, fun x d e => by simp [Loc.get] at e⟩
    ownL := .head _
    ownsep := fun a ha => by rw [List.mem_singleton] at ha; subst ha; exact ⟨(fresh _ hLsz).1, (fresh _ hLsz).2.1⟩
    ownat := fun a ha => .inl (List.mem_singleton.mp ha) }
  have Fc : Fine C n Bc A (compEnvC scope cl H2.objs.size env) := by
    obtain ⟨r, l, hl, hf⟩ := F
    refine ⟨r, l, hl, fun e he => .inl ?_⟩
    rcases hf e he with q | ⟨q1, q2, q3⟩
    · exact q.mono kB
    · obtain ⟨mv, ⟨o, es, ep, e1, e2, _⟩, _⟩ := R1.loc
      exact ⟨q1, env.locals, o, es, ep, q2, q3, hown _ R1.ownL o e1, e2⟩
  have hh := F.1.1
  have i3 : ist 0 h3 := IT.frame 0 h1 h3 i0 (.of up) fun a ha o e => up a o e
  have loop : codeAny C.M A (.compLoop (.ListComp elt [⟨target, iter, ifs, 0⟩] scope pos) 0 (.ref I) (.ref h1.objs.size) (compEnvC scope cl H2.objs.size env)) (compPost C.M A NoE use Q (.ref h1.objs.size) H2.objs.size) { s with heap := h3, toks := tk1 + ([] : List (Str × Value)).length } := by
    refine codeAny_comp (C := C) (CmpI C Bc (compEnvC scope cl H2.objs.size env) H2.objs.size h1 s ds.length ist adr J) ?_ (ds.length - 0)
      ⟨0, h3, _, [], [], σ1, rfl, Nat.zero_le _, rfl, .of up, Rc, i3, fun a ha => (hadr a ha).2.1, hD3, .nil, Nat.le_refl _, (fresh _ (Nat.le_refl _)).2.1, J0⟩
    refine CmpI.elim fun i h' tk' acc vs σ' hle K' R' ii ha hp hvs hacc hσD hJ => ?_
    have haB : ∀ a ∈ adr, Bc.get? a = none ∧ σ' a = none ∧ a ∉ [H2.objs.size] := fun a q => ⟨hid_none (.inr q), ha a q, fun z => by
      rw [List.mem_singleton] at z; subst z; exact (fresh _ hLsz).2.2 q⟩
    have hDadr : h1.objs.size ∉ adr := (fresh _ (Nat.le_refl _)).2.2
    by_cases hlt : i < ds.length
    · have hd : ds[i]? = some ds[i] := by simp [hlt]
      refine wpAny_mono (IT.next A Bc { s with heap := h', toks := tk' } σ' i _ NoE (fun v s2 => wpAny C.M A (assign target (compEnvC scope cl H2.objs.size env) v) (fun _ s₂ =>
          wpAny C.M A (forIn ifs true fun c r => if r = true then do let ok ← isTrue c (compEnvC scope cl H2.objs.size env) (eval c (compEnvC scope cl H2.objs.size env)); pure (ForInStep.yield ok) else pure (ForInStep.yield r)) (fun ok s₃ =>
            if ok = true then wpAny C.M A (eval elt (compEnvC scope cl H2.objs.size env)) (fun x s₄ =>
              wpAny C.M A (call (.builtin "list.append") [.ref h1.objs.size, x]) (fun _ s₅ => ∃ m, m < ds.length - i ∧ CmpI C Bc (compEnvC scope cl H2.objs.size env) H2.objs.size h1 s ds.length ist adr J m s₅) NoE s₄) NoE s₃
            else ∃ m, m < ds.length - i ∧ CmpI C Bc (compEnvC scope cl H2.objs.size env) H2.objs.size h1 s ds.length ist adr J m s₃) NoE s₂) NoE s2) hh R'.toRepS (hok _ _ _ hJ) ii hd ?_) ?_ fun _ _ x => x
      · intro v h4 tk4 V4 i4 off4
        have K4 := IT.tkOff ii off4
        have R4 := R'.off off4 haB (IT.noCell ii) K4
        have p4 : PList h4 h1.objs.size vs := let ⟨n0, e⟩ := hp; ⟨n0, off4 _ _ hDadr e⟩
        obtain ⟨mt, tg, turn⟩ := step H2.objs.size i acc σ' _ hd hJ
        have R4c := capture R1 (cp _) hcellB (K'.trans K4) R4
        have kM := R4c.kept_max
        have inM : ∀ a o, h4.get? a = some o → σ' a = none → a ∉ [H2.objs.size] → (maxB h4 σ' [H2.objs.size]).get? a = some o := fun a o e e1 e2 => hid_get e (by simp only [e1, ne_eq, not_true_eq_false, false_or]; exact e2)
        have hDno : h1.objs.size ∉ [H2.objs.size] := fun q => hDC (List.mem_singleton.mp q)
        have keepM : ∀ hx, Kept (maxB h4 σ' [H2.objs.size]) hx → ist (i + 1) h4 → TK h4 hx → ist (i + 1) hx ∧ PList hx h1.objs.size vs := fun hx k hi hk => by
          refine ⟨IT.frame _ _ _ hi hk fun a haa o e => ?_, ?_⟩
          · obtain ⟨o', e', sm⟩ := k a o (inM a o e (haB a haa).2.1 (haB a haa).2.2)
            obtain ⟨o2, e2, cf, _⟩ := IT.has _ _ hi a haa
            rw [e] at e2; cases e2
            rw [sm.exact cf] at e'; exact e'
          · obtain ⟨n0, e⟩ := p4
            obtain ⟨o', e', sm⟩ := k _ _ (inM _ _ e hσD hDno)
            rw [sm.exact (by simp)] at e'
            exact ⟨n0, e'⟩
        have sepM : ∀ {hx : Heap} {σx : St} {mx : Loc}, Rep C (maxB h4 σ' [H2.objs.size]) (compEnvC scope cl H2.objs.size env) [H2.objs.size] hx mx σx → (∀ a ∈ adr, σx a = none) ∧ σx h1.objs.size = none := fun {hx σx mx} Rx => by
          constructor
          · intro a haa
            cases z : σx a with
            | none => rfl
            | some o =>
              obtain ⟨o2, e2, _⟩ := IT.has _ _ i4 a haa
              have := Rx.sep a o z
              rw [inM a o2 e2 (haB a haa).2.1 (haB a haa).2.2] at this; cases this
          · cases z : σx h1.objs.size with
            | none => rfl
            | some o =>
              obtain ⟨n0, e⟩ := p4
              have := Rx.sep _ o z
              rw [inM _ _ e hσD hDno] at this; cases this
        have FM := Fc.mono kM (Nat.le_refl _)
        refine assign_tgt (s := { s with heap := h4, toks := tk4 }) hh tg R4c.max V4 fun h5 tk5 K5 R5 => ?_
        refine wpAny_mono (turn _ { s with heap := h5, toks := tk5 } FM R5) ?_ fun _ _ x => x
        refine BPost.elim fun σ6 h6 tk6 b K6 R6 q => ?_
        have K46 := K5.trans K6
        cases b with
        | false =>
          simp only [Bool.false_eq_true, if_false] at q ⊢
          obtain ⟨i6, p6⟩ := keepM h6 R6.base i4 K46
          obtain ⟨s1, s2⟩ := sepM R6
          exact ⟨ds.length - (i + 1), by omega, i + 1, h6, tk6, acc, vs, σ6, rfl, hlt, rfl, K'.trans (K4.trans K46), (R6.rebase kM R4c.gB).weaken (fun x d e => by simp [Loc.get] at e), i6, s1, p6, (hvs.mono K4).mono K46, by omega, s2, q⟩
        | true =>
          simp only [if_true] at q ⊢
          refine wpAny_mono (q _ { s with heap := h6, toks := tk6 } FM R6) ?_ fun _ _ x => x
          refine EPost.elim fun d σ7 h7 tk7 u V7 K7 R7 q7 => ?_
          have K47 := K46.trans K7
          obtain ⟨i7, p7⟩ := keepM h7 R7.base i4 K47
          obtain ⟨s1, s2⟩ := sepM R7
          have hvl := hvs.length
          refine append_own (s := { s with heap := h7, toks := tk7 }) p7 (by omega) fun h8 p8 hs8 => ?_
          have off8 : SameOff [h1.objs.size] h7 h8 := sameOff_of hs8
          have K8 : TK h7 h8 := fun a items t => by
            have hne : a ≠ h1.objs.size := by
              rintro rfl
              obtain ⟨n0, e⟩ := p7; obtain ⟨o', e', c', _⟩ := t
              rw [e] at e'; cases e'; simp at c'
            obtain ⟨o, e, r⟩ := t; exact ⟨o, (hs8.2 a hne).trans e, r⟩
          have R8 := ((R7.rebase kM R4c.gB).weaken (m' := []) (fun x d e => by simp [Loc.get] at e)).off off8 (fun a haa => by
            rw [List.mem_singleton] at haa; subst haa
            exact ⟨(fresh _ (Nat.le_refl _)).1, s2, hDno⟩) (fun a haa v c => by
            rw [List.mem_singleton] at haa; subst haa
            obtain ⟨n0, e⟩ := p7; obtain ⟨o', e', d'⟩ := c
            rw [e] at e'; cases e'; cases d') K8
          have i8 : ist (i + 1) h8 := IT.frame _ _ _ i7 K8 fun a haa o e => off8 a o (fun z => hDadr (by rw [List.mem_singleton] at z; rw [← z]; exact haa)) e
          exact ⟨ds.length - (i + 1), by omega, i + 1, h8, tk7, acc ++ [d], vs ++ [u], σ7, rfl, hlt, rfl, K'.trans (K4.trans (K47.trans K8)), R8, i8, s1, p8, (((hvs.mono K4).mono K47).mono K8).append (.one (V7.mono K8)), by simp; omega, s2, q7⟩
      · rintro r s1 ⟨v, rfl, q⟩; exact q
    · have hi : i = ds.length := by omega
      subst hi
      refine wpAny_mono (IT.stop A Bc { s with heap := h', toks := tk' } σ' NoE (fun s1 => compPost C.M A NoE use Q (.ref h1.objs.size) H2.objs.size (.ok .next) s1) hh R'.toRepS (hok _ _ _ hJ) ii ?_) ?_ fun _ _ x => x
      · intro h4 tk4 off4
        have K4 := IT.tkOff ii off4
        have R4 := R'.off off4 haB (IT.noCell ii) K4
        have p4 : PList h4 h1.objs.size vs := let ⟨n0, e⟩ := hp; ⟨n0, off4 _ _ hDadr e⟩
        have hDs : (h1.objs.size == sysModules) = false := R1.toRepS.freshSys
        have R5 : RepS C Bc h4 (σ'.set h1.objs.size (.list acc)) := {
          R4.toRepS with
          st := fun a o e => by
            by_cases z : a = h1.objs.size
            · subst z; rw [St.set_self] at e; cases e; exact ⟨vs, p4, hvs.mono K4⟩
            · rw [St.set_ne _ _ z] at e; exact R4.st a o e
          sep := fun a o e => by
            by_cases z : a = h1.objs.size
            · subst z; exact (fresh _ (Nat.le_refl _)).1
            · rw [St.set_ne _ _ z] at e; exact R4.sep a o e
          sys := fun a o e => by
            by_cases z : a = h1.objs.size
            · subst z; exact hDs
            · rw [St.set_ne _ _ z] at e; exact R4.sys a o e }
        have KK := K'.trans K4
        have RR := R1.back' kB hown hcellB KK R5
        have nL := newAdr (s := { s with heap := h1, toks := tk1 }) R1 _ hLsz
        refine fin h1.objs.size H2.objs.size h4 tk4 acc σ' (K1.trans KK) RR hσD nL.2.2 nL.1 ?_ (let ⟨mv, ns, _⟩ := R4.loc; ⟨mv, ns⟩) (done _ _ hJ)
        rw [St.set_ne _ _ hDC.symm]
        exact (R4.ownsep _ (.head _)).2
      · rintro r s1 ⟨rfl, q⟩; exact q
  exact codeAny_compStart_list loop (IT.self A { s with heap := h3, toks := tk1 + ([] : List (Str × Value)).length } 0 _ _ i3 loop)
end
end

section
set_option maxRecDepth 100000
open PySem PySem.W PyProof.Rows PySem.Calls PySem.SeqAt
section
variable {C : Cx} {n : Nat} {A : Around} {env : Env} {own : List Addr} {m : Loc} {σ : St} {B : Heap} {s : Shared}

theorem off_ns {h h' : Heap} {L : Addr} {mv : Str → Option Value} (R : Rep C B env own h m σ) (ns : h.Ns L mv) (hL : L ∉ own) (hB : B.get? L = none) (hσ : σ L = none) (hs : Heap.SameBut L h h') : TK h h' ∧ Rep C B env own h' m σ := by
  have k : TK h h' := fun a items t => by
    have hne : a ≠ L := by rintro rfl; exact ns_not_tuple ns t
    obtain ⟨o, e, r⟩ := t; exact ⟨o, (hs.2 a hne).trans e, r⟩
  refine ⟨k, R.off (sameOff_of hs) (fun a ha => ?_) (fun a ha v c => ?_) k⟩
  · rw [List.mem_singleton] at ha; subst ha; exact ⟨hB, hσ, hL⟩
  · rw [List.mem_singleton] at ha; subst ha; exact ns_not_cell ns c

theorem E_comp {target iter elt : Expr} {ifs : List Expr} {scope : Scope} {pos : Pos} {cl : List (Str × Addr)} {mc : Loc} {Q : PV → St → Prop}
    (hclos : closureFor scope env = pure cl) (hcell : ∀ y ∈ scope.names, y.2 ≠ .cell) (hkind : scope.kind = .function) (hnames : ∀ y ∈ scope.names, y.2 = .local → scope.names.lookup y.1 = some .local)
    (cp : ∀ L, Capt env (compEnvC scope cl L env) m mc)
    (h : Src C n A env own m σ target iter (CompJ C n A env m scope cl mc target elt ifs fun acc σ' => ∀ a, σ' a = none → Q (.ref a) (σ'.set a (.list acc))))
    (hs : ∀ x, foldedSetIterable iter env x = pure x := by intro _; rfl) : E C n A env own m σ (.ListComp elt [⟨target, iter, ifs, 0⟩] scope pos) Q := fun B s F R => by
  rw [eval_ListComp]
  refine comp_core (use := none) F R hclos hcell hkind hnames cp h (fun D L h' tk acc σ' K RR hD hL hB hσ ns q => ?_) hs
  obtain ⟨mv, ns⟩ := ns
  refine ⟨mv, ns, fun h2 hs2 => ?_⟩
  obtain ⟨k, R2⟩ := off_ns RR ns hL hB hσ hs2
  exact ⟨.ref D, _, h2, tk, rfl, .ref D, K.trans k, R2, q D hD⟩
theorem S_assign_comp {target iter elt : Expr} {ifs : List Expr} {scope : Scope} {y : Str} {py pos spos : Pos} {cl : List (Str × Addr)} {mc : Loc} {Qn : Loc → St → Prop} {Qr : PV → St → Prop} (P : Place env own y)
    (hclos : closureFor scope env = pure cl) (hcell : ∀ y ∈ scope.names, y.2 ≠ .cell) (hkind : scope.kind = .function) (hnames : ∀ y ∈ scope.names, y.2 = .local → scope.names.lookup y.1 = some .local)
    (cp : ∀ L, Capt env (compEnvC scope cl L env) m mc)
    (h : Src C n A env own m σ target iter (CompJ C n A env m scope cl mc target elt ifs fun acc σ' => ∀ a, σ' a = none → Qn (m.set y (.ref a)) (σ'.set a (.list acc))))
    (hsw : swapsWith (.ListComp elt [⟨target, iter, ifs, 0⟩] scope pos) (some (.Name y py)) spos.line env = pure true := by rfl)
    (hs : ∀ x, foldedSetIterable iter env x = pure x := by intro _; rfl) : S1 C n A env own m σ (.Assign [.Name y py] (.ListComp elt [⟨target, iter, ifs, 0⟩] scope pos) spos) Qn Qr := fun B s F R => by
  rw [exec_Assign_Name_used _ _ _ _ hsw]
  refine wpAny_bind (wpAny_standAt (wpAny_bind ?_))
  show wpAny _ A (do let _ ← comprehension (.ListComp elt [⟨target, iter, ifs, 0⟩] scope pos) scope env _ (newList []) false (eval iter env) (some (assign (.Name y py) env))) _ _ s
  refine wpAny_bind (wpAny_mono (comp_core (use := some (assign (.Name y py) env)) (Q := fun _ s' => FPost C B env own Qn Qr s .next s') F R hclos hcell hkind hnames cp h (fun D L h' tk acc σ' K RR hD hL hB hσ ns q => ?_) hs) (fun _ s' hq => wpAny_pure (wpAny_pure hq)) fun _ _ e => e)
  obtain ⟨mv, ns⟩ := ns
  show wpAny _ A (assign (.Name y py) env (.ref D)) _ _ _
  refine wpAny_assign_Name (store_at (s := { s with heap := h', toks := tk }) P RR.max (.ref D) fun h2 tk2 K2 R2 => ?_)
  have nsM : (maxB h' (σ'.set D (.list acc)) own).Ns L mv := ns.at' fun o e => hid_get e (by simp [hσ, hL])
  have ns2 := R2.base.ns nsM
  refine ⟨mv, ns2, fun h3 hs3 => ?_⟩
  have R3 := R2.rebase RR.kept_max RR.gB
  obtain ⟨k, R4⟩ := off_ns R3 ns2 hL hB hσ hs3
  exact ⟨h3, tk2, rfl, K.trans (K2.trans k), _, _, R4, q D hD⟩
end
end

section
set_option maxRecDepth 100000
open PySem PySem.W PyProof.Rows PySem.Calls PySem.SeqAt
section
variable {C : Cx} {n : Nat} {A : Around} {env : Env} {own : List Addr} {m : Loc} {σ : St} {B : Heap} {s : Shared}

/-! ## signs, texts of ints -/
theorem E_neg {x : Expr} {pos : Pos} {Q : PV → St → Prop} (h : E C n A env own m σ x fun d σ1 => ∃ i, d = .int i ∧ Q (.int (-i)) σ1) : E C n A env own m σ (.UnaryOp .USub x pos) Q := fun B s F R => by
  refine wpAny_UnaryOp (wpAny_mono (h B s F R) ?_ fun _ _ x => x)
  refine EPost.elim fun d σ1 h1 tk1 v V1 K1 R1 hrest => ?_
  obtain ⟨i, rfl, q⟩ := hrest
  (first | obtain rfl := V1.ref_eq | obtain rfl := V1.blt_eq | obtain rfl := V1.typ_eq | obtain rfl := V1.bool_eq | cases V1)
  exact PyProof.Rows.neg_int ⟨_, σ1, h1, _, rfl, .int _ _, K1, R1, q⟩
theorem op_str {i : Int} {v : Value} {Q : PV → St → Prop} (hi : i.natAbs.log2 < 1920) (hv : V s.heap v (.int i)) (q : Q (.str (toString i)) σ) : Op C n A σ s (call (.type "str") [v]) Q := .of fun B F R => by
  cases hv
  exact PySem.P.str_of_int hi ⟨_, σ, s.heap, _, rfl, .str _ _, R, q⟩
theorem op_min {a b : Int} {v w : Value} {Q : PV → St → Prop} (hv : V s.heap v (.int a)) (hw : V s.heap w (.int b)) (q : Q (.int (min a b)) σ) : Op C n A σ s (call (.builtin "min") [v, w]) Q := .of fun B F R => by
  cases hv; cases hw
  refine min_two_ints F.1.1 fun h' tk k => ?_
  refine ⟨_, σ, h', tk, rfl, ?_, R.keeps k, q⟩
  split
  · rw [Int.min_eq_right (by omega)]; exact .int _ _
  · rw [Int.min_eq_left (by omega)]; exact .int _ _

/-! ## copies -/
theorem op_list_list {a : Addr} {ds : List PV} {v : Value} {Q : PV → St → Prop} (e : σ a = some (.list ds)) (hz : ds.length ≤ 1000) (hv : V s.heap v (.ref a)) (q : ∀ c, σ c = none → Q (.ref c) (σ.set c (.list ds))) : Op C n A σ s (call (.type "list") [v]) Q := .of fun B F R => by
  cases hv
  obtain ⟨vs, ⟨k, p⟩, hvs⟩ := R.st _ _ e
  refine call_list_seq a (.inl rfl) p rfl rfl (fun h' c' k ho => ?_) (by simp [hvs.length, sizeLine_eq]; omega)
  have R1 := R.keeps k
  refine ⟨_, _, h', _, rfl, .ref _, { R1 with
      st := fun b o z => ?_
      sep := fun b o z => ?_
      sys := fun b o z => ?_ }, q _ R.fresh⟩
  · by_cases w : b = s.heap.objs.size
    · subst w; rw [St.set_self] at z; cases z; exact ⟨vs, ⟨_, ho⟩, hvs.mono (.of k)⟩
    · rw [St.set_ne _ _ w] at z; exact R1.st b o z
  · by_cases w : b = s.heap.objs.size
    · subst w; exact R.freshB
    · rw [St.set_ne _ _ w] at z; exact R1.sep b o z
  · by_cases w : b = s.heap.objs.size
    · subst w; exact R.freshSys
    · rw [St.set_ne _ _ w] at z; exact R1.sys b o z
theorem op_tuple_list {a : Addr} {ds : List PV} {v : Value} {Q : PV → St → Prop} (e : σ a = some (.list ds)) (hz : ds.length ≤ 1000) (hv : V s.heap v (.ref a)) (q : Q (.tup ds) σ) : Op C n A σ s (call (.type "tuple") [v]) Q := .of fun B F R => by
  cases hv
  obtain ⟨vs, p, hvs⟩ := R.st _ _ e
  refine call_tuple_list p.isList (fun h' k => ?_) (by simp [hvs.length, sizeLine_eq]; omega)
  have kk := k
  refine ⟨_, σ, _, s.toks, rfl, .tup ⟨_, Heap.get?_push_size _ rfl, rfl, 0, rfl⟩ (hvs.mono (.of fun b o e => push_keep _ _ b o (k b o e))), (R.keeps k).keeps (push_keep _ _), q⟩

theorem op_tuple_tuple {ds : List PV} {v : Value} {Q : PV → St → Prop} (hv : V s.heap v (.tup ds)) (q : Q (.tup ds) σ) : Op C n A σ s (call (.type "tuple") [v]) Q := .of fun B F R => by
  obtain ⟨a, vs, rfl, ht, hvs⟩ := eq_listNil hv
  exact call_tuple_same ht ⟨_, σ, s.heap, s.toks, rfl, .tup ht hvs, R, q⟩

/-! ## tuples joined -/
theorem o_add_tuple {xs ys : List PV} {Q : PV → St → Prop} (hz : xs.length + ys.length ≤ 1000) (q : Q (.tup (xs ++ ys)) σ) : O2 C n A (binaryOp .Add) (.tup xs) (.tup ys) σ Q := fun s v w hv hw => .of fun B F R => by
  obtain ⟨t, vs, rfl, ht, hvs⟩ := eq_listNil hv
  obtain ⟨b, ws, rfl, hb, hws⟩ := eq_listNil hw
  obtain ⟨⟨cls, dd, data, sl⟩, ho, hc, n, hd⟩ := id ht
  obtain ⟨⟨cls2, dd2, data2, sl2⟩, ho2, hc2, n2, hd2⟩ := id hb
  simp only at hc hd hc2 hd2
  subst hc hd hc2 hd2
  have l1 := hvs.length
  have l2 := hws.length
  have e : vs.toArray ++ ws.toArray = (vs ++ ws).toArray := by simp
  by_cases hv0 : vs = []
  · subst hv0
    have : xs = [] := by cases xs with | nil => rfl | cons _ _ => simp at l1
    subst this
    exact concat_meets ⟨_, ho, rfl⟩ ⟨_, ho2, rfl⟩ noFill_tuple_add seq_tuple_add PySem.F.slot_tuple_add PySem.F.entry_tuple_add (PySem.F.args_tuple_add_2 _ _)
      (tuple_addW0 t b [].toArray ws.toArray n n2 dd dd2 sl sl2 (by simp)) ⟨ho, ho2, _, σ, s.heap, s.toks, rfl, .tup hb hws, R, q⟩
  · by_cases hw0 : ws = []
    · subst hw0
      have : ys = [] := by cases ys with | nil => rfl | cons _ _ => simp at l2
      subst this
      rw [List.append_nil] at q
      exact concat_meets ⟨_, ho, rfl⟩ ⟨_, ho2, rfl⟩ noFill_tuple_add seq_tuple_add PySem.F.slot_tuple_add PySem.F.entry_tuple_add (PySem.F.args_tuple_add_2 _ _)
        (tuple_addW1 t b vs.toArray [].toArray n n2 dd dd2 sl sl2 (by simpa using hv0) (by simp)) ⟨ho, ho2, _, σ, s.heap, s.toks, rfl, .tup ht hvs, R, q⟩
    · refine concat_meets ⟨_, ho, rfl⟩ ⟨_, ho2, rfl⟩ noFill_tuple_add seq_tuple_add PySem.F.slot_tuple_add PySem.F.entry_tuple_add (PySem.F.args_tuple_add_2 _ _)
        (tuple_addW2 t b vs.toArray ws.toArray n n2 dd dd2 sl sl2 (by simpa using hv0) (by simpa using hw0) (by rw [List.size_toArray, List.size_toArray, sizeLine_eq]; omega)) ⟨ho, ho2, ?_⟩
      rw [e]
      have k := TK.of (push_keep s.heap { cls := .type "tuple", data := .seq (vs ++ ws).toArray })
      exact ⟨_, σ, _, s.toks, rfl, .tup ⟨_, Heap.get?_push_size _ rfl, rfl, 0, rfl⟩ ((hvs.mono k).append (hws.mono k)), R.keeps (push_keep _ _), q⟩

/-! ## get, remove -/
theorem op_get {a : Addr} {ds : Loc} {k : Str} {dflt : PV} {v w : Value} {Q : PV → St → Prop} (e : σ a = some (.dict ds)) (hv : V s.heap v (.str k)) (hw : V s.heap w dflt) (q : Q ((Loc.get ds k).getD dflt) σ) : Op C n A σ s (call (.builtin "dict.get") [.ref a, v, w]) Q := .of fun B F R => by
  cases hv
  obtain ⟨kvs, p, hkv⟩ := R.st _ _ e
  refine call_meetsIn PySem.F.slot_dict_get p.typeIs PySem.F.entry_dict_get (PySem.F.args_dict_get_3 _ _ _) (meets_dict_get_default (PySem.strKind C.prog C.w) (k := k) a (by simp [PySem.strKind, Value.isStrOf]) (R.sys _ _ e) w) ⟨_, p.mapOf, ?_⟩
  have := valueAt_kvs hkv k
  refine ⟨(Loc.get ds k).getD dflt, σ, s.heap, _, rfl, ?_, R, q⟩
  split at this
  · rename_i h; obtain ⟨u, e1, e2⟩ := this; rw [h, e1]; exact e2
  · rename_i h; rw [h, this]; exact hw
theorem strs_at : ∀ {vs : List Value} {xs : List Str}, StrsAre vs xs → ∀ (i : Nat) (x : Str), xs[i]? = some x → ∃ t, vs[i]? = some (.str x t)
  | _, _, .nil, i, x, h => by simp at h
  | _, _, .cons y t r, 0, x, h => by simp at h; subst h; exact ⟨t, rfl⟩
  | _, _, .cons y t r, i + 1, x, h => strs_at r i x (by simpa using h)
theorem VS.eraseIdx {h : Heap} : ∀ {vs : List Value} {ds : List PV} (j : Nat), VS h vs ds → VS h (vs.eraseIdx j) (ds.eraseIdx j)
  | _, _, _, .nil => .nil
  | _, _, 0, .cons a r => r
  | _, _, j + 1, .cons a r => .cons a (VS.eraseIdx j r)
theorem op_remove {a : Addr} {xs : List Str} {k : Str} {j : Nat} {v : Value} {Q : PV → St → Prop} (e : σ a = some (.list (xs.map .str))) (hz : xs.length ≤ 900) (hv : V s.heap v (.str k)) (hj : xs[j]? = some k) (hno : ∀ i, i < j → xs[i]? ≠ some k)
    (q : Q .none (σ.set a (.list ((xs.eraseIdx j).map .str)))) : Op C n A σ s (call (.builtin "list.remove") [.ref a, v]) Q := .of fun B F R => by
  cases hv
  obtain ⟨vs, p, hvs⟩ := R.st _ _ e
  have p0 := p
  obtain ⟨n0, p1⟩ := p
  have hl := hvs.length
  rw [List.length_map] at hl
  have ss := hvs.strs
  have lt : j < xs.length := (List.getElem?_eq_some_iff.mp hj).1
  refine call_meets PySem.F.slot_list_remove p0.isList.typeIs PySem.F.entry_list_remove (PySem.F.args_list_remove_2 _ _) (MeetsSeq.list_remove a vs.toArray n0 _ (isStrOf k) (fun y hy => ?_) j (by simp; omega) ?_ (fun i hi hlt => ?_) (by simp [sizeLine_eq]; omega)) ⟨p1, ?_⟩
  · obtain ⟨i, hi⟩ := List.getElem?_of_mem (List.mem_toArray.mp hy)
    have : i < xs.length := by have := (List.getElem?_eq_some_iff.mp hi).1; omega
    obtain ⟨t, e1⟩ := strs_at ss i xs[i] (by simp [this])
    rw [hi] at e1; cases e1
    exact eqGives_str _ _ _ _
  · obtain ⟨t, e1⟩ := strs_at ss j k hj
    have := (List.getElem?_eq_some_iff.mp e1)
    obtain ⟨h1, h2⟩ := this
    simp only [List.getElem_toArray, h2]
    simp [isStrOf]
  · have h3 : i < xs.length := by omega
    obtain ⟨t, e1⟩ := strs_at ss i xs[i] (by simp [h3])
    obtain ⟨h1, h2⟩ := (List.getElem?_eq_some_iff.mp e1)
    simp only [List.getElem_toArray, h2]
    have := hno i hlt
    rw [List.getElem?_eq_getElem h3] at this
    have ne : xs[i] ≠ k := fun z => this (by rw [z])
    simp [isStrOf, ne]
  · refine ⟨.none, _, _, s.toks, rfl, .none, R.turn (o' := .list ((xs.eraseIdx j).map .str)) e (Heap.SameBut.update ..) fun k => ⟨vs.eraseIdx j, plist_turn p0 (by simp [Array.eraseIdxIfInBounds]; intro h; omega), ?_⟩, q⟩
    have := (hvs.mono k).eraseIdx j
    rwa [show (xs.map PV.str).eraseIdx j = (xs.eraseIdx j).map PV.str by simp [List.eraseIdx_eq_take_drop_succ]] at this
end
end

section
set_option maxRecDepth 100000
open PySem PySem.W PyProof.Rows PySem.Calls PySem.SeqAt
section
variable {C : Cx} {n : Nat} {A : Around} {env : Env} {own : List Addr} {m : Loc} {σ : St} {B : Heap} {s : Shared}

theorem vs_ints : ∀ {h : Heap} {vs : List Value} {ns : List Int}, IntsAre vs ns → VS h vs (ns.map .int)
  | _, _, _, .nil => .nil
  | _, _, _, .cons k t r => .cons (.int k t) (vs_ints r)

/-- the argument's list, up to a place -/
theorem E_slice_ints {value : Expr} {k : Int} {k0 : Nat} {p0 p pos : Pos} {Q : PV → St → Prop}
    (h : E C n A env own m σ value fun d σ1 => ∃ a vs ns, d = .ref a ∧ C.G.IsList a vs.toArray ∧ IntsAre vs ns ∧ vs.length ≤ 1000 ∧ 0 ≤ k ∧ ∀ c, σ1 c = none → Q (.ref c) (σ1.set c (.list ((ns.take k.toNat).map .int))))
    (ht : ∀ o r, letTemporaryGo value o r = pure () := by intro _ _; rfl) : E C n A env own m σ (.Subscript value (.Slice none (some (.Constant (.int k) k0 p0)) none p) pos) Q := fun B s F R => by
  refine wpAny_Subscript_list_slice (wpAny_mono (h B s F R) ?_ fun _ _ x => x) ht
  refine EPost.elim fun d σ1 h1 tk1 v V1 K1 R1 hrest => ?_
  obtain ⟨a, vs, ns, rfl, hl, hi, hz, hk, q⟩ := hrest
  (first | obtain rfl := V1.ref_eq | obtain rfl := V1.blt_eq | obtain rfl := V1.typ_eq | obtain rfl := V1.bool_eq | cases V1)
  refine evalPart_none_step (evalPart_some_step (wpAny_Constant_int ?_))
  have hl' : h1.IsList a vs.toArray := let ⟨o, e, r⟩ := hl; ⟨o, R1.ground _ _ e, r⟩
  refine ⟨a, vs.toArray, none, some k, rfl, hl', by simp [sizeLine_eq]; omega, .none, .int _ _, ?_⟩
  have hi2 := slice_ints_uptoW hi hk
  have e1 : (h1.push { cls := .type "slice", data := .fields #[.none, .int k tk1, .none] }).objs.size = h1.objs.size + 1 := Heap.size_push ..
  have R2 := (R1.keeps (push_keep h1 { cls := .type "slice", data := .fields #[.none, .int k tk1, .none] }))
  have R3 := R2.alloc (ob := { cls := .type "list", data := .seq (slicePick vs.toArray none (some k) none) }) (o := .list ((ns.take k.toNat).map .int)) rfl ⟨(slicePick vs.toArray none (some k) none).toList, ⟨0, by rw [Array.toArray_toList]; exact Heap.get?_push_size _ rfl⟩, vs_ints hi2⟩
  rw [e1] at R3
  refine ⟨_, _, _, _, rfl, .ref _, ?_, R3, q _ ?_⟩
  · exact K1.trans ((TK.of (push_keep _ _)).trans (.of (push_keep _ _)))
  · have := R2.toRepS.fresh; rwa [e1] at this
theorem places15 : Builtin.Slice.sliceAdjust (some (1 : Int)) (some (5 : Int)) 1 (5 : Int) = (1, 5) := by decide
theorem getItem_tuple_15 {t sl : Addr} {v0 v1 v2 v3 v4 : Value} {u u' : Tok} {Q : Value → Shared → Prop} {X : Value → Shared → Prop} {M : Model} (ht : s.heap.IsTuple t #[v0, v1, v2, v3, v4]) (hs : s.heap.IsSliceOf sl (.int 1 u) (.int 5 u') .none)
    (h : Q (.ref s.heap.objs.size) { s with heap := s.heap.push { cls := .type "tuple", data := .seq #[v1, v2, v3, v4] } }) : wpAny C.M A (getItem (.ref t) (.ref sl)) Q X s := by
  obtain ⟨os, hos, hcs, hds⟩ := id hs
  have hTs : s.TypeIs (.ref sl) "slice" := ⟨os, hos, hcs⟩
  unfold getItem
  try with_reducible refine wpAny_holding ?_
  first | refine wpAny_bind (wpAny_pure ?_) | skip
  refine wpAny_bind (wpAny_sequenceKey (IsTup.typeIs ht) (by decide) ?_)
  refine wpAny_bind (wpAny_callSpecial?_slot (name := Str.ofString "__getitem__") (IsTup.typeIs ht) slot_tuple_getitem
    (wpAny_call_entry slot_tuple_getitem (IsTup.typeIs ht) entry_tuple_getitem ?_ (args_tuple_getitem _ _)))
  show wpAny _ _ (Builtin.Tuple.tupleItemsOf (.ref t) >>= _) _ _ s
  refine wpAny_bind (tupleItemsOf_ ht ?_)
  refine wpAny_bind (wpAny_typeOf hTs ?_)
  rw [if_pos (by decide)]
  unfold Builtin.Slice.sliceApplied Builtin.Slice.sliceFields
  refine wpAny_bind (wpAny_bind (wpAny_bind (wpAny_field hos hds (x := .int 1 u) rfl (wpAny_bind (wpAny_field hos hds (x := .int 5 u') rfl (wpAny_bind (wpAny_field hos hds (x := .none) rfl (wpAny_pure ?_))))))))
  refine wpAny_bind (slicePart_none ?_)
  show wpAny _ _ (if ((1 : Int) == 0) = true then _ else _) _ _ s
  rw [if_neg (by decide)]
  refine wpAny_bind (slicePart_int (wpAny_bind (slicePart_int (wpAny_bind (wpAny_pure ?_)))))
  show wpAny _ _ (match Builtin.Slice.sliceAdjust (some (1 : Int)) (some (5 : Int)) 1 (5 : Int) with | (lo, hi) => pure (lo, (1 : Int), Builtin.Slice.slicePlaces lo hi 1)) _ _ s
  rw [places15]
  show wpAny _ _ (pure ((1 : Int), (1 : Int), Builtin.Slice.slicePlaces 1 5 1)) _ _ s
  refine wpAny_pure ?_
  show wpAny _ _ (if ((1 : Int) == 0 && (1 : Int) == 1 && (Builtin.Slice.slicePlaces 1 5 1) == 5) = true then _ else _) _ _ s
  rw [if_neg (by decide)]
  first
    | exact wpAny_bind (m := Builtin.Tuple.tupleExact _) (wpAny_newObj_type (wpAny_pure ⟨_, rfl, wpAny_pure h⟩) (by show (4 : Nat) ≤ _; rw [sizeLine_eq]; omega))
    | exact wpAny_bind (m := Builtin.Tuple.tupleExact _) (wpAny_newObj_type (wpAny_bind (wpAny_pure (wpAny_pure ⟨_, rfl, wpAny_pure h⟩))) (by show (4 : Nat) ≤ _; rw [sizeLine_eq]; omega))
    | exact wpAny_bind (wpAny_bind (m := Builtin.Tuple.tupleExact _) (wpAny_newObj_type (wpAny_pure (wpAny_pure ⟨_, rfl, wpAny_pure h⟩)) (by show (4 : Nat) ≤ _; rw [sizeLine_eq]; omega)))
    | exact wpAny_bind (wpAny_bind (m := Builtin.Tuple.tupleExact _) (wpAny_newObj_type (wpAny_pure ⟨_, rfl, wpAny_pure h⟩) (by show (4 : Nat) ≤ _; rw [sizeLine_eq]; omega)))

theorem VS.five {h : Heap} {vs : List Value} {d0 d1 d2 d3 d4 : PV} (x : VS h vs [d0, d1, d2, d3, d4]) : ∃ v0 v1 v2 v3 v4, vs = [v0, v1, v2, v3, v4] ∧ VS h [v1, v2, v3, v4] [d1, d2, d3, d4] := by
  cases x with
  | cons _ r =>
    cases r with
    | cons a1 r => cases r with
      | cons a2 r => cases r with
        | cons a3 r => cases r with
          | cons a4 r => cases r; exact ⟨_, _, _, _, _, rfl, .cons a1 (.cons a2 (.cons a3 (.cons a4 .nil)))⟩
/-- five items, all but the first -/
theorem E_slice_tup {value : Expr} {k1 k2 : Nat} {p1 p2 p pos : Pos} {Q : PV → St → Prop}
    (h : E C n A env own m σ value fun d σ1 => ∃ d0 d1 d2 d3 d4, d = .tup [d0, d1, d2, d3, d4] ∧ Q (.tup [d1, d2, d3, d4]) σ1)
    (ht : ∀ o r, letTemporaryGo value o r = pure () := by intro _ _; rfl) : E C n A env own m σ (.Subscript value (.Slice (some (.Constant (.int 1) k1 p1)) (some (.Constant (.int 5) k2 p2)) none p) pos) Q := fun B s F R => by
  refine wpAny_Subscript_Slice (T := "tuple") slot_tuple_getitem.lookup (wpAny_mono (h B s F R) ?_ fun _ _ x => x) ht
  refine EPost.elim fun d σ1 h1 tk1 v V1 K1 R1 hrest => ?_
  obtain ⟨d0, d1, d2, d3, d4, rfl, q⟩ := hrest
  obtain ⟨a, vs, rfl, hl, hvs⟩ := eq_listNil V1
  refine wpAny_Slice (evalPart_some_step (wpAny_Constant_int (evalPart_some_step (wpAny_Constant_int (evalPart_none_step ?_)))))
  obtain ⟨v0, v1, v2, v3, v4, rfl, hvs'⟩ := VS.five hvs
  dsimp only
  generalize hob : ({ cls := .type "slice", data := .fields #[.int 1 tk1, .int 5 (tk1 + 1), .none] } : Obj) = ob
  generalize hH : h1.push ob = H
  have kH : ∀ b o, h1.get? b = some o → H.get? b = some o := by rw [← hH]; exact push_keep _ _
  have hl' : H.IsTuple a #[v0, v1, v2, v3, v4] := IsTup.keeps hl kH
  have hsl : H.IsSliceOf h1.objs.size (.int 1 tk1) (.int 5 (tk1 + 1)) .none := by rw [← hH, ← hob]; exact Heap.IsSliceOf.new ..
  refine ⟨IsTup.typeIs hl', getItem_tuple_15 (M := C.M) hl' hsl ?_⟩
  have k2 := push_keep H { cls := .type "tuple", data := .seq #[v1, v2, v3, v4] }
  have k3 : ∀ b o, h1.get? b = some o → (H.push { cls := .type "tuple", data := .seq #[v1, v2, v3, v4] }).get? b = some o := fun b o e => k2 _ _ (kH _ _ e)
  exact ⟨_, σ1, _, _, rfl, .tup ⟨_, Heap.get?_push_size _ rfl, rfl, 0, rfl⟩ (hvs'.mono (.of k3)), K1.trans (.of k3), R1.keeps k3, q⟩

/-! ## a dict of two -/
theorem E_dict2 {x y : Str} {k1 k2 : Nat} {p1 p2 pos : Pos} {e1 e2 : Expr} {Q : PV → St → Prop} (hne : x ≠ y)
    (h : ∀ a, σ a = none → E C n A env own m (σ.set a (.dict [])) e1 fun d1 σ1 => E C n A env own m σ1 e2 fun d2 σ2 => σ2 a = some (.dict []) ∧ Q (.ref a) (σ2.set a (.dict [(x, d1), (y, d2)]))) :
    E C n A env own m σ (.Dict [some (.Constant (.str x) k1 p1), some (.Constant (.str y) k2 p2)] [e1, e2] pos) Q := fun B s F R => by
  refine wpAny_Dict_walk (knd := PySem.strKind C.prog C.w) rfl rfl (by simp) (by simp) ?_
  have hf := R.toRepS.fresh
  have R1 := R.alloc (ob := { cls := .type "dict", data := .dict #[] }) (o := .dict []) rfl ⟨[], .new _, .nil⟩
  refine pairTrees_cons_walk (wpAny_Constant_str (wpAny_mono (h _ hf B _ F R1) ?_ fun _ _ x => x))
  refine EPost.elim fun d1 σ1 h1 tk1 v1 V1 K1 R1 q1 => ?_
  refine pairTrees_cons_walk (wpAny_Constant_str (wpAny_mono (q1 B _ F R1) ?_ fun _ _ x => x))
  refine EPost.elim fun d2 σ2 h2 tk2 v2 V2 K2 R2 hrest => ?_
  obtain ⟨e2, q2⟩ := hrest
  refine pairTrees_nil_walk ?_
  obtain ⟨kvs, p, hkv⟩ := R2.st _ _ e2
  cases hkv
  refine ⟨[(x, v1), (y, v2)], ⟨by simp [PySem.strKind, Value.isStrOf], rfl, by simp [PySem.strKind, Value.isStrOf], rfl, trivial⟩, p, fun h' hm hs => ?_⟩
  have hmg : merged [] [(x, v1), (y, v2)] = [(x, v1), (y, v2)] := by simp [merged, stored, hne]
  rw [hmg] at hm
  have k0 : TK s.heap h2 := (TK.of (push_keep _ _)).trans (K1.trans K2)
  have kk : TK h2 h' := fun b items t => by
    have := (R2.tuple_free t).1
    obtain ⟨o, z, r⟩ := t
    exact ⟨o, (hs.2 b fun w => by rw [w, e2] at this; cases this).trans z, r⟩
  exact ⟨.ref s.heap.objs.size, _, h', _, rfl, .ref _, k0.trans kk, R2.back kk ((R2.toRepS.max).turn (o' := .dict [(x, d1), (y, d2)]) e2 hs fun k => ⟨_, hm, .cons ((V1.mono K2).mono k) (.cons (V2.mono k) .nil)⟩), q2⟩

/-! ## sorted keys -/
theorem vs_strs : ∀ {h : Heap} {vs : List Value} {xs : List Str}, StrsAre vs xs → VS h vs (xs.map .str)
  | _, _, _, .nil => .nil
  | _, _, _, .cons k t r => .cons (.str k t) (vs_strs r)
theorem strs_of : ∀ (vs : List Value) (kvs : List (Str × Value)), vs.length = kvs.length → (∀ (i : Nat) (v : Value), vs[i]? = some v → ∃ k x, kvs[i]? = some (k, x) ∧ (PySem.strKind C.prog C.w).is k v = true) → StrsAre vs (kvs.map (·.1))
  | [], [], _, _ => .nil
  | v :: vs, (k, x) :: kvs, hl, h => by
    obtain ⟨k', x', e, hk⟩ := h 0 v rfl
    simp at e
    obtain ⟨rfl, rfl⟩ := e
    have : ∃ t, v = .str k t := by
      cases v <;> simp [PySem.strKind, Value.isStrOf] at hk
      exact ⟨_, by rw [hk]⟩
    obtain ⟨t, rfl⟩ := this
    exact .cons k t (strs_of vs kvs (by simpa using hl) fun i v hv => h (i + 1) v (by simpa using hv))
  | [], _ :: _, hl, _ => by simp at hl
  | _ :: _, [], hl, _ => by simp at hl
theorem op_sorted {a : Addr} {ds : Loc} {v : Value} {Q : PV → St → Prop} (e : σ a = some (.dict ds)) (hz : ds.length < 64) (hv : V s.heap v (.ref a)) (q : ∀ c ss, σ c = none → List.Perm ss (ds.map (·.1)) → Q (.ref c) (σ.set c (.list (ss.map .str)))) : Op C n A σ s (call (.builtin "sorted") [v]) Q := .of fun B F R => by
  cases hv
  obtain ⟨kvs, p, hkv⟩ := R.st _ _ e
  obtain ⟨ep, hat⟩ := p.dictAt
  have hlen := hkv.length
  refine call_function_entry kind_sorted plain_sorted entry_sorted (args_sorted1 _) ?_
  unfold Builtin.«sorted»
  refine wpAny_bind (m := checkCount "sorted" 1 1 _) (wpAny_pure ?_)
  refine wpAny_bind (PySem.W.kdu_collect (A := A.in1) (kdl_dict (knd := PySem.strKind C.prog C.w) (kvs := kvs) (ep := ep) (R.sys _ _ e)) (by exact F.1.1) hat (by rw [sizeLine_eq]; omega) fun h' tk acc hk hacc => ?_)
  have hl : acc.toList.length = kvs.length := by rw [Array.length_toList]; exact hacc.1
  refine wpAny_bind (wpAny_newList ?_ (by rw [sizeLine_eq]; omega))
  have hS : StrsAre acc.toList (ds.map (·.1)) := by
    rw [← hkv.keys]
    exact strs_of acc.toList kvs (by omega) fun i v hv => hacc.2 i v (by rw [← Array.getElem?_toList]; exact hv)
  have ho : (h'.push (seqObj "list" acc.toList.toArray 0)).get? h'.objs.size = some (seqObj "list" acc.toList.toArray 0) := Heap.get?_push_size _ rfl
  refine wpAny_bind (wpAny_holding (wpAny_call_entry slot_list_sort ⟨_, ho, rfl⟩ entry_list_sort (list_sort_treeK strKind_oneLt ho hS.keysOf (fun v₁ v₂ rest e => keyKind_strs (by rw [← e]; exact hS)) (by have := hlen; omega) fun st' a1 a2 => ⟨_, rfl, ?_⟩) (args_list_sort _)))
  obtain ⟨ss', b1, b2, b3⟩ := sorted_out_str hS a1 a2
  refine wpAny_pure ⟨_, rfl, ?_⟩
  obtain ⟨en, he⟩ := sortedHeap_at (out := (arrOf st').map (·.2)) ho
  have R1 := R.keeps hk
  have hpush : ∀ b o, s.heap.get? b = some o → (sortedHeap (h'.push (seqObj "list" acc.toList.toArray 0)) h'.objs.size acc.toList ((arrOf st').map (·.2))).get? b = some o := fun b o z => by
    have z' := hk _ _ z
    have lt := Heap.lt_size z'
    rw [sortedHeap_old (Nat.ne_of_lt lt) (by rw [Heap.size_push]; exact Nat.lt_succ_of_lt lt)]
    exact push_keep _ _ _ _ z'
  have R2 := R.keeps hpush
  have hfree := R1.fresh
  refine ⟨.ref h'.objs.size, _, _, tk, rfl, .ref _, { R2 with
      st := fun b o z => ?_
      sep := fun b o z => ?_
      sys := fun b o z => ?_ }, q _ ss' hfree b2⟩
  · by_cases w : b = h'.objs.size
    · subst w; rw [St.set_self] at z; cases z
      refine ⟨((arrOf st').map (·.2)).toList, ⟨en, ?_⟩, vs_strs b1⟩
      rw [Array.toArray_toList]; exact he
    · rw [St.set_ne _ _ w] at z; exact R2.st b o z
  · by_cases w : b = h'.objs.size
    · subst w; exact R1.freshB
    · rw [St.set_ne _ _ w] at z; exact R2.sep b o z
  · by_cases w : b = h'.objs.size
    · subst w; exact R1.freshSys
    · rw [St.set_ne _ _ w] at z; exact R2.sys b o z
end
end

section
set_option maxRecDepth 100000
open PySem PySem.W PyProof.Rows PySem.Calls PySem.SeqAt
/-- the texts first met -/
noncomputable def metStep (σ : List Str) (v : Str) : List Str := if σ.any (· == v) then σ else σ ++ [v]
noncomputable def met (xs : List Str) : List Str := xs.foldl metStep []
theorem met_snoc (xs : List Str) (v : Str) : met (xs ++ [v]) = metStep (met xs) v := by unfold met; rw [List.foldl_append]; rfl
theorem metStep_any (σ : List Str) (v k : Str) : (metStep σ v).any (· == k) = (σ.any (· == k) || decide (k = v)) := by
  unfold metStep
  by_cases h : σ.any (· == v) = true
  · rw [if_pos h]
    by_cases e : k = v
    · subst e; rw [h]; simp
    · simp [e]
  · rw [if_neg h, List.any_append]
    by_cases e : k = v
    · subst e; simp
    · have hb : (v == k) = false := by simpa [beq_iff_eq] using (fun h' : v = k => e h'.symm)
      simp [hb, e]
theorem metStep_length (σ : List Str) (v : Str) : (metStep σ v).length = if σ.any (· == v) then σ.length else σ.length + 1 := by
  unfold metStep; split <;> simp
theorem met_len_from (xs : List Str) : ∀ σ : List Str, (xs.foldl metStep σ).length ≤ σ.length + xs.length := by
  induction xs with
  | nil => intro σ; exact Nat.le_refl _
  | cons v r ih =>
    intro σ
    have h1 := ih (metStep σ v)
    have h2 : (metStep σ v).length ≤ σ.length + 1 := by rw [metStep_length]; split <;> omega
    simp only [List.foldl_cons, List.length_cons]
    omega
theorem met_len (xs : List Str) : (met xs).length ≤ xs.length := by
  have := met_len_from xs []
  simpa [met] using this
theorem strs_len {vs : List Value} {xs : List Str} (h : StrsAre vs xs) : vs.length = xs.length := by
  induction h with
  | nil => rfl
  | cons _ _ _ ih => simp [ih]

section
variable {prog : Program} {w : World} {A : Around} {R : Result → Shared → Prop} {I : Addr} {fp wr : List Addr} {G : Array GenState → Array GenState → Prop} {P : Nat → Value → Prop} {St : Nat → Shared → Prop}
theorem update_loop_strs {xs : List Str} (W : WalksS prog w A.in1 I fp wr G xs.length P St) (D : Addr) (hSf : D ∉ fp)
    (hval : ∀ i v, i < xs.length → P i v → ∃ t, v = .str (xs.getD i "") t) (hb : xs.length + 1 < scanBound) :
    ∀ (k i : Nat) (s : Shared), xs.length - i = k → i ≤ xs.length → St i s →
      s.heap.SetOf (PySem.strKind prog w) D (fun k' => (met (xs.take i)).any (· == k')) (met (xs.take i)).length →
      (∀ s', Moved (D :: wr) G s s' → s'.heap.SetOf (PySem.strKind prog w) D (fun k' => (met xs).any (· == k')) (met xs).length → R (.ok (.ret .none)) s') →
      codeAny (model prog w) A (.builtin "set.update.loop" ⟨[.ref D, .ref I], []⟩) R s := by
  have hSw : D ∉ wr := fun h => hSf (W.sub _ h)
  have hsub : ∀ b ∈ wr, b ∈ D :: wr := fun b hb => List.mem_cons_of_mem _ hb
  intro k
  induction k with
  | zero =>
    intro i s hk hi hst hS hR
    have hin : i = xs.length := by omega
    subst hin
    refine codeAny_builtin PyProof.Rows.F.entry_set_update_loop ?_
    rw [Around.under_plainId PyProof.Rows.F.plain_set_update_loop _]
    show wpAny _ A.in1 (pyNext (.ref I) >>= _) _ _ s
    refine wpAny_bind (W.done s _ _ hst fun s' hm => ?_)
    show wpAny _ A.in1 (ret Value.none) _ _ s'
    refine wpAny_pure (hR s' (hm.mono hsub) ?_)
    rw [List.take_length] at hS
    obtain ⟨o, es, ep, t, ho, rest⟩ := hS
    exact ⟨o, es, ep, t, hm.heap D _ hSw ho, rest⟩
  | succ k ih =>
    intro i s hk hi hst hS hR
    have hlt : i < xs.length := by omega
    refine codeAny_builtin PyProof.Rows.F.entry_set_update_loop ?_
    rw [Around.under_plainId PyProof.Rows.F.plain_set_update_loop _]
    show wpAny _ A.in1 (pyNext (.ref I) >>= _) _ _ s
    refine wpAny_bind (W.item i s _ _ hlt hst fun v s' hP hst' hm => ?_)
    obtain ⟨t, rfl⟩ := hval i v hlt hP
    have hS' : s'.heap.SetOf (PySem.strKind prog w) D (fun k' => (met (xs.take i)).any (· == k')) (met (xs.take i)).length := by
      obtain ⟨o, es, ep, tb, ho, rest⟩ := hS
      exact ⟨o, es, ep, tb, hm.heap D _ hSw ho, rest⟩
    show wpAny _ A.in1 (holding [Value.str (xs.getD i "") t] (setAdd D (.str (xs.getD i "") t)) >>= _) _ _ s'
    refine wpAny_bind (wpAny_holding ?_)
    unfold setAdd
    refine wpAny_holding ?_
    have hk : (PySem.strKind prog w).is (xs.getD i "") (.str (xs.getD i "") t) = true := by simp [PySem.strKind, Value.isStrOf]
    refine wpAny_bind ((PySem.strKind prog w).pyHash (k := xs.getD i "") hk ?_)
    have hroom : (met (xs.take i)).length + 1 < scanBound := by have := met_len (xs.take i); rw [List.length_take] at this; omega
    refine wpAny_setAddHashed_of (knd := PySem.strKind prog w) (s := { s' with toks := s'.toks + 1 }) hk rfl hS' hroom fun h' hsb hS2 => ?_
    have e1 : xs.take (i + 1) = xs.take i ++ [xs.getD i ""] := by
      rw [List.take_succ_eq_append_getElem hlt]; simp [hlt]
    have hSi : h'.SetOf (PySem.strKind prog w) D (fun k' => (met (xs.take (i + 1))).any (· == k')) (met (xs.take (i + 1))).length := by
      rw [e1, met_snoc]
      exact SetOf_congr hS2 (fun k' => (metStep_any _ _ _).symm) (metStep_length _ _).symm
    refine wpAny_pure ⟨plainId_quiet PyProof.Rows.F.plain_set_update_loop _, ih (i + 1) _ (by omega) hlt (W.frame _ s' _ _ hst' (Nat.le_succ _) fun b hb o e => ?_) hSi fun s'' hm'' hS'' => ?_⟩
    · rw [hsb.2 b (fun h : b = D => hSf (by rw [← h]; exact hb))]; exact e
    · refine hR s'' (Moved.trans W.gtrans ((hm.mono hsub).then_heap (Nat.le_succ _) fun b o hb e => ?_) hm'') hS''
      rw [hsb.2 b (fun h : b = D => hb (by rw [h]; exact List.mem_cons_self))]; exact e
end
section
variable {prog : Program} {w : World} {A : Around} {E : Value → Shared → Prop} {s : Shared}
open PySem.F in
set_option maxHeartbeats 3200000 in
theorem call_set_strs {l : Addr} {items : List Value} {xs : List Str} {Q : Value → Shared → Prop}
    (hh : A.handled = none) (hl : s.heap.IsList l items.toArray) (hi : StrsAre items xs) (hb : xs.length + 1 < scanBound)
    (h : ∀ (h' : Heap) (tk : Nat), h'.SetOf (PySem.strKind prog w) s.heap.objs.size (fun k' => (met xs).any (· == k')) (met xs).length →
      (∀ b o, b < s.heap.objs.size → s.heap.get? b = some o → h'.get? b = some o) → Q (.ref s.heap.objs.size) { s with heap := h', toks := tk }) :
    wpAny (model prog w) A (call (.type "set") [.ref l]) Q E s := by
  have hlen := strs_len hi
  obtain ⟨c, tl, hmro⟩ := PySem.F.called_set.mro
  have hmade := PySem.F.called_set.made
  have hsub := PySem.F.called_set.sub
  refine wpAny_call (codeAny_of_tree ?_)
  show wpAny _ _ (callAny (.type "set") _) _ _ _
  refine wpAny_pure ⟨Code.quiet_builtin _ (by decide +kernel), codeAny_builtin PySem.F.entry_type_call ?_⟩
  rw [Around.under_plain (weight_type_call_type "set" [.ref l] []) rfl]
  have h1 := PySem.F.called_set.notType
  have h2 := PySem.F.called_set.canCreate
  have hct := PySem.F.typeCall_set_1 (.ref l)
  repeat (any_goals (first | assumption | wp_step))
  refine codeAny_mono (code_set_new_1 (.ref l) (E := E) (Q₁ := fun obj s₁ => ∃ led : Bool, obj = .ref s.heap.objs.size ∧ s₁ = { s with heap := s.heap.push { cls := .type "set", dict := none, data := .set #[] 0 (.fresh 0 0 led) } }) fun led => ⟨led, rfl, rfl⟩) fun r s₁ hr => ?_
  cases r with
  | error e => exact hr
  | ok fl =>
    cases fl with
    | ret obj =>
      obtain ⟨led, rfl, rfl⟩ := hr
      have hS : (s.heap.push { cls := .type "set", dict := none, data := .set #[] 0 (.fresh 0 0 led) }).get? s.heap.objs.size = some { cls := .type "set", dict := none, data := .set #[] 0 (.fresh 0 0 led) } := Heap.get?_push_size _ rfl
      have hT : Shared.TypeIs { s with heap := s.heap.push { cls := .type "set", dict := none, data := .set #[] 0 (.fresh 0 0 led) } } (.ref s.heap.objs.size) "set" := ⟨_, hS, rfl⟩
      have hli := PySem.F.called_set.init.lookup
      have hbi := PySem.F.called_set.init.bind (.ref s.heap.objs.size)
      repeat (any_goals (first | assumption | wp_step))
      refine codeAny_mono (codeAny_call_builtin (R := wants (fun r s₂ => r = .none ∧ ∃ h' tk, s₂ = { s with heap := h', toks := tk } ∧
          h'.SetOf (PySem.strKind prog w) s.heap.objs.size (fun k' => (met xs).any (· == k')) (met xs).length ∧
          (∀ b o, b < s.heap.objs.size → s.heap.get? b = some o → h'.get? b = some o)) E) PySem.F.called_set.init.plain PySem.F.entry_set_init (check_set_init_1 hT ?_)) fun r₂ s₂ hr₂ => ?_
      · obtain ⟨ol, hol, hcl, nl, hdl⟩ := hl
        obtain ⟨ocls, odict, odata, oslots⟩ := ol
        simp only at hcl hdl
        subst hcl; subst hdl
        have hol' : (s.heap.push { cls := .type "set", dict := none, data := .set #[] 0 (.fresh 0 0 led) }).get? l = some { cls := .type "list", dict := odict, data := .seq items.toArray nl, slots := oslots } := Heap.get?_push_of_some _ hol
        have hsls := PySem.F.sub_list_set
        have hslf := PySem.F.sub_list_frozenset
        have hne : (Value.type "list" == Value.type "dict") = false := by decide
        have hl1 : (s.heap.push { cls := .type "set", dict := none, data := .set #[] 0 (.fresh 0 0 led) }).IsList l items.toArray := ⟨_, hol', rfl, nl, rfl⟩
        unfold Builtin.«set.__init__» noKeywords Builtin.Frozenset.updateFrom
        generalize hPI : pyIter = PI
        wp_walk
        subst hPI
        refine wpAny_pyIter_list hl1 ?_
        refine wpAny_bind (wpAny_runValue ?_)
        have hlS : l < s.heap.objs.size := Heap.lt_size hol
        have hh3 : A.in1.in1.in1.handled = none := by simp [hh]
        have hneI : l ≠ (s.heap.push { cls := .type "set", dict := none, data := .set #[] 0 (.fresh 0 0 led) }).objs.size := by
          rw [Heap.size_push]; exact Nat.ne_of_lt (Nat.lt_succ_of_lt hlS)
        have hSf : s.heap.objs.size ∉ [(s.heap.push { cls := .type "set", dict := none, data := .set #[] 0 (.fresh 0 0 led) }).objs.size, l] := by
          rw [Heap.size_push]; simp only [List.mem_cons, List.not_mem_nil, or_false, not_or]
          exact ⟨Nat.ne_of_lt (Nat.lt_succ_self _), Nat.ne_of_gt hlS⟩
        have hWn : items.toArray.size = xs.length := by simp [hlen]
        have W := (Walks.list (prog := prog) (w := w) hh3 (s.heap.push { cls := .type "set", dict := none, data := .set #[] 0 (.fresh 0 0 led) }).objs.size l hneI items.toArray).toS
        rw [hWn] at W
        refine update_loop_strs W s.heap.objs.size hSf (fun i v hlt hv => ?_) hb (xs.length - 0) 0 _ rfl (Nat.zero_le _)
          ⟨⟨_, Heap.get?_push_size _ rfl, rfl, rfl⟩, (hl1.push _)⟩ ?hS0 ?hR
        · have hx : xs[i]? = some (xs.getD i "") := by simp [hlt]
          obtain ⟨t, e⟩ := strs_at hi i _ hx
          have hv' : items[i]? = some v := by simpa using hv
          rw [hv'] at e
          exact ⟨t, by injection e⟩
        case hS0 =>
          have hget : ((s.heap.push { cls := .type "set", dict := none, data := .set #[] 0 (.fresh 0 0 led) }).push { cls := .type "list_iterator", data := .fields #[.ref l, .int 0 0] }).get? s.heap.objs.size
              = some { cls := .type "set", dict := none, data := .set #[] 0 (.fresh 0 0 led) } := Heap.get?_push_of_some _ hS
          exact SetOf_congr ((setObjOf_fresh (knd := PySem.strKind prog w) led).setOf hget (by unfold scanBound; omega)) (fun _ => rfl) rfl
        case hR =>
          intro s' hm hS'
          obtain ⟨h', g', d', tk', os'⟩ := s'
          have eg : g' = s.gens := hm.gens
          have ed : d' = s.drawn := hm.drawn
          have eo : os' = s.os := hm.os
          subst eg; subst ed; subst eo
          show wpAny _ _ _ _ _ _
          refine wpAny_pure ?_
          show wpAny _ _ (ret Value.none) _ _ _
          refine wpAny_pure ⟨rfl, h', tk', rfl, hS', fun b o hb e => ?_⟩
          have hb1 : b ≠ s.heap.objs.size := Nat.ne_of_lt hb
          have hb2 : b ≠ (s.heap.push { cls := .type "set", dict := none, data := .set #[] 0 (.fresh 0 0 led) }).objs.size := by
            rw [Heap.size_push]; exact Nat.ne_of_lt (Nat.lt_succ_of_lt hb)
          exact hm.heap b o (by simp only [List.mem_cons, List.not_mem_nil, or_false, not_or]; exact ⟨hb1, hb2⟩) (Heap.get?_push_of_some _ (Heap.get?_push_of_some _ e))
      · cases r₂ with
        | error e => exact hr₂
        | ok fl₂ =>
          cases fl₂ with
          | ret r =>
            obtain ⟨rfl, h', tk, rfl, hS', hk'⟩ := hr₂
            repeat (any_goals (first | assumption | wp_step))
            exact h _ _ hS' hk'
          | _ => exact hr₂.elim
    | _ => exact hr.elim
end
end

section
set_option maxRecDepth 100000
open PySem PySem.W PyProof.Rows PySem.Calls PySem.SeqAt
theorem entry_set_eq : entryFor table "set.__eq__" = some Builtin.«frozenset.__eq__» := entryFor_alias (id' := "frozenset.__eq__") (by kernel_rfl) rfl (by decide +kernel) (by kernel_rfl)
theorem sub_set_set : isSubtype (.type "set") (.type "set") = pure true := PySem.F.called_set.sub
theorem sub_set_frozenset : isSubtype (.type "set") (.type "frozenset") = pure false := by rw [isSubtype_type]; kernel_rfl
section
variable {prog : Program} {w : World} {A : Around} {E : Value → Shared → Prop} {s : Shared}
theorem subset_body {a b : Addr} {S T : Str → Bool} {P : Bool → Shared → Prop} {one : Str} {id : String} (ha : s.heap.SetOf (PySem.strKind prog w) a S 1) (hb : s.heap.SetOf (PySem.strKind prog w) b T 1) (h1 : S one = true) (h2 : T one = true)
    (h : P true s) : wpAny (model prog w) A (Builtin.Frozenset.subsetOf id a b) P E s := by
  obtain ⟨o, es, ep, t, ho, hex, hd, hel, hmem, hbnd, hf, hn⟩ := _root_.id ha
  obtain ⟨o2, es2, ep2, t2, ho2, hex2, hd2, hel2, hmem2, hbnd2, hf2, hn2⟩ := _root_.id hb
  obtain ⟨⟨eh, ev⟩, he, hk⟩ := (hmem one).mp h1
  have hes : es.toList = [(eh, ev)] := by
    have l : es.toList.length = 1 := by simpa using hn
    match hq : es.toList, l with
    | [x], _ => rw [hq] at he; simp at he; rw [he]
  have hes' : es = #[(eh, ev)] := by rw [← Array.toArray_toList (xs := es), hes]
  have hq : ∀ x : Value, x.scannable = true → wpAny (model prog w) A (Builtin.Frozenset.quietEq x) (fun r s' => r = true ∧ s' = s) E s := fun x hx => by
    cases x <;> first | exact wpAny_pure ⟨rfl, rfl⟩ | cases hx
  subst hes'
  have hsc : ev.scannable = true := (hel.head).2
  obtain ⟨x, t', rfl⟩ : ∃ x t', ev = .str x t' := by
    cases ev <;> simp [PySem.strKind, Value.isStrOf] at hk <;> exact ⟨_, _, rfl⟩
  have hx : x = one := by simpa [PySem.strKind, Value.isStrOf] using hk
  subst hx
  have heh : eh = (PySem.strKind prog w).hash x := by
    obtain ⟨⟨k, hk1, hk2⟩, _⟩ := hel.head
    have : x = k := by simpa [PySem.strKind, Value.isStrOf] using hk1
    rw [this]; exact hk2
  subst heh
  unfold Builtin.Frozenset.subsetOf Builtin.Frozenset.sizeOf
  refine wpAny_bind (wpAny_bind (wpAny_setEntries_of ho hd hf (wpAny_pure ?_)))
  refine wpAny_bind (wpAny_bind (wpAny_setEntries_of ho2 hd2 hf2 (wpAny_pure ?_)))
  rw [if_neg (by rw [hn, hn2]; omega)]
  refine wpAny_bind (wpAny_setEpoch_of ho hd hf ?_)
  unfold Builtin.Frozenset.walkUnseen
  refine wpAny_bind (wpAny_bind (wpAny_setEntries_of ho hd hf (wpAny_bind (wpAny_setEntries_of ho2 hd2 hf2 ?_))))
  refine wpAny_bind (wpAny_forIn_list _ (fun l b s' => (∀ e ∈ l, e.2.scannable = true) ∧ b.1 = none ∧ s' = s) _ ?_ ?_ _ _ ⟨?_, rfl, rfl⟩)
  · rintro ⟨k, y⟩ rest b s' ⟨hl, hb', rfl⟩
    refine wpAny_bind (wpAny_mono (hq y (hl _ (.head _))) ?_ fun _ _ e => e)
    rintro _ _ ⟨rfl, rfl⟩
    exact wpAny_pure ⟨fun e he => hl e (.tail _ he), rfl, rfl⟩
  · rintro ⟨b1, b2⟩ s' ⟨_, hb1, rfl⟩
    simp only at hb1
    subst hb1
    refine wpAny_pure ?_
    show wpAny _ _ (forIn [((PySem.strKind prog w).hash x, Value.str x t')] _ _ >>= _) _ _ _
    rw [List.forIn_cons]
    refine wpAny_bind (wpAny_bind (wpAny_bind (wpAny_holding (wpAny_setFind_of (k := x) hk hsc hb fun r hr => ?_))))
    rw [h2] at hr
    obtain ⟨j, rfl⟩ := Option.isSome_iff_exists.mp hr
    rw [if_neg (by simp)]
    unfold Builtin.Frozenset.unchanged
    refine wpAny_bind (wpAny_bind (wpAny_setEpoch_of ho hd hf ?_))
    rw [if_neg (by simp)]
    refine wpAny_pure (wpAny_pure ?_)
    show wpAny _ _ (forIn [] _ _) _ _ _
    rw [List.forIn_nil]
    exact wpAny_pure (wpAny_pure h)
  · intro e he
    rcases List.mem_append.mp he with q | q
    · exact (hel e q).2
    · exact (hel2 e q).2
theorem set_eq_body {a b : Addr} {S T : Str → Bool} {n : Nat} {P : Fin → Shared → Prop} {one : Str} (ha : s.heap.SetOf (PySem.strKind prog w) a S n) (hb : s.heap.SetOf (PySem.strKind prog w) b T 1) (h1 : S one = true) (h2 : T one = true)
    (h : P (.done (.ret (.bool (n == 1)))) s) : wpAny (model prog w) A (Builtin.«frozenset.__eq__» ⟨[.ref a, .ref b], []⟩) P E s := by
  obtain ⟨o, es, ep, t, ho, hex, hd, hel, hmem, hbnd, hf, hn⟩ := id ha
  obtain ⟨o2, es2, ep2, t2, ho2, hex2, hd2, hel2, hmem2, hbnd2, hf2, hn2⟩ := id hb
  have hT1 : s.TypeIs (.ref a) "set" := ⟨o, ho, hex.1⟩
  have hT2 : s.TypeIs (.ref b) "set" := ⟨o2, ho2, hex2.1⟩
  show wpAny _ A (Builtin.Frozenset.slot1 "__eq__" ⟨[.ref a, .ref b], []⟩ >>= _) P E s
  refine wpAny_bind (wpAny_bind (wpAny_bind (wpAny_pure (wpAny_pure ?_))))
  refine wpAny_pure (wpAny_bind ?_)
  show wpAny _ A (isInstance (.ref b) (.type "set") >>= _) _ _ _
  refine wpAny_bind (wpAny_isInstance hT2 sub_set_set (wpAny_pure ?_))
  rw [if_neg (by decide)]
  refine wpAny_bind (wpAny_pure (wpAny_bind (wpAny_pure ?_)))
  unfold Builtin.Frozenset.sizeOf
  refine wpAny_bind (wpAny_bind (wpAny_setEntries_of ho hd hf (wpAny_pure ?_)))
  refine wpAny_bind (wpAny_bind (wpAny_setEntries_of ho2 hd2 hf2 (wpAny_pure ?_)))
  rw [hn, hn2]
  dsimp only
  by_cases e : n = 1
  · subst e
    rw [if_neg (by decide)]
    refine wpAny_bind (wpAny_bind ?_)
    show wpAny _ A (isInstance (.ref a) (.type "frozenset") >>= _) _ _ _
    refine wpAny_bind (wpAny_isInstance hT1 sub_set_frozenset (wpAny_pure ?_))
    rw [if_neg (by decide)]
    exact subset_body ha hb h1 h2 (wpAny_pure h)
  · rw [if_pos (by simpa using e)]
    refine wpAny_bind (wpAny_pure (wpAny_pure ?_))
    have : (n == 1) = false := by simpa using e
    rw [this] at h; exact h
end

theorem met_mem (xs : List Str) (k : Str) : (met xs).any (· == k) = xs.any (· == k) := by
  have : ∀ (ys : List Str) (σ : List Str), (ys.foldl metStep σ).any (· == k) = (σ.any (· == k) || ys.any (· == k)) := by
    intro ys
    induction ys with
    | nil => intro σ; simp
    | cons v r ih =>
      intro σ
      rw [List.foldl_cons, ih, metStep_any, List.any_cons, Bool.or_assoc]
      congr 2
      by_cases h : k = v
      · simp [h]
      · simp [h, Ne.symm h]
  simpa [met] using this xs []
theorem met_all (xs : List Str) (one : Str) (h1 : xs.any (· == one) = true) : ((met xs).length == 1) = xs.all (· == one) := by
  by_cases hall : xs.all (· == one) = true
  · rw [hall]
    have : ∀ (ys : List Str), ys.all (· == one) = true → ys.foldl metStep [one] = [one] := by
      intro ys
      induction ys with
      | nil => intro _; rfl
      | cons v r ih =>
        intro h
        rw [List.all_cons, Bool.and_eq_true] at h
        have : v = one := by simpa using h.1
        subst this
        rw [List.foldl_cons, show metStep [v] v = [v] by simp [metStep]]
        exact ih h.2
    cases xs with
    | nil => simp at h1
    | cons v r =>
      rw [List.all_cons, Bool.and_eq_true] at hall
      have e : v = one := by simpa using hall.1
      subst e
      have e2 : met (v :: r) = [v] := by
        show r.foldl metStep (metStep [] v) = [v]
        rw [show metStep [] v = [v] by simp [metStep]]; exact this r hall.2
      rw [e2]; rfl
  · have hall' : xs.all (· == one) = false := by simpa using hall
    rw [hall']
    rw [beq_eq_false_iff_ne]
    intro hl
    obtain ⟨z, hz⟩ := List.length_eq_one_iff.mp hl
    apply hall
    rw [List.all_eq_true]
    intro x hx
    have a1 := met_mem xs x
    have a2 := met_mem xs one
    rw [h1, hz] at a2
    have hxx : xs.any (· == x) = true := List.any_eq_true.mpr ⟨x, hx, by simp⟩
    rw [hxx, hz] at a1
    simp at a1 a2
    simp [← a1, ← a2]

section
variable {C : Cx} {n : Nat} {A : Around} {env : Env} {own : List Addr} {m : Loc} {σ : St} {B : Heap} {s : Shared}
theorem op_set_list {a : Addr} {xs : List Str} {v : Value} {Q : PV → St → Prop} (e : σ a = some (.list (xs.map .str))) (hz : xs.length ≤ 900) (hv : V s.heap v (.ref a)) (q : ∀ c, σ c = none → Q (.ref c) (σ.set c (.set (met xs)))) : Op C n A σ s (call (.type "set") [v]) Q := .of fun B F R => by
  cases hv
  obtain ⟨vs, p, hvs⟩ := R.st _ _ e
  refine call_set_strs F.1.1 p.isList hvs.strs (by unfold scanBound; omega) fun h' tk hS hk => ?_
  have k : ∀ b o, s.heap.get? b = some o → h'.get? b = some o := fun b o e => hk b o (Heap.lt_size e) e
  have R1 := R.keeps k
  refine ⟨_, _, h', tk, rfl, .ref _, { R1 with
      st := fun b o z => ?_
      sep := fun b o z => ?_
      sys := fun b o z => ?_ }, q _ R.fresh⟩
  · by_cases w : b = s.heap.objs.size
    · subst w; rw [St.set_self] at z; cases z; exact hS
    · rw [St.set_ne _ _ w] at z; exact R1.st b o z
  · by_cases w : b = s.heap.objs.size
    · subst w; exact R.freshB
    · rw [St.set_ne _ _ w] at z; exact R1.sep b o z
  · by_cases w : b = s.heap.objs.size
    · subst w; exact R.freshSys
    · rw [St.set_ne _ _ w] at z; exact R1.sys b o z
theorem o_eq_set {a b : Addr} {xs : List Str} {one : Str} {Q : PV → St → Prop} (e1 : σ a = some (.set (met xs))) (e2 : σ b = some (.set (met [one]))) (h1 : xs.any (· == one) = true) (q : Q (.bool (xs.all (· == one))) σ) :
    O2 C n A (compareOp .Eq) (.ref a) (.ref b) σ Q := fun s v w hv hw => .of fun B F R => by
  cases hv; cases hw
  have S1 := R.st _ _ e1
  have S2 := R.st _ _ e2
  have S2' : s.heap.SetOf (PySem.strKind C.prog C.w) b (fun k => (met [one]).any (· == k)) 1 := S2
  have hT1 := Heap.SetOf.typeIs (s := s) S1
  have hT2 := Heap.SetOf.typeIs (s := s) S2
  have hu : A.units < cLine := by have := F.1.2.2; have e : cLine = 9900 := rfl; omega
  show wpAny _ A (richCompare .Eq (.ref a) (.ref b)) _ _ _
  refine wpAny_richCompare_same_room (op := .Eq) hT1 hT2 PySem.F.slot_set_eq ?_ hu
  refine wpAny_call_entry PySem.F.slot_set_eq hT1 entry_set_eq ?_ (PySem.F.args_set_eq_2 _ _)
  refine set_eq_body (one := one) S1 S2' ((met_mem xs one).trans h1) (by simp [met, metStep]) ?_
  rw [met_all xs one h1]
  exact ⟨_, rfl, nofun, _, σ, s.heap, s.toks, rfl, .bool _, R, q⟩
end
end

section
set_option maxRecDepth 100000
open PySem PySem.W PyProof.Rows PySem.Calls PySem.SeqAt
/-- all but some addresses stays -/
noncomputable def Sub (x : List Addr) (σ σ' : St) : Prop := ∀ a o, a ∉ x → σ a = some o → σ' a = some o
theorem Sub.refl (x : List Addr) (σ : St) : Sub x σ σ := fun _ _ _ e => e
theorem Sub.trans {x : List Addr} {a b c : St} (p : Sub x a b) (q : Sub x b c) : Sub x a c := fun i o h e => q i o h (p i o h e)
theorem Sub.mono {x y : List Addr} {a b : St} (p : Sub x a b) (h : ∀ i ∈ x, i ∈ y) : Sub y a b := fun i o k e => p i o (fun z => k (h i z)) e
theorem Sub.nil {x : List Addr} {a b : St} (p : Sub [] a b) : Sub x a b := p.mono nofun
theorem Sub.new {x : List Addr} {σ : St} {c : Addr} {o : Ob} (h : σ c = none) : Sub x σ (σ.set c o) := fun i o' _ e => by
  rw [St.set_ne]; exact e
  rintro rfl; rw [h] at e; cases e
theorem Sub.upd {x : List Addr} {σ : St} {c : Addr} {o : Ob} (h : c ∈ x) : Sub x σ (σ.set c o) := fun i o' k e => by
  rw [St.set_ne]; exact e
  rintro rfl; exact k h
theorem get_new {σ : St} {c a : Addr} {o o' : Ob} (h : σ c = none) (e : σ a = some o) : (σ.set c o') a = some o := Sub.new (x := []) h _ _ nofun e
theorem get_upd {σ : St} {c a : Addr} {o o' : Ob} (h : a ≠ c) (e : σ a = some o) : (σ.set c o') a = some o := by rw [St.set_ne _ _ h]; exact e
theorem ne_new {σ : St} {c a : Addr} {o : Ob} (h : σ c = none) (e : σ a = some o) : a ≠ c := by rintro rfl; rw [h] at e; cases e
theorem ne_list_dict {σ : St} {a c : Addr} {ds : List PV} {kv : List (Str × PV)} (h : σ a = some (.list ds)) (e : σ c = some (.dict kv)) : a ≠ c := by rintro rfl; rw [h] at e; cases e
theorem ne_dict_list {σ : St} {a c : Addr} {ds : List PV} {kv : List (Str × PV)} (h : σ a = some (.dict kv)) (e : σ c = some (.list ds)) : a ≠ c := by rintro rfl; rw [h] at e; cases e

/-- a frame knows these -/
noncomputable def LSub : Loc → Loc → Prop
  | [], _ => True
  | (x, d) :: r, m => m.get x = some d ∧ LSub r m
theorem LSub.get : ∀ {m0 m : Loc}, LSub m0 m → ∀ x d, m0.get x = some d → m.get x = some d
  | [], _, _, x, d, e => by simp [Loc.get] at e
  | (y, d') :: r, m, ⟨h1, h2⟩, x, d, e => by
    simp only [Loc.get, List.lookup_cons] at e
    split at e
    · rename_i q; cases e; rw [beq_iff_eq.mp q]; exact h1
    · exact LSub.get h2 x d e
theorem LSub.nil {m : Loc} : LSub [] m := trivial
theorem LSub.cons {x : Str} {d : PV} {r m : Loc} (h : m.get x = some d) (k : LSub r m) : LSub ((x, d) :: r) m := ⟨h, k⟩

section
variable {C : Cx} {n : Nat} {A : Around} {env : Env} {own : List Addr} {m : Loc} {σ : St} {B : Heap} {s : Shared}
theorem S.forget {m0 : Loc} {st : List Stmt} {Qn : Loc → St → Prop} {Qr : PV → St → Prop} (k : LSub m0 m) (h : S C n A env own m0 σ st Qn Qr) : S C n A env own m σ st Qn Qr := fun B s F R => h B s F (R.weaken k.get)
theorem S_seq {st : Stmt} {rest : List Stmt} {Qn : Loc → St → Prop} {Qr : PV → St → Prop} (P : Loc → St → Prop) (h : S1 C n A env own m σ st P Qr) (k : ∀ m' σ', P m' σ' → S C n A env own m' σ' rest Qn Qr) : S C n A env own m σ (st :: rest) Qn Qr :=
  S_cons (h.mono k fun _ _ x => x)
theorem E_and3 {x y z : Expr} {pos : Pos} {Q : PV → St → Prop} : True := trivial
theorem E_len {e : Expr} {np pos : Pos} {Q : PV → St → Prop} (hg : nsIn C.K mainGlobals "len" = some none) (hk : env.kindOf "len" = some .globalImplicit) (hgl : env.globals = mainGlobals) (hbn : env.builtins = builtinsNs)
    (h : E C n A env own m σ e fun d σ1 => ∃ k, LenOf σ1 d k ∧ k ≤ 1000 ∧ Q (.int k) σ1)
    (he : starEach (e :: []) env = (false, eval e env) :: starEach [] env := by rfl) : E C n A env own m σ (.Call (.Name "len" np) [e] [] pos) Q :=
  E_blt1 (f := e) (E_blt (v := .builtin "len") hg rfl (fun _ => .blt _) ⟨rfl, Es_cons (he := he) (h.mono fun d σ1 ⟨k, l, hk, q⟩ => Es_nil fun s vals hv => by
    cases hv with
    | cons hv r => cases r; exact op_len l hk hv q)⟩ hgl hbn hk) he rfl
end
end

local macro_rules
  | `(tactic| walk_at "st") => `(tactic| first
    | (with_reducible first | refine E_int ?_ | refine E_str ?_ | refine E_bool ?_ | refine E_none ?_ | refine E_bin ?_ | refine E_sub ?_ | refine E_tuple ?_ | refine E_list ?_ | refine Es_nil ?_ | refine S_nil ?_ | refine S_ret ?_ | refine S_if ?_ | refine T_not ?_ | refine T_bool ?_ | refine Ts_and_nil ?_ | refine Ts_or_nil ?_ | refine Ts_and ?_ | refine Ts_or ?_)
    | ((with_reducible show E (e := Expr.Name _ _) ..); refine E_var rfl ?_)
    | ((with_reducible show E (e := Expr.Compare _ [_] [_] _) ..); refine E_cmp ?_)
    | ((with_reducible show Es (es := _ :: _) ..); refine Es_cons ?_)
    | ((with_reducible show S (st := Stmt.Return _ _ :: _) ..); refine S_cons ?_)
    | ((with_reducible show S (st := Stmt.If _ _ _ _ :: _) ..); refine S_cons ?_)
    | ((with_reducible show S (st := Stmt.Assign [Expr.Name _ _] _ _ :: _) ..); refine S_cons (S_assign (.loc rfl) ?_))
    | ((with_reducible show S (st := Stmt.Expr _ _ :: _) ..); refine S_cons (S_expr ?_))
    | ((with_reducible show S (st := Stmt.Assign [Expr.Subscript _ _ _] _ _ :: _) ..); refine S_cons (S_setitem ?_))
    | ((with_reducible show T (e := Expr.Compare _ [_] [_] _) ..); refine T_cmp ?_)
    | ((with_reducible first | show T (e := Expr.Name _ _) .. | show T (e := Expr.Call _ _ _ _) .. | show T (e := Expr.Subscript _ _ _) ..); refine T_val ?_)
    | ((with_reducible show List.length _ ≤ 1000 ∧ _); refine ⟨by simp, ?_⟩))
  | `(tactic| walk_at "sts") => `(tactic| repeat' walk_at "st")

section
set_option maxRecDepth 100000
open PySem PySem.W PyProof.Rows PySem.Calls PySem.SeqAt
structure Good (C : Cx) : Prop where
  hK : C.K = hd.heap_1 C.w.params
  hP : C.prog = PySem.Challenge.rw_rr0089_01.row.prog
section
variable {C : Cx} (g : Good C)
include g
theorem g_len : nsIn C.K mainGlobals "len" = some none := by rw [g.hK]; exact rfl
theorem g_next : nsIn C.K mainGlobals "_law_next" = some (some (.ref 325)) := by rw [g.hK]; exact rfl
theorem g_str : nsIn C.K mainGlobals "str" = some none := by rw [g.hK]; exact rfl
theorem g_range : nsIn C.K mainGlobals "range" = some none := by rw [g.hK]; exact rfl
theorem k_next : keepIn C.K (.ref 325) = true := by rw [g.hK]; exact rfl
end

theorem mulOk {a b : Int} (h0 : 0 ≤ a) (h1 : a < 10000) : IntMulOk a b := by
  exact IntMulOk.of_left (intBits_le_64 (by omega) (by omega))
noncomputable def drawV (ns : List Int) (k : Nat) : Int := if h : k < ns.length then ns[k] else (5 * k * k + 7 * k + 3 + 11 * ns.length : Int).fmod 101
noncomputable def dr (ns : List Int) (k w : Nat) : Nat := ((drawV ns k).fmod w).toNat
theorem dr_eq (ns : List Int) (k w : Nat) (hw : 0 < w) : (drawV ns k).fmod w = (dr ns k w : Int) := by
  unfold dr
  rw [Int.toNat_of_nonneg (Int.fmod_nonneg_of_pos _ (by omega))]
theorem dr_lt (ns : List Int) (k w : Nat) (hw : 0 < w) : dr ns k w < w := by
  have h1 := dr_eq ns k w hw
  have h2 := Int.fmod_lt_of_pos (drawV ns k) (b := w) (by omega)
  omega
noncomputable def Feed (σ : St) (fd cl : Addr) (ns : List Int) (k : Nat) : Prop := σ fd = some (.dict [("cells", .ref cl), ("spot", .int k)]) ∧ σ cl = some (.list (ns.map .int)) ∧ ns.length ≤ 60

section
variable {C : Cx}
theorem Feed.sub {σ σ' : St} {fd cl : Addr} {ns : List Int} {k : Nat} {x : List Addr} (f : Feed σ fd cl ns k) (h : Sub x σ σ') (h1 : fd ∉ x) (h2 : cl ∉ x) : Feed σ' fd cl ns k := ⟨h _ _ h1 f.1, h _ _ h2 f.2.1, f.2.2⟩
set_option maxHeartbeats 1000000 in
theorem next_spec (g : Good C) {σ : St} {fd cl : Addr} {ns : List Int} {k w : Nat} (f : Feed σ fd cl ns k) (hk : k ≤ 500) (hw : 0 < w) {Q : PV → St → Prop}
    (q : ∀ σ', Sub [fd] σ σ' → Feed σ' fd cl ns (k + 1) → Q (.int (dr ns k w : Nat)) σ') : CallJ C 1 (.ref 325) [.ref fd, .int w] σ Q := by
  obtain ⟨e1, e2, hn⟩ := f
  refine call_fn (xs := ["feed", "wide"]) (by rw [g.hK]; exact rfl) (by rw [g.hK]; exact rfl) (fun vals h => ?_) rfl (by decide) (by decide) (by decide) rfl rfl rfl fun A L => ?_
  · match vals, h with
    | [a, b], _ => rfl
  have ne := ne_list_dict e2 e1
  have e3 : (σ.set fd (.dict [("cells", .ref cl), ("spot", .int (k + 1))])) cl = some (.list (ns.map .int)) := get_upd ne e2
  have q' := q _ (Sub.upd (o := .dict [("cells", .ref cl), ("spot", .int (k + 1))]) (.head _)) ⟨St.set_self _ _ _, e3, hn⟩
  have hS := St.set_self σ fd (.dict [("cells", .ref cl), ("spot", .int (k + 1))])
  walk_at "sts"
  refine o_item_dict e1 rfl ?_
  walk_at "sts"
  refine o_add ?_
  walk_at "sts"
  refine ⟨_, _, _, rfl, rfl, e1, by simp, ?_⟩
  walk_at "sts"
  refine E_len (g_len g) rfl rfl rfl ?_
  walk_at "sts"
  refine o_item_dict hS rfl ⟨_, .inl ⟨_, _, rfl, e3, rfl⟩, by simp; omega, ?_⟩
  refine o_lt ⟨_, rfl, ?_⟩
  split
  · rename_i hlt
    walk_at "sts"
    refine o_item_dict hS rfl ?_
    walk_at "sts"
    have hlt' : k < ns.length := by simpa using hlt
    refine o_item_list e3 (by omega) (by omega) (d := .int ns[k]) (by simp [hlt']) ?_
    walk_at "sts"
    refine o_mod (by omega) ?_
    rw [show ns[k] = drawV ns k by unfold drawV; rw [dif_pos hlt']]
    rw [dr_eq ns k w hw]
    exact q'
  · rename_i hlt
    have hlt' : ¬ k < ns.length := by simpa using hlt
    have hb : ∀ i : Int, 0 ≤ i → i < 10000 → IntMulOk i (k : Int) := fun i h0 h1 => mulOk h0 h1
    walk_at "sts"
    refine o_mul (hb _ (by omega) (by omega)) ?_
    walk_at "sts"
    refine o_mul (hb _ (by omega) (by omega)) ?_
    walk_at "sts"
    refine o_mul (hb _ (by omega) (by omega)) ?_
    refine o_add ?_
    walk_at "sts"
    refine o_add ?_
    walk_at "sts"
    refine E_len (g_len g) rfl rfl rfl ?_
    walk_at "sts"
    refine o_item_dict hS rfl ⟨_, .inl ⟨_, _, rfl, e3, rfl⟩, by simp; omega, ?_⟩
    refine o_mul (mulOk (by omega) (by omega)) (o_add ?_)
    walk_at "sts"
    refine o_mod (by decide) ?_
    walk_at "sts"
    refine o_mod (by omega) ?_
    rw [show (5 * (k : Int) * k + 7 * k + 3 + 11 * ((ns.map PV.int).length : Nat)).fmod 101 = drawV ns k by unfold drawV; rw [dif_neg hlt']; simp]
    rw [dr_eq ns k w hw]
    exact q'

variable {n : Nat} {A : Around} {env : Env} {own : List Addr} {m : Loc} {σ : St}
theorem E_next (g : Good C) (fd cl : Addr) (ns : List Int) {x e : Expr} {np pos : Pos} {Q : PV → St → Prop} (hn : 1 ≤ n) (hk : env.kindOf "_law_next" = some .globalImplicit) (hgl : env.globals = mainGlobals)
    (h : E C n A env own m σ x fun p σ1 => p = .ref fd ∧ E C n A env own m σ1 e fun d σ2 => ∃ k w : Nat, d = .int w ∧ 0 < w ∧ k ≤ 500 ∧ Feed σ2 fd cl ns k ∧ ∀ (d : Nat) σ', d < w → Sub [fd] σ2 σ' → Feed σ' fd cl ns (k + 1) → Q (.int d) σ')
    (he : starEach (x :: [e]) env = (false, eval x env) :: starEach [e] env := by rfl) (he2 : starEach (e :: []) env = (false, eval e env) :: starEach [] env := by rfl) (hplain : (backTo pos (starEach [e] env)).any (·.1) = false := by rfl) :
    E C n A env own m σ (.Call (.Name "_law_next" np) [x, e] [] pos) Q :=
  E_call (E_glob (g_next g) (fun _ => .ref _) ⟨325, rfl, k_next g, Es_cons (he := he) (h.mono fun p σ1 ⟨hp, h2⟩ => Es_cons (he := he2) (h2.mono fun d σ2 ⟨k, w, hd, hw, hk, f, q⟩ => Es_nil (by
    subst hp; subst hd
    exact (next_spec g f hk hw fun σ' a b => q _ σ' (dr_lt ns k w hw) a b).le hn)))⟩ hgl hk) he hplain
theorem E_nextc (g : Good C) {fd cl : Addr} {ns : List Int} {k : Nat} (w : Nat) {np xp cp pos : Pos} {k0 : Nat} {i : Int} {Q : PV → St → Prop} (f : Feed σ fd cl ns k) (hw : i = (w : Int)) (hw0 : 0 < w) (hkk : k ≤ 500) (hn : 1 ≤ n) (hk : env.kindOf "_law_next" = some .globalImplicit) (hgl : env.globals = mainGlobals) (hx : m.get "feed" = some (.ref fd))
    (q : ∀ (d : Nat) σ', d < w → Sub [fd] σ σ' → Feed σ' fd cl ns (k + 1) → Q (.int d) σ') : E C n A env own m σ (.Call (.Name "_law_next" np) [.Name "feed" xp, .Constant (.int i) k0 cp] [] pos) Q :=
  E_next g fd cl ns hn hk hgl (E_var hx ⟨rfl, E_int ⟨k, w, by rw [hw], hw0, hkk, f, q⟩⟩) rfl rfl rfl
theorem E_str1 (g : Good C) {e : Expr} {np pos : Pos} {Q : PV → St → Prop} (hk : env.kindOf "str" = some .globalImplicit) (hgl : env.globals = mainGlobals) (hbn : env.builtins = builtinsNs)
    (h : E C n A env own m σ e fun d σ1 => ∃ i, d = .int i ∧ i.natAbs < 1000 ∧ Q (.str (toString i)) σ1)
    (he : starEach (e :: []) env = (false, eval e env) :: starEach [] env := by rfl) : E C n A env own m σ (.Call (.Name "str" np) [e] [] pos) Q :=
  E_typ1 (E_blt (v := .type "str") (g_str g) rfl (fun _ => .typ _) ⟨rfl, Es_cons (he := he) (h.mono fun d σ1 ⟨i, hd, hi, q⟩ => Es_nil fun s vals hv => by
    subst hd
    cases hv with
    | cons hv r =>
      cases r
      refine op_str ?_ hv q
      have : i.natAbs.log2 ≤ 10 := by
        rcases Nat.eq_zero_or_pos i.natAbs with h0 | hp
        · rw [h0]; decide
        · exact Nat.le_of_lt_succ ((Nat.log2_lt (Nat.ne_of_gt hp)).mpr (by omega))
      omega)⟩ hgl hbn hk) he rfl
theorem src_range' (g : Good C) {target e : Expr} {np pos : Pos} {K : List PV → (St → Prop) → St → Prop} (hk : env.kindOf "range" = some .globalImplicit) (hgl : env.globals = mainGlobals) (hbn : env.builtins = builtinsNs)
    (h : E C n A env own m σ e fun d σ2 => ∃ k : Nat, d = .int k ∧ k ≤ 1000 ∧ K (upTo k) (fun _ => True) σ2)
    (he : starEach (e :: []) env = (false, eval e env) :: starEach [] env := by rfl) : Src C n A env own m σ target (.Call (.Name "range" np) [e] [] pos) K :=
  src_range (E_blt (v := .type "range") (g_range g) rfl (fun _ => .typ _) ⟨rfl, h⟩ hgl hbn hk) he
end
end

section
set_option maxRecDepth 100000
open PySem PySem.W PyProof.Rows PySem.Calls PySem.SeqAt
structure Row where
  name : Str
  abs : Bool
  mult : Str
  par : Str
noncomputable def rowV (r : Row) : PV := .tup [.str r.name, .bool r.abs, .str r.mult, .str r.par]
noncomputable def topN (i : Nat) : Str := ("T" : Str) ++ (toString (i : Int) : Str)
noncomputable def kidN (i j : Nat) : Str := topN i ++ ("c" : Str) ++ (toString (j : Int) : Str)
noncomputable def block (i : Nat) (a : Bool) (mu : Str) (many ar : Nat) (d : Bool) : List Row :=
  ⟨topN i, a, mu, ""⟩ :: (List.range many).map (fun j => ⟨kidN i j, false, if ar > 0 ∨ j > 0 then "one" else "", topN i⟩) ++ (if d then [⟨topN i ++ ("d" : Str), false, "one", topN i ++ ("c0" : Str)⟩] else [])
inductive Tree : Nat → List Row → Prop
  | zero : Tree 0 []
  | step {i : Nat} {rows : List Row} (a : Bool) (mu : Str) (many ar : Nat) (d : Bool) : Tree i rows → mu ∈ [("" : Str), "one", "lone", "some"] → many ≤ 3 → (d = true → 0 < many) → Tree (i + 1) (rows ++ block i a mu many ar d)

theorem Sub.drop {x : List Addr} {r : Addr} {σ σ' : St} (h : Sub (r :: x) σ σ') (e : σ r = none) : Sub x σ σ' := fun a o k q => h a o (by
  intro z
  cases z with
  | head => rw [e] at q; cases q
  | tail _ z => exact k z) q
theorem topN_len (i : Nat) (h : i < 10) : (topN i).length ≤ 20 := by
  have : ∀ i : Fin 10, (topN i.1).length ≤ 20 := by decide +kernel
  exact this ⟨i, h⟩
theorem tos_len (i : Nat) (h : i < 10) : (toString (i : Int) : Str).length ≤ 20 := by
  have : ∀ i : Fin 10, (toString (i.1 : Int) : Str).length ≤ 20 := by decide +kernel
  exact this ⟨i, h⟩
structure TI (σ0 : St) (fd cl : Addr) (ns : List Int) (r : Addr) (σ : St) (rs : List Row) (k : Nat) : Prop where
  f : Feed σ fd cl ns k
  l : σ r = some (.list (rs.map rowV))
  s : Sub [r, fd] σ0 σ
  nf : r ≠ fd
  nc : r ≠ cl
theorem TI.next {σ0 : St} {fd cl : Addr} {ns : List Int} {r : Addr} {σ σ' : St} {rs : List Row} {k k' : Nat} (h : TI σ0 fd cl ns r σ rs k) (s : Sub [fd] σ σ') (f : Feed σ' fd cl ns k') : TI σ0 fd cl ns r σ' rs k' :=
  ⟨f, s _ _ (by simpa using h.nf) h.l, h.s.trans (s.mono (by simp)), h.nf, h.nc⟩
theorem TI.app {σ0 : St} {fd cl : Addr} {ns : List Int} {r : Addr} {σ : St} {rs : List Row} {k : Nat} (h : TI σ0 fd cl ns r σ rs k) (x : Row) : TI σ0 fd cl ns r (σ.set r (.list (rs.map rowV ++ [rowV x]))) (rs ++ [x]) k :=
  ⟨h.f.sub (Sub.upd (x := [r]) (.head _)) (by simpa using h.nf.symm) (by simpa using h.nc.symm), by rw [St.set_self]; simp, h.s.trans (Sub.upd (.head _)), h.nf, h.nc⟩
theorem TI.new {σ0 : St} {fd cl : Addr} {ns : List Int} {r : Addr} {σ : St} {rs : List Row} {k : Nat} (h : TI σ0 fd cl ns r σ rs k) {c : Addr} {o : Ob} (e : σ c = none) : TI σ0 fd cl ns r (σ.set c o) rs k :=
  ⟨h.f.sub (Sub.new (x := []) e) nofun nofun, get_new e h.l, h.s.trans (Sub.new e), h.nf, h.nc⟩
section
variable {C : Cx}
set_option maxHeartbeats 4000000 in
theorem tree_spec (g : Good C) {σ : St} {fd cl : Addr} {ns : List Int} {k : Nat} (f : Feed σ fd cl ns k) (hk : k ≤ 100) {Q : PV → St → Prop}
    (q : ∀ σ' r rows t k', Sub [fd] σ σ' → Feed σ' fd cl ns k' → k' ≤ k + 100 → σ' r = some (.list (rows.map rowV)) → σ r = none → Tree t rows → 1 ≤ t → t ≤ 3 → Q (.ref r) σ') : CallJ C 2 (.ref 332) [.ref fd] σ Q := by
  refine call_fn (xs := ["feed"]) (by rw [g.hK]; exact rfl) (by rw [g.hK]; exact rfl) (fun vals h => ?_) rfl (by decide) (by decide) (by decide) rfl rfl rfl fun A L => ?_
  · match vals, h with
    | [a], _ => rfl
  walk_at "sts"
  refine fun r hr => ?_
  have f0 := f.sub (Sub.new (x := []) (c := r) (o := .list []) hr) nofun nofun
  refine S_cons (S_for (src_range' g rfl rfl rfl ?_))
  walk_at "sts"
  refine E_nextc g 3 f0 rfl (by omega) (by omega) (by omega) rfl rfl rfl fun d σ1 hd s1 f1 => ?_
  refine o_add ?_
  refine ⟨1 + d, by simp, by omega, ?_⟩
  have hrf : r ≠ fd := (ne_new hr f.1).symm
  have hrc : r ≠ cl := (ne_new hr f.2.1).symm
  refine ⟨fun i m' σ' => ∃ rows k', LSub [("feed", .ref fd), ("rows", .ref r)] m' ∧ Tree i rows ∧ TI σ fd cl ns r σ' rows k' ∧ k' ≤ k + 1 + 6 * i ∧ rows.length ≤ 5 * i, ?_, fun _ _ _ _ => trivial, ?_, ?_⟩
  · refine ⟨[], k + 1, ?_, .zero, ⟨f1, s1 _ _ (by simpa using hrf) (St.set_self _ _ _), (Sub.new hr).trans (s1.mono (by simp)), hrf, hrc⟩, by omega, by simp⟩
    exact .cons rfl (.cons rfl .nil)
  · rintro i m' σ' dd hdd ⟨rows, k', hm, tr, t0, hki, hlen⟩
    obtain ⟨hi, rfl⟩ := upTo_get hdd
    have hi3 : i < 3 := by omega
    refine ⟨_, .name (.loc rfl), ?_⟩
    refine S.forget (m0 := [("feed", .ref fd), ("rows", .ref r), ("number", .int i)]) ?_ ?_
    · exact .cons (by rw [Loc.get_set, if_neg (by decide)]; exact hm.1) (.cons (by rw [Loc.get_set, if_neg (by decide)]; exact hm.2.1) (.cons (by rw [Loc.get_set, if_pos rfl]) .nil))
    refine S_cons (S_swap (xs := ["top", "is_abstract", "mult"]) ?_ rfl ?_)
    · intro x hx
      simp only [List.mem_cons, List.not_mem_nil, or_false] at hx
      rcases hx with rfl | rfl | rfl <;> exact .loc rfl
    walk_at "sts"
    refine E_str1 g rfl rfl rfl ?_
    walk_at "sts"
    refine ⟨_, rfl, by omega, ?_⟩
    refine o_cat (Nat.le_trans (Nat.add_le_add (show ("T" : Str).length ≤ 1 by decide) (tos_len i (by omega))) (by omega)) ?_
    walk_at "sts"
    refine E_nextc g 2 t0.f rfl (by omega) (by omega) (by omega) rfl rfl rfl fun da σ2 hda s2 f2 => ?_
    have t2 := t0.next s2 f2
    walk_at "sts"
    refine o_eq_int ?_
    walk_at "sts"
    refine fun l hl => ?_
    have t2' := t2.new (o := .list [.str "", .str "one", .str "lone", .str "some"]) hl
    refine E_nextc g 4 t2'.f rfl (by omega) (by omega) (by omega) rfl rfl rfl fun dm σ3 hdm s3 f4 => ?_
    have hlf : l ≠ fd := (ne_new hl f2.1).symm
    have el := s3 _ _ (by simpa using hlf) (St.set_self σ2 l (.list [.str "", .str "one", .str "lone", .str "some"]))
    have t3 := t2'.next s3 f4
    obtain ⟨mu, hmu, hmm⟩ : ∃ mu : Str, ([.str "", .str "one", .str "lone", .str "some"] : List PV)[((dm : Nat) : Int).toNat]? = some (.str mu) ∧ mu ∈ [("" : Str), "one", "lone", "some"] := by
      have : dm = 0 ∨ dm = 1 ∨ dm = 2 ∨ dm = 3 := by omega
      rcases this with rfl | rfl | rfl | rfl
      · exact ⟨"", rfl, by simp⟩
      · exact ⟨"one", rfl, by simp⟩
      · exact ⟨"lone", rfl, by simp⟩
      · exact ⟨"some", rfl, by simp⟩
    refine o_item_list el (by omega) (by omega) hmu ?_
    walk_at "sts"
    refine ⟨_, rfl, rfl, ?_⟩
    refine S.forget (m0 := [("feed", .ref fd), ("rows", .ref r), ("number", .int i), ("top", .str (topN i)), ("is_abstract", .bool ((da : Int) == 1)), ("mult", .str mu)]) ?_ ?_
    · exact .cons rfl (.cons rfl (.cons rfl (.cons rfl (.cons rfl (.cons rfl .nil)))))
    walk_at "sts"
    refine E_append ?_
    walk_at "sts"
    refine ⟨r, rfl, ⟨_, t3.l⟩, ?_⟩
    walk_at "sts"
    refine ⟨_, t3.l, by simp; omega, ?_⟩
    have t4 := t3.app ⟨topN i, (da : Int) == 1, mu, ""⟩
    change TI _ _ _ _ _ (σ3.set r (.list (rows.map rowV ++ [.tup [.str (topN i), .bool ((da : Int) == 1), .str mu, .str ""]]))) _ _ at t4
    generalize (σ3.set r (.list (rows.map rowV ++ [.tup [.str (topN i), .bool ((da : Int) == 1), .str mu, .str ""]]))) = σ4 at t4 ⊢
    refine S_cons (S_swap (xs := ["many", "are_one"]) ?_ rfl ?_)
    · intro x hx
      simp only [List.mem_cons, List.not_mem_nil, or_false] at hx
      rcases hx with rfl | rfl <;> exact .loc rfl
    walk_at "sts"
    refine E_nextc g 4 t4.f rfl (by omega) (by omega) (by omega) rfl rfl rfl fun many σ5 hmany s6 f6 => ?_
    have t5 := t4.next s6 f6
    walk_at "sts"
    refine E_nextc g 3 t5.f rfl (by omega) (by omega) (by omega) rfl rfl rfl fun ar σ6 har s7 f7 => ?_
    have t6 := t5.next s7 f7
    walk_at "sts"
    refine ⟨_, rfl, rfl, ?_⟩
    refine S.forget (m0 := [("feed", .ref fd), ("rows", .ref r), ("number", .int i), ("top", .str (topN i)), ("many", .int many), ("are_one", .int ar)]) ?_ ?_
    · exact .cons rfl (.cons rfl (.cons rfl (.cons rfl (.cons rfl (.cons rfl .nil)))))
    have kid : ∀ j, ([⟨kidN i j, false, if ar > 0 ∨ j > 0 then "one" else "", topN i⟩] : List Row) = [⟨kidN i j, false, if ar > 0 ∨ j > 0 then "one" else "", topN i⟩] := fun _ => rfl
    refine S_seq (fun m' σ' => LSub [("feed", .ref fd), ("rows", .ref r), ("number", .int i), ("top", .str (topN i)), ("many", .int many), ("are_one", .int ar)] m' ∧ TI σ fd cl ns r σ' (rows ++ [⟨topN i, (da : Int) == 1, mu, ""⟩] ++ (List.range many).map (fun j => ⟨kidN i j, false, if ar > 0 ∨ j > 0 then "one" else "", topN i⟩)) (k' + 4)) ?_ ?_
    · refine S_for (src_range' g rfl rfl rfl ?_)
      walk_at "sts"
      refine ⟨many, rfl, by omega, ?_⟩
      refine ⟨fun j m' σ' => LSub [("feed", .ref fd), ("rows", .ref r), ("number", .int i), ("top", .str (topN i)), ("many", .int many), ("are_one", .int ar)] m' ∧ TI σ fd cl ns r σ' (rows ++ [⟨topN i, (da : Int) == 1, mu, ""⟩] ++ (List.range j).map (fun j => ⟨kidN i j, false, if ar > 0 ∨ j > 0 then "one" else "", topN i⟩)) (k' + 4), ?_, fun _ _ _ _ => trivial, ?_, ?_⟩
      · refine ⟨.cons rfl (.cons rfl (.cons rfl (.cons rfl (.cons rfl (.cons rfl .nil))))), ?_⟩
        simpa using t6
      · rintro j m' σ' dd hdd ⟨hm, tj⟩
        obtain ⟨hj, rfl⟩ := upTo_get hdd
        refine ⟨_, .name (.loc rfl), ?_⟩
        refine S.forget (m0 := [("feed", .ref fd), ("rows", .ref r), ("number", .int i), ("top", .str (topN i)), ("many", .int many), ("are_one", .int ar), ("k", .int j)]) ?_ ?_
        · obtain ⟨h1, h2, h3, h4, h5, h6, _⟩ := hm
          refine .cons ?_ (.cons ?_ (.cons ?_ (.cons ?_ (.cons ?_ (.cons ?_ (.cons (by rw [Loc.get_set, if_pos rfl]) .nil)))))) <;> (rw [Loc.get_set, if_neg (by decide)]; assumption)
        walk_at "sts"
        refine E_append ?_
        walk_at "sts"
        refine ⟨r, rfl, ⟨_, tj.l⟩, ?_⟩
        walk_at "sts"
        refine o_cat (Nat.le_trans (Nat.add_le_add (topN_len i (by omega)) (show ("c" : Str).length ≤ 1 by decide)) (by omega)) ?_
        refine E_str1 g rfl rfl rfl ?_
        walk_at "sts"
        refine ⟨_, rfl, by omega, ?_⟩
        refine o_cat (Nat.le_trans (Nat.add_le_add (show (topN i ++ ("c" : Str)).length ≤ 21 from by rw [strLen_append]; exact Nat.add_le_add (topN_len i (by omega)) (show ("c" : Str).length ≤ 1 by decide)) (tos_len j (by omega))) (by omega)) ?_
        walk_at "sts"
        refine E.mono (Q := fun d s' => d = .str (if ar > 0 ∨ j > 0 then "one" else "") ∧ s' = σ') (E_if ?_) ?_
        · walk_at "sts"
          refine o_gt ⟨_, rfl, ?_⟩
          by_cases ha : 0 < ar
          · rw [if_pos (by simpa using ha), if_pos rfl]
            walk_at "sts"
            exact ⟨by rw [if_pos (.inl ha)], rfl⟩
          · rw [if_neg (by simpa using ha)]
            walk_at "sts"
            refine o_gt ⟨_, rfl, ?_⟩
            by_cases hjj : 0 < j
            · rw [if_pos (by simpa using hjj), if_pos rfl]
              walk_at "sts"
              exact ⟨by rw [if_pos (.inr hjj)], rfl⟩
            · rw [if_neg (by simpa using hjj)]
              walk_at "sts"
              rw [if_neg (by decide)]
              walk_at "sts"
              exact ⟨by rw [if_neg (by omega)], rfl⟩
        · rintro _ _ ⟨rfl, rfl⟩
          walk_at "sts"
          refine ⟨_, tj.l, by simp; omega, ?_⟩
          walk_at "sts"
          refine ⟨.cons rfl (.cons rfl (.cons rfl (.cons rfl (.cons rfl (.cons rfl .nil))))), ?_⟩
          have := tj.app ⟨kidN i j, false, if ar > 0 ∨ j > 0 then "one" else "", topN i⟩
          rw [List.range_succ, show ∀ f : Nat → Row, (List.range j ++ [j]).map f = (List.range j).map f ++ [f j] from fun f => by rw [List.map_append]; rfl, ← List.append_assoc]
          exact this
      · rintro m' σ' ⟨hm, tj⟩
        rw [upTo_len] at tj
        exact ⟨hm, tj⟩
    · rintro m' σ7 ⟨hm, t7⟩
      refine S.forget hm ?_
      have fin : ∀ (m' : Loc) (σ8 : St) (kk : Nat) (d : Bool) (rs : List Row), LSub [("feed", .ref fd), ("rows", .ref r)] m' → (d = true → 0 < many) → kk ≤ k' + 5 → rs = rows ++ block i ((da : Int) == 1) mu many ar d → TI σ fd cl ns r σ8 rs kk → ∃ rows k', LSub [("feed", .ref fd), ("rows", .ref r)] m' ∧ Tree (i + 1) rows ∧ TI σ fd cl ns r σ8 rows k' ∧ k' ≤ k + 1 + 6 * (i + 1) ∧ rows.length ≤ 5 * (i + 1) := fun m' σ8 kk dd rs hm hd hkk e t8 =>
        ⟨_, kk, hm, .step _ mu many ar dd tr hmm (by omega) hd, e ▸ t8, by omega, by
          unfold block
          cases dd <;> simp <;> omega⟩
      walk_at "sts"
      refine o_gt ⟨_, rfl, ?_⟩
      by_cases hm0 : 0 < many
      · rw [if_pos (by simpa using hm0)]
        walk_at "sts"
        refine E_nextc g 2 t7.f rfl (by omega) (by omega) (by omega) rfl rfl rfl fun dn σ8 hdn s8 f8 => ?_
        have t8 := t7.next s8 f8
        walk_at "sts"
        refine o_eq_int ⟨_, rfl, ?_⟩
        by_cases hdn1 : dn = 1
        · rw [if_pos (by rw [beq_iff_eq]; omega)]
          walk_at "sts"
          rw [if_pos rfl]
          walk_at "sts"
          refine E_append ?_
          walk_at "sts"
          refine ⟨r, rfl, ⟨_, t8.l⟩, ?_⟩
          walk_at "sts"
          refine o_cat (Nat.le_trans (Nat.add_le_add (topN_len i (by omega)) (show ("d" : Str).length ≤ 1 by decide)) (by omega)) ?_
          walk_at "sts"
          refine o_cat (Nat.le_trans (Nat.add_le_add (topN_len i (by omega)) (show ("c0" : Str).length ≤ 2 by decide)) (by omega)) ?_
          walk_at "sts"
          refine ⟨_, t8.l, by simp; omega, ?_⟩
          walk_at "sts"
          exact fin _ _ (k' + 5) true _ (.cons rfl (.cons rfl .nil)) (fun _ => hm0) (by omega) (by simp [block]) (t8.app ⟨topN i ++ ("d" : Str), false, "one", topN i ++ ("c0" : Str)⟩)
        · rw [if_neg (by rw [beq_iff_eq]; omega)]
          rw [if_neg (by decide)]
          walk_at "sts"
          exact fin _ _ (k' + 5) false _ (.cons rfl (.cons rfl .nil)) nofun (by omega) (by simp [block]) t8
      · rw [if_neg (by simpa using hm0), if_neg (by decide)]
        walk_at "sts"
        exact fin _ _ (k' + 4) false _ (.cons rfl (.cons rfl .nil)) nofun (by omega) (by simp [block]) t7
  · rintro m' σ' ⟨rows, k', hm, tr, t0, hki, hlen⟩
    rw [upTo_len] at tr hki
    refine S.forget hm ?_
    walk_at "sts"
    exact q σ' r rows _ k' (t0.s.drop hr) t0.f (by omega) t0.l hr tr (by omega) (by omega)
end
end

section
set_option maxRecDepth 100000
open PySem PySem.W PyProof.Rows PySem.Calls PySem.SeqAt
theorem take_succ_get {α : Type} {l : List α} {i : Nat} {d : α} (h : l[i]? = some d) : l.take (i + 1) = l.take i ++ [d] := by
  obtain ⟨hl, rfl⟩ := List.getElem?_eq_some_iff.mp h
  rw [List.take_succ_eq_append_getElem hl]
section
variable {C : Cx} {n : Nat} {A : Around} {env : Env} {own : List Addr} {m : Loc} {σ : St}
theorem Ifs.mono {cs : List Expr} {Q Q' : Bool → St → Prop} (h : Ifs C n A env own m σ cs Q) (k : ∀ b σ', Q b σ' → Q' b σ') : Ifs C n A env own m σ cs Q' := fun B s F R =>
  wpAny_mono (h B s F R) (fun _ _ ⟨σ', h, tk, e, b, r, q⟩ => ⟨σ', h, tk, e, b, r, k _ _ q⟩) fun _ _ x => x
/-- a comprehension that leaves the store as it is -/
theorem CompJ_pure {scope : Scope} {cl : List (Str × Addr)} {mc : Loc} {target elt : Expr} {ifs : List Expr} {K : List PV → St → Prop} {ds : List PV} {ok : St → Prop} (hl : ds.length ≤ 900) (hok : ok σ) (f : PV → Option PV)
    (step : ∀ L d, d ∈ ds → ∃ mt, Tgt (compEnvC scope cl L env) [L] target d mc mt ∧ Ifs C n A (compEnvC scope cl L env) [L] mt σ ifs fun b σ3 => σ3 = σ ∧ if b = true then E C n A (compEnvC scope cl L env) [L] mt σ elt fun x σ4 => f d = some x ∧ σ4 = σ else f d = none)
    (fin : K (ds.filterMap f) σ) : CompJ C n A env m scope cl mc target elt ifs K ds ok σ := by
  refine ⟨hl, fun i acc σ' => σ' = σ ∧ acc = (ds.take i).filterMap f, ⟨rfl, by simp⟩, fun i acc σ' h => by rw [h.1]; exact hok, ?_, ?_⟩
  · rintro L i acc _ d hd ⟨rfl, rfl⟩
    obtain ⟨mt, tg, st⟩ := step L d (List.mem_of_getElem? hd)
    refine ⟨mt, tg, st.mono ?_⟩
    rintro b _ ⟨rfl, q⟩
    dsimp only
    rw [take_succ_get hd, List.filterMap_append]
    cases b with
    | true =>
      simp only [if_true] at q ⊢
      refine q.mono ?_
      rintro x _ ⟨e, rfl⟩
      refine ⟨rfl, ?_⟩
      simp [e]
    | false =>
      simp only [Bool.false_eq_true, if_false] at q ⊢
      simp [q]
  · rintro acc _ ⟨rfl, rfl⟩
    rw [List.take_length]; exact fin
/-- nothing is captured -/
theorem Capt.none {cenv : Env} : Capt env cenv m [] := fun x d e => by simp [Loc.get] at e
end
noncomputable def itemV (r : Row) : PV := .tup [.str "sig", .int 0, .tup [.str r.name], .bool r.abs, .str r.mult, .str r.par, .tup [], .tup [], .tup []]
noncomputable def openV (t : Str) : PV := .tup [.str "open", .int 0, .str "util/ordering", .tup [.str t], .str "o"]
noncomputable def topsOf (rows : List Row) : List Str := (rows.filter fun r => r.par == ("" : Str)).map (·.name)
theorem tops_fm (rows : List Row) : (rows.map rowV).filterMap (fun d => match d with
        | .tup [.str a, .bool b, .str c, .str e] => if e == ("" : Str) then some (PV.str a) else none
        | _ => none) = (topsOf rows).map .str := by
  induction rows with
  | nil => rfl
  | cons r rs ih =>
    rw [List.map_cons, List.filterMap_cons, ih]
    unfold topsOf
    by_cases h : (r.par == ("" : Str)) = true
    · simp [rowV, h]
    · simp [rowV, h]
section
variable {C : Cx}
set_option maxHeartbeats 4000000 in
theorem items_spec (g : Good C) {σ : St} {fd cl r : Addr} {ns : List Int} {k : Nat} {rows : List Row} (f : Feed σ fd cl ns k) (hk : k ≤ 300) (er : σ r = some (.list (rows.map rowV))) (hr : rows.length ≤ 100) (ht : topsOf rows ≠ []) {Q : PV → St → Prop}
    (q : ∀ σ' il ll its lined k', Sub [fd] σ σ' → Feed σ' fd cl ns k' → k' ≤ k + 3 → σ' il = some (.list (its.map itemV ++ lined.map openV)) → σ' ll = some (.list (lined.map .str)) → (its = rows ∨ its = rows.reverse) → (lined = [] ∨ ∃ t, t ∈ topsOf rows ∧ lined = [t]) → Q (.tup [.ref il, .ref ll]) σ') :
    CallJ C 2 (.ref 337) [.ref fd, .ref r] σ Q := by
  refine call_fn (xs := ["feed", "rows"]) (by rw [g.hK]; exact rfl) (by rw [g.hK]; exact rfl) (fun vals h => ?_) rfl (by decide) (by decide) (by decide) rfl rfl rfl fun A L => ?_
  · match vals, h with
    | [a, b], _ => rfl
  have hrf : r ≠ fd := ne_list_dict er f.1
  refine S_cons (S_assign_comp (mc := []) (.loc rfl) rfl (by decide) rfl (by decide) (fun _ => Capt.none) (src_list ?_))
  walk_at "sts"
  refine ⟨r, _, rfl, er, ?_⟩
  refine CompJ_pure (by simp; omega) er (fun d => match d with
    | .tup [.str a, .bool b, .str c, .str e] => some (itemV ⟨a, b, c, e⟩)
    | _ => none) (fun L d hd => ?_) ?_
  · obtain ⟨row, hrow, rfl⟩ := List.mem_map.mp hd
    refine ⟨_, .tuple (xs := ["name", "is_abstract", "mult", "parent"]) rfl ?_ rfl, Ifs_nil ⟨rfl, ?_⟩⟩
    · intro x hx
      simp only [List.mem_cons, List.not_mem_nil, or_false] at hx
      rcases hx with rfl | rfl | rfl | rfl <;> exact .loc rfl
    rw [if_pos rfl]
    walk_at "sts"
    exact ⟨rfl, rfl⟩
  · intro il hil
    rw [show (rows.map rowV).filterMap (fun d => match d with
      | .tup [.str a, .bool b, .str c, .str e] => some (itemV ⟨a, b, c, e⟩)
      | _ => none) = rows.map itemV by rw [List.filterMap_map]; exact List.filterMap_eq_map' ▸ rfl]
    have eil := St.set_self σ il (.list (rows.map itemV))
    have er1 : (σ.set il (.list (rows.map itemV))) r = _ := get_new hil er
    have f1 := f.sub (Sub.new (x := []) (c := il) (o := .list (rows.map itemV)) hil) nofun nofun
    have s1 : Sub [il, fd] σ _ := Sub.new (o := .list (rows.map itemV)) hil
    have hilf : il ≠ fd := (ne_new hil f.1).symm
    have hilr : il ≠ r := (ne_new hil er).symm
    have hilc : il ≠ cl := (ne_new hil f.2.1).symm
    generalize σ.set il (.list (rows.map itemV)) = σ1 at eil er1 f1 s1 ⊢
    refine S_seq (fun m' σ' => LSub [("feed", .ref fd), ("rows", .ref r), ("items", .ref il)] m' ∧ ∃ its, (its = rows ∨ its = rows.reverse) ∧ σ' il = some (.list (its.map itemV)) ∧ σ' r = some (.list (rows.map rowV)) ∧ Feed σ' fd cl ns (k + 1) ∧ Sub [il, fd] σ σ') ?_ ?_
    · refine S_if ?_
      walk_at "sts"
      refine E_nextc g 2 f1 rfl (by omega) (by omega) (by omega) rfl rfl rfl fun d1 σ2 hd1 s2 f2 => ?_
      have eil2 := s2 _ _ (by simpa using hilf) eil
      have er2 := s2 _ _ (by simpa using hrf) er1
      have s3 := s1.trans (s2.mono (by simp))
      walk_at "sts"
      refine o_eq_int ⟨_, rfl, ?_⟩
      split
      · walk_at "sts"
        refine E_reverse ?_
        walk_at "sts"
        refine ⟨il, _, rfl, eil2, by simp; omega, ?_⟩
        walk_at "sts"
        refine ⟨.cons rfl (.cons rfl (.cons rfl .nil)), rows.reverse, .inr rfl, ?_, get_upd hilr.symm er2, f2.sub (Sub.upd (x := [il]) (.head _)) (by simpa using hilf.symm) (by simpa using hilc.symm), s3.trans (Sub.upd (.head _))⟩
        rw [St.set_self, List.map_reverse]
      · walk_at "sts"
        exact ⟨.cons rfl (.cons rfl (.cons rfl .nil)), rows, .inl rfl, eil2, er2, f2, s3⟩
    · rintro m' σ3 ⟨hm, its, hits, ei3, er3, f3, s3⟩
      refine S.forget hm ?_
      clear eil er1 f1 s1 hm
      refine S_cons (S_assign_comp (mc := []) (.loc rfl) rfl (by decide) rfl (by decide) (fun _ => Capt.none) (src_list ?_))
      walk_at "sts"
      refine ⟨r, _, rfl, er3, ?_⟩
      refine CompJ_pure (by simp; omega) er3 (fun d => match d with
        | .tup [.str a, .bool b, .str c, .str e] => if e == ("" : Str) then some (.str a) else none
        | _ => none) (fun L d hd => ?_) ?_
      · obtain ⟨row, hrow, rfl⟩ := List.mem_map.mp hd
        refine ⟨_, .name (.loc rfl), Ifs_one ?_⟩
        walk_at "sts"
        refine o_item_tuple (by omega) (by omega) rfl ?_
        walk_at "sts"
        refine o_eq_str ⟨_, rfl, rfl, ?_⟩
        split
        · walk_at "sts"
          refine o_item_tuple (by omega) (by omega) rfl ⟨?_, rfl⟩
          simp_all [rowV]
        · simp_all [rowV]
      · intro tl htl
        rw [tops_fm]
        have etl := St.set_self σ3 tl (.list ((topsOf rows).map .str))
        have ei4 : (σ3.set tl (.list ((topsOf rows).map .str))) il = _ := get_new htl ei3
        have f4 := f3.sub (Sub.new (x := []) (c := tl) (o := .list ((topsOf rows).map .str)) htl) nofun nofun
        have s4 : Sub [il, fd] σ _ := s3.trans (Sub.new (c := tl) (o := .list ((topsOf rows).map .str)) htl)
        have htf : tl ≠ fd := (ne_new htl f3.1).symm
        have hti : tl ≠ il := (ne_new htl ei3).symm
        generalize σ3.set tl (.list ((topsOf rows).map .str)) = σ4 at etl ei4 f4 s4 ⊢
        refine S.forget (m0 := [("feed", .ref fd), ("items", .ref il), ("tops", .ref tl)]) (.cons rfl (.cons rfl (.cons rfl .nil))) ?_
        clear er3 ei3 f3 s3 htl
        have hlen : (topsOf rows).length ≤ 100 := by
          unfold topsOf; rw [List.length_map]; exact Nat.le_trans (List.length_filter_le _ _) hr
        have hpos : 0 < (topsOf rows).length := List.length_pos_iff.mpr ht
        refine S_cons (S_assign (.loc rfl) (E.mono (Q := fun d σ' => ∃ ll lined k', d = .ref ll ∧ k' ≤ k + 3 ∧ (lined = [] ∨ ∃ t, t ∈ topsOf rows ∧ lined = [t]) ∧ σ' ll = some (.list (lined.map .str)) ∧ σ' il = some (.list (its.map itemV)) ∧ Feed σ' fd cl ns k' ∧ Sub [il, fd] σ σ') ?_ ?_))
        · refine E_if ?_
          walk_at "sts"
          refine E_nextc g 2 f4 rfl (by omega) (by omega) (by omega) rfl rfl rfl fun d1 σ5 hd1 s5 f5 => ?_
          have etl5 := s5 _ _ (by simpa using htf) etl
          have ei5 := s5 _ _ (by simpa using hilf) ei4
          have s05 := s4.trans (s5.mono (by simp))
          walk_at "sts"
          refine o_eq_int ⟨_, rfl, ?_⟩
          split
          · walk_at "sts"
            refine E_next g fd cl ns (by omega) rfl rfl ?_
            walk_at "sts"
            refine ⟨rfl, E_len (g_len g) rfl rfl rfl ?_⟩
            walk_at "sts"
            refine ⟨_, .inl ⟨tl, _, rfl, etl5, rfl⟩, by simp; omega, _, _, rfl, by simpa using hpos, by omega, f5, fun d2 σ6 hd2 s6 f6 => ?_⟩
            have etl6 := s6 _ _ (by simpa using htf) etl5
            have ei6 := s6 _ _ (by simpa using hilf) ei5
            rw [List.length_map] at hd2
            refine o_item_list etl6 (by omega) (by omega) (d := .str (topsOf rows)[d2]) (by simp [hd2]) ?_
            walk_at "sts"
            intro ll hll
            refine ⟨ll, [(topsOf rows)[d2]], k + 1 + 1 + 1, rfl, by omega, .inr ⟨_, List.getElem_mem _, rfl⟩, St.set_self _ _ _, get_new hll ei6, f6.sub (Sub.new (x := []) hll) nofun nofun, s05.trans ((s6.mono (by simp)).trans (Sub.new hll))⟩
          · walk_at "sts"
            intro ll hll
            exact ⟨ll, [], k + 1 + 1, rfl, by omega, .inl rfl, St.set_self _ _ _, get_new hll ei5, f5.sub (Sub.new (x := []) hll) nofun nofun, s05.trans (Sub.new hll)⟩
        · rintro _ σ7 ⟨ll, lined, k', rfl, hk', hlined, ell, ei7, f7, s7⟩
          walk_at "sts"
          refine E_comp (mc := []) rfl (by decide) rfl (by decide) (fun _ => Capt.none) (src_list ?_)
          walk_at "sts"
          refine ⟨ll, _, rfl, ell, ?_⟩
          have hll1 : lined.length ≤ 1 := by rcases hlined with rfl | ⟨t, _, rfl⟩ <;> simp
          refine CompJ_pure (by simp; omega) ell (fun d => match d with
            | .str a => some (openV a)
            | _ => none) (fun L d hd => ?_) ?_
          · obtain ⟨x, hx, rfl⟩ := List.mem_map.mp hd
            refine ⟨_, .name (.loc rfl), Ifs_nil ⟨rfl, ?_⟩⟩
            rw [if_pos rfl]
            walk_at "sts"
            exact ⟨rfl, rfl⟩
          · intro oa hoa
            rw [show (lined.map PV.str).filterMap (fun d => match d with
              | .str a => some (openV a)
              | _ => none) = lined.map openV by rw [List.filterMap_map]; exact List.filterMap_eq_map' ▸ rfl]
            have hits' : its.length = rows.length := by rcases hits with rfl | rfl <;> simp
            refine o_add_list (get_new hoa ei7) (St.set_self _ _ _) (by simp; omega) fun c hc => ?_
            walk_at "sts"
            refine q _ c ll its lined k' ?_ ?_ hk' (St.set_self _ _ _) (get_new hc (get_new hoa ell)) hits hlined
            · exact Sub.drop (s7.trans ((Sub.new hoa).trans (Sub.new hc))) hil
            · exact (f7.sub (Sub.new (x := []) hoa) nofun nofun).sub (Sub.new (x := []) hc) nofun nofun
end
end

section
set_option maxRecDepth 100000
open PySem PySem.W PyProof.Rows PySem.Calls PySem.SeqAt
theorem filterMap_zero {α β : Type} (p : α → Bool) (f : α → β) (l : List α) : (l.filterMap fun r => if p r then some (f r) else none)[0]? = (l.find? p).map f := by
  induction l with
  | nil => rfl
  | cons x r ih =>
    by_cases h : p x = true
    · simp [h]
    · have h' : p x = false := by simpa using h
      rw [List.filterMap_cons]; simp only [h']
      rw [List.find?_cons_of_neg (by simpa using h)]
      simpa using ih
theorem Capt.cons {env cenv : Env} {m mc : Loc} {x : Str} {d : PV} (h0 : m.get x = some d) (h1 : env.kindOf x = some .cell) (h2 : cenv.kindOf x = some .cell) (h3 : cenv.cells.lookup x = env.cells.lookup x) (k : Capt env cenv m mc) : Capt env cenv m ((x, d) :: mc) := fun y d' e => by
  simp only [Loc.get, List.lookup_cons] at e
  split at e
  · rename_i q; cases e; rw [beq_iff_eq.mp q]; exact ⟨h0, h1, h2, h3⟩
  · exact k y d' e
noncomputable def belowOf (rows : List Row) (top : Str) : List Str := (rows.filter fun r => r.par == top).map (·.mult)
theorem below_fm (rows : List Row) (top : Str) : (rows.map rowV).filterMap (fun d => match d with
        | .tup [.str a, .bool b, .str c, .str e] => if e == top then some (PV.str c) else none
        | _ => none) = (belowOf rows top).map .str := by
  unfold belowOf
  induction rows with
  | nil => rfl
  | cons r rs ih =>
    rw [List.map_cons, List.filterMap_cons, ih]
    by_cases h : (r.par == top) = true
    · simp [rowV, h]
    · simp [rowV, h]
theorem abs_fm (rows : List Row) (top : Str) (f : Row → PV) : (rows.map rowV).filterMap (fun d => match d with
        | .tup [.str a, .bool b, .str c, .str e] => if a == top then some (f ⟨a, b, c, e⟩) else none
        | _ => none) = rows.filterMap fun r => if r.name == top then some (f r) else none := by
  rw [List.filterMap_map]; rfl
noncomputable def usualF (rows : List Row) (d : Int) (row : Row) : Int :=
  if row.abs = true ∧ (belowOf rows row.name).any (· == ("one" : Str)) = true ∧ (belowOf rows row.name).all (· == ("one" : Str)) = true then (belowOf rows row.name).length else d
section
variable {C : Cx}
theorem g_set (g : Good C) : nsIn C.K mainGlobals "set" = some none := by rw [g.hK]; exact rfl
set_option maxHeartbeats 4000000 in
theorem usual_spec (g : Good C) {σ : St} {r : Addr} {d : Int} {rows : List Row} {row : Row} (er : σ r = some (.list (rows.map rowV))) (hr : rows.length ≤ 100) (ht : rows.find? (fun x => x.name == row.name) = some row) {Q : PV → St → Prop}
    (q : ∀ σ', Sub [] σ σ' → Q (.int (usualF rows d row)) σ') :
    CallJ C 2 (.ref 342) [.ref r, .int d, .str row.name] σ Q := by
  refine call_fnC (xs := ["rows", "default", "top"]) (by rw [g.hK]; exact rfl) (by rw [g.hK]; exact rfl) (fun vals h => ?_) rfl (by decide) (by decide) rfl rfl rfl fun A L own O => ?_
  · match vals, h with
    | [a, b, c], _ => rfl
  refine S_cons (S_assign_comp (mc := [("top", .str row.name)]) (.loc rfl) rfl (by decide) rfl (by decide) (fun L => Capt.cons rfl rfl rfl rfl Capt.none) (src_list ?_))
  walk_at "sts"
  refine ⟨r, _, rfl, er, ?_⟩
  refine CompJ_pure (by simp; omega) er (fun d => match d with
        | .tup [.str a, .bool b, .str c, .str e] => if e == row.name then some (PV.str c) else none
        | _ => none) (fun L d hd => ?_) ?_
  · obtain ⟨x, hx, rfl⟩ := List.mem_map.mp hd
    refine ⟨_, .tuple (xs := ["name", "is_abstract", "mult", "parent"]) rfl ?_ rfl, Ifs_one ?_⟩
    · intro x hx
      simp only [List.mem_cons, List.not_mem_nil, or_false] at hx
      rcases hx with rfl | rfl | rfl | rfl <;> exact .loc rfl
    walk_at "sts"
    refine o_eq_str ⟨_, rfl, rfl, ?_⟩
    split
    · rename_i h; walk_at "sts"; exact ⟨by simp [rowV, h], rfl⟩
    · rename_i h; simp [rowV, h]
  · intro bl hbl
    rw [below_fm]
    have ebl := St.set_self σ bl (.list ((belowOf rows row.name).map .str))
    have er1 : (σ.set bl (.list ((belowOf rows row.name).map .str))) r = _ := get_new hbl er
    have s1 : Sub [] σ _ := Sub.new (o := .list ((belowOf rows row.name).map .str)) hbl
    generalize σ.set bl (.list ((belowOf rows row.name).map .str)) = σ1 at ebl er1 s1 ⊢
    have hbz : (belowOf rows row.name).length ≤ 100 := by
      unfold belowOf; rw [List.length_map]; exact Nat.le_trans (List.length_filter_le _ _) hr
    walk_at "sts"
    refine E_comp (mc := [("top", .str row.name)]) rfl (by decide) rfl (by decide) (fun L => Capt.cons rfl rfl rfl rfl Capt.none) (src_list ?_)
    walk_at "sts"
    refine ⟨r, _, rfl, er1, ?_⟩
    refine CompJ_pure (by simp; omega) er1 (fun d => match d with
          | .tup [.str a, .bool b, .str c, .str e] => if a == row.name then some (PV.bool (Row.mk a b c e).abs) else none
          | _ => none) (fun L d hd => ?_) ?_
    · obtain ⟨x, hx, rfl⟩ := List.mem_map.mp hd
      refine ⟨_, .name (.loc rfl), Ifs_one ?_⟩
      walk_at "sts"
      refine o_item_tuple (by omega) (by omega) rfl ?_
      walk_at "sts"
      refine o_eq_str ⟨_, rfl, rfl, ?_⟩
      split
      · rename_i h
        walk_at "sts"
        refine o_item_tuple (by omega) (by omega) rfl ⟨?_, rfl⟩
        simp [rowV, h]
      · rename_i h; simp [rowV, h]
    · intro al hal
      rw [abs_fm rows row.name (fun r => PV.bool r.abs)]
      walk_at "sts"
      refine o_item_list (d := .bool row.abs) (St.set_self _ _ _) (by omega) (by omega) ?_ ?_
      · show (rows.filterMap _)[0]? = _
        rw [filterMap_zero, ht]; rfl
      have ebl2 : (σ1.set al (.list (rows.filterMap fun r => if r.name == row.name then some (PV.bool r.abs) else none))) bl = _ := get_new hal ebl
      have s2 : Sub [] σ _ := s1.trans (Sub.new (o := .list (rows.filterMap fun r => if r.name == row.name then some (PV.bool r.abs) else none)) hal)
      generalize (σ1.set al (.list (rows.filterMap fun r => if r.name == row.name then some (PV.bool r.abs) else none))) = σ2 at ebl2 s2 ⊢
      walk_at "sts"
      refine E_if ?_
      refine T.mono (Q := fun b σ' => Sub [] σ σ' ∧ σ' bl = some (.list ((belowOf rows row.name).map .str)) ∧ b = decide (row.abs = true ∧ (belowOf rows row.name).any (· == ("one" : Str)) = true ∧ (belowOf rows row.name).all (· == ("one" : Str)) = true)) ?_ ?_
      · walk_at "sts"
        refine ⟨_, rfl, ?_⟩
        cases ha : row.abs with
        | false => exact ⟨s2, ebl2, by simp⟩
        | true =>
          rw [if_pos rfl]
          walk_at "sts"
          refine o_in_list ebl2 ⟨_, rfl, ?_⟩
          cases hany : (belowOf rows row.name).any (· == ("one" : Str)) with
          | false => exact ⟨s2, ebl2, by simp⟩
          | true =>
            rw [if_pos rfl]
            walk_at "sts"
            refine E_typ1 (E_blt (v := .type "set") (g_set g) rfl (fun _ => .typ _) ⟨rfl, ?_⟩)
            walk_at "sts"
            intro s vals hv
            cases hv with
            | cons hv z =>
            cases z
            refine op_set_list ebl2 (by omega) hv fun c1 hc1 => ?_
            have ec1 := St.set_self σ2 c1 (.set (met (belowOf rows row.name)))
            have ebl3 : (σ2.set c1 (.set (met (belowOf rows row.name)))) bl = _ := get_new hc1 ebl2
            have s3 : Sub [] σ _ := s2.trans (Sub.new (o := .set (met (belowOf rows row.name))) hc1)
            generalize (σ2.set c1 (.set (met (belowOf rows row.name)))) = σ3 at ec1 ebl3 s3 ⊢
            refine E_typ1 (E_blt (v := .type "set") (g_set g) rfl (fun _ => .typ _) ⟨rfl, ?_⟩)
            walk_at "sts"
            intro c2 hc2
            walk_at "sts"
            intro s vals hv
            cases hv with
            | cons hv z =>
            cases z
            refine op_set_list (xs := ["one"]) (St.set_self _ _ _) (by simp) hv fun c3 hc3 => ?_
            refine o_eq_set (one := "one") (get_new hc3 (get_new hc2 ec1)) (St.set_self _ _ _) hany ⟨_, rfl, ?_⟩
            have sf : Sub [] σ _ := s3.trans ((Sub.new (o := .list ([("one" : Str)].map .str)) hc2).trans (Sub.new (o := .set (met [("one" : Str)])) hc3))
            have eblf : ((σ3.set c2 (.list ([("one" : Str)].map .str))).set c3 (.set (met [("one" : Str)]))) bl = _ := get_new hc3 (get_new hc2 ebl3)
            cases hall : (belowOf rows row.name).all (· == ("one" : Str)) with
            | false => exact ⟨sf, eblf, by simp⟩
            | true =>
              rw [if_pos rfl]
              walk_at "sts"
              exact ⟨sf, eblf, by simp⟩
      · rintro b σ4 ⟨s4, ebl4, hb⟩
        have hq := q _ s4
        unfold usualF at hq
        subst hb
        split
        · rename_i h
          rw [if_pos (by simpa using h)] at hq
          refine E_len (g_len g) rfl rfl rfl ?_
          walk_at "sts"
          exact ⟨_, .inl ⟨bl, _, rfl, ebl4, rfl⟩, by simp; omega, by simpa using hq⟩
        · rename_i h
          rw [if_neg (by simpa using h)] at hq
          walk_at "sts"
          exact hq
end
end

section
set_option maxRecDepth 100000
open PySem PySem.W PyProof.Rows PySem.Calls PySem.SeqAt
section
variable {C : Cx} {n : Nat} {A : Around} {env : Env} {own : List Addr} {m : Loc} {σ : St}
theorem E.at {e : Expr} (d0 : PV) (σ0 : St) {Q : PV → St → Prop} (h : E C n A env own m σ e fun d σ' => d = d0 ∧ σ' = σ0) (q : Q d0 σ0) : E C n A env own m σ e Q := h.mono (by rintro _ _ ⟨rfl, rfl⟩; exact q)
theorem T.at {e : Expr} (b0 : Bool) (σ0 : St) {Q : Bool → St → Prop} (h : T C n A env own m σ e fun d σ' => d = b0 ∧ σ' = σ0) (q : Q b0 σ0) : T C n A env own m σ e Q := h.mono (by rintro _ _ ⟨rfl, rfl⟩; exact q)
end
abbrev Told := List (Str × (Bool × Int))
noncomputable def toldV (p : Bool × Int) : PV := .tup [.bool p.1, .int p.2]
noncomputable def toldD (td : Told) : Loc := td.map fun p => (p.1, toldV p.2)
theorem toldD_get (td : Told) (k : Str) : Loc.get (toldD td) k = (td.lookup k).map toldV := by
  unfold Loc.get toldD
  induction td with
  | nil => rfl
  | cons p r ih =>
    rw [List.map_cons, List.lookup_cons, List.lookup_cons]
    cases h : k == p.1 with
    | true => rfl
    | false => exact ih
theorem toldD_len (td : Told) : List.length (toldD td) = td.length := by simp [toldD]
noncomputable def lotV : Option (Bool × Int) → PV
  | none => .none
  | some p => .tup [.bool p.1, .int p.2]
noncomputable def lotF (row : Row) (usual : Int) (tl : Option (Bool × Int)) (lined : Bool) : Option (Bool × Int) :=
  let p := tl.getD (false, usual)
  if tl.isSome = true ∧ ((row.mult == ("one" : Str)) = true ∧ p.2 ≠ 1 ∨ (row.mult == ("lone" : Str)) = true ∧ p.1 = true ∧ 1 < p.2) then none
  else if (row.mult == ("one" : Str)) = true then some (true, 1)
  else some (p.1 || lined, if (row.mult == ("lone" : Str)) = true ∧ 1 < p.2 then 1 else p.2)
section
variable {C : Cx}
theorem g_usual (g : Good C) : nsIn C.K mainGlobals "_law_usual" = some (some (.ref 342)) := by rw [g.hK]; exact rfl
theorem k_usual (g : Good C) : keepIn C.K (.ref 342) = true := by rw [g.hK]; exact rfl
set_option maxHeartbeats 4000000 in
theorem lot_spec (g : Good C) {σ : St} {r ta la : Addr} {d : Int} {rows : List Row} {row : Row} {td : Told} {lined : List Str} (er : σ r = some (.list (rows.map rowV))) (hr : rows.length ≤ 100) (ht : rows.find? (fun x => x.name == row.name) = some row)
    (et : σ ta = some (.dict (toldD td))) (el : σ la = some (.list (lined.map .str))) {Q : PV → St → Prop}
    (q : ∀ σ', Sub [] σ σ' → Q (lotV (lotF row (usualF rows d row) (td.lookup row.name) (lined.any (· == row.name)))) σ') :
    CallJ C 3 (.ref 347) [.ref r, .int d, .ref ta, .ref la, .str row.name] σ Q := by
  refine call_fnC (xs := ["rows", "default", "told", "lined", "top"]) (by rw [g.hK]; exact rfl) (by rw [g.hK]; exact rfl) (fun vals h => ?_) rfl (by decide) (by decide) rfl rfl rfl fun A L own O => ?_
  · match vals, h with
    | [a, b, c, d, e], _ => rfl
  refine S_cons (S_swap (xs := ["mult", "is_exact", "many"]) ?_ rfl ?_)
  · intro x hx
    simp only [List.mem_cons, List.not_mem_nil, or_false] at hx
    rcases hx with rfl | rfl | rfl <;> exact .loc rfl
  walk_at "sts"
  refine E_comp (mc := [("top", .str row.name)]) rfl (by decide) rfl (by decide) (fun L => Capt.cons rfl rfl rfl rfl Capt.none) (src_list ?_)
  walk_at "sts"
  refine ⟨r, _, rfl, er, ?_⟩
  refine CompJ_pure (by simp; omega) er (fun d => match d with
        | .tup [.str a, .bool b, .str c, .str e] => if a == row.name then some (PV.str (Row.mk a b c e).mult) else none
        | _ => none) (fun L d hd => ?_) ?_
  · obtain ⟨x, hx, rfl⟩ := List.mem_map.mp hd
    refine ⟨_, .name (.loc rfl), Ifs_one ?_⟩
    walk_at "sts"
    refine o_item_tuple (by omega) (by omega) rfl ?_
    walk_at "sts"
    refine o_eq_str ⟨_, rfl, rfl, ?_⟩
    split
    · rename_i h
      walk_at "sts"
      refine o_item_tuple (by omega) (by omega) rfl ⟨?_, rfl⟩
      simp [rowV, h]
    · rename_i h; simp [rowV, h]
  intro al hal
  walk_at "sts"
  refine o_item_list (d := .str row.mult) (St.set_self _ _ _) (by omega) (by omega) ?_ ?_
  · rw [List.filterMap_map]
    exact (filterMap_zero (fun r => r.name == row.name) (fun r => PV.str r.mult) rows).trans (by rw [ht]; try rfl)
  walk_at "sts"
  refine E_call (E_glob (g_usual g) (fun _ => .ref _) ⟨342, rfl, k_usual g, ?_⟩)
  walk_at "sts"
  refine (usual_spec g (get_new hal er) hr ht fun σ1 s1 => ?_).le (by omega)
  have s1' : Sub [] σ σ1 := (Sub.new hal).trans s1
  have et1 := s1' _ _ nofun et
  have el1 := s1' _ _ nofun el
  walk_at "sts"
  refine ⟨_, rfl, rfl, ?_⟩
  have hq := q σ1 s1'
  refine S.forget (m0 := [("told", .ref ta), ("lined", .ref la), ("top", .str row.name), ("mult", .str row.mult), ("is_exact", .bool false), ("many", .int (usualF rows d row))]) (.cons rfl (.cons rfl (.cons rfl (.cons rfl (.cons rfl (.cons rfl .nil)))))) ?_
  refine S_seq (fun m' σ' => σ' = σ1 ∧ ∃ p : Bool × Int, (td.lookup row.name).getD (false, usualF rows d row) = p ∧ ¬ ((td.lookup row.name).isSome = true ∧ ((row.mult == ("one" : Str)) = true ∧ p.2 ≠ 1 ∨ (row.mult == ("lone" : Str)) = true ∧ p.1 = true ∧ 1 < p.2)) ∧ LSub [("told", .ref ta), ("lined", .ref la), ("top", .str row.name), ("mult", .str row.mult), ("is_exact", .bool p.1), ("many", .int p.2)] m') ?_ ?_
  · walk_at "sts"
    refine o_in_dict et1 ⟨_, rfl, ?_⟩
    rw [toldD_get]
    cases hl : td.lookup row.name with
    | none =>
      exact S_nil ⟨rfl, _, rfl, by simp, .cons rfl (.cons rfl (.cons rfl (.cons rfl (.cons rfl (.cons rfl .nil)))))⟩
    | some p =>
      rw [if_pos (show (Option.map toldV (some p)).isSome = true from rfl)]
      rw [hl] at hq
      unfold lotF at hq
      refine S_cons (S_unpack (xs := ["is_exact", "many"]) rfl ?_ ?_)
      · intro x hx
        simp only [List.mem_cons, List.not_mem_nil, or_false] at hx
        rcases hx with rfl | rfl <;> exact .loc rfl
      walk_at "sts"
      refine o_item_dict et1 (by rw [toldD_get, hl]; rfl) ?_
      refine ⟨_, rfl, rfl, ?_⟩
      refine S.forget (m0 := [("told", .ref ta), ("lined", .ref la), ("top", .str row.name), ("mult", .str row.mult), ("is_exact", .bool p.1), ("many", .int p.2)]) (.cons rfl (.cons rfl (.cons rfl (.cons rfl (.cons rfl (.cons rfl .nil)))))) ?_
      refine S_cons (S_if (T.mono (Q := fun b σ' => σ' = σ1 ∧ b = decide ((row.mult == ("one" : Str)) = true ∧ p.2 ≠ 1 ∨ (row.mult == ("lone" : Str)) = true ∧ p.1 = true ∧ 1 < p.2)) ?_ ?_))
      · walk_at "sts"
        refine o_eq_str ⟨_, rfl, ?_⟩
        cases h1 : row.mult == ("one" : Str) with
        | true =>
          rw [if_pos rfl]
          walk_at "sts"
          refine o_ne_int ⟨_, rfl, ?_⟩
          have h3 : (row.mult == ("lone" : Str)) = false := by
            have : row.mult = "one" := by simpa using h1
            rw [this]; decide
          cases h2 : p.2 != 1 with
          | true =>
            rw [if_pos rfl]
            walk_at "sts"
            rw [if_pos rfl]
            exact ⟨rfl, by simp_all⟩
          | false =>
            rw [if_neg (by decide), if_neg (by decide)]
            walk_at "sts"
            refine o_eq_str ⟨_, rfl, ?_⟩
            rw [h3, if_neg (by decide), if_neg (by decide)]
            walk_at "sts"
            exact ⟨rfl, by simp_all⟩
        | false =>
          rw [if_neg (by decide), if_neg (by decide)]
          walk_at "sts"
          refine o_eq_str ⟨_, rfl, ?_⟩
          cases h3 : row.mult == ("lone" : Str) with
          | false =>
            rw [if_neg (by decide), if_neg (by decide)]
            walk_at "sts"
            exact ⟨rfl, by simp_all⟩
          | true =>
            rw [if_pos rfl]
            walk_at "sts"
            refine ⟨_, rfl, ?_⟩
            cases h4 : p.1 with
            | false =>
              rw [if_neg (by decide), if_neg (by decide)]
              walk_at "sts"
              exact ⟨rfl, by simp_all⟩
            | true =>
              rw [if_pos rfl]
              walk_at "sts"
              refine o_gt ⟨_, rfl, ?_⟩
              cases h5 : decide (1 < p.2) with
              | true =>
                rw [if_pos rfl]
                walk_at "sts"
                rw [if_pos rfl]
                exact ⟨rfl, by simp_all⟩
              | false =>
                rw [if_neg (by decide), if_neg (by decide)]
                walk_at "sts"
                exact ⟨rfl, by simp_all⟩
      · rintro b _ ⟨rfl, rfl⟩
        split
        · rename_i h
          rw [decide_eq_true_eq] at h
          walk_at "sts"
          simp only [Option.getD_some, Option.isSome_some, true_and] at hq
          rw [if_pos h] at hq
          exact hq
        · rename_i h
          rw [decide_eq_true_eq] at h
          walk_at "sts"
          exact ⟨rfl, p, rfl, fun z => h z.2, .cons rfl (.cons rfl (.cons rfl (.cons rfl (.cons rfl (.cons rfl .nil)))))⟩
  · rintro m' σ2 ⟨hs, p, hp, hno, hm⟩
    rw [hs]; clear hs
    refine S.forget hm ?_
    unfold lotF at hq
    rw [hp] at hq
    simp only [hno, if_false] at hq
    walk_at "sts"
    refine o_eq_str ⟨_, rfl, ?_⟩
    cases h1 : row.mult == ("one" : Str) with
    | true =>
      rw [if_pos rfl]
      rw [h1, if_pos rfl] at hq
      walk_at "sts"
      exact hq
    | false =>
      rw [if_neg (by decide)]
      rw [h1, if_neg (by decide)] at hq
      walk_at "sts"
      refine E.at (.bool (p.1 || lined.any (· == row.name))) σ1 (E_or2 ?_) ?_
      · walk_at "sts"
        refine ⟨_, rfl, ?_⟩
        cases h4 : p.1 with
        | true => rw [if_pos rfl]; exact ⟨by simp, rfl⟩
        | false =>
          rw [if_neg (by decide)]
          walk_at "sts"
          exact o_in_list el1 ⟨by simp, rfl⟩
      · walk_at "sts"
        refine E.at (.int (if (row.mult == ("lone" : Str)) = true ∧ 1 < p.2 then 1 else p.2)) σ1 (E_if ?_) ?_
        · walk_at "sts"
          refine o_eq_str ⟨_, rfl, ?_⟩
          cases h3 : row.mult == ("lone" : Str) with
          | false =>
            rw [if_neg (by decide), if_neg (by decide)]
            walk_at "sts"
            exact ⟨by simp, rfl⟩
          | true =>
            rw [if_pos rfl]
            walk_at "sts"
            refine o_gt ⟨_, rfl, ?_⟩
            cases h5 : decide (1 < p.2) with
            | true =>
              rw [if_pos rfl]
              walk_at "sts"
              rw [if_pos rfl]
              walk_at "sts"
              exact ⟨by rw [if_pos ⟨rfl, by simpa using h5⟩], rfl⟩
            | false =>
              rw [if_neg (by decide), if_neg (by decide)]
              walk_at "sts"
              exact ⟨by rw [if_neg (fun z => by simp [z.2] at h5)], rfl⟩
        · walk_at "sts"
          exact hq
end
end

section
set_option maxRecDepth 100000
open PySem PySem.W PyProof.Rows PySem.Calls PySem.SeqAt
noncomputable def findR (its : List Row) (nm : Str) : Option Row := its.find? fun r => r.name == nm
noncomputable def entD (its : List Row) : Loc := its.map fun r => (r.name, itemV r)
theorem entD_get (its : List Row) (nm : Str) : Loc.get (entD its) nm = (findR its nm).map itemV := by
  unfold Loc.get entD findR
  induction its with
  | nil => rfl
  | cons p r ih =>
    rw [List.map_cons, List.lookup_cons, List.find?_cons]
    cases h : nm == p.name with
    | true =>
      have : (p.name == nm) = true := by rw [beq_iff_eq] at h ⊢; exact h.symm
      rw [this]; rfl
    | false =>
      have : (p.name == nm) = false := by rw [beq_eq_false_iff_ne] at h ⊢; exact fun z => h z.symm
      rw [this]; exact ih
noncomputable def sigAttrs : List Str := ["entries", "stands", "opened", "ordered", "own_fields"]
structure Sigs (σ : St) (x : Addr) (its : List Row) (ea sa : Addr) (fs : Loc) : Prop where
  inst : Inst σ x 314 fs
  he : Loc.get fs "entries" = some (.ref ea)
  hs : Loc.get fs "stands" = some (.ref sa)
  e : σ ea = some (.dict (entD its))
  s : σ sa = some (.list ((its.map (·.name)).map .str))
  hn : fs.all (fun p => sigAttrs.contains p.1) = true
  hz : its.length ≤ 100
theorem Sigs.no {σ : St} {x : Addr} {its : List Row} {ea sa : Addr} {fs : Loc} (h : Sigs σ x its ea sa fs) {nm : Str} (hm : sigAttrs.contains nm = false) : Loc.get fs nm = none := by
  have := h.hn
  rw [List.all_eq_true] at this
  unfold Loc.get
  rw [List.lookup_eq_none_iff]
  intro p hp
  have h1 := this p hp
  have ne : nm ≠ p.1 := by
    intro q
    rw [q] at hm
    exact Bool.false_ne_true (hm.symm.trans h1)
  clear h1 this hm
  generalize sigAttrs = z at *
  simpa using ne
theorem Inst.sub {σ σ' : St} {x D : Addr} {fs : Loc} {y : List Addr} (h : Inst σ x D fs) (s : Sub y σ σ') (hy : ∀ a ∈ y, ∃ o, σ a = some o ∧ (∀ C dx, o ≠ .inst C dx) ∧ ∀ f, o ≠ .attrs f) : Inst σ' x D fs := by
  obtain ⟨dx, e1, e2⟩ := h
  refine ⟨dx, s _ _ (fun q => ?_) e1, s _ _ (fun q => ?_) e2⟩
  · obtain ⟨o, e, h1, _⟩ := hy _ q; rw [e1] at e; cases e; exact h1 _ _ rfl
  · obtain ⟨o, e, _, h1⟩ := hy _ q; rw [e2] at e; cases e; exact h1 _ rfl
theorem Sigs.sub {σ σ' : St} {x : Addr} {its : List Row} {ea sa : Addr} {fs : Loc} (h : Sigs σ x its ea sa fs) (s : Sub [] σ σ') : Sigs σ' x its ea sa fs :=
  { h with inst := h.inst.sub s nofun, e := s _ _ nofun h.e, s := s _ _ nofun h.s }
section
variable {C : Cx}
theorem a_entries (g : Good C) : attrOK C.K 314 "entries" = true := by rw [g.hK]; exact rfl
theorem a_stands (g : Good C) : attrOK C.K 314 "stands" = true := by rw [g.hK]; exact rfl
theorem m_parent (g : Good C) : methOK C.K 314 "parent" 236 = true ∧ fnIn C.K 236 = true := by rw [g.hK]; exact ⟨rfl, rfl⟩
theorem parent_spec (g : Good C) {σ : St} {x ea sa : Addr} {its : List Row} {fs : Loc} {nm : Str} {row : Row} (h : Sigs σ x its ea sa fs) (hf : findR its nm = some row) {Q : PV → St → Prop} (q : Q (.str row.par) σ) :
    CallJ C 1 (.ref 236) [.ref x, .str nm] σ Q := by
  refine call_fn (xs := ["self", "name"]) (by rw [g.hK]; exact rfl) (by rw [g.hK]; exact rfl) (fun vals h => ?_) rfl (by decide) (by decide) (by decide) rfl rfl rfl fun A L => ?_
  · match vals, h with
    | [a, b], _ => rfl
  walk_at "sts"
  refine E_attr ?_
  walk_at "sts"
  refine ⟨x, 314, fs, _, rfl, h.inst, a_entries g, h.he, nofun, ?_⟩
  walk_at "sts"
  refine o_item_dict h.e (by rw [entD_get, hf]; rfl) ?_
  walk_at "sts"
  exact o_item_tuple (by omega) (by omega) rfl q
end
end

section
set_option maxRecDepth 100000
open PySem PySem.W PyProof.Rows PySem.Calls PySem.SeqAt
section
variable {C : Cx} {n : Nat} {A : Around} {env : Env} {own : List Addr} {m : Loc} {σ : St}
theorem E_sm {f : Addr} {meth : Str} (hok : methOK C.K 314 meth f = true ∧ fnIn C.K f = true) (hno : sigAttrs.contains meth = false) {o e : Expr} {apos pos : Pos} {pl : Sem Bool} {Q : PV → St → Prop}
    (h : E C n A env own m σ o fun p σ1 => ∃ x its ea sa fs, p = .ref x ∧ Sigs σ1 x its ea sa fs ∧ E C n A env own m σ1 e fun d σ2 => CallJ C n (.ref f) [.ref x, d] σ2 Q)
    (hm : eval (.Call (.Attribute o meth apos) (e :: []) [] pos) env = (do
      let ov ← eval o env
      standAt apos.atName
      let (f, first) ← holding [ov] (getMethod ov meth pl)
      callWith pos f first (backTo pos (starEach (e :: []) env)) (backToKw pos (keywordEach [] env))) := by rfl)
    (he : starEach (e :: []) env = (false, eval e env) :: starEach [] env := by rfl) :
    E C n A env own m σ (.Call (.Attribute o meth apos) [e] [] pos) Q :=
  E_meth (h.mono fun p σ1 ⟨x, its, ea, sa, fs, e1, hS, h2⟩ => ⟨x, 314, fs, f, e1, hS.inst, hok.1, hok.2, hS.no hno, Es_cons (he := he) (h2.mono fun d σ2 q => Es_nil q)⟩) hm he rfl
end
inductive Up (its : List Row) : Str → List Str → Prop
  | nil {nm : Str} {row : Row} : findR its nm = some row → (row.par == ("" : Str)) = true → Up its nm []
  | cons {nm : Str} {row : Row} {l : List Str} : findR its nm = some row → (row.par == ("" : Str)) = false → Up its row.par l → Up its nm (row.par :: l)
section
variable {C : Cx}
theorem g_tuple (g : Good C) : nsIn C.K mainGlobals "tuple" = some none := by rw [g.hK]; exact rfl
theorem g_list (g : Good C) : nsIn C.K mainGlobals "list" = some none := by rw [g.hK]; exact rfl
theorem a_opened (g : Good C) : attrOK C.K 314 "opened" = true := by rw [g.hK]; exact rfl
theorem a_ordered (g : Good C) : attrOK C.K 314 "ordered" = true := by rw [g.hK]; exact rfl
theorem a_own (g : Good C) : attrOK C.K 314 "own_fields" = true := by rw [g.hK]; exact rfl
theorem m_supers (g : Good C) : methOK C.K 314 "supers" 243 = true ∧ fnIn C.K 243 = true := by rw [g.hK]; exact ⟨rfl, rfl⟩
theorem m_subset (g : Good C) : methOK C.K 314 "is_subset" 250 = true ∧ fnIn C.K 250 = true := by rw [g.hK]; exact ⟨rfl, rfl⟩
theorem m_direct (g : Good C) : methOK C.K 314 "direct" 184 = true ∧ fnIn C.K 184 = true := by rw [g.hK]; exact ⟨rfl, rfl⟩
theorem m_above (g : Good C) : methOK C.K 314 "above" 262 = true ∧ fnIn C.K 262 = true := by rw [g.hK]; exact ⟨rfl, rfl⟩
theorem m_top (g : Good C) : methOK C.K 314 "top" 269 = true ∧ fnIn C.K 269 = true := by rw [g.hK]; exact ⟨rfl, rfl⟩
theorem m_children (g : Good C) : methOK C.K 314 "children" 255 = true ∧ fnIn C.K 255 = true := by rw [g.hK]; exact ⟨rfl, rfl⟩
theorem m_abs (g : Good C) : methOK C.K 314 "is_abstract" 283 = true ∧ fnIn C.K 283 = true := by rw [g.hK]; exact ⟨rfl, rfl⟩
theorem m_mult (g : Good C) : methOK C.K 314 "mult" 290 = true ∧ fnIn C.K 290 = true := by rw [g.hK]; exact ⟨rfl, rfl⟩
theorem m_names (g : Good C) : methOK C.K 314 "names" 215 = true ∧ fnIn C.K 215 = true := by rw [g.hK]; exact ⟨rfl, rfl⟩
theorem m_orders (g : Good C) : methOK C.K 314 "orders" 311 = true ∧ fnIn C.K 311 = true := by rw [g.hK]; exact ⟨rfl, rfl⟩

section
variable {σ : St} {x ea sa : Addr} {its : List Row} {fs : Loc} {nm : Str} {row : Row}
theorem abs_spec (g : Good C) (h : Sigs σ x its ea sa fs) (hf : findR its nm = some row) {Q : PV → St → Prop} (q : Q (.bool row.abs) σ) : CallJ C 1 (.ref 283) [.ref x, .str nm] σ Q := by
  refine call_fn (xs := ["self", "name"]) (by rw [g.hK]; exact rfl) (by rw [g.hK]; exact rfl) (fun vals h => ?_) rfl (by decide) (by decide) (by decide) rfl rfl rfl fun A L => ?_
  · match vals, h with
    | [a, b], _ => rfl
  walk_at "sts"
  refine E_attr ?_
  walk_at "sts"
  refine ⟨x, 314, fs, _, rfl, h.inst, a_entries g, h.he, nofun, ?_⟩
  walk_at "sts"
  refine o_item_dict h.e (by rw [entD_get, hf]; rfl) ?_
  walk_at "sts"
  exact o_item_tuple (by omega) (by omega) rfl q
theorem mult_spec (g : Good C) (h : Sigs σ x its ea sa fs) (hf : findR its nm = some row) {Q : PV → St → Prop} (q : Q (.str row.mult) σ) : CallJ C 1 (.ref 290) [.ref x, .str nm] σ Q := by
  refine call_fn (xs := ["self", "name"]) (by rw [g.hK]; exact rfl) (by rw [g.hK]; exact rfl) (fun vals h => ?_) rfl (by decide) (by decide) (by decide) rfl rfl rfl fun A L => ?_
  · match vals, h with
    | [a, b], _ => rfl
  walk_at "sts"
  refine E_attr ?_
  walk_at "sts"
  refine ⟨x, 314, fs, _, rfl, h.inst, a_entries g, h.he, nofun, ?_⟩
  walk_at "sts"
  refine o_item_dict h.e (by rw [entD_get, hf]; rfl) ?_
  walk_at "sts"
  exact o_item_tuple (by omega) (by omega) rfl q
theorem supers_spec (g : Good C) (h : Sigs σ x its ea sa fs) (hf : findR its nm = some row) {Q : PV → St → Prop} (q : Q (.tup []) σ) : CallJ C 1 (.ref 243) [.ref x, .str nm] σ Q := by
  refine call_fn (xs := ["self", "name"]) (by rw [g.hK]; exact rfl) (by rw [g.hK]; exact rfl) (fun vals h => ?_) rfl (by decide) (by decide) (by decide) rfl rfl rfl fun A L => ?_
  · match vals, h with
    | [a, b], _ => rfl
  walk_at "sts"
  refine E_typ1 (E_blt (v := .type "tuple") (g_tuple g) rfl (fun _ => .typ _) ⟨rfl, ?_⟩)
  walk_at "sts"
  refine E_attr ?_
  walk_at "sts"
  refine ⟨x, 314, fs, _, rfl, h.inst, a_entries g, h.he, nofun, ?_⟩
  walk_at "sts"
  refine o_item_dict h.e (by rw [entD_get, hf]; rfl) ?_
  walk_at "sts"
  refine o_item_tuple (by omega) (by omega) rfl ?_
  walk_at "sts"
  intro s vals hv
  cases hv with
  | cons hv z => cases z; exact op_tuple_tuple hv q
theorem subset_spec (g : Good C) (h : Sigs σ x its ea sa fs) (hf : findR its nm = some row) {Q : PV → St → Prop} (q : Q (.bool false) σ) : CallJ C 1 (.ref 250) [.ref x, .str nm] σ Q := by
  refine call_fn (xs := ["self", "name"]) (by rw [g.hK]; exact rfl) (by rw [g.hK]; exact rfl) (fun vals h => ?_) rfl (by decide) (by decide) (by decide) rfl rfl rfl fun A L => ?_
  · match vals, h with
    | [a, b], _ => rfl
  walk_at "sts"
  refine E_len (g_len g) rfl rfl rfl ?_
  walk_at "sts"
  refine E_attr ?_
  walk_at "sts"
  refine ⟨x, 314, fs, _, rfl, h.inst, a_entries g, h.he, nofun, ?_⟩
  walk_at "sts"
  refine o_item_dict h.e (by rw [entD_get, hf]; rfl) ?_
  walk_at "sts"
  refine o_item_tuple (by omega) (by omega) rfl ?_
  refine ⟨0, .inr ⟨_, rfl, rfl⟩, by omega, ?_⟩
  walk_at "sts"
  exact o_gt q
theorem direct_spec (g : Good C) (h : Sigs σ x its ea sa fs) (hf : findR its nm = some row) {Q : PV → St → Prop} (q : Q (.tup (if (row.par == ("" : Str)) = true then [] else [.str row.par])) σ) : CallJ C 2 (.ref 184) [.ref x, .str nm] σ Q := by
  refine call_fn (xs := ["self", "name"]) (by rw [g.hK]; exact rfl) (by rw [g.hK]; exact rfl) (fun vals h => ?_) rfl (by decide) (by decide) (by decide) rfl rfl rfl fun A L => ?_
  · match vals, h with
    | [a, b], _ => rfl
  walk_at "sts"
  refine E.at (.tup (if (row.par == ("" : Str)) = true then [] else [.str row.par])) σ (E_if ?_) ?_
  · walk_at "sts"
    refine E_sm (m_parent g) (by decide) ?_
    walk_at "sts"
    refine ⟨x, its, ea, sa, fs, rfl, h, ?_⟩
    walk_at "sts"
    refine parent_spec g h hf ?_
    walk_at "sts"
    refine o_ne_str ⟨_, rfl, ?_⟩
    cases hp : row.par == ("" : Str) with
    | true =>
      rw [if_neg (by rw [bne, hp]; decide)]
      walk_at "sts"
      exact ⟨rfl, rfl⟩
    | false =>
      rw [if_pos (by rw [bne, hp]; rfl)]
      walk_at "sts"
      refine E_sm (m_parent g) (by decide) ?_
      walk_at "sts"
      refine ⟨x, its, ea, sa, fs, rfl, h, ?_⟩
      walk_at "sts"
      refine parent_spec g h hf ?_
      walk_at "sts"
      exact ⟨rfl, rfl⟩
  · refine E_sm (m_supers g) (by decide) ?_
    walk_at "sts"
    refine ⟨x, its, ea, sa, fs, rfl, h, ?_⟩
    walk_at "sts"
    refine supers_spec g h hf ?_
    refine o_add_tuple (by split <;> simp) ?_
    rw [List.append_nil]; exact q
end
end
end

section
set_option maxRecDepth 100000
open PySem PySem.W PyProof.Rows PySem.Calls PySem.SeqAt
theorem findR_mem {its : List Row} (hn : (its.map (·.name)).Nodup) {r : Row} (h : r ∈ its) : findR its r.name = some r := by
  unfold findR
  induction its with
  | nil => cases h
  | cons p q ih =>
    rw [List.map_cons, List.nodup_cons] at hn
    rw [List.find?_cons]
    cases h with
    | head => simp
    | tail _ h =>
      have : (p.name == r.name) = false := by
        rw [beq_eq_false_iff_ne]; intro z; exact hn.1 (z ▸ List.mem_map_of_mem h)
      rw [this]; exact ih hn.2 h
theorem kids_fm {its : List Row} (hn : (its.map (·.name)).Nodup) (nm : Str) : ((its.map (·.name)).map PV.str).filterMap (fun d => match d with
      | .str o => (match findR its o with
        | some r => if r.par == nm then some (PV.str o) else none
        | none => none)
      | _ => none) = ((its.filter fun r => r.par == nm).map (·.name)).map .str := by
  rw [List.filterMap_map, List.filterMap_map]
  have : ∀ l : List Row, (∀ r ∈ l, r ∈ its) → l.filterMap (((fun d => match d with
      | PV.str o => (match findR its o with
        | some r => if r.par == nm then some (PV.str o) else none
        | none => none)
      | _ => none) ∘ PV.str) ∘ fun x => x.name) = ((l.filter fun r => r.par == nm).map (·.name)).map .str := by
    intro l
    induction l with
    | nil => intro _; rfl
    | cons r q ih =>
      intro hl
      rw [List.filterMap_cons, ih fun r hr => hl r (.tail _ hr)]
      simp only [Function.comp_apply, findR_mem hn (hl r (.head _))]
      by_cases h : (r.par == nm) = true
      · simp [h]
      · simp [h]
  exact this its fun _ h => h
theorem Up.find {its : List Row} {nm : Str} {l : List Str} (h : Up its nm l) : ∃ row, findR its nm = some row ∧ ((row.par == ("" : Str)) = true ↔ l = []) := by
  cases h with
  | nil h1 h2 => exact ⟨_, h1, by simp [h2]⟩
  | cons h1 h2 h3 => exact ⟨_, h1, by simp [h2]⟩
section
variable {C : Cx} {σ : St} {x ea sa : Addr} {its : List Row} {fs : Loc} {nm : Str} {row : Row}
theorem children_spec (g : Good C) (h : Sigs σ x its ea sa fs) (hn : (its.map (·.name)).Nodup) {Q : PV → St → Prop}
    (q : ∀ σ' c, Sub [] σ σ' → σ c = none → σ' c = some (.list (((its.filter fun r => r.par == nm).map (·.name)).map .str)) → Q (.ref c) σ') : CallJ C 2 (.ref 255) [.ref x, .str nm] σ Q := by
  refine call_fnC (xs := ["self", "name"]) (by rw [g.hK]; exact rfl) (by rw [g.hK]; exact rfl) (fun vals h => ?_) rfl (by decide) (by decide) rfl rfl rfl fun A L own O => ?_
  · match vals, h with
    | [a, b], _ => rfl
  walk_at "sts"
  refine E_comp (mc := [("self", .ref x), ("name", .str nm)]) rfl (by decide) rfl (by decide) (fun L => Capt.cons rfl rfl rfl rfl (Capt.cons rfl rfl rfl rfl Capt.none)) (src_list ?_)
  refine E_attr ?_
  walk_at "sts"
  refine ⟨x, 314, fs, _, rfl, h.inst, a_stands g, h.hs, nofun, ?_⟩
  refine ⟨sa, _, rfl, h.s, ?_⟩
  refine CompJ_pure (by have := h.hz; simp; omega) h.s _ (fun L d hd => ?_) (fun c hc => (kids_fm hn nm) ▸ q _ c (Sub.new hc) hc (St.set_self _ _ _))
  rw [List.map_map] at hd
  obtain ⟨r, hr, rfl⟩ := List.mem_map.mp hd
  refine ⟨_, .name (.loc rfl), Ifs_one ?_⟩
  walk_at "sts"
  refine E_sm (m_parent g) (by decide) ?_
  walk_at "sts"
  refine ⟨x, its, ea, sa, fs, rfl, h, ?_⟩
  walk_at "sts"
  refine parent_spec g h (findR_mem hn hr) ?_
  walk_at "sts"
  refine o_eq_str ⟨_, rfl, rfl, ?_⟩
  split
  · rename_i hp
    walk_at "sts"
    refine ⟨?_, rfl⟩
    simp only [Function.comp_apply, findR_mem hn hr, hp, if_true]
  · rename_i hp
    simp only [Function.comp_apply, findR_mem hn hr, hp]
    rfl
theorem above_spec (g : Good C) (h : Sigs σ x its ea sa fs) {l : List Str} (up : Up its nm l) (hl : l.length ≤ 50) {Q : PV → St → Prop}
    (q : ∀ σ' c, Sub [] σ σ' → σ c = none → σ' c = some (.list (l.map .str)) → Q (.ref c) σ') : CallJ C 2 (.ref 262) [.ref x, .str nm] σ Q := by
  refine call_fn (xs := ["self", "name"]) (by rw [g.hK]; exact rfl) (by rw [g.hK]; exact rfl) (fun vals h => ?_) rfl (by decide) (by decide) (by decide) rfl rfl rfl fun A L => ?_
  · match vals, h with
    | [a, b], _ => rfl
  walk_at "sts"
  intro c hc
  refine S_seq (fun m' σ' => LSub [("found", .ref c)] m' ∧ Sub [c] σ σ' ∧ σ' c = some (.list (l.map .str))) (S_while (fun k m' σ' => ∃ cur done rest, k = rest.length ∧ LSub [("self", .ref x), ("name", .str cur), ("found", .ref c)] m' ∧ Up its cur rest ∧ done ++ rest = l ∧ σ' c = some (.list (done.map .str)) ∧ Sub [c] σ σ') l.length ?_ ?_) ?_
  · exact ⟨nm, [], l, rfl, .cons rfl (.cons rfl (.cons rfl .nil)), up, rfl, St.set_self _ _ _, Sub.new hc⟩
  · rintro k m' σ' ⟨cur, done, rest, rfl, hm, hup, hd, ec, s⟩
    have h' := h.sub (s.drop hc)
    refine ⟨_, hm.get, ?_⟩
    obtain ⟨row, hf, hiff⟩ := hup.find
    walk_at "sts"
    refine E_sm (m_parent g) (by decide) ?_
    walk_at "sts"
    refine ⟨x, its, ea, sa, fs, rfl, h', ?_⟩
    walk_at "sts"
    refine parent_spec g h' hf ?_
    walk_at "sts"
    refine o_ne_str ⟨_, rfl, ?_⟩
    cases hup with
    | nil h1 h2 =>
      rw [hf] at h1; cases h1
      rw [if_neg (by rw [bne, h2]; decide)]
      rw [List.append_nil] at hd; subst hd
      exact ⟨.cons rfl .nil, s, ec⟩
    | cons h1 h2 h3 =>
      rw [hf] at h1; cases h1
      rename_i rest
      rw [if_pos (by rw [bne, h2]; rfl)]
      walk_at "sts"
      refine E_sm (m_parent g) (by decide) ?_
      walk_at "sts"
      refine ⟨x, its, ea, sa, fs, rfl, h', ?_⟩
      walk_at "sts"
      refine parent_spec g h' hf ?_
      walk_at "sts"
      refine E_append ?_
      walk_at "sts"
      refine ⟨c, rfl, ⟨_, ec⟩, ?_⟩
      walk_at "sts"
      have hdl := congrArg List.length hd
      rw [List.length_append, List.length_cons] at hdl
      refine ⟨_, ec, by rw [List.length_map]; omega, ?_⟩
      walk_at "sts"
      refine ⟨rest.length, by simp, row.par, done ++ [row.par], rest, rfl, .cons rfl (.cons rfl (.cons rfl .nil)), h3, by rw [List.append_assoc]; exact hd, ?_, s.trans (Sub.upd (.head _))⟩
      rw [St.set_self, List.map_append]; rfl
  · rintro m' σ' ⟨hm, s, ec⟩
    refine S.forget hm ?_
    walk_at "sts"
    exact q σ' c (s.drop hc) hc ec
noncomputable def lastOf (nm : Str) (l : List Str) : Str := (nm :: l).getLast (by simp)
theorem top_spec (g : Good C) (h : Sigs σ x its ea sa fs) {l : List Str} (up : Up its nm l) (hl : l.length ≤ 50) {Q : PV → St → Prop}
    (q : ∀ σ', Sub [] σ σ' → Q (.str (lastOf nm l)) σ') : CallJ C 3 (.ref 269) [.ref x, .str nm] σ Q := by
  refine call_fn (xs := ["self", "name"]) (by rw [g.hK]; exact rfl) (by rw [g.hK]; exact rfl) (fun vals h => ?_) rfl (by decide) (by decide) (by decide) rfl rfl rfl fun A L => ?_
  · match vals, h with
    | [a, b], _ => rfl
  obtain ⟨row, hf, hiff⟩ := up.find
  walk_at "sts"
  refine E_sm (m_subset g) (by decide) ?_
  walk_at "sts"
  refine ⟨x, its, ea, sa, fs, rfl, h, ?_⟩
  walk_at "sts"
  refine (subset_spec g h hf ⟨_, rfl, ?_⟩).le (by omega)
  rw [if_neg (by decide)]
  walk_at "sts"
  intro a ha
  have h1 := h.sub (Sub.new (o := .list [.str nm]) ha)
  refine E_sm (m_above g) (by decide) ?_
  walk_at "sts"
  refine ⟨x, its, ea, sa, fs, rfl, h1, ?_⟩
  walk_at "sts"
  refine above_spec g h1 up hl fun σ' c s hc ec => ?_
  have ea1 := s _ _ nofun (St.set_self σ a (.list [.str nm]))
  refine o_add_list ea1 ec (by simp; omega) fun b hb => ?_
  refine E_neg ?_
  walk_at "sts"
  refine ⟨1, rfl, ?_⟩
  refine o_item_last (d := .str (lastOf nm l)) (St.set_self _ _ _) ?_ (q _ ((Sub.new ha).trans (s.trans (Sub.new hb))))
  show (((nm :: l).map PV.str)).getLast? = _
  rw [List.getLast?_map, List.getLast?_eq_some_getLast (by simp)]; rfl
theorem names_spec (g : Good C) {ra : Addr} {xs : List Str} (h : Sigs σ x its ea sa fs) (hr : Loc.get fs "ordered" = some (.ref ra)) (er : σ ra = some (.list (xs.map .str))) (hz : xs.length ≤ 100) {Q : PV → St → Prop}
    (q : ∀ σ' c, Sub [] σ σ' → σ c = none → σ' c = some (.list (xs.map .str)) → Q (.ref c) σ') : CallJ C 1 (.ref 215) [.ref x] σ Q := by
  refine call_fn (xs := ["self"]) (by rw [g.hK]; exact rfl) (by rw [g.hK]; exact rfl) (fun vals h => ?_) rfl (by decide) (by decide) (by decide) rfl rfl rfl fun A L => ?_
  · match vals, h with
    | [a], _ => rfl
  walk_at "sts"
  refine E_typ1 (E_blt (v := .type "list") (g_list g) rfl (fun _ => .typ _) ⟨rfl, ?_⟩)
  walk_at "sts"
  refine E_attr ?_
  walk_at "sts"
  refine ⟨x, 314, fs, _, rfl, h.inst, a_ordered g, hr, nofun, ?_⟩
  walk_at "sts"
  intro s vals hv
  cases hv with
  | cons hv z => cases z; exact op_list_list er (by simp; omega) hv fun c hc => q _ c (Sub.new hc) hc (St.set_self _ _ _)
theorem orders_spec (g : Good C) {oa : Addr} {ds : List PV} (h : Sigs σ x its ea sa fs) (hr : Loc.get fs "opened" = some (.ref oa)) (er : σ oa = some (.list ds)) (hz : ds.length ≤ 100) {Q : PV → St → Prop}
    (q : ∀ σ' c, Sub [] σ σ' → σ c = none → σ' c = some (.list ds) → Q (.ref c) σ') : CallJ C 1 (.ref 311) [.ref x] σ Q := by
  refine call_fn (xs := ["self"]) (by rw [g.hK]; exact rfl) (by rw [g.hK]; exact rfl) (fun vals h => ?_) rfl (by decide) (by decide) (by decide) rfl rfl rfl fun A L => ?_
  · match vals, h with
    | [a], _ => rfl
  walk_at "sts"
  refine E_typ1 (E_blt (v := .type "list") (g_list g) rfl (fun _ => .typ _) ⟨rfl, ?_⟩)
  walk_at "sts"
  refine E_attr ?_
  walk_at "sts"
  refine ⟨x, 314, fs, _, rfl, h.inst, a_opened g, hr, nofun, ?_⟩
  walk_at "sts"
  intro s vals hv
  cases hv with
  | cons hv z => cases z; exact op_list_list er (by omega) hv fun c hc => q _ c (Sub.new hc) hc (St.set_self _ _ _)
end
end

section
set_option maxRecDepth 100000
open PySem PySem.W PyProof.Rows PySem.Calls PySem.SeqAt
theorem Loc.set_new {m : Loc} {x : Str} {d : PV} (h : Loc.get m x = none) : Loc.set m x d = m ++ [(x, d)] := by
  induction m with
  | nil => rfl
  | cons p r ih =>
    obtain ⟨y, w⟩ := p
    unfold Loc.get at h ih
    rw [List.lookup_cons] at h
    cases hh : x == y with
    | true => simp [hh] at h
    | false =>
      simp only [hh] at h
      have h2 : (y == x) = false := by
        rw [beq_eq_false_iff_ne] at hh ⊢; exact fun z => hh z.symm
      unfold Loc.set
      rw [if_neg (by rw [h2]; decide), ih h]; rfl
theorem findR_none {its : List Row} {nm : Str} (h : nm ∉ its.map (·.name)) : findR its nm = none := by
  unfold findR
  rw [List.find?_eq_none]
  intro r hr z
  rw [beq_iff_eq] at z
  exact h (z ▸ List.mem_map_of_mem hr)
theorem entD_snoc {its : List Row} {r : Row} (h : r.name ∉ its.map (·.name)) : Loc.set (entD its) r.name (itemV r) = entD (its ++ [r]) := by
  rw [Loc.set_new (by rw [entD_get, findR_none h]; rfl)]
  unfold entD; rw [List.map_append]; rfl
theorem Inst.upd {σ : St} {x D a : Addr} {fs : Loc} {o o' : Ob} (h : Inst σ x D fs) (e : σ a = some o) (h1 : ∀ C dx, o ≠ .inst C dx) (h2 : ∀ f, o ≠ .attrs f) : Inst (σ.set a o') x D fs :=
  h.sub (Sub.upd (x := [a]) (.head _)) fun b hb => by
    rw [List.mem_singleton] at hb; subst hb; exact ⟨o, e, h1, h2⟩
section
variable {C : Cx} {σ : St} {x ea sa : Addr} {its : List Row} {fs : Loc} {nm : Str} {row : Row}
theorem m_take (g : Good C) : methOK C.K 314 "take_sig" 170 = true ∧ fnIn C.K 170 = true := by rw [g.hK]; exact ⟨rfl, rfl⟩
theorem m_look (g : Good C) : methOK C.K 314 "look_above" 177 = true ∧ fnIn C.K 177 = true := by rw [g.hK]; exact ⟨rfl, rfl⟩
theorem take_spec (g : Good C) (h : Sigs σ x its ea sa fs) (hno : row.name ∉ its.map (·.name)) (hz : its.length < 100) {Q : PV → St → Prop}
    (q : ∀ σ', Sub [ea, sa] σ σ' → Sigs σ' x (its ++ [row]) ea sa fs → Q .none σ') : CallJ C 1 (.ref 170) [.ref x, itemV row] σ Q := by
  refine call_fn (xs := ["self", "item"]) (by rw [g.hK]; exact rfl) (by rw [g.hK]; exact rfl) (fun vals h => ?_) rfl (by decide) (by decide) (by decide) rfl rfl rfl fun A L => ?_
  · match vals, h with
    | [a, b], _ => rfl
  refine S_seq (fun m' σ' => LSub [("item", itemV row)] m' ∧ Sub [ea, sa] σ σ' ∧ Sigs σ' x (its ++ [row]) ea sa fs) (S_for (src_tuple ?_)) ?_
  · walk_at "sts"
    refine o_item_tuple (by omega) (by omega) rfl ?_
    refine ⟨_, rfl, fun i m' σ' => if i = 0 then LSub [("self", .ref x), ("item", itemV row)] m' ∧ σ' = σ else LSub [("item", itemV row)] m' ∧ Sub [ea, sa] σ σ' ∧ Sigs σ' x (its ++ [row]) ea sa fs, ?_, fun _ _ _ _ => trivial, ?_, fun m' σ' hI => by simpa using hI⟩
    · exact (if_pos rfl).mpr ⟨.cons rfl (.cons rfl .nil), rfl⟩
    · rintro i m' σ' d hd hI
      have hi : i = 0 := by
        rcases Nat.eq_zero_or_pos i with h0 | h0
        · exact h0
        · rw [List.getElem?_eq_none (by simp; omega)] at hd; cases hd
      subst hi
      have hI := (if_pos rfl).mp hI
      obtain ⟨hm, rfl⟩ := hI
      simp at hd; subst hd
      refine ⟨_, .name (.loc rfl), ?_⟩
      refine S.forget (m0 := [("self", .ref x), ("item", itemV row), ("name", .str row.name)]) ?_ ?_
      · exact .cons (by rw [Loc.get_set, if_neg (by decide)]; exact hm.1) (.cons (by rw [Loc.get_set, if_neg (by decide)]; exact hm.2.1) (.cons (by rw [Loc.get_set, if_pos rfl]) .nil))
      walk_at "sts"
      refine E_attr ?_
      walk_at "sts"
      refine ⟨x, 314, fs, _, rfl, h.inst, a_entries g, h.he, nofun, ?_⟩
      refine o_in_dict h.e ⟨_, rfl, ?_⟩
      rw [entD_get, findR_none hno, if_neg (by decide)]
      walk_at "sts"
      refine E_attr ?_
      walk_at "sts"
      refine ⟨x, 314, fs, _, rfl, h.inst, a_entries g, h.he, nofun, ?_⟩
      walk_at "sts"
      refine ⟨ea, _, _, rfl, rfl, h.e, by simp [entD]; omega, ?_⟩
      rw [entD_snoc hno]
      have i1 : Inst (σ'.set ea (.dict (entD (its ++ [row])))) x 314 fs := h.inst.upd h.e nofun nofun
      have es1 : (σ'.set ea (.dict (entD (its ++ [row])))) sa = _ := get_upd (ne_list_dict h.s h.e) h.s
      have ee1 := St.set_self σ' ea (.dict (entD (its ++ [row])))
      have s1 : Sub [ea, sa] σ' _ := Sub.upd (c := ea) (o := .dict (entD (its ++ [row]))) (.head _)
      generalize σ'.set ea (.dict (entD (its ++ [row]))) = σ1 at i1 es1 ee1 s1 ⊢
      walk_at "sts"
      refine E_append ?_
      refine E_attr ?_
      walk_at "sts"
      refine ⟨x, 314, fs, _, rfl, i1, a_stands g, h.hs, nofun, ?_⟩
      refine ⟨sa, rfl, ⟨_, es1⟩, ?_⟩
      walk_at "sts"
      refine ⟨_, es1, by simp; omega, ?_⟩
      walk_at "sts"
      refine ⟨.cons rfl .nil, s1.trans (Sub.upd (by simp)), ?_⟩
      exact { h with
        inst := i1.upd es1 nofun nofun
        e := get_upd (ne_dict_list ee1 es1) ee1
        s := by rw [St.set_self]; simp
        hz := by simp; omega }
  · rintro m' σ' ⟨hm, s, h2⟩
    refine S.forget hm ?_
    walk_at "sts"
    refine E_len (g_len g) rfl rfl rfl ?_
    walk_at "sts"
    refine o_item_tuple (by omega) (by omega) rfl ?_
    refine ⟨0, .inr ⟨_, rfl, rfl⟩, by omega, ?_⟩
    walk_at "sts"
    refine o_gt ⟨_, rfl, ?_⟩
    rw [if_neg (by decide), if_neg (by decide)]
    walk_at "sts"
    exact q σ' s h2
theorem look_spec (g : Good C) (h : Sigs σ x its ea sa fs) (hf : findR its nm = some row) (hp : (row.par == ("" : Str)) = false → ∃ p, findR its row.par = some p) {Q : PV → St → Prop}
    (q : Q .none σ) : CallJ C 3 (.ref 177) [.ref x, .str nm] σ Q := by
  refine call_fn (xs := ["self", "name"]) (by rw [g.hK]; exact rfl) (by rw [g.hK]; exact rfl) (fun vals h => ?_) rfl (by decide) (by decide) (by decide) rfl rfl rfl fun A L => ?_
  · match vals, h with
    | [a, b], _ => rfl
  refine S_seq (fun m' σ' => LSub [("self", .ref x), ("name", .str nm)] m' ∧ σ' = σ) (S_for (src_tuple ?_)) ?_
  · refine E_sm (m_direct g) (by decide) ?_
    walk_at "sts"
    refine ⟨x, its, ea, sa, fs, rfl, h, ?_⟩
    walk_at "sts"
    refine direct_spec g h hf ?_
    refine ⟨_, rfl, fun i m' σ' => LSub [("self", .ref x), ("name", .str nm)] m' ∧ σ' = σ, ⟨.cons rfl (.cons rfl .nil), rfl⟩, fun _ _ _ _ => trivial, ?_, fun _ _ h => h⟩
    rintro i m' σ' d hd ⟨hm, rfl⟩
    cases hpp : row.par == ("" : Str) with
    | true => rw [hpp, if_pos rfl] at hd; simp at hd
    | false =>
      rw [hpp, if_neg (by decide)] at hd
      obtain ⟨p, hp'⟩ := hp hpp
      have : d = .str row.par := by
        rcases Nat.eq_zero_or_pos i with h0 | h0
        · subst h0; simp at hd; exact hd.symm
        · rw [List.getElem?_eq_none (by simp; omega)] at hd; cases hd
      subst this
      refine ⟨_, .name (.loc rfl), ?_⟩
      refine S.forget (m0 := [("self", .ref x), ("name", .str nm), ("other", .str row.par)]) ?_ ?_
      · exact .cons (by rw [Loc.get_set, if_neg (by decide)]; exact hm.1) (.cons (by rw [Loc.get_set, if_neg (by decide)]; exact hm.2.1) (.cons (by rw [Loc.get_set, if_pos rfl]) .nil))
      walk_at "sts"
      refine E_attr ?_
      walk_at "sts"
      refine ⟨x, 314, fs, _, rfl, h.inst, a_entries g, h.he, nofun, ?_⟩
      refine o_notin_dict h.e ⟨_, rfl, ?_⟩
      rw [entD_get, hp', if_neg (by simp)]
      walk_at "sts"
      exact ⟨.cons rfl (.cons rfl .nil), rfl⟩
  · rintro m' σ1 ⟨hm, hs⟩
    rw [hs]; clear hs
    refine S.forget hm ?_
    walk_at "sts"
    refine E_sm (m_parent g) (by decide) ?_
    walk_at "sts"
    refine ⟨x, its, ea, sa, fs, rfl, h, ?_⟩
    walk_at "sts"
    refine (parent_spec g h hf ?_).le (by omega)
    walk_at "sts"
    refine o_ne_str ⟨_, rfl, ?_⟩
    cases hpp : row.par == ("" : Str) with
    | true =>
      rw [if_neg (by rw [bne, hpp]; decide), if_neg (by decide)]
      walk_at "sts"
      exact q
    | false =>
      obtain ⟨p, hp'⟩ := hp hpp
      rw [if_pos (by rw [bne, hpp]; rfl)]
      walk_at "sts"
      refine E_sm (m_subset g) (by decide) ?_
      walk_at "sts"
      refine ⟨x, its, ea, sa, fs, rfl, h, ?_⟩
      refine E_sm (m_parent g) (by decide) ?_
      walk_at "sts"
      refine ⟨x, its, ea, sa, fs, rfl, h, ?_⟩
      walk_at "sts"
      refine (parent_spec g h hf ?_).le (by omega)
      refine (subset_spec g h hp' ⟨_, rfl, ?_⟩).le (by omega)
      rw [if_neg (by decide), if_neg (by decide)]
      walk_at "sts"
      exact q
end
end

section
set_option maxRecDepth 100000
open PySem PySem.W PyProof.Rows PySem.Calls PySem.SeqAt
structure WF (its : List Row) (rk : Str → Nat) : Prop where
  nd : (its.map (·.name)).Nodup
  par : ∀ r ∈ its, (r.par == ("" : Str)) = false → ∃ p ∈ its, p.name = r.par ∧ rk r.par < rk r.name
  len : its.length ≤ 100
noncomputable def able (its : List Row) (fl : List Str) (nm : Str) : Bool := match findR its nm with
  | some r => r.par == ("" : Str) || fl.any (· == r.par)
  | none => false
theorem able_eq {its : List Row} {fl : List Str} {nm : Str} {r : Row} (h : findR its nm = some r) : able its fl nm = (r.par == ("" : Str) || fl.any (· == r.par)) := by unfold able; rw [h]
theorem exists_min (rk : Str → Nat) : ∀ (l : List Str), l ≠ [] → ∃ a ∈ l, ∀ b ∈ l, rk a ≤ rk b
  | [], h => absurd rfl h
  | [a], _ => ⟨a, by simp, by simp⟩
  | a :: b :: r, _ => by
    obtain ⟨c, hc, hm⟩ := exists_min rk (b :: r) (by simp)
    by_cases h : rk a ≤ rk c
    · exact ⟨a, by simp, fun z hz => by
        cases hz with
        | head => exact Nat.le_refl _
        | tail _ hz => exact Nat.le_trans h (hm z hz)⟩
    · exact ⟨c, .tail _ hc, fun z hz => by
        cases hz with
        | head => omega
        | tail _ hz => exact hm z hz⟩
theorem mem_names {its : List Row} {nm : Str} (h : nm ∈ its.map (·.name)) : ∃ r ∈ its, r.name = nm := by
  obtain ⟨r, hr, e⟩ := List.mem_map.mp h; exact ⟨r, hr, e⟩
theorem able_exists {its : List Row} {rk : Str → Nat} (w : WF its rk) {fl rl : List Str} (hp : (fl ++ rl).Perm (its.map (·.name))) (hr : rl ≠ []) : ∃ a ∈ rl, able its fl a = true := by
  obtain ⟨a, ha, hm⟩ := exists_min rk rl hr
  refine ⟨a, ha, ?_⟩
  obtain ⟨r, hr, rfl⟩ := mem_names (hp.subset (List.mem_append.mpr (.inr ha)))
  rw [able_eq (findR_mem w.nd hr)]
  cases hpp : r.par == ("" : Str) with
  | true => rfl
  | false =>
    obtain ⟨p, hpm, e, hlt⟩ := w.par r hr hpp
    have : r.par ∈ fl ++ rl := hp.symm.subset (e ▸ List.mem_map_of_mem hpm)
    rcases List.mem_append.mp this with h | h
    · exact List.any_eq_true.mpr ⟨_, h, by simp⟩
    · have := hm _ h; omega
section
variable {C : Cx} {σ : St} {x ea sa : Addr} {its : List Row} {fs : Loc} {nm : Str} {row : Row}
set_option maxHeartbeats 4000000 in
theorem first_spec (g : Good C) (h : Sigs σ x its ea sa fs) {rk : Str → Nat} (w : WF its rk) {Q : PV → St → Prop}
    (q : ∀ σ' c (fl : List Str), Sub [] σ σ' → σ c = none → fl.Perm (its.map (·.name)) → σ' c = some (.list (fl.map .str)) → Q (.ref c) σ') : CallJ C 3 (.ref 189) [.ref x] σ Q := by
  refine call_fnC (xs := ["self"]) (by rw [g.hK]; exact rfl) (by rw [g.hK]; exact rfl) (fun vals h => ?_) rfl (by decide) (by decide) rfl rfl rfl fun A L own O => ?_
  · match vals, h with
    | [a], _ => rfl
  refine S_cons (S_unpack (xs := ["found", "rest"]) rfl ?_ ?_)
  · intro y hy
    simp only [List.mem_cons, List.not_mem_nil, or_false] at hy
    rcases hy with rfl | rfl
    · exact .cell rfl O rfl
    · exact .loc rfl
  walk_at "sts"
  intro c hc
  walk_at "sts"
  refine E_typ1 (E_blt (v := .type "list") (g_list g) rfl (fun _ => .typ _) ⟨rfl, ?_⟩)
  have h0 := h.sub (Sub.new (o := .list []) hc)
  walk_at "sts"
  refine E_attr ?_
  walk_at "sts"
  refine ⟨x, 314, fs, _, rfl, h0.inst, a_stands g, h0.hs, nofun, ?_⟩
  walk_at "sts"
  intro s vals hv
  cases hv with
  | cons hv z =>
  cases z
  refine op_list_list h0.s (by have := h.hz; simp; omega) hv fun d hd => ?_
  walk_at "sts"
  refine ⟨_, rfl, rfl, ?_⟩
  have hdc : c ≠ d := ne_new hd (St.set_self σ c (.list []))
  have hd0 : σ d = none := by rw [← hd]; exact (St.set_ne _ _ hdc.symm).symm
  refine S.forget (m0 := [("self", .ref x), ("found", .ref c), ("rest", .ref d)]) (.cons rfl (.cons rfl (.cons rfl .nil))) ?_
  have s0 : Sub [c, d] σ ((σ.set c (.list [])).set d (.list ((its.map (·.name)).map .str))) := (Sub.new hc).trans (Sub.new hd)
  have ec0 : ((σ.set c (.list [])).set d (.list ((its.map (·.name)).map .str))) c = some (.list []) := get_new hd (St.set_self _ _ _)
  have ed0 := St.set_self (σ.set c (.list [])) d (.list ((its.map (·.name)).map .str))
  generalize ((σ.set c (.list [])).set d (.list ((its.map (·.name)).map .str))) = σ0 at s0 ec0 ed0 ⊢
  clear h0 hd
  refine S_seq (fun m' σ' => LSub [("found", .ref c)] m' ∧ ∃ fl : List Str, Sub [c, d] σ σ' ∧ fl.Perm (its.map (·.name)) ∧ σ' c = some (.list (fl.map .str))) (S_while (fun k m' σ' => ∃ fl rl : List Str, k = rl.length ∧ LSub [("self", .ref x), ("found", .ref c), ("rest", .ref d)] m' ∧ (fl ++ rl).Perm (its.map (·.name)) ∧ σ' c = some (.list (fl.map .str)) ∧ σ' d = some (.list (rl.map .str)) ∧ Sub [c, d] σ σ') (its.map (·.name)).length ?_ ?_) ?_
  · exact ⟨[], _, rfl, .cons rfl (.cons rfl (.cons rfl .nil)), .refl _, ec0, ed0, s0⟩
  · rintro k m' σ1 ⟨fl, rl, rfl, hm, hp, ec, ed, s1⟩
    refine ⟨_, hm.get, ?_⟩
    have h1 := h.sub ((s1.drop hc).drop hd0)
    have hlen := hp.length_eq
    rw [List.length_append, List.length_map] at hlen
    have hz := h.hz
    walk_at "sts"
    refine E_len (g_len g) rfl rfl rfl ?_
    walk_at "sts"
    refine ⟨_, .inl ⟨d, _, rfl, ed, rfl⟩, by simp; omega, ?_⟩
    walk_at "sts"
    refine o_gt ⟨_, rfl, ?_⟩
    by_cases hr0 : rl = []
    · subst hr0
      rw [if_neg (by decide)]
      rw [List.append_nil] at hp
      exact ⟨.cons rfl .nil, fl, s1, hp, ec⟩
    · have hpos : 0 < rl.length := List.length_pos_iff.mpr hr0
      rw [if_pos (by simpa using hpos)]
      refine S_cons (S_assign_comp (mc := [("self", .ref x), ("found", .ref c)]) (.loc rfl) rfl (by decide) rfl (by decide) (fun L => Capt.cons rfl rfl rfl rfl (Capt.cons rfl rfl rfl rfl Capt.none)) (src_list ?_))
      walk_at "sts"
      refine ⟨d, _, rfl, ed, by simp; omega, fun i acc σ' => acc = ((rl.take i).filter (able its fl)).map .str ∧ Sub [] σ1 σ', ⟨by simp, .refl _ _⟩, fun i acc σ' hI => hI.2 _ _ nofun ed, ?_, ?_⟩
      · rintro L' i acc σ2 dd hdd ⟨rfl, s2⟩
        rw [List.getElem?_map] at hdd
        obtain ⟨nm, hnm, rfl⟩ := Option.map_eq_some_iff.mp hdd
        obtain ⟨row, hrow, rfl⟩ := mem_names (hp.subset (List.mem_append.mpr (.inr (List.mem_of_getElem? hnm))))
        have hf := findR_mem w.nd hrow
        have h2 := h1.sub s2
        have ec2 := s2 _ _ nofun ec
        refine ⟨_, .name (.loc rfl), Ifs_one ?_⟩
        walk_at "sts"
        refine E_comp (mc := [("found", .ref c)]) rfl (by decide) rfl (by decide) (fun L => Capt.cons rfl rfl rfl rfl Capt.none) (src_tuple ?_)
        refine E_sm (m_direct g) (by decide) ?_
        walk_at "sts"
        refine ⟨x, its, ea, sa, fs, rfl, h2, ?_⟩
        walk_at "sts"
        refine direct_spec g h2 hf ?_
        refine ⟨_, rfl, ?_⟩
        refine CompJ_pure (by split <;> simp) trivial (fun d => match d with
          | .str o => if fl.any (· == o) then none else some (PV.str o)
          | _ => none) (fun L3 d3 hd3 => ?_) ?_
        · have : d3 = .str row.par := by
            split at hd3
            · cases hd3
            · simpa using hd3
          subst this
          refine ⟨_, .name (.loc rfl), Ifs_one ?_⟩
          walk_at "sts"
          refine o_notin_list ec2 ⟨_, rfl, rfl, ?_⟩
          cases hany : fl.any (· == row.par) with
          | true => rw [if_neg (by decide)]; exact if_pos hany
          | false =>
            rw [if_pos (show (!false) = true from rfl)]
            walk_at "sts"
            exact ⟨if_neg (by rw [hany]; decide), rfl⟩
        · intro c3 hc3
          walk_at "sts"
          intro c4 hc4
          refine o_eq_nil (get_new hc4 (St.set_self _ _ _)) (St.set_self _ _ _) ⟨_, rfl, ?_⟩
          have s4 : Sub [] σ1 _ := s2.trans ((Sub.new hc3).trans (Sub.new (o := .list []) hc4))
          dsimp only
          rw [take_succ_get hnm]
          simp only [List.filter_append, List.map_append]
          have hab := able_eq (fl := fl) hf
          generalize hL2 : List.filterMap _ (if (row.par == ("" : Str)) = true then [] else [PV.str row.par]) = L2 at s4 hc4 ⊢
          have hE : L2.isEmpty = able its fl row.name := by
            rw [hab, ← hL2]
            cases hpp : row.par == ("" : Str) with
            | true => rw [if_pos rfl]; rfl
            | false =>
              rw [if_neg (by decide)]
              cases hany : fl.any (· == row.par) with
              | true => simp only [List.filterMap_cons, List.filterMap_nil, hany]; rfl
              | false => simp only [List.filterMap_cons, List.filterMap_nil, hany]; rfl
          rw [hE]
          cases hb : able its fl row.name with
          | true =>
            rw [if_pos rfl]
            walk_at "sts"
            refine ⟨?_, s4⟩
            rw [List.filter_cons_of_pos hb]; rfl
          | false =>
            rw [if_neg (by decide)]
            refine ⟨?_, s4⟩
            rw [List.filter_cons_of_neg (by rw [hb]; decide)]
            simp
      · rintro acc σ2 ⟨rfl, s2⟩ al hal
        rw [List.length_map, List.take_length] at *
        obtain ⟨a0, ha0, hab0⟩ := able_exists w hp hr0
        have hne : rl.filter (able its fl) ≠ [] := List.ne_nil_of_mem (List.mem_filter.mpr ⟨ha0, hab0⟩)
        obtain ⟨a, as, hfa⟩ : ∃ a as, rl.filter (able its fl) = a :: as := by
          cases hq : rl.filter (able its fl) with
          | nil => exact absurd hq hne
          | cons a as => exact ⟨a, as, rfl⟩
        have harl : a ∈ rl := (List.mem_filter.mp (hfa ▸ List.mem_cons_self : a ∈ rl.filter (able its fl))).1
        have eal := St.set_self σ2 al (.list ((rl.filter (able its fl)).map .str))
        have ec3 := get_new (o' := .list ((rl.filter (able its fl)).map .str)) hal (s2 _ _ nofun ec)
        have ed3 := get_new (o' := .list ((rl.filter (able its fl)).map .str)) hal (s2 _ _ nofun ed)
        have s3 : Sub [c, d] σ _ := s1.trans (s2.nil.trans (Sub.new (o := .list ((rl.filter (able its fl)).map .str)) hal))
        have hlf : (rl.filter (able its fl)).length ≤ 100 := Nat.le_trans (List.length_filter_le _ _) (by omega)
        have hca : c ≠ al := ne_new hal (s2 _ _ nofun ec)
        have hda : d ≠ al := ne_new hal (s2 _ _ nofun ed)
        have hcd' : c ≠ d := hdc
        generalize (σ2.set al (.list ((rl.filter (able its fl)).map .str))) = σ3 at eal ec3 ed3 s3 ⊢
        rw [hfa] at eal hlf
        walk_at "sts"
        refine E_len (g_len g) rfl rfl rfl ?_
        walk_at "sts"
        refine ⟨_, .inl ⟨al, _, rfl, eal, rfl⟩, by rw [List.length_map]; omega, ?_⟩
        walk_at "sts"
        refine o_eq_int ⟨_, rfl, ?_⟩
        rw [if_neg (by rw [beq_iff_eq]; simp; omega)]
        walk_at "sts"
        refine E_append ?_
        walk_at "sts"
        refine ⟨c, rfl, ⟨_, ec3⟩, ?_⟩
        walk_at "sts"
        refine o_item_list (d := .str a) eal (by omega) (by omega) rfl ?_
        refine ⟨_, ec3, by rw [List.length_map]; omega, ?_⟩
        have ec4 := St.set_self σ3 c (.list (fl.map .str ++ [.str a]))
        have ed4 := get_upd (o' := .list (fl.map .str ++ [.str a])) hcd'.symm ed3
        have eal4 := get_upd (o' := .list (fl.map .str ++ [.str a])) hca.symm eal
        have s4 : Sub [c, d] σ _ := s3.trans (Sub.upd (c := c) (o := .list (fl.map .str ++ [.str a])) (.head _))
        generalize (σ3.set c (.list (fl.map .str ++ [.str a]))) = σ4 at ec4 ed4 eal4 s4 ⊢
        walk_at "sts"
        refine E_bmeth PySem.F.plainAttrs_list PySem.F.slot_list_remove PySem.F.type_list_remove ?_
        walk_at "sts"
        refine ⟨d, rfl, .inl ⟨rfl, _, ed4⟩, ?_⟩
        walk_at "sts"
        refine o_item_list (d := .str a) eal4 (by omega) (by omega) rfl ?_
        walk_at "sts"
        intro s vals hv
        cases hv with
        | cons hv z =>
        cases z
        have hidx : rl.idxOf a < rl.length := List.idxOf_lt_length_iff.mpr harl
        refine op_remove (j := rl.idxOf a) ed4 (by omega) hv (by rw [List.getElem?_eq_getElem hidx, List.getElem_idxOf hidx]) (fun i hi hz => ?_) ?_
        · have hil : i < rl.length := Nat.lt_trans hi hidx
          have hno := List.not_of_lt_findIdx (show i < rl.findIdx (· == a) from hi)
          rw [List.getElem?_eq_getElem hil] at hz
          have hz' : rl[i] = a := by injection hz
          rw [hz'] at hno
          exact absurd (beq_self_eq_true a) (by simp at hno)
        walk_at "sts"
        refine ⟨(rl.eraseIdx (rl.idxOf a)).length, by rw [List.length_eraseIdx_of_lt hidx]; omega, fl ++ [a], rl.eraseIdx (rl.idxOf a), rfl, .cons rfl (.cons rfl (.cons rfl .nil)), ?_, ?_, St.set_self _ _ _, s4.trans (Sub.upd (by simp))⟩
        · refine List.Perm.trans ?_ hp
          rw [List.append_assoc]
          refine List.Perm.append_left _ ?_
          rw [← List.erase_eq_eraseIdx_of_idxOf]
          exact (List.perm_cons_erase harl).symm
          rfl
        · rw [get_upd hcd' ec4, List.map_append]; rfl
  · rintro m' σ' ⟨hm, fl, s, hp, ec⟩
    refine S.forget hm ?_
    walk_at "sts"
    exact q σ' c fl ((s.drop hc).drop hd0) hc hp ec
end
end

section
set_option maxRecDepth 100000
open PySem PySem.W PyProof.Rows PySem.Calls PySem.SeqAt
section
variable {C : Cx} {n : Nat} {A : Around} {env : Env} {own : List Addr} {m : Loc} {σ : St}
theorem E_sm0 {f : Addr} {meth : Str} (hok : methOK C.K 314 meth f = true ∧ fnIn C.K f = true) (hno : sigAttrs.contains meth = false) {o : Expr} {apos pos : Pos} {pl : Sem Bool} {Q : PV → St → Prop}
    (h : E C n A env own m σ o fun p σ1 => ∃ x its ea sa fs, p = .ref x ∧ Sigs σ1 x its ea sa fs ∧ CallJ C n (.ref f) [.ref x] σ1 Q)
    (hm : eval (.Call (.Attribute o meth apos) [] [] pos) env = (do
      let ov ← eval o env
      standAt apos.atName
      let (f, first) ← holding [ov] (getMethod ov meth pl)
      callWith pos f first (backTo pos (starEach [] env)) (backToKw pos (keywordEach [] env))) := by rfl) :
    E C n A env own m σ (.Call (.Attribute o meth apos) [] [] pos) Q :=
  E_meth0 (h.mono fun p σ1 ⟨x, its, ea, sa, fs, e1, hS, h2⟩ => ⟨x, 314, fs, f, e1, hS.inst, hok.1, hok.2, hS.no hno, h2⟩) hm
end
section
variable {C : Cx} {σ : St} {x ea sa : Addr} {its : List Row} {fs : Loc} {nm : Str} {row : Row}
theorem m_first (g : Good C) : methOK C.K 314 "parents_first" 189 = true ∧ fnIn C.K 189 = true := by rw [g.hK]; exact ⟨rfl, rfl⟩
theorem m_allf (g : Good C) : methOK C.K 314 "all_fields" 196 = true ∧ fnIn C.K 196 = true := by rw [g.hK]; exact ⟨rfl, rfl⟩
theorem m_lookf (g : Good C) : methOK C.K 314 "look_fields" 203 = true ∧ fnIn C.K 203 = true := by rw [g.hK]; exact ⟨rfl, rfl⟩
theorem m_order (g : Good C) : methOK C.K 314 "take_order" 208 = true ∧ fnIn C.K 208 = true := by rw [g.hK]; exact ⟨rfl, rfl⟩
theorem g_ordering (g : Good C) : ∃ t, nsIn C.K mainGlobals "ORDERING" = some (some (.str "util/ordering" t)) := by rw [g.hK]; exact ⟨_, rfl⟩
theorem allf_spec (g : Good C) {ra : Addr} {xs : List Str} (h : Sigs σ x its ea sa fs) (hr : Loc.get fs "ordered" = some (.ref ra)) (er : σ ra = some (.list (xs.map .str))) (hx : ∀ y ∈ xs, ∃ r, findR its y = some r) {Q : PV → St → Prop}
    (q : ∀ c, σ c = none → Q (.ref c) (σ.set c (.list []))) : CallJ C 1 (.ref 196) [.ref x] σ Q := by
  refine call_fn (xs := ["self"]) (by rw [g.hK]; exact rfl) (by rw [g.hK]; exact rfl) (fun vals h => ?_) rfl (by decide) (by decide) (by decide) rfl rfl rfl fun A L => ?_
  · match vals, h with
    | [a], _ => rfl
  refine S_cons (S_swap (xs := ["found", "group"]) ?_ rfl ?_)
  · intro y hy
    simp only [List.mem_cons, List.not_mem_nil, or_false] at hy
    rcases hy with rfl | rfl <;> exact .loc rfl
  walk_at "sts"
  intro c hc
  walk_at "sts"
  refine ⟨_, rfl, rfl, ?_⟩
  have hq := q c hc
  have h1 := h.sub (Sub.new (o := .list []) hc)
  have er1 := get_new (o' := .list []) hc er
  generalize σ.set c (.list []) = σ1 at hq h1 er1 ⊢
  refine S_seq (fun m' σ' => LSub [("self", .ref x), ("found", .ref c)] m' ∧ σ' = σ1) (S_for (src_list ?_)) ?_
  · refine E_attr ?_
    walk_at "sts"
    refine ⟨x, 314, fs, _, rfl, h1.inst, a_ordered g, hr, nofun, ?_⟩
    refine ⟨ra, _, rfl, er1, fun i m' σ' => LSub [("self", .ref x), ("found", .ref c)] m' ∧ σ' = σ1, ⟨.cons rfl (.cons rfl .nil), rfl⟩, fun i m' σ' hI => by rw [hI.2]; exact er1, ?_, fun _ _ h => h⟩
    rintro i m' σ2 d hd ⟨hm, hs⟩
    rw [hs]; clear hs
    rw [List.getElem?_map] at hd
    obtain ⟨y, hy, rfl⟩ := Option.map_eq_some_iff.mp hd
    obtain ⟨r, hf⟩ := hx y (List.mem_of_getElem? hy)
    refine ⟨_, .name (.loc rfl), ?_⟩
    refine S.forget (m0 := [("self", .ref x), ("found", .ref c), ("name", .str y)]) ?_ ?_
    · exact .cons (by rw [Loc.get_set, if_neg (by decide)]; exact hm.1) (.cons (by rw [Loc.get_set, if_neg (by decide)]; exact hm.2.1) (.cons (by rw [Loc.get_set, if_pos rfl]) .nil))
    refine S_cons (S_for (src_tuple ?_))
    walk_at "sts"
    refine E_attr ?_
    walk_at "sts"
    refine ⟨x, 314, fs, _, rfl, h1.inst, a_entries g, h1.he, nofun, ?_⟩
    walk_at "sts"
    refine o_item_dict h1.e (by rw [entD_get, hf]; rfl) ?_
    walk_at "sts"
    refine o_item_tuple (by omega) (by omega) rfl ?_
    refine ⟨_, rfl, fun _ m' σ' => LSub [("self", .ref x), ("found", .ref c)] m' ∧ σ' = σ1, ⟨.cons rfl (.cons rfl .nil), rfl⟩, fun _ _ _ _ => trivial, fun i m' σ' d hd => (by simp at hd), fun m' σ' hI => ?_⟩
    exact S_nil hI
  · rintro m' σ2 ⟨hm, hs⟩
    rw [hs]; clear hs
    refine S.forget hm ?_
    walk_at "sts"
    exact hq
theorem lookf_spec (g : Good C) {fa : Addr} (h : Sigs σ x its ea sa fs) (hr : Loc.get fs "own_fields" = some (.ref fa)) (er : σ fa = some (.list [])) {Q : PV → St → Prop}
    (q : ∀ σ', Sub [] σ σ' → Q .none σ') : CallJ C 1 (.ref 203) [.ref x] σ Q := by
  refine call_fn (xs := ["self"]) (by rw [g.hK]; exact rfl) (by rw [g.hK]; exact rfl) (fun vals h => ?_) rfl (by decide) (by decide) (by decide) rfl rfl rfl fun A L => ?_
  · match vals, h with
    | [a], _ => rfl
  walk_at "sts"
  refine E_dict0 fun c hc => ?_
  have hq := q _ (Sub.new (o := .dict []) hc)
  have h1 := h.sub (Sub.new (o := .dict []) hc)
  have er1 := get_new (o' := .dict []) hc er
  refine S_cons (S_for (src_list ?_))
  refine E_attr ?_
  walk_at "sts"
  refine ⟨x, 314, fs, _, rfl, h1.inst, a_own g, hr, nofun, ?_⟩
  refine ⟨fa, _, rfl, er1, fun _ m' σ' => σ' = σ.set c (.dict []), rfl, fun i m' σ' hI => by rw [hI]; exact er1, fun i m' σ' d hd => (by simp at hd), fun m' σ' hI => ?_⟩
  rw [hI]
  exact S_nil hq
theorem order_spec (g : Good C) {oa : Addr} {t : Str} (h : Sigs σ x its ea sa fs) (hr : Loc.get fs "opened" = some (.ref oa)) (er : σ oa = some (.list [])) (ht : ∃ r, findR its t = some r) {Q : PV → St → Prop}
    (q : ∀ σ', Sub [oa] σ σ' → σ' oa = some (.list [.tup [.str "o", .str t]]) → Q .none σ') : CallJ C 1 (.ref 208) [.ref x, openV t] σ Q := by
  obtain ⟨tk, hgo⟩ := g_ordering g
  obtain ⟨r, hf⟩ := ht
  refine call_fn (xs := ["self", "item"]) (by rw [g.hK]; exact rfl) (by rw [g.hK]; exact rfl) (fun vals h => ?_) rfl (by decide) (by decide) (by decide) rfl rfl rfl fun A L => ?_
  · match vals, h with
    | [a, b], _ => rfl
  refine S_cons (S_unpack (xs := ["spot", "module", "args", "alias"]) rfl ?_ (E_slice_tup ?_))
  · intro y hy
    simp only [List.mem_cons, List.not_mem_nil, or_false] at hy
    rcases hy with rfl | rfl | rfl | rfl <;> exact .loc rfl
  walk_at "sts"
  refine ⟨_, _, _, _, _, rfl, _, rfl, rfl, ?_⟩
  refine S.forget (m0 := [("self", .ref x), ("module", .str "util/ordering"), ("args", .tup [.str t]), ("alias", .str "o")]) (.cons rfl (.cons rfl (.cons rfl (.cons rfl .nil)))) ?_
  walk_at "sts"
  refine E_glob hgo (fun _ => .str _ _) ?_
  refine o_ne_str ⟨_, rfl, ?_⟩
  rw [if_neg (by decide)]
  walk_at "sts"
  refine E_len (g_len g) rfl rfl rfl ?_
  walk_at "sts"
  refine ⟨1, .inr ⟨_, rfl, rfl⟩, by omega, ?_⟩
  walk_at "sts"
  refine o_ne_int ⟨_, rfl, ?_⟩
  rw [if_neg (by decide)]
  walk_at "sts"
  rw [if_neg (by decide)]
  walk_at "sts"
  refine o_item_tuple (by omega) (by omega) rfl ?_
  refine E_attr ?_
  walk_at "sts"
  refine ⟨x, 314, fs, _, rfl, h.inst, a_entries g, h.he, nofun, ?_⟩
  refine o_notin_dict h.e ⟨_, rfl, ?_⟩
  rw [entD_get, hf, if_neg (by simp)]
  walk_at "sts"
  refine E.at (.str "o") σ (E_if ?_) ?_
  · walk_at "sts"
    refine o_ne_str ⟨_, rfl, ?_⟩
    rw [if_pos (by decide)]
    walk_at "sts"
    exact ⟨rfl, rfl⟩
  walk_at "sts"
  refine E_comp (mc := []) rfl (by decide) rfl (by decide) (fun L => Capt.none) (src_list ?_)
  refine E_attr ?_
  walk_at "sts"
  refine ⟨x, 314, fs, _, rfl, h.inst, a_opened g, hr, nofun, ?_⟩
  refine ⟨oa, _, rfl, er, CompJ_pure (by simp) er (fun _ => none) (fun L d hd => by cases hd) fun c hc => ?_⟩
  have h1 := h.sub (Sub.new (o := .list []) hc)
  have er1 := get_new (o' := .list []) hc er
  have s1 : Sub [oa] σ _ := Sub.new (o := .list []) hc
  refine o_in_list (xs := []) (St.set_self _ _ _) ⟨_, rfl, ?_⟩
  rw [if_neg (by decide)]
  walk_at "sts"
  refine E_append ?_
  refine E_attr ?_
  walk_at "sts"
  refine ⟨x, 314, fs, _, rfl, h1.inst, a_opened g, hr, nofun, ?_⟩
  refine ⟨oa, rfl, ⟨_, er1⟩, ?_⟩
  walk_at "sts"
  refine o_item_tuple (by omega) (by omega) rfl ?_
  walk_at "sts"
  refine ⟨_, er1, by simp, ?_⟩
  walk_at "sts"
  exact q _ (s1.trans (Sub.upd (.head _))) (St.set_self _ _ _)
end
end

section
set_option maxRecDepth 100000
open PySem PySem.W PyProof.Rows PySem.Calls PySem.SeqAt
theorem get_attr {σ : St} {dx a : Addr} {fs : Loc} {o o' : Ob} (h : σ dx = some (.attrs fs)) (e : σ a = some o) (no : ∀ f, o ≠ .attrs f) : (σ.set dx o') a = some o := get_upd (by rintro rfl; rw [h] at e; cases e; exact no _ rfl) e
theorem ne_ob {σ : St} {a b : Addr} {o o' : Ob} (e1 : σ a = some o) (e2 : σ b = some o') (h : o ≠ o') : a ≠ b := by rintro rfl; rw [e1] at e2; exact h (by injection e2)
theorem nin2 {a b c : Addr} (h1 : a ≠ b) (h2 : a ≠ c) : a ∉ [b, c] := by simp [h1, h2]
theorem nin1 {a b : Addr} (h1 : a ≠ b) : a ∉ [b] := by simp [h1]
theorem none_back {σ σ' : St} {dx a : Addr} {o : Ob} (s : Sub [dx] σ σ') (e : σ' a = none) (hd : σ' dx = some o) : σ a = none := by
  cases h : σ a with
  | none => rfl
  | some q =>
    have : a ≠ dx := by rintro rfl; rw [hd] at e; cases e
    rw [s a q (nin1 this) h] at e; cases e
theorem Sigs.attr {σ : St} {x dx ea sa : Addr} {its : List Row} {fs fs' : Loc} (S : Sigs σ x its ea sa fs) (hx : σ x = some (.inst 314 dx)) (hd : σ dx = some (.attrs fs)) (he : Loc.get fs' "entries" = some (.ref ea)) (hs : Loc.get fs' "stands" = some (.ref sa))
    (hn : fs'.all (fun p => sigAttrs.contains p.1) = true) : Sigs (σ.set dx (.attrs fs')) x its ea sa fs' where
  inst := ⟨dx, get_attr hd hx nofun, St.set_self _ _ _⟩
  he := he
  hs := hs
  e := get_attr hd S.e nofun
  s := get_attr hd S.s nofun
  hn := hn
  hz := S.hz
noncomputable def SigR (σ : St) (x : Addr) (its : List Row) (lined : List Str) : Prop := ∃ ea sa oa ra fs, ∃ fl : List Str, Sigs σ x its ea sa fs ∧ Loc.get fs "opened" = some (.ref oa) ∧ Loc.get fs "ordered" = some (.ref ra) ∧
  σ oa = some (.list (lined.map fun t => .tup [.str "o", .str t])) ∧ σ ra = some (.list (fl.map .str)) ∧ fl.Perm (its.map (·.name))
theorem SigR.sub {σ σ' : St} {x : Addr} {its : List Row} {lined : List Str} (h : SigR σ x its lined) (s : Sub [] σ σ') : SigR σ' x its lined := by
  obtain ⟨ea, sa, oa, ra, fs, fl, h1, h2, h3, h4, h5, h6⟩ := h
  exact ⟨ea, sa, oa, ra, fs, fl, h1.sub s, h2, h3, s _ _ nofun h4, s _ _ nofun h5, h6⟩
section
variable {C : Cx} {σ : St} {x dx il : Addr} {its : List Row} {lined : List Str}
theorem s_entries (g : Good C) : setOK C.K 314 "entries" = true := by rw [g.hK]; exact rfl
theorem s_stands (g : Good C) : setOK C.K 314 "stands" = true := by rw [g.hK]; exact rfl
theorem s_opened (g : Good C) : setOK C.K 314 "opened" = true := by rw [g.hK]; exact rfl
theorem s_ordered (g : Good C) : setOK C.K 314 "ordered" = true := by rw [g.hK]; exact rfl
theorem s_own (g : Good C) : setOK C.K 314 "own_fields" = true := by rw [g.hK]; exact rfl
set_option maxHeartbeats 4000000 in
theorem init_spec (g : Good C) {rk : Str → Nat} (w : WF its rk) (hx : σ x = some (.inst 314 dx)) (hdx : σ dx = some (.attrs [])) (hil : σ il = some (.list (its.map itemV ++ lined.map openV))) (hl1 : lined.length ≤ 1) (hl : ∀ t ∈ lined, ∃ r, findR its t = some r) {Q : PV → St → Prop}
    (q : ∀ σ', Sub [dx] σ σ' → SigR σ' x its lined → Q .none σ') : CallJ C 4 (.ref 163) [.ref x, .ref il] σ Q := by
  refine call_fn (xs := ["self", "items"]) (by rw [g.hK]; exact rfl) (by rw [g.hK]; exact rfl) (fun vals h => ?_) rfl (by decide) (by decide) (by decide) rfl rfl rfl fun A L => ?_
  · match vals, h with
    | [a, b], _ => rfl
  refine S_cons (S_setattr (E_dict0 fun ea hea => ?_))
  walk_at "sts"
  refine ⟨x, 314, dx, _, rfl, get_new hea hx, get_new hea hdx, s_entries g, by simp, ?_⟩
  have hdx1 := get_new (o' := .dict []) hea hdx
  have hx2 := get_attr (o' := .attrs (Loc.set [] "entries" (.ref ea))) hdx1 (get_new hea hx) nofun
  have hi2 := get_attr (o' := .attrs (Loc.set [] "entries" (.ref ea))) hdx1 (get_new hea hil) nofun
  have he2 := get_attr (o' := .attrs (Loc.set [] "entries" (.ref ea))) hdx1 (St.set_self _ _ _) nofun
  have hd2 := St.set_self (σ.set ea (.dict [])) dx (.attrs (Loc.set [] "entries" (.ref ea)))
  have s2 : Sub [dx] σ _ := (Sub.new (o := .dict []) hea).trans (Sub.upd (c := dx) (o := .attrs (Loc.set [] "entries" (.ref ea))) (.head _))
  generalize ((σ.set ea (.dict [])).set dx (.attrs (Loc.set [] "entries" (.ref ea)))) = σ2 at hx2 hi2 he2 hd2 s2 ⊢
  clear hdx1
  refine S_cons (S_setattr ?_)
  walk_at "sts"
  intro sa hsa
  walk_at "sts"
  refine ⟨x, 314, dx, _, rfl, get_new hsa hx2, get_new hsa hd2, s_stands g, (by show (1 : Nat) < 900; omega), ?_⟩
  have hdx1 := get_new (o' := .list []) hsa hd2
  have hx3 := get_attr (o' := .attrs (Loc.set (Loc.set [] "entries" (.ref ea)) "stands" (.ref sa))) hdx1 (get_new hsa hx2) nofun
  have hi3 := get_attr (o' := .attrs (Loc.set (Loc.set [] "entries" (.ref ea)) "stands" (.ref sa))) hdx1 (get_new hsa hi2) nofun
  have he3 := get_attr (o' := .attrs (Loc.set (Loc.set [] "entries" (.ref ea)) "stands" (.ref sa))) hdx1 (get_new hsa he2) nofun
  have hs3 := get_attr (o' := .attrs (Loc.set (Loc.set [] "entries" (.ref ea)) "stands" (.ref sa))) hdx1 (St.set_self _ _ _) nofun
  have hd3 := St.set_self (σ2.set sa (.list [])) dx (.attrs (Loc.set (Loc.set [] "entries" (.ref ea)) "stands" (.ref sa)))
  have his : sa ≠ il := (ne_new hsa hi2).symm
  have s3 : Sub [dx] σ _ := s2.trans ((Sub.new (o := .list []) hsa).trans (Sub.upd (c := dx) (o := .attrs (Loc.set (Loc.set [] "entries" (.ref ea)) "stands" (.ref sa))) (.head _)))
  generalize ((σ2.set sa (.list [])).set dx (.attrs (Loc.set (Loc.set [] "entries" (.ref ea)) "stands" (.ref sa)))) = σ3 at hx3 hi3 he3 hs3 hd3 s3 ⊢
  clear hdx1
  refine S_cons (S_setattr ?_)
  walk_at "sts"
  intro oa hoa
  walk_at "sts"
  refine ⟨x, 314, dx, _, rfl, get_new hoa hx3, get_new hoa hd3, s_opened g, (by show (2 : Nat) < 900; omega), ?_⟩
  have efs : Loc.set (Loc.set (Loc.set [] "entries" (.ref ea)) "stands" (.ref sa)) "opened" (.ref oa) = ([("entries", .ref ea), ("stands", .ref sa), ("opened", .ref oa)] : Loc) := rfl
  rw [efs]
  have hdx1 := get_new (o' := .list []) hoa hd3
  have hx4 := get_attr (o' := .attrs [("entries", .ref ea), ("stands", .ref sa), ("opened", .ref oa)]) hdx1 (get_new hoa hx3) nofun
  have hi4 := get_attr (o' := .attrs [("entries", .ref ea), ("stands", .ref sa), ("opened", .ref oa)]) hdx1 (get_new hoa hi3) nofun
  have he4 := get_attr (o' := .attrs [("entries", .ref ea), ("stands", .ref sa), ("opened", .ref oa)]) hdx1 (get_new hoa he3) nofun
  have hs4 := get_attr (o' := .attrs [("entries", .ref ea), ("stands", .ref sa), ("opened", .ref oa)]) hdx1 (get_new hoa hs3) nofun
  have ho4 := get_attr (o' := .attrs [("entries", .ref ea), ("stands", .ref sa), ("opened", .ref oa)]) hdx1 (St.set_self _ _ _) nofun
  have hd4 := St.set_self (σ3.set oa (.list [])) dx (.attrs [("entries", .ref ea), ("stands", .ref sa), ("opened", .ref oa)])
  have hio : oa ≠ il := (ne_new hoa hi3).symm
  have hso : oa ≠ sa := (ne_new hoa hs3).symm
  have heo : oa ≠ ea := (ne_new hoa he3).symm
  have s4 : Sub [dx] σ _ := s3.trans ((Sub.new (o := .list []) hoa).trans (Sub.upd (c := dx) (o := .attrs [("entries", .ref ea), ("stands", .ref sa), ("opened", .ref oa)]) (.head _)))
  generalize ((σ3.set oa (.list [])).set dx (.attrs [("entries", .ref ea), ("stands", .ref sa), ("opened", .ref oa)])) = σ4 at hx4 hi4 he4 hs4 ho4 hd4 s4 ⊢
  have hie : ea ≠ il := ne_dict_list he4 hi4
  have S4 : Sigs σ4 x [] ea sa [("entries", .ref ea), ("stands", .ref sa), ("opened", .ref oa)] := ⟨⟨dx, hx4, hd4⟩, rfl, rfl, he4, hs4, rfl, by simp⟩
  have hlen := w.len
  refine S_seq (fun m' σ' => LSub [("self", .ref x), ("items", .ref il)] m' ∧ Sub [ea, sa] σ4 σ' ∧ Sigs σ' x its ea sa [("entries", .ref ea), ("stands", .ref sa), ("opened", .ref oa)]) (S_for (src_list ?_)) ?_
  · walk_at "sts"
    refine ⟨il, _, rfl, hi4, fun i m' σ' => LSub [("self", .ref x), ("items", .ref il)] m' ∧ Sub [ea, sa] σ4 σ' ∧ Sigs σ' x (its.take i) ea sa [("entries", .ref ea), ("stands", .ref sa), ("opened", .ref oa)], ⟨.cons rfl (.cons rfl .nil), .refl _ _, S4⟩, fun i m' σ' hI => hI.2.1 _ _ (nin2 hie.symm his.symm) hi4, ?_, ?_⟩
    · rintro i m' σ5 d hd ⟨hm, s5, S5⟩
      refine ⟨_, .name (.loc rfl), ?_⟩
      refine S.forget (m0 := [("self", .ref x), ("items", .ref il), ("item", d)]) ?_ ?_
      · exact .cons (by rw [Loc.get_set, if_neg (by decide)]; exact hm.1) (.cons (by rw [Loc.get_set, if_neg (by decide)]; exact hm.2.1) (.cons (by rw [Loc.get_set, if_pos rfl]) .nil))
      by_cases hi : i < its.length
      · rw [List.getElem?_append_left (by simpa using hi), List.getElem?_map, List.getElem?_eq_getElem hi] at hd
        have hd' : itemV its[i] = d := by simpa using hd
        subst hd'
        walk_at "sts"
        refine o_item_tuple (by omega) (by omega) rfl ?_
        walk_at "sts"
        refine o_eq_str ⟨_, rfl, ?_⟩
        rw [if_pos (by decide)]
        walk_at "sts"
        refine E_sm (m_take g) (by decide) ?_
        walk_at "sts"
        refine ⟨x, its.take i, ea, sa, _, rfl, S5, ?_⟩
        walk_at "sts"
        have hnd := w.nd
        refine (take_spec g (row := its[i]) S5 ?_ (by rw [List.length_take]; omega) fun σ6 s6 S6 => ?_).le (by omega)
        · intro hmem
          have h1 : (its.map (·.name)) = (its.take i).map (·.name) ++ its[i].name :: (its.drop (i + 1)).map (·.name) := by
            rw [← List.map_cons (f := fun r : Row => r.name), ← List.map_append]
            congr 1
            rw [← List.drop_eq_getElem_cons hi, List.take_append_drop]
          rw [h1, List.nodup_append] at hnd
          exact hnd.2.2 _ hmem _ (.head _) rfl
        · walk_at "sts"
          refine ⟨.cons rfl (.cons rfl .nil), s5.trans s6, ?_⟩
          rw [take_succ_get (List.getElem?_eq_getElem hi)]
          exact S6
      · have hd' : ∃ t, d = openV t := by
          rw [List.getElem?_append_right (by simpa using hi), List.getElem?_map] at hd
          obtain ⟨t, _, e⟩ := Option.map_eq_some_iff.mp hd
          exact ⟨t, e.symm⟩
        obtain ⟨t, rfl⟩ := hd'
        walk_at "sts"
        refine o_item_tuple (by omega) (by omega) rfl ?_
        walk_at "sts"
        refine o_eq_str ⟨_, rfl, ?_⟩
        rw [if_neg (by decide)]
        walk_at "sts"
        refine ⟨.cons rfl (.cons rfl .nil), s5, ?_⟩
        rw [List.take_of_length_le (by omega)] at S5 ⊢
        exact S5
    · rintro m' σ' ⟨hm, s, S⟩
      rw [List.take_of_length_le (by simp)] at S
      exact ⟨hm, s, S⟩
  · rintro m' σ5 ⟨hm, s5, S5⟩
    refine S.forget hm ?_
    have hx5 := s5 _ _ (nin2 (ne_ob hx4 he4 nofun) (ne_ob hx4 hs4 nofun)) hx4
    have hd5 := s5 _ _ (nin2 (ne_ob hd4 he4 nofun) (ne_ob hd4 hs4 nofun)) hd4
    have hi5 := s5 _ _ (nin2 hie.symm his.symm) hi4
    have ho5 := s5 _ _ (nin2 heo hso) ho4
    have s05 : Sub [dx] σ σ5 := by
      have : Sub [ea, sa, dx] σ σ5 := (s4.mono (by simp)).trans (s5.mono (by simp))
      exact (this.drop hea).drop (none_back s2 hsa hd2)
    clear s4 s5 hx4 hd4 hi4 ho4 he4 hs4 S4 hm
    refine S_seq (fun m' σ' => LSub [("self", .ref x), ("items", .ref il)] m' ∧ σ' = σ5) (S_for (src_list ?_)) ?_
    · refine E_attr ?_
      walk_at "sts"
      refine ⟨x, 314, _, _, rfl, S5.inst, a_stands g, S5.hs, nofun, ?_⟩
      refine ⟨sa, _, rfl, S5.s, fun i m' σ' => LSub [("self", .ref x), ("items", .ref il)] m' ∧ σ' = σ5, ⟨.cons rfl (.cons rfl .nil), rfl⟩, fun i m' σ' hI => by rw [hI.2]; exact S5.s, ?_, fun _ _ h => h⟩
      rintro i m' σ6 d hd ⟨hm, hs⟩
      rw [hs]; clear hs
      rw [List.map_map, List.getElem?_map] at hd
      obtain ⟨row, hrow, rfl⟩ := Option.map_eq_some_iff.mp hd
      have hrow' := List.mem_of_getElem? hrow
      refine ⟨_, .name (.loc rfl), ?_⟩
      refine S.forget (m0 := [("self", .ref x), ("items", .ref il), ("name", .str row.name)]) ?_ ?_
      · exact .cons (by rw [Loc.get_set, if_neg (by decide)]; exact hm.1) (.cons (by rw [Loc.get_set, if_neg (by decide)]; exact hm.2.1) (.cons (by rw [Loc.get_set, if_pos rfl]; rfl) .nil))
      walk_at "sts"
      refine E_sm (m_look g) (by decide) ?_
      walk_at "sts"
      refine ⟨x, its, ea, sa, _, rfl, S5, ?_⟩
      walk_at "sts"
      refine look_spec g S5 (findR_mem w.nd hrow') (fun hpp => ?_) ?_
      · obtain ⟨p, hp, e, _⟩ := w.par row hrow' hpp
        exact ⟨p, e ▸ findR_mem w.nd hp⟩
      · walk_at "sts"
        exact ⟨.cons rfl (.cons rfl .nil), rfl⟩
    · rintro m' σ6 ⟨hm, hs⟩
      rw [hs]; clear hs
      refine S.forget hm ?_
      refine S_cons (S_setattr ?_)
      refine E_sm0 (m_first g) (by decide) ?_
      walk_at "sts"
      refine ⟨x, its, ea, sa, _, rfl, S5, ?_⟩
      refine first_spec g S5 w fun σ7 ra fl s7 hra hperm era => ?_
      walk_at "sts"
      refine ⟨x, 314, dx, _, rfl, s7 _ _ nofun hx5, s7 _ _ nofun hd5, s_ordered g, (by show (3 : Nat) < 900; omega), ?_⟩
      have efs4 : Loc.set [("entries", .ref ea), ("stands", .ref sa), ("opened", .ref oa)] "ordered" (.ref ra) = ([("entries", .ref ea), ("stands", .ref sa), ("opened", .ref oa), ("ordered", .ref ra)] : Loc) := rfl
      rw [efs4]
      have S8 := (S5.sub s7).attr (fs' := [("entries", .ref ea), ("stands", .ref sa), ("opened", .ref oa), ("ordered", .ref ra)]) (s7 _ _ nofun hx5) (s7 _ _ nofun hd5) rfl rfl rfl
      have hd7 := s7 _ _ nofun hd5
      have hx8 := get_attr (o' := .attrs [("entries", .ref ea), ("stands", .ref sa), ("opened", .ref oa), ("ordered", .ref ra)]) hd7 (s7 _ _ nofun hx5) nofun
      have hi8 := get_attr (o' := .attrs [("entries", .ref ea), ("stands", .ref sa), ("opened", .ref oa), ("ordered", .ref ra)]) hd7 (s7 _ _ nofun hi5) nofun
      have ho8 := get_attr (o' := .attrs [("entries", .ref ea), ("stands", .ref sa), ("opened", .ref oa), ("ordered", .ref ra)]) hd7 (s7 _ _ nofun ho5) nofun
      have hr8 := get_attr (o' := .attrs [("entries", .ref ea), ("stands", .ref sa), ("opened", .ref oa), ("ordered", .ref ra)]) hd7 era nofun
      have hd8 := St.set_self σ7 dx (.attrs [("entries", .ref ea), ("stands", .ref sa), ("opened", .ref oa), ("ordered", .ref ra)])
      have s08 : Sub [dx] σ _ := s05.trans (s7.nil.trans (Sub.upd (c := dx) (o := .attrs [("entries", .ref ea), ("stands", .ref sa), ("opened", .ref oa), ("ordered", .ref ra)]) (.head _)))
      have hor : oa ≠ ra := by rintro rfl; rw [ho5] at hra; cases hra
      generalize σ7.set dx (.attrs [("entries", .ref ea), ("stands", .ref sa), ("opened", .ref oa), ("ordered", .ref ra)]) = σ8 at S8 hx8 hi8 ho8 hr8 hd8 s08 ⊢
      refine S_cons (S_setattr ?_)
      refine E_sm0 (m_allf g) (by decide) ?_
      walk_at "sts"
      refine ⟨x, its, ea, sa, _, rfl, S8, ?_⟩
      refine (allf_spec g S8 rfl hr8 (fun y hy => ?_) fun fa hfa => ?_).le (by omega)
      · obtain ⟨r, hr, e⟩ := mem_names (hperm.subset hy)
        exact ⟨r, e ▸ findR_mem w.nd hr⟩
      walk_at "sts"
      refine ⟨x, 314, dx, _, rfl, get_new hfa hx8, get_new hfa hd8, s_own g, (by show (4 : Nat) < 900; omega), ?_⟩
      have efs5 : Loc.set [("entries", .ref ea), ("stands", .ref sa), ("opened", .ref oa), ("ordered", .ref ra)] "own_fields" (.ref fa) = ([("entries", .ref ea), ("stands", .ref sa), ("opened", .ref oa), ("ordered", .ref ra), ("own_fields", .ref fa)] : Loc) := rfl
      rw [efs5]
      have S9 := (S8.sub (Sub.new (o := .list []) hfa)).attr (fs' := [("entries", .ref ea), ("stands", .ref sa), ("opened", .ref oa), ("ordered", .ref ra), ("own_fields", .ref fa)]) (get_new hfa hx8) (get_new hfa hd8) rfl rfl rfl
      have hd9 := get_new (o' := .list []) hfa hd8
      have hi9 := get_attr (o' := .attrs [("entries", .ref ea), ("stands", .ref sa), ("opened", .ref oa), ("ordered", .ref ra), ("own_fields", .ref fa)]) hd9 (get_new hfa hi8) nofun
      have ho9 := get_attr (o' := .attrs [("entries", .ref ea), ("stands", .ref sa), ("opened", .ref oa), ("ordered", .ref ra), ("own_fields", .ref fa)]) hd9 (get_new hfa ho8) nofun
      have hr9 := get_attr (o' := .attrs [("entries", .ref ea), ("stands", .ref sa), ("opened", .ref oa), ("ordered", .ref ra), ("own_fields", .ref fa)]) hd9 (get_new hfa hr8) nofun
      have hf9 := get_attr (o' := .attrs [("entries", .ref ea), ("stands", .ref sa), ("opened", .ref oa), ("ordered", .ref ra), ("own_fields", .ref fa)]) hd9 (St.set_self _ _ _) nofun
      have s09 : Sub [dx] σ _ := s08.trans ((Sub.new (o := .list []) hfa).trans (Sub.upd (c := dx) (o := .attrs [("entries", .ref ea), ("stands", .ref sa), ("opened", .ref oa), ("ordered", .ref ra), ("own_fields", .ref fa)]) (.head _)))
      generalize (σ8.set fa (.list [])).set dx (.attrs [("entries", .ref ea), ("stands", .ref sa), ("opened", .ref oa), ("ordered", .ref ra), ("own_fields", .ref fa)]) = σ9 at S9 hi9 ho9 hr9 hf9 s09 ⊢
      clear hd9 hd8 hx8 hi8 ho8 hr8 s08 S8 hd7 s7 era S5 hx5 hd5 hi5 ho5 s05
      walk_at "sts"
      refine E_sm0 (m_lookf g) (by decide) ?_
      walk_at "sts"
      refine ⟨x, its, ea, sa, _, rfl, S9, ?_⟩
      refine (lookf_spec g S9 rfl hf9 fun σ10 s10 => ?_).le (by omega)
      have S10 := S9.sub s10
      have hi10 := s10 _ _ nofun hi9
      have ho10 := s10 _ _ nofun ho9
      have hr10 := s10 _ _ nofun hr9
      have s010 := s09.trans s10.nil
      refine S_seq (fun m' σ' => Sub [dx] σ σ' ∧ SigR σ' x its lined) (S_for (src_list ?_)) ?_
      · walk_at "sts"
        refine ⟨il, _, rfl, hi10, fun i m' σ' => LSub [("self", .ref x)] m' ∧ Sub [oa] σ10 σ' ∧ σ' oa = some (.list ((lined.take (i - its.length)).map fun t => .tup [.str "o", .str t])), ⟨.cons rfl .nil, .refl _ _, by simpa using ho10⟩, fun i m' σ' hI => hI.2.1 _ _ (nin1 hio.symm) hi10, ?_, ?_⟩
        · rintro i m' σ11 d hd ⟨hm, s11, ho11⟩
          have S11 : Sigs σ11 x its ea sa _ := { S10 with
            inst := S10.inst.sub s11 fun a ha => by rw [List.mem_singleton] at ha; subst ha; exact ⟨_, ho10, nofun, nofun⟩
            e := s11 _ _ (nin1 (ne_ob S10.e ho10 nofun)) S10.e
            s := s11 _ _ (nin1 hso.symm) S10.s }
          refine ⟨_, .name (.loc rfl), ?_⟩
          refine S.forget (m0 := [("self", .ref x), ("item", d)]) ?_ ?_
          · exact .cons (by rw [Loc.get_set, if_neg (by decide)]; exact hm.1) (.cons (by rw [Loc.get_set, if_pos rfl]) .nil)
          by_cases hi : i < its.length
          · rw [List.getElem?_append_left (by simpa using hi), List.getElem?_map, List.getElem?_eq_getElem hi] at hd
            have hd' : itemV its[i] = d := by simpa using hd
            subst hd'
            walk_at "sts"
            refine o_item_tuple (by omega) (by omega) rfl ?_
            walk_at "sts"
            refine o_eq_str ⟨_, rfl, ?_⟩
            rw [if_neg (by decide)]
            walk_at "sts"
            refine ⟨.cons rfl .nil, s11, ?_⟩
            rw [show i + 1 - its.length = 0 by omega]
            rw [show i - its.length = 0 by omega] at ho11
            exact ho11
          · rw [List.getElem?_append_right (by simpa using hi), List.getElem?_map] at hd
            obtain ⟨t, ht, rfl⟩ := Option.map_eq_some_iff.mp hd
            rw [List.length_map] at ht
            have ht0 : i - its.length = 0 := by
              have := (List.getElem?_eq_some_iff.mp ht).1
              omega
            walk_at "sts"
            refine o_item_tuple (by omega) (by omega) rfl ?_
            walk_at "sts"
            refine o_eq_str ⟨_, rfl, ?_⟩
            rw [if_pos (by decide)]
            walk_at "sts"
            refine E_sm (m_order g) (by decide) ?_
            walk_at "sts"
            refine ⟨x, its, ea, sa, _, rfl, S11, ?_⟩
            walk_at "sts"
            rw [ht0] at ho11
            refine (order_spec g S11 rfl ho11 (hl t (List.mem_of_getElem? ht)) fun σ12 s12 ho12 => ?_).le (by omega)
            walk_at "sts"
            refine ⟨.cons rfl .nil, s11.trans s12, ?_⟩
            rw [show i + 1 - its.length = (i - its.length) + 1 by omega, take_succ_get ht, ht0]
            exact ho12
        · rintro m' σ' ⟨hm, s11, ho11⟩
          rw [show (its.map itemV ++ lined.map openV).length - its.length = lined.length by simp, List.take_length] at ho11
          have s0 : Sub [dx] σ σ' := by
            have : Sub [oa, dx] σ σ' := (s010.mono (by simp)).trans (s11.mono (by simp))
            exact this.drop (none_back s3 hoa hd3)
          refine ⟨s0, ea, sa, oa, ra, [("entries", .ref ea), ("stands", .ref sa), ("opened", .ref oa), ("ordered", .ref ra), ("own_fields", .ref fa)], fl, ?_, rfl, rfl, ho11, s11 _ _ (nin1 hor.symm) hr10, hperm⟩
          exact { S10 with
            inst := S10.inst.sub s11 fun a ha => by rw [List.mem_singleton] at ha; subst ha; exact ⟨_, ho10, nofun, nofun⟩
            e := s11 _ _ (nin1 (ne_ob S10.e ho10 nofun)) S10.e
            s := s11 _ _ (nin1 hso.symm) S10.s }
      · rintro m' σ' ⟨s, hS⟩
        exact S_nil (q σ' s hS)
end
end

section
set_option maxRecDepth 100000
open PySem PySem.W PyProof.Rows PySem.Calls PySem.SeqAt
theorem findR_name {its : List Row} {nm : Str} {r : Row} (h : findR its nm = some r) : r ∈ its ∧ r.name = nm := by
  unfold findR at h
  have h1 := List.find?_some h
  exact ⟨List.mem_of_find?_eq_some h, by simpa using h1⟩
theorem up_exists {its : List Row} {rk : Str → Nat} (w : WF its rk) : ∀ (k : Nat) (r : Row), r ∈ its → rk r.name ≤ k → ∃ l, Up its r.name l ∧ l.length ≤ k := by
  intro k
  induction k with
  | zero =>
    intro r hr hk
    cases hp : r.par == ("" : Str) with
    | true => exact ⟨[], .nil (findR_mem w.nd hr) hp, by simp⟩
    | false => obtain ⟨p, _, _, hlt⟩ := w.par r hr hp; omega
  | succ k ih =>
    intro r hr hk
    cases hp : r.par == ("" : Str) with
    | true => exact ⟨[], .nil (findR_mem w.nd hr) hp, by simp⟩
    | false =>
      obtain ⟨p, hpm, e, hlt⟩ := w.par r hr hp
      obtain ⟨l, hl, hz⟩ := ih p hpm (by rw [e]; omega)
      exact ⟨r.par :: l, .cons (findR_mem w.nd hr) hp (e ▸ hl), by simp; omega⟩
theorem lastOf_cons (nm a : Str) (l : List Str) : lastOf nm (a :: l) = lastOf a l := by unfold lastOf; rw [List.getLast_cons]
theorem up_last {its : List Row} {nm : Str} {l : List Str} (h : Up its nm l) : ∃ r, findR its (lastOf nm l) = some r ∧ (r.par == ("" : Str)) = true := by
  induction h with
  | nil h1 h2 => exact ⟨_, h1, h2⟩
  | cons h1 h2 h3 ih => rw [lastOf_cons]; exact ih
theorem up_top {its : List Row} {nm : Str} {l : List Str} {r : Row} (h : Up its nm l) (hf : findR its nm = some r) : (lastOf nm l == nm) = (r.par == ("" : Str)) := by
  cases h with
  | nil h1 h2 =>
    rw [hf] at h1; cases h1
    rw [h2]; show (nm == nm) = true; exact beq_self_eq_true nm
  | cons h1 h2 h3 =>
    rw [hf] at h1; cases h1
    rw [h2, lastOf_cons, beq_eq_false_iff_ne]
    intro e
    obtain ⟨r', h4, h5⟩ := up_last h3
    rw [e, hf] at h4; cases h4
    rw [h2] at h5; cases h5
structure RowsOK (its : List Row) (rk : Str → Nat) : Prop extends WF its rk where
  rk : ∀ r ∈ its, rk r.name ≤ 40
  ne : ∀ r ∈ its, r.name ≠ "" ∧ r.name ≠ "int" ∧ r.name ≠ "Int"
  sz : ∀ r ∈ its, r.name.length ≤ 40
section
variable {C : Cx} {σ : St} {x nb ta oa : Addr} {its : List Row} {lined : List Str} {nm : Str} {row : Row} {td : Told}
theorem an_sigs (g : Good C) : attrOK C.K 145 "signatures" = true := by rw [g.hK]; exact rfl
theorem an_told (g : Good C) : attrOK C.K 145 "told" = true := by rw [g.hK]; exact rfl
theorem an_default (g : Good C) : attrOK C.K 145 "default" = true := by rw [g.hK]; exact rfl
theorem an_ordered (g : Good C) : attrOK C.K 145 "ordered" = true := by rw [g.hK]; exact rfl
theorem sn_sigs (g : Good C) : setOK C.K 145 "signatures" = true := by rw [g.hK]; exact rfl
theorem sn_told (g : Good C) : setOK C.K 145 "told" = true := by rw [g.hK]; exact rfl
theorem sn_default (g : Good C) : setOK C.K 145 "default" = true := by rw [g.hK]; exact rfl
theorem sn_ordered (g : Good C) : setOK C.K 145 "ordered" = true := by rw [g.hK]; exact rfl
theorem mn_take (g : Good C) : methOK C.K 145 "take" 123 = true ∧ fnIn C.K 123 = true := by rw [g.hK]; exact ⟨rfl, rfl⟩
theorem mn_usual (g : Good C) : methOK C.K 145 "usual_for" 128 = true ∧ fnIn C.K 128 = true := by rw [g.hK]; exact ⟨rfl, rfl⟩
theorem mn_lot (g : Good C) : methOK C.K 145 "lot_of" 135 = true ∧ fnIn C.K 135 = true := by rw [g.hK]; exact ⟨rfl, rfl⟩
theorem mn_formula (g : Good C) : methOK C.K 145 "formula_of" 142 = true ∧ fnIn C.K 142 = true := by rw [g.hK]; exact ⟨rfl, rfl⟩
theorem told_none {td : Told} {nm : Str} (h : nm ∉ td.map (·.1)) : td.lookup nm = none := by
  rw [List.lookup_eq_none_iff]
  intro p hp
  have : nm ≠ p.1 := fun z => h (z ▸ List.mem_map_of_mem hp)
  simpa using this
set_option maxHeartbeats 1000000 in
theorem ntake_spec (g : Good C) {rk : Str → Nat} (w : RowsOK its rk) {fs : Loc} (S : SigR σ x its lined) (I : Inst σ nb 145 fs) (h1 : Loc.get fs "signatures" = some (.ref x)) (h2 : Loc.get fs "told" = some (.ref ta)) (et : σ ta = some (.dict (toldD td)))
    (hm : nm ∈ its.map (·.name)) (hno : nm ∉ td.map (·.1)) (hz : td.length ≤ 100) {e : Bool} {i : Int} (hi : 0 ≤ i) {Q : PV → St → Prop}
    (q : ∀ σ', Sub [ta] σ σ' → σ' ta = some (.dict (toldD (td ++ [(nm, (e, i))]))) → Q .none σ') : CallJ C 4 (.ref 123) [.ref nb, .bool e, .int i, .str nm] σ Q := by
  refine call_fn (xs := ["self", "is_exact", "number", "sig"]) (by rw [g.hK]; exact rfl) (by rw [g.hK]; exact rfl) (fun vals h => ?_) rfl (by decide) (by decide) (by decide) rfl rfl rfl fun A L => ?_
  · match vals, h with
    | [a, b, c, d], _ => rfl
  obtain ⟨row, hrow, rfl⟩ := mem_names hm
  obtain ⟨ne1, ne2, ne3⟩ := w.ne row hrow
  obtain ⟨l, up, hl⟩ := up_exists w.toWF 40 row hrow (w.rk row hrow)
  have S' := S
  obtain ⟨ea, sa, oa, ra, fs', fl, hS, ho, hr, eo, er, hp⟩ := S'
  walk_at "sts"
  refine o_in_tuple (xs := ["int", "Int"]) ⟨_, rfl, ?_⟩
  rw [if_neg (by simp [Ne.symm ne2, Ne.symm ne3])]
  walk_at "sts"
  refine E_sm0 (m_names g) (by decide) (E_attr ?_)
  walk_at "sts"
  refine ⟨nb, 145, fs, _, rfl, I, an_sigs g, h1, nofun, x, its, ea, sa, fs', rfl, hS, ?_⟩
  refine (names_spec g hS hr er (by have := hp.length_eq; have := hS.hz; simp at *; omega) fun σ1 c s1 hc ec => ?_).le (by omega)
  refine o_notin_list ec ⟨_, rfl, ?_⟩
  rw [show (fl.any (· == row.name)) = true from List.any_eq_true.mpr ⟨_, hp.symm.subset hm, by simp⟩, if_neg (by decide)]
  have hS1 := hS.sub s1
  have I1 := I.sub s1 nofun
  have et1 := s1 _ _ nofun et
  walk_at "sts"
  refine E_sm (m_top g) (by decide) (E_attr ?_)
  walk_at "sts"
  refine ⟨nb, 145, fs, _, rfl, I1, an_sigs g, h1, nofun, x, its, ea, sa, fs', rfl, hS1, ?_⟩
  walk_at "sts"
  refine top_spec g hS1 up (by omega) fun σ2 s2 => ?_
  have I2 := I1.sub s2 nofun
  have et2 := s2 _ _ nofun et1
  obtain ⟨r2, hr2, _⟩ := up_last up
  obtain ⟨hr3, hr4⟩ := findR_name hr2
  have nel : lastOf row.name l ≠ "" := hr4 ▸ (w.ne r2 hr3).1
  walk_at "sts"
  refine o_eq_str ⟨_, rfl, ?_⟩
  rw [if_neg (by simpa using nel)]
  walk_at "sts"
  refine E_attr ?_
  walk_at "sts"
  refine ⟨nb, 145, fs, _, rfl, I2, an_told g, h2, nofun, ?_⟩
  refine o_in_dict et2 ⟨_, rfl, ?_⟩
  rw [toldD_get, told_none hno, if_neg (by decide)]
  walk_at "sts"
  refine o_lt ⟨_, rfl, ?_⟩
  rw [if_neg (by simpa using hi)]
  walk_at "sts"
  refine E_attr ?_
  walk_at "sts"
  refine ⟨nb, 145, fs, _, rfl, I2, an_told g, h2, nofun, ?_⟩
  walk_at "sts"
  refine ⟨ta, _, _, rfl, rfl, et2, by rw [toldD_len]; omega, ?_⟩
  walk_at "sts"
  refine q _ ((s1.trans s2).nil.trans (Sub.upd (.head _))) ?_
  rw [St.set_self, Loc.set_new (by rw [toldD_get, told_none hno]; rfl)]
  simp [toldD, toldV]
end
end

section
set_option maxRecDepth 100000
open PySem PySem.W PyProof.Rows PySem.Calls PySem.SeqAt
noncomputable def numFs (x : Addr) (d : Int) (ta oa : Addr) : Loc := [("signatures", .ref x), ("default", .int d), ("told", .ref ta), ("ordered", .ref oa)]
noncomputable def lineD (lined : List Str) : Loc := lined.map fun t => (t, .bool true)
noncomputable def NumR (σ : St) (nb x : Addr) (d : Int) (td : Told) (lined : List Str) : Prop := ∃ ta oa, Inst σ nb 145 (numFs x d ta oa) ∧ σ ta = some (.dict (toldD td)) ∧ σ oa = some (.dict (lineD lined))
theorem NumR.sub {σ σ' : St} {nb x : Addr} {d : Int} {td : Told} {lined : List Str} (h : NumR σ nb x d td lined) (s : Sub [] σ σ') : NumR σ' nb x d td lined := by
  obtain ⟨ta, oa, h1, h2, h3⟩ := h
  exact ⟨ta, oa, h1.sub s nofun, s _ _ nofun h2, s _ _ nofun h3⟩
noncomputable def toldT (td : Told) : List PV := td.map fun p => .tup [.bool p.2.1, .int p.2.2, .str p.1]
theorem Sub.keep {σ0 σ σ' : St} {a : Addr} (s : Sub [] σ0 σ) (s' : Sub [a] σ σ') (h : σ0 a = none) : Sub [] σ0 σ' := (s.nil.trans s').drop h
theorem none_sub {σ0 σ : St} {a : Addr} (s : Sub [] σ0 σ) (h : σ a = none) : σ0 a = none := by
  cases e : σ0 a with
  | none => rfl
  | some o => rw [s _ _ nofun e] at h; cases h
theorem topsOf_mem {its : List Row} {t : Str} (h : t ∈ topsOf its) : ∃ r ∈ its, r.name = t ∧ (r.par == ("" : Str)) = true := by
  obtain ⟨r, hr, e⟩ := List.mem_map.mp h
  rw [List.mem_filter] at hr
  exact ⟨r, hr.1, e, hr.2⟩
section
variable {C : Cx} {σ σ0 : St} {x nb dx : Addr} {its : List Row} {lined : List Str} {td : Told}
theorem g_usualc (g : Good C) : ∃ t, nsIn C.K mainGlobals "USUAL" = some (some (.int 3 t)) := by rw [g.hK]; exact ⟨_, rfl⟩
set_option maxHeartbeats 4000000 in
theorem ninit_spec (g : Good C) {rk : Str → Nat} (w : RowsOK its rk) (S0 : SigR σ0 x its lined) (s0 : Sub [] σ0 σ) (hd0 : σ0 dx = none) (hx : σ nb = some (.inst 145 dx)) (hdx : σ dx = some (.attrs [])) (hnd : (td.map (·.1)).Nodup) (hmem : ∀ p ∈ td, p.1 ∈ its.map (·.name) ∧ 0 ≤ p.2.2) (hz : td.length ≤ 50)
    (hl : ∀ t ∈ lined, t ∈ topsOf its) (hl1 : lined.length ≤ 1) {d : Int} {Q : PV → St → Prop}
    (q : ∀ σ', Sub [dx] σ σ' → NumR σ' nb x (if 0 ≤ d then d else 3) td lined → Q .none σ') : CallJ C 5 (.ref 116) [.ref nb, .ref x, .tup [.int d, .tup (toldT td)]] σ Q := by
  obtain ⟨tk, hgu⟩ := g_usualc g
  refine call_fn (xs := ["self", "signatures", "scope"]) (by rw [g.hK]; exact rfl) (by rw [g.hK]; exact rfl) (fun vals h => ?_) rfl (by decide) (by decide) (by decide) rfl rfl rfl fun A L => ?_
  · match vals, h with
    | [a, b, c], _ => rfl
  refine S_cons (S_setattr ?_)
  walk_at "sts"
  refine ⟨nb, 145, dx, _, rfl, hx, hdx, sn_sigs g, by simp, ?_⟩
  rw [show Loc.set [] "signatures" (.ref x) = ([("signatures", .ref x)] : Loc) from rfl]
  have hx1 := get_attr (o' := .attrs [("signatures", .ref x)]) hdx hx nofun
  have hd1 := St.set_self σ dx (.attrs [("signatures", .ref x)])
  have s1 : Sub [dx] σ _ := Sub.upd (c := dx) (o := .attrs [("signatures", .ref x)]) (.head _)
  generalize σ.set dx (.attrs [("signatures", .ref x)]) = σ1 at hx1 hd1 s1 ⊢
  refine S_cons (S_setattr (E.at (.int (if 0 ≤ d then d else 3)) σ1 (E_if ?_) ?_))
  · walk_at "sts"
    refine o_item_tuple (by omega) (by omega) rfl ?_
    walk_at "sts"
    refine o_ge ⟨_, rfl, ?_⟩
    by_cases h0 : 0 ≤ d
    · rw [if_pos (by simpa using h0)]
      walk_at "sts"
      refine o_item_tuple (by omega) (by omega) rfl ⟨?_, rfl⟩
      rw [if_pos h0]
    · rw [if_neg (by simpa using h0)]
      refine E_glob hgu (fun _ => .int _ _) ⟨?_, rfl⟩
      rw [if_neg h0]
  walk_at "sts"
  refine ⟨nb, 145, dx, _, rfl, hx1, hd1, sn_default g, by simp, ?_⟩
  generalize (if 0 ≤ d then d else 3) = d' at q ⊢
  rw [show Loc.set [("signatures", .ref x)] "default" (.int d') = ([("signatures", .ref x), ("default", .int d')] : Loc) from rfl]
  have hx2 := get_attr (o' := .attrs [("signatures", .ref x), ("default", .int d')]) hd1 hx1 nofun
  have hd2 := St.set_self σ1 dx (.attrs [("signatures", .ref x), ("default", .int d')])
  have s2 : Sub [dx] σ _ := s1.trans (Sub.upd (c := dx) (o := .attrs [("signatures", .ref x), ("default", .int d')]) (.head _))
  generalize σ1.set dx (.attrs [("signatures", .ref x), ("default", .int d')]) = σ2 at hx2 hd2 s2 ⊢
  clear hx1 hd1 s1
  refine S_cons (S_setattr (E_dict0 fun ta hta => ?_))
  walk_at "sts"
  refine ⟨nb, 145, dx, _, rfl, get_new hta hx2, get_new hta hd2, sn_told g, by simp, ?_⟩
  rw [show Loc.set [("signatures", .ref x), ("default", .int d')] "told" (.ref ta) = ([("signatures", .ref x), ("default", .int d'), ("told", .ref ta)] : Loc) from rfl]
  have hx3 := get_attr (o' := .attrs [("signatures", .ref x), ("default", .int d'), ("told", .ref ta)]) (get_new (o' := .dict []) hta hd2) (get_new hta hx2) nofun
  have ht3 := get_attr (o' := .attrs [("signatures", .ref x), ("default", .int d'), ("told", .ref ta)]) (get_new (o' := .dict []) hta hd2) (St.set_self _ _ _) nofun
  have hd3 := St.set_self (σ2.set ta (.dict [])) dx (.attrs [("signatures", .ref x), ("default", .int d'), ("told", .ref ta)])
  have hta0 := none_back s2 hta hd2
  have s3 : Sub [dx] σ _ := s2.trans ((Sub.new (o := .dict []) hta).trans (Sub.upd (c := dx) (o := .attrs [("signatures", .ref x), ("default", .int d'), ("told", .ref ta)]) (.head _)))
  generalize ((σ2.set ta (.dict [])).set dx (.attrs [("signatures", .ref x), ("default", .int d'), ("told", .ref ta)])) = σ3 at hx3 ht3 hd3 s3 ⊢
  clear hx2 hd2 s2 hta
  have z3 := s0.keep s3 hd0
  have hta00 := none_sub s0 hta0
  refine S_seq (fun m' σ' => LSub [("self", .ref nb), ("signatures", .ref x)] m' ∧ Sub [ta] σ3 σ' ∧ σ' ta = some (.dict (toldD td))) (S_for (src_tuple ?_)) ?_
  · walk_at "sts"
    refine o_item_tuple (by omega) (by omega) rfl ?_
    refine ⟨_, rfl, fun i m' σ' => LSub [("self", .ref nb), ("signatures", .ref x)] m' ∧ Sub [ta] σ3 σ' ∧ σ' ta = some (.dict (toldD (td.take i))), ⟨.cons rfl (.cons rfl .nil), .refl _ _, ht3⟩, fun _ _ _ _ => trivial, ?_, ?_⟩
    · rintro i m' σ4 dd hdd ⟨hm, s4, ht4⟩
      unfold toldT at hdd
      rw [List.getElem?_map] at hdd
      obtain ⟨⟨nm, e, n⟩, hp, rfl⟩ := Option.map_eq_some_iff.mp hdd
      have hpm := List.mem_of_getElem? hp
      refine ⟨_, .tuple (xs := ["is_exact", "number", "sig"]) rfl ?_ rfl, ?_⟩
      · intro y hy
        simp only [List.mem_cons, List.not_mem_nil, or_false] at hy
        rcases hy with rfl | rfl | rfl <;> exact .loc rfl
      refine S.forget (m0 := [("self", .ref nb), ("signatures", .ref x), ("is_exact", .bool e), ("number", .int n), ("sig", .str nm)]) ?_ ?_
      · simp only [setAll]
        refine .cons ?_ (.cons ?_ (.cons ?_ (.cons ?_ (.cons ?_ .nil))))
        · rw [Loc.get_set, if_neg (by decide), Loc.get_set, if_neg (by decide), Loc.get_set, if_neg (by decide)]; exact hm.1
        · rw [Loc.get_set, if_neg (by decide), Loc.get_set, if_neg (by decide), Loc.get_set, if_neg (by decide)]; exact hm.2.1
        · rw [Loc.get_set, if_neg (by decide), Loc.get_set, if_neg (by decide), Loc.get_set, if_pos rfl]
        · rw [Loc.get_set, if_neg (by decide), Loc.get_set, if_pos rfl]
        · rw [Loc.get_set, if_pos rfl]
      have I4 : Inst σ4 nb 145 [("signatures", .ref x), ("default", .int d'), ("told", .ref ta)] := ⟨dx, s4 _ _ (nin1 (ne_ob hx3 ht3 nofun)) hx3, s4 _ _ (nin1 (ne_ob hd3 ht3 nofun)) hd3⟩
      have S4 := S0.sub (z3.keep s4 hta00)
      walk_at "sts"
      refine E_meth ?_
      walk_at "sts"
      refine ⟨nb, 145, _, 123, rfl, I4, (mn_take g).1, (mn_take g).2, rfl, ?_⟩
      walk_at "sts"
      refine (ntake_spec g w S4 I4 rfl rfl ht4 (hmem _ hpm).1 ?_ (by rw [List.length_take]; omega) (hmem _ hpm).2 fun σ5 s5 ht5 => ?_).le (by omega)
      · intro hin
        have hi : i < td.length := (List.getElem?_eq_some_iff.mp hp).1
        have h1 : td.map (·.1) = (td.take i).map (·.1) ++ nm :: (td.drop (i + 1)).map (·.1) := by
          have e1 : td = td.take i ++ (nm, e, n) :: td.drop (i + 1) := by
            have : td[i] = (nm, e, n) := (List.getElem?_eq_some_iff.mp hp).2
            rw [← this, ← List.drop_eq_getElem_cons hi, List.take_append_drop]
          conv => lhs; rw [e1]
          rw [List.map_append, List.map_cons]
        rw [h1, List.nodup_append] at hnd
        exact hnd.2.2 _ hin _ (.head _) rfl
      · walk_at "sts"
        refine ⟨.cons rfl (.cons rfl .nil), s4.trans s5, ?_⟩
        rw [take_succ_get hp]; exact ht5
    · rintro m' σ' ⟨hm, s, ht⟩
      rw [show (toldT td).length = td.length by simp [toldT], List.take_length] at ht
      exact ⟨hm, s, ht⟩
  · rintro m' σ4 ⟨hm, s4, ht4⟩
    refine S.forget hm ?_
    have hx4 := s4 _ _ (nin1 (ne_ob hx3 ht3 nofun)) hx3
    have hd4 := s4 _ _ (nin1 (ne_ob hd3 ht3 nofun)) hd3
    have z4 := z3.keep s4 hta00
    have s04 : Sub [dx] σ σ4 := by
      have : Sub [ta, dx] σ σ4 := (s3.mono (by simp)).trans (s4.mono (by simp))
      exact this.drop hta0
    clear hx3 hd3 ht3 s3 z3 s4 hm
    refine S_cons (S_setattr (E_dict0 fun oa hoa => ?_))
    walk_at "sts"
    refine ⟨nb, 145, dx, _, rfl, get_new hoa hx4, get_new hoa hd4, sn_ordered g, by simp, ?_⟩
    rw [show Loc.set [("signatures", .ref x), ("default", .int d'), ("told", .ref ta)] "ordered" (.ref oa) = numFs x d' ta oa from rfl]
    have hx5 := get_attr (o' := .attrs (numFs x d' ta oa)) (get_new (o' := .dict []) hoa hd4) (get_new hoa hx4) nofun
    have ht5 := get_attr (o' := .attrs (numFs x d' ta oa)) (get_new (o' := .dict []) hoa hd4) (get_new hoa ht4) nofun
    have ho5 := get_attr (o' := .attrs (numFs x d' ta oa)) (get_new (o' := .dict []) hoa hd4) (St.set_self _ _ _) nofun
    have hd5 := St.set_self (σ4.set oa (.dict [])) dx (.attrs (numFs x d' ta oa))
    have hot : oa ≠ ta := (ne_new hoa ht4).symm
    have hoa0 := none_sub z4 hoa
    have hoaσ := none_back s04 hoa hd4
    have z5 : Sub [] σ0 _ := z4.keep ((Sub.new (o := .dict []) hoa).trans (Sub.upd (c := dx) (o := .attrs (numFs x d' ta oa)) (.head _))) hd0
    have s05 : Sub [dx] σ _ := s04.trans ((Sub.new (o := .dict []) hoa).trans (Sub.upd (c := dx) (o := .attrs (numFs x d' ta oa)) (.head _)))
    generalize ((σ4.set oa (.dict [])).set dx (.attrs (numFs x d' ta oa))) = σ5 at hx5 ht5 ho5 hd5 z5 s05 ⊢
    clear hx4 hd4 s04 ht4 hoa z4
    obtain ⟨ea, sa, oa', ra, fs', fl, hS, ho, hr, eo, er, hp⟩ := S0.sub z5
    refine S_cons (S_for (src_list ?_))
    refine E_sm0 (m_orders g) (by decide) ?_
    walk_at "sts"
    refine ⟨x, its, ea, sa, fs', rfl, hS, ?_⟩
    refine (orders_spec g hS ho eo (by simp; omega) fun σ6 c s6 hc ec => ?_).le (by omega)
    have hoc : c ≠ oa := (ne_new hc ho5).symm
    have ho6 := s6 _ _ nofun ho5
    have z6 := z5.trans s6
    refine ⟨c, _, rfl, ec, fun i m' σ' => LSub [("self", .ref nb), ("signatures", .ref x)] m' ∧ Sub [oa] σ6 σ' ∧ σ' oa = some (.dict (lineD (lined.take i))), ⟨.cons rfl (.cons rfl .nil), .refl _ _, by simpa [lineD] using ho6⟩, fun i m' σ' hI => hI.2.1 _ _ (nin1 hoc) ec, ?_, ?_⟩
    · rintro i m' σ7 dd hdd ⟨hm, s7, ho7⟩
      rw [List.getElem?_map] at hdd
      obtain ⟨t, ht, rfl⟩ := Option.map_eq_some_iff.mp hdd
      have hi0 : i = 0 := by have := (List.getElem?_eq_some_iff.mp ht).1; omega
      subst hi0
      obtain ⟨r, hr1, rfl, hr3⟩ := topsOf_mem (hl _ (List.mem_of_getElem? ht))
      refine ⟨_, .tuple (xs := ["alias", "sig"]) rfl ?_ rfl, ?_⟩
      · intro y hy
        simp only [List.mem_cons, List.not_mem_nil, or_false] at hy
        rcases hy with rfl | rfl <;> exact .loc rfl
      refine S.forget (m0 := [("self", .ref nb), ("signatures", .ref x), ("sig", .str r.name)]) ?_ ?_
      · simp only [setAll]
        refine .cons ?_ (.cons ?_ (.cons ?_ .nil))
        · rw [Loc.get_set, if_neg (by decide), Loc.get_set, if_neg (by decide)]; exact hm.1
        · rw [Loc.get_set, if_neg (by decide), Loc.get_set, if_neg (by decide)]; exact hm.2.1
        · rw [Loc.get_set, if_pos rfl]
      have z7 := z6.keep s7 hoa0
      obtain ⟨ea, sa, oa', ra, fs', fl, hS, ho, hr, eo, er, hp⟩ := S0.sub z7
      walk_at "sts"
      refine E_sm (m_top g) (by decide) ?_
      walk_at "sts"
      refine ⟨x, its, ea, sa, fs', rfl, hS, ?_⟩
      walk_at "sts"
      refine (top_spec g hS (.nil (findR_mem w.nd hr1) hr3) (by simp) fun σ8 s8 => ?_).le (by omega)
      walk_at "sts"
      refine o_ne_str ⟨_, rfl, ?_⟩
      rw [if_neg (by rw [show lastOf r.name [] = r.name from rfl]; simp)]
      have hx8 := s8 _ _ nofun (s7 _ _ (nin1 (ne_ob (s6 _ _ nofun hx5) ho6 nofun)) (s6 _ _ nofun hx5))
      have hd8 := s8 _ _ nofun (s7 _ _ (nin1 (ne_ob (s6 _ _ nofun hd5) ho6 nofun)) (s6 _ _ nofun hd5))
      have ho8 := s8 _ _ nofun ho7
      walk_at "sts"
      refine E_attr ?_
      walk_at "sts"
      refine ⟨nb, 145, _, _, rfl, ⟨dx, hx8, hd8⟩, an_ordered g, rfl, nofun, ?_⟩
      walk_at "sts"
      refine ⟨oa, _, _, rfl, rfl, ho8, by simp [lineD], ?_⟩
      walk_at "sts"
      refine ⟨.cons rfl (.cons rfl .nil), s7.trans (s8.nil.trans (Sub.upd (.head _))), ?_⟩
      rw [St.set_self, take_succ_get ht]; rfl
    · rintro m' σ7 ⟨hm, s7, ho7⟩
      rw [List.length_map, List.take_length] at ho7
      refine S_nil (q σ7 ?_ ⟨ta, oa, ⟨dx, ?_, ?_⟩, ?_, ho7⟩)
      · have : Sub [oa, dx] σ σ7 := (s05.mono (by simp)).trans (s6.nil.trans (s7.mono (by simp)))
        exact this.drop hoaσ
      · exact s7 _ _ (nin1 (ne_ob (s6 _ _ nofun hx5) ho6 nofun)) (s6 _ _ nofun hx5)
      · exact s7 _ _ (nin1 (ne_ob (s6 _ _ nofun hd5) ho6 nofun)) (s6 _ _ nofun hd5)
      · exact s7 _ _ (nin1 hot.symm) (s6 _ _ nofun ht5)
end
end

section
set_option maxRecDepth 100000
open PySem PySem.W PyProof.Rows PySem.Calls PySem.SeqAt
theorem kids_len (its : List Row) (nm : Str) : ((its.filter fun r => r.par == nm).map (·.name)).length = (belowOf its nm).length := by simp [belowOf]
noncomputable def oneOther (its : List Row) (o : Str) : Option PV := match findR its o with
  | some r => if r.mult == ("one" : Str) then none else some (PV.str o)
  | none => none
theorem others_empty {its : List Row} (hn : (its.map (·.name)).Nodup) (nm : Str) : ((((its.filter fun r => r.par == nm).map (·.name)).map PV.str).filterMap fun d => match d with
      | .str o => oneOther its o
      | _ => none).isEmpty = (belowOf its nm).all (· == ("one" : Str)) := by
  unfold belowOf
  have : ∀ l : List Row, (∀ r ∈ l, r ∈ its) → ((((l.filter fun r => r.par == nm).map (·.name)).map PV.str).filterMap fun d => match d with
      | .str o => oneOther its o
      | _ => none).isEmpty = ((l.filter fun r => r.par == nm).map (·.mult)).all (· == ("one" : Str)) := by
    intro l
    induction l with
    | nil => intro _; rfl
    | cons r q ih =>
      intro hl
      have ih := ih fun r hr => hl r (.tail _ hr)
      by_cases h : (r.par == nm) = true
      · rw [List.filter_cons_of_pos (p := fun r : Row => r.par == nm) h]
        simp only [List.map_cons, List.filterMap_cons, List.all_cons]
        have ho : oneOther its r.name = if (r.mult == ("one" : Str)) = true then none else some (PV.str r.name) := by unfold oneOther; rw [findR_mem hn (hl r (.head _))]
        rw [ho]
        cases hm : r.mult == ("one" : Str) with
        | true => rw [if_pos rfl]; exact ih
        | false => rw [if_neg (by decide)]; rfl
      · rw [List.filter_cons_of_neg (p := fun r : Row => r.par == nm) h]; exact ih
  exact this its fun _ h => h
section
variable {C : Cx} {σ : St} {x nb : Addr} {its : List Row} {lined : List Str} {td : Told} {d : Int} {row : Row}
set_option maxHeartbeats 4000000 in
theorem nusual_spec (g : Good C) {rk : Str → Nat} (w : RowsOK its rk) (S : SigR σ x its lined) (N : NumR σ nb x d td lined) (hrow : row ∈ its) {Q : PV → St → Prop}
    (q : ∀ σ', Sub [] σ σ' → Q (.int (usualF its d row)) σ') : CallJ C 3 (.ref 128) [.ref nb, .str row.name] σ Q := by
  refine call_fnC (xs := ["self", "sig"]) (by rw [g.hK]; exact rfl) (by rw [g.hK]; exact rfl) (fun vals h => ?_) rfl (by decide) (by decide) rfl rfl rfl fun A L own O => ?_
  · match vals, h with
    | [a, b], _ => rfl
  obtain ⟨ta, oa, I, et, eo⟩ := N
  obtain ⟨ea, sa, oa', ra, fs', fl, hS, ho, hr, eo', er, hp⟩ := S
  have hf := findR_mem w.nd hrow
  have hlen := w.len
  walk_at "sts"
  refine E_sm (m_children g) (by decide) (E_attr ?_)
  walk_at "sts"
  refine ⟨nb, 145, _, _, rfl, I, an_sigs g, rfl, nofun, x, its, ea, sa, fs', rfl, hS, ?_⟩
  walk_at "sts"
  refine children_spec g hS w.nd fun σ1 c s1 hc ec => ?_
  have hS1 := hS.sub s1
  have I1 := I.sub s1 nofun
  have hkl := kids_len its row.name
  have hkz : (belowOf its row.name).length ≤ 100 := by unfold belowOf; rw [List.length_map]; exact Nat.le_trans (List.length_filter_le _ _) hlen
  have hq : ∀ σ', Sub [] σ1 σ' → Q (.int (usualF its d row)) σ' := fun σ' s => q σ' (s1.trans s)
  unfold usualF at hq
  refine S.forget (m0 := [("self", .ref nb), ("sig", .str row.name), ("children", .ref c)]) (.cons rfl (.cons rfl (.cons rfl .nil))) ?_
  refine S_seq (fun m' σ' => LSub [("self", .ref nb)] m' ∧ Sub [] σ1 σ' ∧ ¬ (row.abs = true ∧ (belowOf its row.name).any (· == ("one" : Str)) = true ∧ (belowOf its row.name).all (· == ("one" : Str)) = true)) ?_ ?_
  · walk_at "sts"
    refine E_sm (m_abs g) (by decide) (E_attr ?_)
    walk_at "sts"
    refine ⟨nb, 145, _, _, rfl, I1, an_sigs g, rfl, nofun, x, its, ea, sa, fs', rfl, hS1, ?_⟩
    walk_at "sts"
    refine (abs_spec g hS1 hf ?_).le (by omega)
    refine ⟨_, rfl, ?_⟩
    cases ha : row.abs with
    | false =>
      rw [if_neg (by decide), if_neg (by decide)]
      walk_at "sts"
      exact ⟨.cons rfl .nil, .refl _ _, by simp⟩
    | true =>
      rw [if_pos rfl]
      rw [ha] at hq
      walk_at "sts"
      refine E_len (g_len g) rfl rfl rfl ?_
      walk_at "sts"
      refine ⟨_, .inl ⟨c, _, rfl, ec, rfl⟩, by rw [List.length_map, hkl]; omega, ?_⟩
      walk_at "sts"
      refine o_gt ⟨_, rfl, ?_⟩
      rw [List.length_map, hkl]
      by_cases hpos : 0 < (belowOf its row.name).length
      · rw [if_pos (by simpa using hpos)]
        walk_at "sts"
        rw [if_pos rfl]
        walk_at "sts"
        refine E_comp (mc := [("self", .ref nb)]) rfl (by decide) rfl (by decide) (fun L => Capt.cons rfl rfl rfl rfl Capt.none) (src_list ?_)
        walk_at "sts"
        refine ⟨c, _, rfl, ec, ?_⟩
        refine CompJ_pure (by rw [List.length_map, hkl]; omega) ec (fun d => match d with
          | .str o => oneOther its o
          | _ => none) (fun L dd hdd => ?_) ?_
        · obtain ⟨nm, hnm, rfl⟩ := List.mem_map.mp hdd
          obtain ⟨r, hr1, rfl⟩ := List.mem_map.mp hnm
          have hr2 := (List.mem_filter.mp hr1).1
          have hf2 := findR_mem w.nd hr2
          refine ⟨_, .name (.loc rfl), Ifs_one ?_⟩
          walk_at "sts"
          refine E_sm (m_mult g) (by decide) (E_attr ?_)
          walk_at "sts"
          refine ⟨nb, 145, _, _, rfl, I1, an_sigs g, rfl, nofun, x, its, ea, sa, fs', rfl, hS1, ?_⟩
          walk_at "sts"
          refine (mult_spec g hS1 hf2 ?_).le (by omega)
          walk_at "sts"
          refine o_ne_str ⟨_, rfl, rfl, ?_⟩
          cases hm : r.mult == ("one" : Str) with
          | true =>
            rw [if_neg (by rw [bne, hm]; decide)]
            show oneOther its r.name = none
            unfold oneOther; rw [hf2]; exact if_pos hm
          | false =>
            rw [if_pos (by rw [bne, hm]; rfl)]
            walk_at "sts"
            refine ⟨?_, rfl⟩
            show oneOther its r.name = _
            unfold oneOther; rw [hf2]; exact if_neg (by rw [hm]; decide)
        · intro c2 hc2
          walk_at "sts"
          intro c3 hc3
          refine o_eq_nil (get_new hc3 (St.set_self _ _ _)) (St.set_self _ _ _) ⟨_, rfl, ?_⟩
          have s3 : Sub [] σ1 _ := (Sub.new hc2).trans (Sub.new (o := .list []) hc3)
          have ec3 := s3 _ _ nofun ec
          rw [others_empty w.nd]
          generalize ((σ1.set c2 _).set c3 _) = σ3 at s3 ec3 ⊢
          cases hall : (belowOf its row.name).all (· == ("one" : Str)) with
          | true =>
            rw [if_pos rfl]
            walk_at "sts"
            refine E_len (g_len g) rfl rfl rfl ?_
            walk_at "sts"
            refine ⟨_, .inl ⟨c, _, rfl, ec3, rfl⟩, by rw [List.length_map, hkl]; omega, ?_⟩
            rw [List.length_map, hkl]
            have hany : (belowOf its row.name).any (· == ("one" : Str)) = true := by
              cases hb : belowOf its row.name with
              | nil => rw [hb] at hpos; simp at hpos
              | cons y ys =>
                rw [hb, List.all_cons, Bool.and_eq_true] at hall
                rw [List.any_cons, hall.1]; rfl
            have := hq σ3 s3
            rw [if_pos ⟨rfl, hany, hall⟩] at this
            exact this
          | false =>
            rw [if_neg (by decide)]
            walk_at "sts"
            exact ⟨.cons rfl .nil, s3, by simp⟩
      · have hz : (belowOf its row.name) = [] := List.length_eq_zero_iff.mp (by omega)
        rw [if_neg (by simpa using hpos), if_neg (by decide)]
        walk_at "sts"
        exact ⟨.cons rfl .nil, .refl _ _, by rw [hz]; simp⟩
  · rintro m' σ2 ⟨hm, s2, hno⟩
    refine S.forget hm ?_
    walk_at "sts"
    refine E_attr ?_
    walk_at "sts"
    refine ⟨nb, 145, _, _, rfl, I1.sub s2 nofun, an_default g, rfl, nofun, ?_⟩
    have := hq σ2 s2
    rw [if_neg hno] at this
    exact this
noncomputable def formV (r : Int) : Option (Bool × Int) → PV
  | none => .none
  | some p => .tup [.str (if p.1 = true then "eq" else "le"), .tup [.str "count", .tup [.str "rel", .int r]], .tup [.str "num", .int p.2]]
theorem formula_spec (g : Good C) {rk : Str → Nat} (w : RowsOK its rk) (S : SigR σ x its lined) (N : NumR σ nb x d td lined) (hrow : row ∈ its) {r : Int} {Q : PV → St → Prop}
    (q : ∀ σ', Sub [] σ σ' → Q (formV r (if (row.par == ("" : Str)) = true then none else td.lookup row.name)) σ') : CallJ C 4 (.ref 142) [.ref nb, .str row.name, .int r] σ Q := by
  refine call_fn (xs := ["self", "sig", "r"]) (by rw [g.hK]; exact rfl) (by rw [g.hK]; exact rfl) (fun vals h => ?_) rfl (by decide) (by decide) (by decide) rfl rfl rfl fun A L => ?_
  · match vals, h with
    | [a, b, c], _ => rfl
  obtain ⟨ta, oa, I, et, eo⟩ := N
  obtain ⟨ea, sa, oa', ra, fs', fl, hS, ho, hr, eo', er, hp⟩ := S
  have hf := findR_mem w.nd hrow
  obtain ⟨l, up, hl⟩ := up_exists w.toWF 40 row hrow (w.rk row hrow)
  walk_at "sts"
  refine E_attr ?_
  walk_at "sts"
  refine ⟨nb, 145, _, _, rfl, I, an_told g, rfl, nofun, ?_⟩
  refine o_notin_dict et ⟨_, rfl, ?_⟩
  rw [toldD_get]
  cases hlk : td.lookup row.name with
  | none =>
    rw [if_pos (show (!(Option.map toldV none).isSome) = true from rfl), if_pos rfl]
    walk_at "sts"
    have := q σ (.refl _ _)
    rw [hlk] at this
    simpa [formV] using this
  | some p =>
    rw [if_neg (show ¬ (!(Option.map toldV (some p)).isSome) = true by simp)]
    walk_at "sts"
    refine E_sm (m_top g) (by decide) (E_attr ?_)
    walk_at "sts"
    refine ⟨nb, 145, _, _, rfl, I, an_sigs g, rfl, nofun, x, its, ea, sa, fs', rfl, hS, ?_⟩
    walk_at "sts"
    refine top_spec g hS up (by omega) fun σ1 s1 => ?_
    have I1 := I.sub s1 nofun
    have et1 := s1 _ _ nofun et
    have hq := q σ1 s1
    rw [hlk] at hq
    walk_at "sts"
    refine o_eq_str ⟨_, rfl, ?_⟩
    rw [up_top up hf]
    cases hpp : row.par == ("" : Str) with
    | true =>
      rw [if_pos rfl, if_pos rfl]
      rw [hpp, if_pos rfl] at hq
      walk_at "sts"
      exact hq
    | false =>
      rw [if_neg (by decide)]
      rw [hpp, if_neg (by decide)] at hq
      walk_at "sts"
      rw [if_neg (by decide)]
      walk_at "sts"
      refine S_cons (S_unpack (xs := ["is_exact", "number"]) rfl ?_ ?_)
      · intro y hy
        simp only [List.mem_cons, List.not_mem_nil, or_false] at hy
        rcases hy with rfl | rfl <;> exact .loc rfl
      walk_at "sts"
      refine E_attr ?_
      walk_at "sts"
      refine ⟨nb, 145, _, _, rfl, I1, an_told g, rfl, nofun, ?_⟩
      walk_at "sts"
      refine o_item_dict et1 (by rw [toldD_get, hlk]; rfl) ?_
      refine ⟨_, rfl, rfl, ?_⟩
      refine S.forget (m0 := [("r", .int r), ("is_exact", .bool p.1), ("number", .int p.2)]) (.cons rfl (.cons rfl (.cons rfl .nil))) ?_
      walk_at "sts"
      refine E.at (.str (if p.1 = true then "eq" else "le")) σ1 (E_if ?_) ?_
      · walk_at "sts"
        refine ⟨_, rfl, ?_⟩
        cases hb : p.1 with
        | true => rw [if_pos rfl]; walk_at "sts"; exact ⟨rfl, rfl⟩
        | false => rw [if_neg (by decide)]; walk_at "sts"; exact ⟨rfl, rfl⟩
      · walk_at "sts"
        exact hq
end
end

section
set_option maxRecDepth 100000
open PySem PySem.W PyProof.Rows PySem.Calls PySem.SeqAt
theorem RowsOK.rev {rows : List Row} {rk : Str → Nat} (w : RowsOK rows rk) : RowsOK rows.reverse rk where
  nd := by
    have h : (rows.reverse.map (·.name)) = (rows.map (·.name)).reverse := List.map_reverse
    rw [h]; exact (List.reverse_perm _).nodup_iff.mpr w.nd
  par := fun r hr hp => by
    obtain ⟨p, h1, h2⟩ := w.par r (List.mem_reverse.mp hr) hp
    exact ⟨p, List.mem_reverse.mpr h1, h2⟩
  len := by rw [List.length_reverse]; exact w.len
  rk := fun r hr => w.rk r (List.mem_reverse.mp hr)
  ne := fun r hr => w.ne r (List.mem_reverse.mp hr)
  sz := fun r hr => w.sz r (List.mem_reverse.mp hr)
theorem usualF_rev (rows : List Row) (d : Int) (row : Row) : usualF rows.reverse d row = usualF rows d row := by
  have h : belowOf rows.reverse row.name = (belowOf rows row.name).reverse := by unfold belowOf; rw [List.filter_reverse, List.map_reverse]
  unfold usualF
  rw [h, List.any_reverse, List.all_reverse, List.length_reverse]
noncomputable def sortT (td : Told) (ss : List Str) : Told := ss.filterMap fun nm => (td.lookup nm).map fun p => (nm, p)
theorem lookup_some_of {td : Told} {nm : Str} (h : nm ∈ td.map (·.1)) : ∃ p, td.lookup nm = some p := by
  cases e : td.lookup nm with
  | some p => exact ⟨p, rfl⟩
  | none =>
    rw [List.lookup_eq_none_iff] at e
    obtain ⟨q, hq, rfl⟩ := List.mem_map.mp h
    have := e q hq
    simp at this
theorem sortT_keys {td : Told} : ∀ {ss : List Str}, (∀ nm ∈ ss, nm ∈ td.map (·.1)) → (sortT td ss).map (·.1) = ss
  | [], _ => rfl
  | nm :: r, h => by
    obtain ⟨p, hp⟩ := lookup_some_of (h nm (.head _))
    unfold sortT
    rw [List.filterMap_cons, hp]
    simp only [Option.map_some, List.map_cons]
    exact congrArg _ (sortT_keys fun x hx => h x (.tail _ hx))
theorem sortT_lookup {td : Told} {nm : Str} : ∀ {ss : List Str}, (sortT td ss).lookup nm = if nm ∈ ss then td.lookup nm else none
  | [] => rfl
  | x :: r => by
    have ih := sortT_lookup (td := td) (nm := nm) (ss := r)
    unfold sortT at ih ⊢
    rw [List.filterMap_cons]
    by_cases hx : nm = x
    · subst hx
      cases hl : td.lookup nm with
      | none =>
        simp only [Option.map_none]
        rw [ih, hl]; simp
      | some p => simp
    · cases hl : td.lookup x with
      | none =>
        simp only [Option.map_none]
        rw [ih]; simp [hx]
      | some p =>
        have : (nm == x) = false := by simpa using hx
        simp only [Option.map_some, List.lookup_cons, this]
        rw [ih]; simp [hx]
theorem sortT_mem {td : Told} {ss : List Str} {p : Str × (Bool × Int)} (h : p ∈ sortT td ss) : p ∈ td := by
  obtain ⟨nm, _, e⟩ := List.mem_filterMap.mp h
  obtain ⟨q, h1, rfl⟩ := Option.map_eq_some_iff.mp e
  have : ∀ l : Told, l.lookup nm = some q → (nm, q) ∈ l := fun l => by
    induction l with
    | nil => intro h; cases h
    | cons a b ih =>
      intro h
      rw [List.lookup_cons] at h
      split at h
      · rename_i z; cases h; rw [beq_iff_eq.mp z]; exact .head _
      · exact .tail _ (ih h)
  exact this _ h1
section
variable {C : Cx}
theorem g_sorted (g : Good C) : nsIn C.K mainGlobals "sorted" = some none := by rw [g.hK]; exact rfl
theorem g_enum (g : Good C) : nsIn C.K mainGlobals "enumerate" = some none := by rw [g.hK]; exact rfl
theorem g_numbers (g : Good C) : nsIn C.K mainGlobals "Numbers" = some (some (.ref 145)) := by rw [g.hK]; exact rfl
theorem g_sigs (g : Good C) : nsIn C.K mainGlobals "Signatures" = some (some (.ref 314)) := by rw [g.hK]; exact rfl
theorem g_heard (g : Good C) : nsIn C.K mainGlobals "_law_heard" = some (some (.ref 354)) := by rw [g.hK]; exact rfl
theorem g_lot (g : Good C) : nsIn C.K mainGlobals "_law_lot" = some (some (.ref 347)) := by rw [g.hK]; exact rfl
theorem k_numbers (g : Good C) : keepIn C.K (.ref 145) = true := by rw [g.hK]; exact rfl
theorem k_sigs (g : Good C) : keepIn C.K (.ref 314) = true := by rw [g.hK]; exact rfl
theorem k_heard (g : Good C) : keepIn C.K (.ref 354) = true := by rw [g.hK]; exact rfl
theorem k_lot (g : Good C) : keepIn C.K (.ref 347) = true := by rw [g.hK]; exact rfl
theorem mk_numbers (g : Good C) : makesIn C.K 145 = true ∧ findIn C.K (.ref 145) "__init__" = some (some (.ref 116)) ∧ isFn C.K (.ref 116) = true := by rw [g.hK]; exact ⟨rfl, rfl, rfl⟩
theorem mk_sigs (g : Good C) : makesIn C.K 314 = true ∧ findIn C.K (.ref 314) "__init__" = some (some (.ref 163)) ∧ isFn C.K (.ref 163) = true := by rw [g.hK]; exact ⟨rfl, rfl, rfl⟩
/-- what the law hears of a lot -/
noncomputable def Heard (C : Cx) : Prop := ∀ {σ : St} {x nb : Addr} {its : List Row} {lined : List Str} {td : Told} {d : Int} {row : Row} {rk : Str → Nat}, RowsOK its rk → SigR σ x its lined → NumR σ nb x d td lined → row ∈ its → (∀ p ∈ td, 0 ≤ p.2.2 ∧ p.2.2 ≤ 100) → ∀ {Q : PV → St → Prop},
    (∀ σ', Sub [] σ σ' → Q (lotV (lotF row (usualF its d row) (td.lookup row.name) (lined.any (· == row.name)))) σ') → CallJ C 6 (.ref 354) [.ref nb, .str row.name] σ Q
theorem sigs_made (g : Good C) {σ : St} {il : Addr} {its : List Row} {lined : List Str} {rk : Str → Nat} (w : WF its rk) (hil : σ il = some (.list (its.map itemV ++ lined.map openV))) (hl1 : lined.length ≤ 1) (hl : ∀ t ∈ lined, ∃ r, findR its t = some r) {Q : PV → St → Prop}
    (q : ∀ σ' x, Sub [] σ σ' → SigR σ' x its lined → Q (.ref x) σ') : CallJ C 5 (.ref 314) [.ref il] σ Q := by
  obtain ⟨h1, h2, h3⟩ := mk_sigs g
  refine call_class h1 h2 h3 fun x dx hx hdx hne => ?_
  refine init_spec g w (St.set_self _ _ _) (by rw [St.set_ne _ _ (Ne.symm hne)]; exact St.set_self _ _ _) (by rw [St.set_ne _ _ (ne_new hx hil), St.set_ne _ _ (ne_new hdx hil)]; exact hil) hl1 hl fun σ' s hS => ⟨rfl, q σ' x ?_ hS⟩
  have : Sub [dx] σ σ' := ((Sub.new (o := .attrs []) hdx).trans (Sub.new (o := .inst 314 dx) (by rw [St.set_ne _ _ hne]; exact hx))).trans s
  exact this.drop hdx
theorem nums_made (g : Good C) {σ : St} {x : Addr} {its : List Row} {lined : List Str} {td : Told} {rk : Str → Nat} (w : RowsOK its rk) (S0 : SigR σ x its lined) (hnd : (td.map (·.1)).Nodup) (hmem : ∀ p ∈ td, p.1 ∈ its.map (·.name) ∧ 0 ≤ p.2.2 ∧ p.2.2 ≤ 100) (hz : td.length ≤ 50)
    (hl : ∀ t ∈ lined, t ∈ topsOf its) (hl1 : lined.length ≤ 1) {d : Int} {Q : PV → St → Prop}
    (q : ∀ σ' nb, Sub [] σ σ' → NumR σ' nb x (if 0 ≤ d then d else 3) td lined → Q (.ref nb) σ') : CallJ C 6 (.ref 145) [.ref x, .tup [.int d, .tup (toldT td)]] σ Q := by
  obtain ⟨h1, h2, h3⟩ := mk_numbers g
  refine call_class h1 h2 h3 fun nb dx hx hdx hne => ?_
  refine ninit_spec g w S0 ((Sub.new (o := .attrs []) hdx).trans (Sub.new (o := .inst 145 dx) (by rw [St.set_ne _ _ hne]; exact hx))) hdx (St.set_self _ _ _) (by rw [St.set_ne _ _ (Ne.symm hne)]; exact St.set_self _ _ _) hnd (fun p hp => ⟨(hmem p hp).1, (hmem p hp).2.1⟩) hz hl hl1 fun σ' s hN => ⟨rfl, q σ' nb ?_ hN⟩
  have : Sub [dx] σ σ' := ((Sub.new (o := .attrs []) hdx).trans (Sub.new (o := .inst 145 dx) (by rw [St.set_ne _ _ hne]; exact hx))).trans s
  exact this.drop hdx
end
end

section
set_option maxRecDepth 100000
open PySem PySem.W PyProof.Rows PySem.Calls PySem.SeqAt
theorem entD_ne {its : List Row} {cl : Addr} {k : Int} : Ob.dict (entD its) ≠ Ob.dict [("cells", .ref cl), ("spot", .int k)] := by
  intro h
  injection h with h
  cases its with
  | nil => cases h
  | cons r q => simp [entD, itemV] at h
theorem toldD_ne {td : Told} {cl : Addr} {k : Int} : Ob.dict (toldD td) ≠ Ob.dict [("cells", .ref cl), ("spot", .int k)] := by
  intro h
  injection h with h
  cases td with
  | nil => cases h
  | cons r q => simp [toldD, toldV] at h
theorem lineD_ne {l : List Str} {cl : Addr} {k : Int} : Ob.dict (lineD l) ≠ Ob.dict [("cells", .ref cl), ("spot", .int k)] := by
  intro h
  injection h with h
  cases l with
  | nil => cases h
  | cons r q => simp [lineD] at h
theorem Inst.feed {σ σ' : St} {x D fd cl : Addr} {fs : Loc} {ns : List Int} {k : Nat} (h : Inst σ x D fs) (f : Feed σ fd cl ns k) (s : Sub [fd] σ σ') : Inst σ' x D fs :=
  h.sub s fun a ha => by rw [List.mem_singleton] at ha; subst ha; exact ⟨_, f.1, nofun, nofun⟩
theorem SigR.feed {σ σ' : St} {x fd cl : Addr} {its : List Row} {lined : List Str} {ns : List Int} {k : Nat} (h : SigR σ x its lined) (f : Feed σ fd cl ns k) (s : Sub [fd] σ σ') : SigR σ' x its lined := by
  obtain ⟨ea, sa, oa, ra, fs, fl, h1, h2, h3, h4, h5, h6⟩ := h
  exact ⟨ea, sa, oa, ra, fs, fl, { h1 with
    inst := h1.inst.feed f s
    e := s _ _ (nin1 (ne_ob h1.e f.1 entD_ne)) h1.e
    s := s _ _ (nin1 (ne_ob h1.s f.1 nofun)) h1.s }, h2, h3, s _ _ (nin1 (ne_ob h4 f.1 nofun)) h4, s _ _ (nin1 (ne_ob h5 f.1 nofun)) h5, h6⟩
theorem NumR.feed {σ σ' : St} {x nb fd cl : Addr} {lined : List Str} {td : Told} {d : Int} {ns : List Int} {k : Nat} (h : NumR σ nb x d td lined) (f : Feed σ fd cl ns k) (s : Sub [fd] σ σ') : NumR σ' nb x d td lined := by
  obtain ⟨ta, oa, h1, h2, h3⟩ := h
  exact ⟨ta, oa, h1.feed f s, s _ _ (nin1 (ne_ob h2 f.1 toldD_ne)) h2, s _ _ (nin1 (ne_ob h3 f.1 lineD_ne)) h3⟩
theorem lotV_pure (o : Option (Bool × Int)) : pure? (lotV o) = true ∧ (py (lotV o)).canLay0 = true ∧ (py (lotV o)).depth ≤ 64 := by
  cases o with
  | none => exact ⟨rfl, rfl, Nat.le_of_ble_eq_true rfl⟩
  | some p => exact ⟨rfl, rfl, Nat.le_of_ble_eq_true rfl⟩
theorem formV_pure (r : Int) (o : Option (Bool × Int)) : pure? (formV r o) = true ∧ (py (formV r o)).canLay0 = true ∧ (py (formV r o)).depth ≤ 64 := by
  cases o with
  | none => exact ⟨rfl, rfl, Nat.le_of_ble_eq_true rfl⟩
  | some p =>
    obtain ⟨b, i⟩ := p
    have h1 : PyData.strOk "eq" = true := by decide +kernel
    have h2 : PyData.strOk "le" = true := by decide +kernel
    have h3 : PyData.strOk "count" = true := by decide +kernel
    have h4 : PyData.strOk "rel" = true := by decide +kernel
    have h5 : PyData.strOk "num" = true := by decide +kernel
    cases b <;> exact ⟨rfl, by simp only [formV, py, pys, PyData.canLay0, PyData.canLayAll0]; simp [h1, h2, h3, h4, h5], Nat.le_of_ble_eq_true rfl⟩
section
variable {C : Cx}
set_option maxHeartbeats 4000000 in
theorem right_spec (g : Good C) (hd : Heard C) {σ : St} {fd cl r il ll ta : Addr} {ns : List Int} {k : Nat} {rows its : List Row} {lined : List Str} {td : Told} {rk : Str → Nat} {d : Int} (f : Feed σ fd cl ns k) (hk : k ≤ 300) (w : RowsOK rows rk)
    (er : σ r = some (.list (rows.map rowV))) (ei : σ il = some (.list (its.map itemV ++ lined.map openV))) (el : σ ll = some (.list (lined.map .str))) (et : σ ta = some (.dict (toldD td)))
    (hits : its = rows ∨ its = rows.reverse) (hl : ∀ t ∈ lined, t ∈ topsOf rows) (hl1 : lined.length ≤ 1) (hnd : (td.map (·.1)).Nodup) (hmem : ∀ p ∈ td, p.1 ∈ rows.map (·.name) ∧ 0 ≤ p.2.2 ∧ p.2.2 ≤ 100) (hz : td.length ≤ 50) (htop : (topsOf rows).length ≤ 20) {Q : PV → St → Prop}
    (q : ∀ σ' k', Sub [fd] σ σ' → Feed σ' fd cl ns k' → k' ≤ k + 40 → Q (.bool true) σ') :
    CallJ C 7 (.ref 359) [.ref fd, .ref r, .ref il, .ref ll, .ref ta, .int d] σ Q := by
  have wi : RowsOK its rk := by rcases hits with rfl | rfl; exact w; exact w.rev
  have memi : ∀ x, x ∈ its ↔ x ∈ rows := by rcases hits with rfl | rfl <;> simp
  have usi : ∀ d row, usualF its d row = usualF rows d row := by rcases hits with rfl | rfl; exact fun _ _ => rfl; exact usualF_rev rows
  refine call_fnC (xs := ["feed", "rows", "items", "lined", "told", "default"]) (by rw [g.hK]; exact rfl) (by rw [g.hK]; exact rfl) (fun vals h => ?_) rfl (by decide) (by decide) rfl rfl rfl fun A L own O => ?_
  · match vals, h with
    | [a, b, c, d, e, f], _ => rfl
  walk_at "sts"
  refine E_typ1 (E_blt (v := .type "tuple") (g_tuple g) rfl (fun _ => .typ _) ⟨rfl, ?_⟩)
  walk_at "sts"
  refine E_comp (mc := [("told", .ref ta)]) rfl (by decide) rfl (by decide) (fun L => Capt.cons rfl rfl rfl rfl Capt.none) (src_list ?_)
  refine E_blt1 (f := .Name "sorted" default) (E_blt (v := .builtin "sorted") (g_sorted g) rfl (fun _ => .blt _) ⟨rfl, ?_⟩)
  walk_at "sts"
  intro s vals hv
  cases hv with
  | cons hv z =>
  cases z
  refine op_sorted et (by rw [toldD_len]; omega) hv fun c ss hc hperm => ?_
  rw [show (toldD td).map (·.1) = td.map (·.1) by simp [toldD]] at hperm
  have ec := St.set_self σ c (.list (ss.map .str))
  have et1 := get_new (o' := .list (ss.map .str)) hc et
  have s1 : Sub [] σ _ := Sub.new (o := .list (ss.map .str)) hc
  generalize σ.set c (.list (ss.map .str)) = σ1 at ec et1 s1 ⊢
  have hsl : ss.length ≤ 50 := by have := hperm.length_eq; simp at this; omega
  refine ⟨c, _, rfl, ec, CompJ_pure (by simp; omega) ec (fun d => match d with
    | .str o => (td.lookup o).map fun p => .tup [.bool p.1, .int p.2, .str o]
    | _ => none) (fun L dd hdd => ?_) fun c2 hc2 => ?_⟩
  · obtain ⟨nm, hnm, rfl⟩ := List.mem_map.mp hdd
    obtain ⟨p, hp⟩ := lookup_some_of (hperm.subset hnm)
    have hg : Loc.get (toldD td) nm = some (toldV p) := by rw [toldD_get, hp]; rfl
    refine ⟨_, .name (.loc rfl), Ifs_nil ⟨rfl, ?_⟩⟩
    rw [if_pos rfl]
    walk_at "sts"
    refine o_item_dict et1 hg ?_
    walk_at "sts"
    refine o_item_tuple (by omega) (by omega) rfl ?_
    walk_at "sts"
    refine o_item_dict et1 hg ?_
    walk_at "sts"
    refine o_item_tuple (by omega) (by omega) rfl ?_
    walk_at "sts"
    refine ⟨?_, rfl⟩
    show (td.lookup nm).map _ = _
    rw [hp]; rfl
  have efm : (ss.map PV.str).filterMap (fun d => match d with
    | .str o => (td.lookup o).map fun p => .tup [.bool p.1, .int p.2, .str o]
    | _ => none) = toldT (sortT td ss) := by
    unfold toldT sortT
    rw [List.filterMap_map, List.map_filterMap]
    refine congrArg (fun f => List.filterMap f ss) (funext fun x => ?_)
    show (td.lookup x).map _ = _
    cases td.lookup x <;> rfl
  rw [efm]
  walk_at "sts"
  intro s vals hv
  cases hv with
  | cons hv z =>
  cases z
  have hkeys := sortT_keys (td := td) (ss := ss) fun nm h => hperm.subset h
  have hln : (sortT td ss).length ≤ 50 := by have := congrArg List.length hkeys; simp at this; omega
  refine op_tuple_list (St.set_self _ _ _) (by simp [toldT]; omega) hv ?_
  have s2 : Sub [] σ _ := s1.trans (Sub.new (o := .list (toldT (sortT td ss))) hc2)
  generalize σ1.set c2 (.list (toldT (sortT td ss))) = σ2 at s2 ⊢
  clear ec et1 s1 hc2 efm
  have hlk : ∀ nm, (sortT td ss).lookup nm = td.lookup nm := fun nm => by
    rw [sortT_lookup]
    split
    · rfl
    · rename_i h
      exact (told_none fun hin => h (hperm.symm.subset hin)).symm
  have hlined : ∀ t ∈ lined, t ∈ topsOf its := fun t ht => by
    obtain ⟨y, hy1, hy2, hy3⟩ := topsOf_mem (hl t ht)
    exact List.mem_map.mpr ⟨y, List.mem_filter.mpr ⟨(memi y).mpr hy1, hy3⟩, hy2⟩
  walk_at "sts"
  refine E_call (E_glob (g_numbers g) (fun _ => .ref _) ⟨145, rfl, k_numbers g, ?_⟩)
  walk_at "sts"
  refine E_call (E_glob (g_sigs g) (fun _ => .ref _) ⟨314, rfl, k_sigs g, ?_⟩)
  walk_at "sts"
  refine (sigs_made g wi.toWF (s2 _ _ nofun ei) hl1 (fun t ht => ?_) fun σ3 x s3 S3 => ?_).le (by omega)
  · obtain ⟨y, hy1, hy2, _⟩ := topsOf_mem (hlined t ht)
    exact ⟨y, hy2 ▸ findR_mem wi.nd hy1⟩
  walk_at "sts"
  refine (nums_made g wi S3 (by rw [hkeys]; exact hperm.nodup_iff.mpr hnd) (fun p hp => ?_) hln hlined hl1 fun σ4 nb s4 N4 => ?_).le (by omega)
  · obtain ⟨h1, h2⟩ := hmem p (sortT_mem hp)
    refine ⟨?_, h2⟩
    obtain ⟨y, hy1, hy2⟩ := mem_names h1
    exact hy2 ▸ List.mem_map_of_mem ((memi y).mpr hy1)
  have S4 := S3.sub s4
  have s04 := s2.trans (s3.trans s4)
  clear S3 s3 s4 s2
  have er4 := s04 _ _ nofun er
  have el4 := s04 _ _ nofun el
  have et4 := s04 _ _ nofun et
  have f4 := f.sub s04 nofun nofun
  refine S.forget (m0 := [("feed", .ref fd), ("rows", .ref r), ("lined", .ref ll), ("told", .ref ta), ("default", .int d), ("numbers", .ref nb)]) (.cons rfl (.cons rfl (.cons rfl (.cons rfl (.cons rfl (.cons rfl .nil)))))) ?_
  refine S_cons (S_swap (xs := ["tops", "plain"]) ?_ rfl ?_)
  · intro y hy
    simp only [List.mem_cons, List.not_mem_nil, or_false] at hy
    rcases hy with rfl | rfl <;> exact .loc rfl
  walk_at "sts"
  refine E_comp (mc := []) rfl (by decide) rfl (by decide) (fun L => Capt.none) (src_list ?_)
  walk_at "sts"
  have hrl := w.len
  refine ⟨r, _, rfl, er4, CompJ_pure (by simp; omega) er4 (fun d => match d with
        | .tup [.str a, .bool b, .str c, .str e] => if e == ("" : Str) then some (.str a) else none
        | _ => none) (fun L dd hdd => ?_) fun tl htl => ?_⟩
  · obtain ⟨row, hrow, rfl⟩ := List.mem_map.mp hdd
    refine ⟨_, .name (.loc rfl), Ifs_one ?_⟩
    walk_at "sts"
    refine o_item_tuple (by omega) (by omega) rfl ?_
    walk_at "sts"
    refine o_eq_str ⟨_, rfl, rfl, ?_⟩
    split
    · walk_at "sts"
      refine o_item_tuple (by omega) (by omega) rfl ⟨?_, rfl⟩
      simp_all [rowV]
    · simp_all [rowV]
  have efm2 : (rows.map rowV).filterMap (fun d => match d with
        | .tup [.str a, .bool b, .str c, .str e] => if e == ("" : Str) then some (PV.str a) else none
        | _ => none) = (topsOf rows).map .str := tops_fm rows
  rw [efm2]
  have etl := St.set_self σ4 tl (.list ((topsOf rows).map .str))
  have s05 : Sub [] σ _ := s04.trans (Sub.new (o := .list ((topsOf rows).map .str)) htl)
  have S5 := S4.sub (Sub.new (o := .list ((topsOf rows).map .str)) htl)
  have N5 := N4.sub (Sub.new (o := .list ((topsOf rows).map .str)) htl)
  generalize σ4.set tl (.list ((topsOf rows).map .str)) = σ5 at etl s05 S5 N5 ⊢
  clear S4 N4 s04 er4 el4 et4 f4 htl
  have er5 := s05 _ _ nofun er
  have el5 := s05 _ _ nofun el
  have et5 := s05 _ _ nofun et
  have f5 := f.sub s05 nofun nofun
  walk_at "sts"
  refine E.at (.int (if 0 ≤ d then d else 3)) σ5 (E_if ?_) ?_
  · walk_at "sts"
    refine E_neg ?_
    walk_at "sts"
    refine ⟨1, rfl, ?_⟩
    refine o_gt ⟨_, rfl, ?_⟩
    by_cases h0 : 0 ≤ d
    · rw [if_pos (by rw [decide_eq_true_eq]; omega)]
      walk_at "sts"
      exact ⟨by rw [if_pos h0], rfl⟩
    · rw [if_neg (by rw [decide_eq_true_eq]; omega)]
      walk_at "sts"
      exact ⟨by rw [if_neg h0], rfl⟩
  generalize (if 0 ≤ d then d else 3) = d' at N5 ⊢
  walk_at "sts"
  refine ⟨_, rfl, rfl, ?_⟩
  refine S.forget (m0 := [("feed", .ref fd), ("rows", .ref r), ("lined", .ref ll), ("told", .ref ta), ("numbers", .ref nb), ("tops", .ref tl), ("plain", .int d')]) (.cons rfl (.cons rfl (.cons rfl (.cons rfl (.cons rfl (.cons rfl (.cons rfl .nil))))))) ?_
  have nrf : r ≠ fd := ne_ob er5 f5.1 nofun
  have nlf : ll ≠ fd := ne_ob el5 f5.1 nofun
  have ntf : ta ≠ fd := ne_ob et5 f5.1 toldD_ne
  have ntl : tl ≠ fd := ne_ob etl f5.1 nofun
  refine S_seq (fun m' σ' => ∃ k', LSub [("rows", .ref r), ("told", .ref ta), ("numbers", .ref nb)] m' ∧ Feed σ' fd cl ns k' ∧ k' ≤ k + 40 ∧ Sub [fd] σ5 σ' ∧ SigR σ' x its lined ∧ NumR σ' nb x d' (sortT td ss) lined) (S_for (src_range' g rfl rfl rfl ?_)) ?_
  · walk_at "sts"
    refine E_len (g_len g) rfl rfl rfl ?_
    walk_at "sts"
    refine ⟨_, .inl ⟨tl, _, rfl, etl, rfl⟩, by simp; omega, ?_⟩
    refine o_mul (mulOk (by omega) (by omega)) ?_
    refine ⟨2 * (topsOf rows).length, by simp, by omega, ?_⟩
    refine ⟨fun i m' σ' => ∃ k', LSub [("feed", .ref fd), ("rows", .ref r), ("lined", .ref ll), ("told", .ref ta), ("numbers", .ref nb), ("tops", .ref tl), ("plain", .int d')] m' ∧ Feed σ' fd cl ns k' ∧ k' ≤ k + i ∧ Sub [fd] σ5 σ' ∧ SigR σ' x its lined ∧ NumR σ' nb x d' (sortT td ss) lined, ⟨k, .cons rfl (.cons rfl (.cons rfl (.cons rfl (.cons rfl (.cons rfl (.cons rfl .nil)))))), f5, by omega, .refl _ _, S5, N5⟩, fun _ _ _ _ => trivial, ?_, ?_⟩
    · rintro i m' σ6 dd hdd ⟨k', hm, f6, hk', s6, S6, N6⟩
      obtain ⟨hi, rfl⟩ := upTo_get hdd
      refine ⟨_, .name (.loc rfl), ?_⟩
      refine S.forget (m0 := [("feed", .ref fd), ("rows", .ref r), ("lined", .ref ll), ("told", .ref ta), ("numbers", .ref nb), ("tops", .ref tl), ("plain", .int d'), ("lap", .int i)]) ?_ ?_
      · obtain ⟨h1, h2, h3, h4, h5, h6, h7, _⟩ := hm
        refine .cons ?_ (.cons ?_ (.cons ?_ (.cons ?_ (.cons ?_ (.cons ?_ (.cons ?_ (.cons (by rw [Loc.get_set, if_pos rfl]) .nil))))))) <;> (rw [Loc.get_set, if_neg (by decide)]; assumption)
      walk_at "sts"
      refine E_nextc g 3 f6 rfl (by omega) (by omega) (by omega) rfl rfl rfl fun dn σ7 hdn s7 f7 => ?_
      have S7 := S6.feed f6 s7
      have N7 := N6.feed f6 s7
      have s57 := s6.trans s7
      have etl7 := s57 _ _ (nin1 ntl) etl
      have er7 := s57 _ _ (nin1 nrf) er5
      have el7 := s57 _ _ (nin1 nlf) el5
      have et7 := s57 _ _ (nin1 ntf) et5
      refine o_add ?_
      refine E_len (g_len g) rfl rfl rfl ?_
      walk_at "sts"
      refine ⟨_, .inl ⟨tl, _, rfl, etl7, rfl⟩, by simp; omega, ?_⟩
      have hlen0 : 0 < (topsOf rows).length := by omega
      rw [List.length_map]
      refine o_mod (by omega) ?_
      have hj0 := Int.fmod_nonneg_of_pos ((i : Int) + dn) (b := ((topsOf rows).length : Int)) (by omega)
      have hj1 := Int.fmod_lt_of_pos ((i : Int) + dn) (b := ((topsOf rows).length : Int)) (by omega)
      have hj : (((i : Int) + dn).fmod ((topsOf rows).length : Int)).toNat < (topsOf rows).length := by omega
      refine o_item_list etl7 hj0 (by omega) (d := .str ((topsOf rows)[(((i : Int) + dn).fmod ((topsOf rows).length : Int)).toNat])) (by simp [hj]) ?_
      obtain ⟨row, hrow, hname, hpar⟩ := topsOf_mem (List.getElem_mem hj)
      rw [← hname]
      clear hname
      have hrowi := (memi row).mpr hrow
      refine S_cons (S_if (T.mono (Q := fun b σ' => b = false ∧ Sub [] σ7 σ') ?_ ?_))
      · walk_at "sts"
        refine E_meth ?_
        walk_at "sts"
        have N7' := N7
        obtain ⟨ta', oa', I7, et', eo'⟩ := N7'
        refine ⟨nb, 145, _, 128, rfl, I7, (mn_usual g).1, (mn_usual g).2, rfl, ?_⟩
        walk_at "sts"
        refine (nusual_spec g wi S7 N7 hrowi fun σ8 s8 => ?_).le (by omega)
        refine E_call (E_glob (g_usual g) (fun _ => .ref _) ⟨342, rfl, k_usual g, ?_⟩)
        walk_at "sts"
        refine (usual_spec g (s8 _ _ nofun er7) hrl (findR_mem w.nd hrow) fun σ9 s9 => ?_).le (by omega)
        rw [usi]
        refine o_ne_int ⟨_, rfl, ?_⟩
        rw [if_neg (by simp)]
        have s79 := s8.trans s9
        walk_at "sts"
        refine E_call (E_glob (g_heard g) (fun _ => .ref _) ⟨354, rfl, k_heard g, ?_⟩)
        walk_at "sts"
        refine hd wi (S7.sub s79) (N7.sub s79) hrowi (fun p hp => (hmem p (sortT_mem hp)).2) fun σ10 s10 => ?_
        have s710 := s79.trans s10
        refine E_call (E_glob (g_lot g) (fun _ => .ref _) ⟨347, rfl, k_lot g, ?_⟩)
        walk_at "sts"
        refine (lot_spec g (s710 _ _ nofun er7) hrl (findR_mem w.nd hrow) (s710 _ _ nofun et7) (s710 _ _ nofun el7) fun σ11 s11 => ?_).le (by omega)
        rw [usi, hlk]
        obtain ⟨p1, p2, p3⟩ := lotV_pure (lotF row (usualF rows d' row) (td.lookup row.name) (lined.any (· == row.name)))
        refine o_ne_same p1 p2 p3 ⟨_, rfl, ?_⟩
        rw [if_neg (by decide)]
        walk_at "sts"
        exact ⟨rfl, s710.trans s11⟩
      · rintro b σ8 ⟨rfl, s8⟩
        rw [if_neg (by decide)]
        walk_at "sts"
        refine ⟨k' + 1, .cons rfl (.cons rfl (.cons rfl (.cons rfl (.cons rfl (.cons rfl (.cons rfl .nil)))))), f7.sub s8 nofun nofun, by omega, s57.trans s8.nil, S7.sub s8, N7.sub s8⟩
    · rintro m' σ' ⟨k', hm, f', hk', s', S', N'⟩
      rw [upTo_len] at hk'
      exact ⟨k', .cons hm.2.1 (.cons hm.2.2.2.1 (.cons hm.2.2.2.2.1 .nil)), f', by omega, s', S', N'⟩
  · rintro m' σ6 ⟨k', hm, f6, hk', s6, S6, N6⟩
    refine S.forget hm ?_
    have er6 := s6 _ _ (nin1 nrf) er5
    have et6 := s6 _ _ (nin1 ntf) et5
    have s06 : Sub [fd] σ σ6 := s05.nil.trans s6
    clear hm s6 S5 N5 f5 etl er5 el5 et5
    refine S_seq (fun m' σ' => Sub [] σ6 σ') (S_for (src_enum ?_)) ?_
    · refine E_blt (v := .type "enumerate") (g_enum g) rfl (fun _ => .typ _) ⟨rfl, ?_⟩
      walk_at "sts"
      refine ⟨r, _, rfl, er6, fun i m' σ' => LSub [("told", .ref ta), ("numbers", .ref nb)] m' ∧ Sub [] σ6 σ', ⟨.cons rfl (.cons rfl .nil), .refl _ _⟩, fun i m' σ' hI => hI.2 _ _ nofun er6, ?_, fun m' σ' hI => hI.2⟩
      rintro i m' σ7 dd hdd ⟨hm, s7⟩
      obtain ⟨y, hy, rfl⟩ := numbered_get hdd
      rw [List.getElem?_map] at hy
      obtain ⟨row, hrow', rfl⟩ := Option.map_eq_some_iff.mp hy
      have hrow := List.mem_of_getElem? hrow'
      have hrowi := (memi row).mpr hrow
      refine ⟨_, .tuple (xs := ["place", "row"]) rfl ?_ rfl, ?_⟩
      · intro y hy
        simp only [List.mem_cons, List.not_mem_nil, or_false] at hy
        rcases hy with rfl | rfl <;> exact .loc rfl
      refine S.forget (m0 := [("told", .ref ta), ("numbers", .ref nb), ("place", .int i), ("row", rowV row)]) ?_ ?_
      · simp only [setAll]
        refine .cons ?_ (.cons ?_ (.cons ?_ (.cons ?_ .nil)))
        · rw [Loc.get_set, if_neg (by decide), Loc.get_set, if_neg (by decide)]; exact hm.1
        · rw [Loc.get_set, if_neg (by decide), Loc.get_set, if_neg (by decide)]; exact hm.2.1
        · rw [Loc.get_set, if_neg (by decide), Loc.get_set, if_pos rfl]
        · rw [Loc.get_set, if_pos rfl]
      have et7 := s7 _ _ nofun et6
      have S7 := S6.sub s7
      have N7 := N6.sub s7
      refine S_cons (S_assign (.loc rfl) (E_none ?_))
      refine S_seq (fun m' σ' => σ' = σ7 ∧ LSub [("told", .ref ta), ("numbers", .ref nb), ("place", .int i), ("row", rowV row), ("due", formV i (if (row.par == ("" : Str)) = true then none else td.lookup row.name))] m') ?_ ?_
      · walk_at "sts"
        refine o_item_tuple (by omega) (by omega) rfl ?_
        walk_at "sts"
        refine o_ne_str ⟨_, rfl, ?_⟩
        cases hpp : row.par == ("" : Str) with
        | true =>
          rw [if_neg (by rw [bne, hpp]; decide), if_neg (by decide)]
          walk_at "sts"
          exact ⟨rfl, .cons rfl (.cons rfl (.cons rfl (.cons rfl (.cons rfl .nil))))⟩
        | false =>
          rw [if_pos (by rw [bne, hpp]; rfl)]
          walk_at "sts"
          refine o_item_tuple (by omega) (by omega) rfl ?_
          walk_at "sts"
          refine o_in_dict et7 ⟨_, rfl, ?_⟩
          rw [toldD_get]
          rw [if_neg (show ¬ false = true by decide)]
          cases hl2 : td.lookup row.name with
          | none =>
            rw [if_neg (show ¬ (Option.map toldV none).isSome = true by simp), if_neg (by decide)]
            walk_at "sts"
            exact ⟨rfl, .cons rfl (.cons rfl (.cons rfl (.cons rfl (.cons rfl .nil))))⟩
          | some p =>
            have hg : Loc.get (toldD td) row.name = some (toldV p) := by rw [toldD_get, hl2]; rfl
            rw [if_pos (show (Option.map toldV (some p)).isSome = true from rfl)]
            walk_at "sts"
            rw [if_pos rfl]
            walk_at "sts"
            refine E.at (.str (if p.1 = true then "eq" else "le")) σ7 (E_if ?_) ?_
            · walk_at "sts"
              refine o_item_tuple (by omega) (by omega) rfl ?_
              refine o_item_dict et7 hg ?_
              walk_at "sts"
              refine o_item_tuple (by omega) (by omega) rfl ⟨_, rfl, ?_⟩
              cases hb : p.1 with
              | true => rw [if_pos rfl]; walk_at "sts"; exact ⟨rfl, rfl⟩
              | false => rw [if_neg (by decide)]; walk_at "sts"; exact ⟨rfl, rfl⟩
            walk_at "sts"
            refine o_item_tuple (by omega) (by omega) rfl ?_
            refine o_item_dict et7 hg ?_
            walk_at "sts"
            refine o_item_tuple (by omega) (by omega) rfl ?_
            walk_at "sts"
            exact ⟨rfl, .cons rfl (.cons rfl (.cons rfl (.cons rfl (.cons rfl .nil))))⟩
      · rintro m' σ8 ⟨hs, hm⟩
        rw [hs]; clear hs
        refine S.forget hm ?_
        walk_at "sts"
        refine E_meth ?_
        walk_at "sts"
        have N7' := N7
        obtain ⟨ta', oa', I7, et', eo'⟩ := N7'
        refine ⟨nb, 145, _, 142, rfl, I7, (mn_formula g).1, (mn_formula g).2, rfl, ?_⟩
        walk_at "sts"
        refine o_item_tuple (by omega) (by omega) rfl ?_
        walk_at "sts"
        refine (formula_spec g wi S7 N7 hrowi fun σ9 s9 => ?_).le (by omega)
        rw [hlk]
        walk_at "sts"
        obtain ⟨p1, p2, p3⟩ := formV_pure (i : Int) (if (row.par == ("" : Str)) = true then none else td.lookup row.name)
        refine o_ne_same p1 p2 p3 ⟨_, rfl, ?_⟩
        rw [if_neg (by decide)]
        walk_at "sts"
        exact ⟨.cons rfl (.cons rfl .nil), s7.trans s9⟩
    · rintro m' σ7 s7
      walk_at "sts"
      exact q σ7 k' (s06.trans s7.nil) (f6.sub s7 nofun nofun) hk'
end
end

section
set_option maxRecDepth 100000
open PySem PySem.W PyProof.Rows PySem.Calls PySem.SeqAt
noncomputable def rkOf (n : Str) : Nat := if n.cps.size = 2 then 0 else if n.cps.size = 4 then 1 else 2
noncomputable def tagOf (n : Str) : Option Nat := n.cps[1]?
noncomputable def blockNP (i many : Nat) (d : Bool) : List (Str × Str) := (topN i, ("" : Str)) :: (List.range many).map (fun j => (kidN i j, topN i)) ++ (if d then [(topN i ++ ("d" : Str), topN i ++ ("c0" : Str))] else [])
theorem block_np (i : Nat) (a : Bool) (mu : Str) (many ar : Nat) (d : Bool) : (block i a mu many ar d).map (fun r => (r.name, r.par)) = blockNP i many d := by
  unfold block blockNP
  cases d <;> simp
noncomputable def okP (l : List (Str × Str)) (i : Nat) (p : Str × Str) : Bool := tagOf p.1 == some (48 + i) && !(p.1 == ("" : Str)) && !(p.1 == ("int" : Str)) && !(p.1 == ("Int" : Str)) && decide (p.1.length ≤ 40) && (p.2 == ("" : Str) || l.any fun q => q.1 == p.2 && decide (rkOf p.2 < rkOf p.1))
noncomputable def okB (l : List (Str × Str)) (i : Nat) : Bool := decide ((l.map (·.1)).Nodup) && l.all (okP l i)
theorem okB_all : ∀ (i : Fin 3) (many : Fin 4) (d : Bool), (d = true → 0 < many.1) → okB (blockNP i.1 many.1 d) i.1 = true := by decide +kernel
structure TreeOK (i : Nat) (rows : List Row) : Prop where
  nd : (rows.map (·.name)).Nodup
  row : ∀ r ∈ rows, (∃ j, j < i ∧ tagOf r.name = some (48 + j)) ∧ (r.name ≠ "" ∧ r.name ≠ "int" ∧ r.name ≠ "Int") ∧ ((r.par == ("" : Str)) = false → ∃ p ∈ rows, p.name = r.par ∧ rkOf r.par < rkOf r.name)
  len : rows.length ≤ 5 * i
  sz : ∀ r ∈ rows, r.name.length ≤ 40
  tops : 0 < i → topsOf rows ≠ []
theorem mem_np {l : List Row} {nm par : Str} (h : (nm, par) ∈ l.map (fun r => (r.name, r.par))) : ∃ r ∈ l, r.name = nm ∧ r.par = par := by
  obtain ⟨r, hr, e⟩ := List.mem_map.mp h
  exact ⟨r, hr, congrArg Prod.fst e, congrArg Prod.snd e⟩
theorem tree_ok {t : Nat} {rows : List Row} (h : Tree t rows) : t ≤ 3 → TreeOK t rows := by
  induction h with
  | zero => exact fun _ => ⟨by simp, nofun, by simp, nofun, fun h => absurd h (by omega)⟩
  | step a mu many ar d tr hmu hmany hd ih =>
    rename_i i rows
    intro ht
    obtain ⟨nd, hrow, hlen, hsz, htops⟩ := ih (by omega)
    have hb := okB_all ⟨i, by omega⟩ ⟨many, by omega⟩ d hd
    rw [← block_np i a mu many ar d] at hb
    unfold okB at hb
    rw [Bool.and_eq_true, decide_eq_true_eq, List.map_map] at hb
    obtain ⟨hb1, hb2⟩ := hb
    have hb1 : ((block i a mu many ar d).map (·.name)).Nodup := hb1
    have hB : ∀ r ∈ block i a mu many ar d, tagOf r.name = some (48 + i) ∧ (r.name ≠ "" ∧ r.name ≠ "int" ∧ r.name ≠ "Int") ∧ r.name.length ≤ 40 ∧ ((r.par == ("" : Str)) = false → ∃ p ∈ block i a mu many ar d, p.name = r.par ∧ rkOf r.par < rkOf r.name) := fun r hr => by
      have := List.all_eq_true.mp hb2 _ (List.mem_map_of_mem (f := fun r : Row => (r.name, r.par)) hr)
      unfold okP at this
      simp only [Bool.and_eq_true, Bool.or_eq_true, Bool.not_eq_true', beq_eq_false_iff_ne, beq_iff_eq, decide_eq_true_eq] at this
      obtain ⟨⟨⟨⟨⟨h1, h2⟩, h3⟩, h4⟩, h6⟩, h5⟩ := this
      refine ⟨h1, ⟨h2, h3, h4⟩, h6, fun hp => ?_⟩
      rcases h5 with h5 | h5
      · rw [h5] at hp; simp at hp
      · rw [List.any_eq_true] at h5
        obtain ⟨⟨n1, n2⟩, hq, hq2⟩ := h5
        obtain ⟨p, hp1, hp2, hp3⟩ := mem_np hq
        simp only [Bool.and_eq_true, beq_iff_eq, decide_eq_true_eq] at hq2
        exact ⟨p, hp1, hp2.trans hq2.1, hq2.2⟩
    refine ⟨?_, ?_, ?_, fun r hr => (List.mem_append.mp hr).elim (hsz r) fun h => (hB r h).2.2.1, fun _ => ?_⟩
    · rw [List.map_append, List.nodup_append]
      refine ⟨nd, hb1, ?_⟩
      intro x hx y hy e
      obtain ⟨r1, h1, rfl⟩ := List.mem_map.mp hx
      obtain ⟨r2, h2, rfl⟩ := List.mem_map.mp hy
      obtain ⟨⟨j, hj, ht1⟩, _⟩ := hrow r1 h1
      have ht2 := (hB r2 h2).1
      rw [e, ht2] at ht1
      injection ht1 with ht1
      omega
    · intro r hr
      rcases List.mem_append.mp hr with h | h
      · obtain ⟨⟨j, hj, ht1⟩, hne, hpar⟩ := hrow r h
        exact ⟨⟨j, by omega, ht1⟩, hne, fun hp => let ⟨p, h1, h2⟩ := hpar hp; ⟨p, List.mem_append.mpr (.inl h1), h2⟩⟩
      · obtain ⟨ht1, hne, _, hpar⟩ := hB r h
        exact ⟨⟨i, by omega, ht1⟩, hne, fun hp => let ⟨p, h1, h2⟩ := hpar hp; ⟨p, List.mem_append.mpr (.inr h1), h2⟩⟩
    · rw [List.length_append]
      have : (block i a mu many ar d).length ≤ 5 := by unfold block; cases d <;> simp <;> omega
      omega
    · intro he
      have hm : topN i ∈ topsOf (rows ++ block i a mu many ar d) := by
        refine List.mem_map.mpr ⟨⟨topN i, a, mu, ""⟩, List.mem_filter.mpr ⟨List.mem_append.mpr (.inr ?_), by simp⟩, rfl⟩
        unfold block; simp
      rw [he] at hm; cases hm
theorem TreeOK.rows {t : Nat} {rows : List Row} (h : TreeOK t rows) (ht : t ≤ 3) : RowsOK rows rkOf where
  nd := h.nd
  par := fun r hr hp => (h.row r hr).2.2 hp
  len := by have := h.len; omega
  rk := fun r hr => by unfold rkOf; split; omega; split <;> omega
  ne := fun r hr => (h.row r hr).2.1
  sz := h.sz
end

section
set_option maxRecDepth 100000
open PySem PySem.W PyProof.Rows PySem.Calls PySem.SeqAt
theorem law_join {prog : Program} {w : World} {s₁ : Shared} {h₁ : Heap} {K : Frag} {p : Program} {loose : List Str} {mean : ExcName → Option Value} {mg mb : Str → Option Value} {mv : Str → Option Value} {env : Env} {A : Around} {a : Addr} {tk n : Nat} {body : List Stmt} {P : Flow → Shared → Prop} {X : Value → Shared → Prop}
    (KX : K.In s₁.heap) (T : Top p loose mean mg mb s₁.heap) (F : Fr s₁.heap s₁.heap.objs.size h₁ mv) (hm : mv "script" = some (.ref a)) (hk : env.kindOf "script" = some .local) (hL : env.locals = s₁.heap.objs.size) (hfn : env.scope.kind = .function) (hframe : env.frame = some env.locals)
    (hA : A.frames = some [env]) (hr : Room n A) (h : ∀ C : Cx, C.w = w → C.K = K → C.G = s₁.heap → C.prog = prog → S C n A env [env.locals] [("script", .ref a)] (fun _ => none) body (fun _ _ => False) (fun d _ => d = .bool true))
    (fin : ∀ h' tk m', Fr s₁.heap s₁.heap.objs.size h' m' → P (.ret (.bool true)) { s₁ with heap := h', toks := tk }) : wpAny (model prog w) A (execs body env) P X { s₁ with heap := h₁, toks := tk } := by
  have hno : s₁.heap.get? s₁.heap.objs.size = none := by
    cases q : s₁.heap.get? s₁.heap.objs.size with
    | none => rfl
    | some o => exact absurd (Heap.lt_size q) (Nat.lt_irrefl _)
  let C : Cx := ⟨prog, w, K, p, loose, mean, mg, mb, s₁.heap, KX, T⟩
  have R : Rep C s₁.heap env [env.locals] h₁ [("script", .ref a)] (fun _ => none) := {
    ground := F.keep
    gB := .refl _
    base := .of F.keep
    st := nofun
    sep := nofun
    sys := nofun
    fn := hfn
    loc := ⟨mv, hL ▸ F.ns, fun x d e => by
      have hx : x = "script" ∧ d = .ref a := by
        simp only [Loc.get, List.lookup_cons] at e
        split at e
        · rename_i q; cases e; exact ⟨beq_iff_eq.mp q, rfl⟩
        · simp at e
      obtain ⟨rfl, rfl⟩ := hx
      exact .loc hk hm (.ref _)⟩
    ownL := .head _
    ownsep := fun b hb => by rw [List.mem_singleton] at hb; subst hb; rw [hL]; exact ⟨hno, rfl⟩
    ownat := fun b hb => .inl (List.mem_singleton.mp hb) }
  refine wpAny_mono (h C rfl rfl rfl rfl s₁.heap { s₁ with heap := h₁, toks := tk } ⟨hr, [env], hA, fun e he => ?_⟩ R) ?_ fun e s x => x.elim
  · rw [List.mem_singleton] at he; subst he
    exact .inr ⟨by rw [hfn]; nofun, hframe, by rw [hL]; exact hno⟩
  · rintro fl _ ⟨h2, tk2, rfl, K2, r⟩
    cases fl with
    | next => obtain ⟨m', σ', R1, q⟩ := r; exact q.elim
    | ret v =>
      obtain ⟨d, m', σ', V1, R1, rfl⟩ := r
      cases V1
      obtain ⟨mv', ns, _⟩ := R1.loc
      exact fin h2 tk2 mv' ⟨hL ▸ ns, R1.ground, F.above⟩
    | brk => exact r.elim
    | cont => exact r.elim
end

section
set_option maxRecDepth 100000
open PySem PySem.W PyProof.Rows PySem.Calls PySem.SeqAt
section
variable {C : Cx}
theorem g_tree (g : Good C) : nsIn C.K mainGlobals "_law_tree" = some (some (.ref 332)) := by rw [g.hK]; exact rfl
theorem g_items (g : Good C) : nsIn C.K mainGlobals "_law_items" = some (some (.ref 337)) := by rw [g.hK]; exact rfl
theorem g_right (g : Good C) : nsIn C.K mainGlobals "_law_right" = some (some (.ref 359)) := by rw [g.hK]; exact rfl
theorem k_tree (g : Good C) : keepIn C.K (.ref 332) = true := by rw [g.hK]; exact rfl
theorem k_items (g : Good C) : keepIn C.K (.ref 337) = true := by rw [g.hK]; exact rfl
theorem k_right (g : Good C) : keepIn C.K (.ref 359) = true := by rw [g.hK]; exact rfl
/-- told, one more -/
noncomputable def putT : Told → Str → Bool × Int → Told
  | [], n, v => [(n, v)]
  | (m, w) :: r, n, v => if m == n then (n, v) :: r else (m, w) :: putT r n v
theorem putT_D (td : Told) (n : Str) (v : Bool × Int) : Loc.set (toldD td) n (toldV v) = toldD (putT td n v) := by
  induction td with
  | nil => rfl
  | cons p r ih =>
    obtain ⟨m, w⟩ := p
    show Loc.set ((m, toldV w) :: toldD r) n (toldV v) = _
    unfold Loc.set putT
    split
    · rfl
    · rw [ih]; rfl
theorem putT_mem {td : Told} {n : Str} {v : Bool × Int} {p : Str × (Bool × Int)} (h : p ∈ putT td n v) : p = (n, v) ∨ p ∈ td := by
  induction td with
  | nil => simp [putT] at h; exact .inl h
  | cons q r ih =>
    obtain ⟨m, w⟩ := q
    unfold putT at h
    split at h
    · cases h with
      | head => exact .inl rfl
      | tail _ h => exact .inr (.tail _ h)
    · cases h with
      | head => exact .inr (.head _)
      | tail _ h => exact (ih h).imp id (.tail _)
theorem putT_nd {td : Told} {n : Str} {v : Bool × Int} (h : (td.map (·.1)).Nodup) : ((putT td n v).map (·.1)).Nodup := by
  induction td with
  | nil => simp [putT]
  | cons q r ih =>
    obtain ⟨m, w⟩ := q
    rw [List.map_cons, List.nodup_cons] at h
    unfold putT
    split
    · rename_i e
      have : m = n := by simpa using e
      subst this
      rw [List.map_cons, List.nodup_cons]; exact h
    · rename_i e
      rw [List.map_cons, List.nodup_cons]
      refine ⟨fun hin => ?_, ih h.2⟩
      obtain ⟨p, hp, e2⟩ := List.mem_map.mp hin
      rcases putT_mem hp with rfl | hp
      · have e2 : n = m := e2
        exact e (by rw [e2]; simp)
      · exact h.1 (e2 ▸ List.mem_map_of_mem hp)
theorem putT_len (td : Told) (n : Str) (v : Bool × Int) : (putT td n v).length ≤ td.length + 1 := by
  induction td with
  | nil => simp [putT]
  | cons q r ih =>
    obtain ⟨m, w⟩ := q
    unfold putT
    split
    · simp
    · simp; exact ih
end
noncomputable def modF : PV → Option PV
  | .int i => some (.int (i.fmod 5040))
  | _ => none
theorem modF_fm (ms : List Int) : (ms.map PV.int).filterMap modF = (ms.map fun i => i.fmod 5040).map .int := by
  induction ms with
  | nil => rfl
  | cons i r ih => rw [List.map_cons, List.filterMap_cons, ih]; rfl
local macro_rules
  | `(tactic| k_qdec) => `(tactic| decide +kernel)
set_option maxHeartbeats 8000000 in
theorem law_walk (hd : ∀ C, Good C → Heard C) : PySem.Challenge.rw_rr0089_01.Holds := Mine.hd (by
  k_go0
  (all_goals try k_fold)
  rename_i w s0 s1 mg mb G Y fa o pm doc kV ho hg KX X V GL T B TE TW w9 w8 M w7 w6 hcd ns hs hlay0 hL1 hr1 hl2 w4 w3 a vs w0 hL ra w1 r0 hI hr hc1 hc2 K0 hD h1 F N0
  have hlen : vs.length ≤ 1000 := by
    have h1 := hI.length
    omega
  clear hs hlay0 hL1 hr1 hl2 ra w1 r0 hr hc2 K0 hD hcd M TW TE B GL V X ho Y G
  dsimp only at F N0 ⊢
  refine law_join (n := 8) KX T F rfl rfl rfl rfl rfl rfl ⟨rfl, Nat.le_of_ble_eq_true rfl, Nat.le_of_ble_eq_true rfl⟩ ?_ ?_
  · intro C hw hK hG hP
    have g : Good C := ⟨by rw [hK, hw], hP⟩
    rw [← hG] at hL
    clear hG hK hw hP
    refine S_cons (S_assign (.loc rfl) (E_dict2 (by decide) fun fd hfd => ?_))
    generalize callerA.deeper _ = A
    refine E_comp (mc := []) rfl (by decide) rfl (by decide) (fun L => Capt.none) (src_list (E_slice_ints ?_))
    walk_at "sts"
    refine ⟨a, vs, ns, rfl, hL, hI, hlen, by omega, fun c1 hc1 => ?_⟩
    have e0 := get_new (o' := .list ((ns.take (60 : Int).toNat).map .int)) hc1 (St.set_self (fun _ => none) fd (.dict []))
    have e1 := St.set_self (St.set (fun _ => none) fd (.dict [])) c1 (.list ((ns.take (60 : Int).toNat).map .int))
    generalize St.set (St.set (fun _ => none) fd (.dict [])) c1 _ = σ1 at e0 e1 ⊢
    have hns : (ns.take (60 : Int).toNat).length ≤ 60 := by rw [List.length_take]; exact Nat.min_le_left _ _
    generalize ns.take (60 : Int).toNat = ms at e1 hns ⊢
    refine ⟨c1, _, rfl, e1, CompJ_pure (by simp; omega) e1 modF (fun L dd hdd => ?_) fun cl hcl => ?_⟩
    · obtain ⟨i, _, rfl⟩ := List.mem_map.mp hdd
      refine ⟨_, .name (.loc rfl), Ifs_nil ⟨rfl, ?_⟩⟩
      rw [if_pos rfl]
      walk_at "sts"
      exact o_mod (by omega) ⟨rfl, rfl⟩
    rw [modF_fm]
    have e2 := get_new (o' := .list ((ms.map fun i => i.fmod 5040).map .int)) hcl e0
    have e3 := St.set_self σ1 cl (.list ((ms.map fun i => i.fmod 5040).map .int))
    have hfc : fd ≠ cl := ne_new hcl e0
    generalize St.set σ1 cl _ = σ2 at e2 e3 ⊢
    have hz : (ms.map fun i => i.fmod 5040).length ≤ 60 := by simpa using hns
    generalize (ms.map fun i => i.fmod 5040) = cs at e3 hz ⊢
    walk_at "sts"
    refine ⟨e2, ?_⟩
    have f0 : Feed (σ2.set fd (.dict [("cells", .ref cl), ("spot", .int 0)])) fd cl cs 0 := ⟨St.set_self _ _ _, get_upd hfc.symm e3, hz⟩
    generalize σ2.set fd _ = σ3 at f0 ⊢
    clear e0 e1 e2 e3
    refine S.forget (m0 := [("feed", .ref fd)]) (.cons rfl .nil) ?_
    walk_at "sts"
    refine E_call (E_glob (g_tree g) (fun _ => .ref _) ⟨332, rfl, k_tree g, ?_⟩)
    walk_at "sts"
    refine (tree_spec g f0 (by omega) fun σ4 r rows t k4 s4 f4 hk4 er hr tr ht1 ht3 => ?_).le (by omega)
    have TO := tree_ok tr ht3
    have W := TO.rows ht3
    have htops := TO.tops ht1
    have hrl := TO.len
    refine S_cons (S_unpack (xs := ["items", "lined"]) rfl ?_ ?_)
    · intro y hy
      simp only [List.mem_cons, List.not_mem_nil, or_false] at hy
      rcases hy with rfl | rfl <;> exact .loc rfl
    refine E_call (E_glob (g_items g) (fun _ => .ref _) ⟨337, rfl, k_items g, ?_⟩)
    walk_at "sts"
    refine (items_spec g f4 (by omega) er (by omega) htops fun σ5 il ll its lined k5 s5 f5 hk5 ei el hits hlined => ?_).le (by omega)
    have er5 := s5 _ _ (nin1 (ne_ob er f4.1 nofun)) er
    refine ⟨_, rfl, rfl, ?_⟩
    refine S.forget (m0 := [("feed", .ref fd), ("rows", .ref r), ("items", .ref il), ("lined", .ref ll)]) (.cons rfl (.cons rfl (.cons rfl (.cons rfl .nil)))) ?_
    refine S_cons (S_swap (xs := ["default", "told"]) ?_ rfl ?_)
    · intro y hy
      simp only [List.mem_cons, List.not_mem_nil, or_false] at hy
      rcases hy with rfl | rfl <;> exact .loc rfl
    walk_at "sts"
    refine E_nextc g 5 f5 rfl (by omega) (by omega) (by omega) rfl rfl rfl fun dd σ6 hdd s6 f6 => ?_
    have er6 := s6 _ _ (nin1 (ne_ob er5 f5.1 nofun)) er5
    have ei6 := s6 _ _ (nin1 (ne_ob ei f5.1 nofun)) ei
    have el6 := s6 _ _ (nin1 (ne_ob el f5.1 nofun)) el
    walk_at "sts"
    refine o_sub ?_
    walk_at "sts"
    refine E_dict0 fun ta hta => ?_
    have er7 := get_new (o' := .dict []) hta er6
    have ei7 := get_new (o' := .dict []) hta ei6
    have el7 := get_new (o' := .dict []) hta el6
    have et7 := St.set_self σ6 ta (.dict [])
    have f7 := f6.sub (Sub.new (x := []) (c := ta) (o := .dict []) hta) nofun nofun
    have htf : ta ≠ fd := (ne_new hta f6.1).symm
    have htc : ta ≠ cl := (ne_new hta f6.2.1).symm
    generalize σ6.set ta (.dict []) = σ7 at er7 ei7 el7 et7 f7 ⊢
    clear er er5 er6 ei ei6 el el6 f4 f5 f6 s4 s5 s6 f0
    walk_at "sts"
    refine ⟨_, rfl, rfl, ?_⟩
    refine S.forget (m0 := [("feed", .ref fd), ("rows", .ref r), ("items", .ref il), ("lined", .ref ll), ("default", .int ((dd : Int) - 1)), ("told", .ref ta)]) (.cons rfl (.cons rfl (.cons rfl (.cons rfl (.cons rfl (.cons rfl .nil)))))) ?_
    have hll1 : lined.length ≤ 1 := by rcases hlined with rfl | ⟨t, _, rfl⟩ <;> simp
    have hllt : ∀ t ∈ lined, t ∈ topsOf rows := by
      rcases hlined with rfl | ⟨t, h, rfl⟩
      · intro t ht; cases ht
      · intro t' ht'; rw [List.mem_singleton] at ht'; rw [ht']; exact h
    have htl20 : (topsOf rows).length ≤ 20 := by
      unfold topsOf; rw [List.length_map]; exact Nat.le_trans (List.length_filter_le _ _) (by omega)
    have hrpos : 0 < rows.length := by
      rcases Nat.eq_zero_or_pos rows.length with h | h
      · rw [List.length_eq_zero_iff] at h; subst h; exact absurd rfl htops
      · exact h
    have nrf : r ≠ fd := ne_ob er7 f7.1 nofun
    have nrt : r ≠ ta := ne_ob er7 et7 nofun
    have nif : il ≠ fd := ne_ob ei7 f7.1 nofun
    have nit : il ≠ ta := ne_ob ei7 et7 nofun
    have nlf : ll ≠ fd := ne_ob el7 f7.1 nofun
    have nlt : ll ≠ ta := ne_ob el7 et7 nofun
    refine S_seq (fun m' σ' => ∃ (td : Told) (k' : Nat), LSub [("feed", .ref fd), ("rows", .ref r), ("items", .ref il), ("lined", .ref ll), ("default", .int ((dd : Int) - 1)), ("told", .ref ta)] m' ∧ Feed σ' fd cl cs k' ∧ k' ≤ k5 + 20 ∧ Sub [fd, ta] σ7 σ' ∧ σ' ta = some (.dict (toldD td)) ∧ (td.map (·.1)).Nodup ∧ (∀ p ∈ td, p.1 ∈ rows.map (·.name) ∧ 0 ≤ p.2.2 ∧ p.2.2 ≤ 100) ∧ td.length ≤ 4) (S_for (src_range' g rfl rfl rfl ?_)) ?_
    · refine E_nextc g 4 f7 rfl (by omega) (by omega) (by omega) rfl rfl rfl fun laps σ8 hlaps s8 f8 => ?_
      refine ⟨laps, rfl, by omega, fun i m' σ' => ∃ (td : Told) (k' : Nat), LSub [("feed", .ref fd), ("rows", .ref r), ("items", .ref il), ("lined", .ref ll), ("default", .int ((dd : Int) - 1)), ("told", .ref ta)] m' ∧ Feed σ' fd cl cs k' ∧ k' ≤ k5 + 2 + 3 * i ∧ Sub [fd, ta] σ7 σ' ∧ σ' ta = some (.dict (toldD td)) ∧ (td.map (·.1)).Nodup ∧ (∀ p ∈ td, p.1 ∈ rows.map (·.name) ∧ 0 ≤ p.2.2 ∧ p.2.2 ≤ 100) ∧ td.length ≤ i, ?_, fun _ _ _ _ => trivial, ?_, ?_⟩
      · exact ⟨[], k5 + 2, .cons rfl (.cons rfl (.cons rfl (.cons rfl (.cons rfl (.cons rfl .nil))))), f8, by omega, s8.mono (by simp), s8 _ _ (nin1 htf) et7, by simp, by simp, by simp⟩
      · rintro i m' σ9 d9 hd9 ⟨td, k', hm, f9, hk', s9, et9, hnd, hmem, htlen⟩
        obtain ⟨hi, rfl⟩ := upTo_get hd9
        refine ⟨_, .name (.loc rfl), ?_⟩
        refine S.forget (m0 := [("feed", .ref fd), ("rows", .ref r), ("items", .ref il), ("lined", .ref ll), ("default", .int ((dd : Int) - 1)), ("told", .ref ta)]) ?_ ?_
        · obtain ⟨h1, h2, h3, h4, h5, h6, _⟩ := hm
          refine .cons ?_ (.cons ?_ (.cons ?_ (.cons ?_ (.cons ?_ (.cons ?_ .nil))))) <;> (rw [Loc.get_set, if_neg (by decide)]; assumption)
        have er9 := s9 _ _ (nin2 nrf nrt) er7
        walk_at "sts"
        refine E_next g fd cl cs (by omega) rfl rfl ?_
        walk_at "sts"
        refine ⟨rfl, E_len (g_len g) rfl rfl rfl ?_⟩
        walk_at "sts"
        refine ⟨_, .inl ⟨r, _, rfl, er9, rfl⟩, by simp; omega, k', _, rfl, by simpa using hrpos, by omega, f9, fun dn σ10 hdn s10 f10 => ?_⟩
        rw [List.length_map] at hdn
        have er10 := s10 _ _ (nin1 nrf) er9
        have et10 := s10 _ _ (nin1 htf) et9
        refine o_item_list (d := rowV rows[dn]) er10 (by omega) (by omega) (by simp [hdn]) ?_
        walk_at "sts"
        refine o_item_tuple (by omega) (by omega) rfl ?_
        walk_at "sts"
        refine E_nextc g 2 f10 rfl (by omega) (by omega) (by omega) rfl rfl rfl fun de σ11 hde s11 f11 => ?_
        have et11 := s11 _ _ (nin1 htf) et10
        walk_at "sts"
        refine o_eq_int ?_
        walk_at "sts"
        refine E_nextc g 5 f11 rfl (by omega) (by omega) (by omega) rfl rfl rfl fun dq σ12 hdq s12 f12 => ?_
        have et12 := s12 _ _ (nin1 htf) et11
        walk_at "sts"
        refine ⟨ta, _, _, rfl, rfl, et12, by rw [toldD_len]; omega, ?_⟩
        walk_at "sts"
        have e13 := putT_D td rows[dn].name ((de : Int) == 1, (dq : Int))
        refine ⟨putT td rows[dn].name ((de : Int) == 1, (dq : Int)), k' + 1 + 1 + 1, .cons rfl (.cons rfl (.cons rfl (.cons rfl (.cons rfl (.cons rfl .nil))))), f12.sub (Sub.upd (x := [ta]) (.head _)) (nin1 htf.symm) (nin1 htc.symm), by omega, s9.trans ((s10.mono (by simp)).trans ((s11.mono (by simp)).trans ((s12.mono (by simp)).trans (Sub.upd (by simp))))), ?_, putT_nd hnd, ?_, ?_⟩
        · rw [St.set_self, ← e13]; rfl
        · intro p hp
          rcases putT_mem hp with rfl | hp
          · exact ⟨List.mem_map_of_mem (List.getElem_mem hdn), by show (0 : Int) ≤ (dq : Int); omega, by show (dq : Int) ≤ 100; omega⟩
          · exact hmem p hp
        · exact Nat.le_trans (putT_len _ _ _) (by omega)
      · rintro m' σ' ⟨td, k', hm, f', hk', s', et', hnd, hmem, htlen⟩
        rw [upTo_len] at hk' htlen
        exact ⟨td, k', hm, f', by omega, s', et', hnd, hmem, by omega⟩
    · rintro m' σ8 ⟨td, k', hm, f8, hk', s8, et8, hnd, hmem, htlen⟩
      refine S.forget hm ?_
      have er8 := s8 _ _ (nin2 nrf nrt) er7
      have ei8 := s8 _ _ (nin2 nif nit) ei7
      have el8 := s8 _ _ (nin2 nlf nlt) el7
      walk_at "sts"
      refine E_call (E_glob (g_right g) (fun _ => .ref _) ⟨359, rfl, k_right g, ?_⟩)
      walk_at "sts"
      refine (right_spec g (hd C g) f8 (by omega) W er8 ei8 el8 et8 hits hllt hll1 hnd hmem (by omega) htl20 fun σ9 k9 s9 f9 hk9 => ?_).le (by omega)
      have er9 := s9 _ _ (nin1 nrf) er8
      have ei9 := s9 _ _ (nin1 nif) ei8
      have el9 := s9 _ _ (nin1 nlf) el8
      refine ⟨_, rfl, ?_⟩
      rw [if_neg (by decide)]
      walk_at "sts"
      refine E_call (E_glob (g_right g) (fun _ => .ref _) ⟨359, rfl, k_right g, ?_⟩)
      walk_at "sts"
      refine E_dict0 fun tb htb => ?_
      have er10 := get_new (o' := .dict []) htb er9
      have ei10 := get_new (o' := .dict []) htb ei9
      have el10 := get_new (o' := .dict []) htb el9
      have et10 : (σ9.set tb (.dict [])) tb = some (.dict (toldD [])) := St.set_self σ9 tb (.dict [])
      have f10 := f9.sub (Sub.new (x := []) (c := tb) (o := .dict []) htb) nofun nofun
      walk_at "sts"
      refine o_add ?_
      walk_at "sts"
      exact (right_spec g (hd C g) f10 (by omega) W er10 ei10 el10 et10 hits hllt hll1 (by simp) (by simp) (by simp) htl20 fun σ9 k9 s9 f9 hk9 => rfl).le (by omega)
  · intro h' tk m' F'
    refine goodW_bool F' hg (raisesW_false ?_) ?_
    · wrow_none_raised
    · wrow_post)
end

section
set_option maxRecDepth 100000
open PySem PySem.W PyProof.Rows PySem.Calls PySem.SeqAt
noncomputable def bmS : List Value := [.ref 76, .ref 47, .type "Exception", .type "BaseException", .type "object"]
theorem cls100 {C : Cx} (g : Good C) : ∃ nm q N bs hdct sn sub ab col dd k0 k1 k2 k3 k5, C.K.lookup 100 = some (excClassObj nm q 100 N bs bmS hdct sn sub ab col dd k0 k1 k2 k3 k5 "Exception.__new__") := by
  rw [g.hK]; exact ⟨_, _, _, _, _, _, _, _, _, _, _, _, _, _, _, rfl⟩
theorem find100 {C : Cx} (g : Good C) : findIn C.K (.ref 100) "__init__" = some (some (.ref 66)) ∧ isFn C.K (.ref 66) = true := by rw [g.hK]; exact ⟨rfl, rfl⟩
section
variable {prog : Program} {w : World} {A : Around} {R : Result → Shared → Prop} {h : Heap} {g : Array GenState} {d : Drawn} {t : Nat} {os : OsState}
variable {nm q : Str} {N : Addr} {bs : List Value} {hdct : Bool} {sn : List Str} {sub : List Value} {ab : Bool} {col : Option Bool} {dd : Option Addr} {k0 k1 k2 k3 k5 : Option Value}
theorem exc_new {rest : List Value} (hC : h.get? 100 = some (excClassObj nm q 100 N bs bmS hdct sn sub ab col dd k0 k1 k2 k3 k5 "Exception.__new__"))
    (hq : R (.ok (.ret (.ref (h.objs.size + 1)))) ⟨(h.push { cls := .type "tuple", data := .seq rest.toArray }).push
      { cls := .ref 100, data := .fields #[.ref h.objs.size, .none, .none, .none, .bool false, .none] }, g, d, t, os⟩) (hrest : rest.length ≤ sizeLine) :
    codeAny (model prog w) A (.builtin "Exception.__new__" ⟨.ref 100 :: rest, []⟩) R ⟨h, g, d, t, os⟩ := by
  have Fn := PySem.F.excBase_Exception
  have hends := Fn.ends
  have hcB : (Value.ref 100 :: bmS).contains (.type "Exception") = true := by decide
  have hcA : (Value.ref 100 :: bmS).contains (.type "AttributeError") = false := by decide
  have hcN : (Value.ref 100 :: bmS).contains (.type "NameError") = false := by decide
  refine codeAny_builtinAt Fn.entry ?_
  unfold Builtin.«BaseException.__new__»
  refine PySem.wpAt_bind ?_
  show PySem.wpAt _ _ _ (stack >>= _) _ _ _
  refine PySem.wpAt_bind (PySem.wpAt_stack fun p below => PySem.wpAt_of_wpAny ?_)
  wp_walk
  refine PySem.wpAt_of_wpAny ?_
  rw [Fn.owner]
  repeat (first | with_reducible refine wpAny_madeHere_exc Fn.canon hC ?_ | with_reducible refine wpAny_loadPart_at hC ?_ | (with_reducible refine wpAny_isSubtype_exc hC ?_; first | rw [hcB] | rw [hcA] | rw [hcN]) | wp_step)
  show R _ _
  rw [Heap.size_push]
  exact hq
theorem exc_check_new {M : Model} {E : Value → Shared → Prop} {rest : List Value} {Q : Unit → Shared → Prop} (hC : h.get? 100 = some (excClassObj nm q 100 N bs bmS hdct sn sub ab col dd k0 k1 k2 k3 k5 "Exception.__new__"))
    (hq : Q () ⟨h, g, d, t, os⟩) : wpAny M A (checkBuiltinCall "Exception.__new__" ⟨.ref 100 :: rest, []⟩) Q E ⟨h, g, d, t, os⟩ := by
  have Fn := PySem.F.excBase_Exception
  have hcont : (Value.ref 100 :: bmS).contains (.type "Exception") = true := by decide
  have hstar := Fn.noStar
  simp only [checkBuiltinCall, Fn.newKind, Fn.newSplit, Fn.newRow]
  repeat (first | refine wpAny_loadPart_at hC ?_ | (refine wpAny_isSubtype_exc hC ?_; rw [hcont]) | refine wpAny_staticBase_exc hC ?_ | refine wpAny_madeBy_exc hC ?_ | simp only [bne_self_eq_false, Bool.false_eq_true, if_false] | wp_step)
  exact hq

theorem exc_call {E : Value → Shared → Prop} {Q : Value → Shared → Prop} {rest : List Value} (hC : h.get? 100 = some (excClassObj nm q 100 N bs bmS hdct sn sub ab col dd k0 k1 k2 k3 k5 "Exception.__new__"))
    (hi : Looks (model prog w) h (typeLookup (.ref 100) "__init__") (some (.ref 66))) (hb : ∀ self, Looks (model prog w) h (bindSpecial (.ref 66) self) (.ref 66, [self])) (hrest : rest.length ≤ sizeLine)
    (hq : codeAny (model prog w) ((A.under (.builtin "type.__call__" ⟨.ref 100 :: rest, []⟩))) (.call (.ref 66) ⟨.ref (h.objs.size + 1) :: rest, []⟩) (fun r s' => match r with
      | .ok (.ret v) => v = .none ∧ Q (.ref (h.objs.size + 1)) s'
      | _ => False) ⟨(h.push { cls := .type "tuple", data := .seq rest.toArray }).push
      { cls := .ref 100, data := .fields #[.ref h.objs.size, .none, .none, .none, .bool false, .none] }, g, d, t, os⟩) : wpAny (model prog w) A (call (.ref 100) rest) Q E ⟨h, g, d, t, os⟩ := by
  have Fn := PySem.F.excBase_Exception
  have f1 := tc_lookup
  have f2 := tc_bind (.ref 100)
  have hT : (⟨h, g, d, t, os⟩ : Shared).TypeIs (.ref 100) "type" := ⟨_, hC, rfl⟩
  refine wpAny_call (codeAny_of_tree ?_)
  show wpAny _ _ (callAny (.ref 100) _) _ _ _
  repeat (any_goals (first | assumption | with_reducible refine wpAny_loadPart_at hC ?_ | wp_step))
  refine ⟨rfl, ?_⟩
  refine codeAny_call_builtin_at (Code.quiet_builtin _ (by decide +kernel)) entry_typeCall (wpAny_check_type_call_sub hC ?_)
  repeat (first | with_reducible refine wpAny_loadPart_at hC ?_ | with_reducible refine wpAny_madeBy_exc hC ?_ | wp_step)
  refine codeAny_call_builtin_code (Code.quiet_builtin _ Fn.quiet) (exc_check_new hC ?_)
  refine exc_new hC ?_ hrest
  show wpAny _ _ _ _ _ (⟨(h.push { cls := .type "tuple", data := .seq rest.toArray }).push { cls := .ref 100, data := .fields #[.ref h.objs.size, .none, .none, .none, .bool false, .none] }, g, d, t, os⟩ : Shared)
  have k : ∀ b o, h.get? b = some o → ((h.push { cls := .type "tuple", data := .seq rest.toArray }).push
      { cls := .ref 100, data := .fields #[.ref h.objs.size, .none, .none, .none, .bool false, .none] }).get? b = some o := fun b o e => Heap.get?_push_of_some _ (Heap.get?_push_of_some _ e)
  have hC₁ := k _ _ hC
  have hget : ((h.push { cls := .type "tuple", data := .seq rest.toArray }).push
      { cls := .ref 100, data := .fields #[.ref h.objs.size, .none, .none, .none, .bool false, .none] }).get? (h.objs.size + 1) = some
      { cls := .ref 100, data := .fields #[.ref h.objs.size, .none, .none, .none, .bool false, .none] } := by heap_get
  have hcC : (Value.ref 100 :: bmS).contains (.ref 100) = true := by simp
  have hi₁ := hi.keeps k
  have hb₁ := (hb (.ref (h.objs.size + 1))).keeps k
  unfold isInstance
  repeat (first | with_reducible refine wpAny_loadPart_at hget ?_ | (with_reducible refine wpAny_isSubtype_exc hC₁ ?_; rw [hcC]) | wp_step)
  show wpAny _ _ (typeLookup (.ref 100) _) _ _ _
  refine hi₁.at ?_
  refine wpAny_holding (wpAny_bind (hb₁.at ?_))
  refine wpAny_bind (wpAny_call (codeAny_mono hq fun r s' z => ?_))
  cases r with
  | error e => exact z.elim
  | ok f => cases f with
    | ret v =>
      obtain ⟨rfl, z⟩ := z
      wp_walk
      exact z
    | next => exact z.elim
    | brk => exact z.elim
    | cont => exact z.elim
end
end

section
set_option maxRecDepth 100000
open PySem PySem.W PyProof.Rows PySem.Calls PySem.SeqAt
theorem ty_init : typeOf (.builtin "Exception.__init__") = pure (.type "wrapper_descriptor") := by show builtinType _ = _; rw [builtinType_eq_fast]; kernel_rfl
theorem slot_wget : Slot "wrapper_descriptor" "__get__" "wrapper_descriptor.__get__" := .of (owner := "wrapper_descriptor") (n := "__get__") (by rw [typeLookup_type, builtinLookup_eq_fast]; kernel_rfl) (by decide +kernel) (by decide +kernel) (by decide +kernel)
  (by first | exact .inl (by decide +kernel) | exact .inr (by decide +kernel)) (by rw [isSubtype_type]; kernel_rfl)
theorem entry_wget : entryFor table "wrapper_descriptor.__get__" = some Builtin.«wrapper_descriptor.__get__» := entryFor_of_tree (by kernel_rfl)
theorem args_wget (a b c : Value) : argsOk "wrapper_descriptor.__get__" ⟨[a, b, c], []⟩ := by unfold argsOk; kernel_rfl
section
variable {prog : Program} {w : World} {A : Around} {E : Value → Shared → Prop} {h : Heap} {g : Array GenState} {d : Drawn} {t : Nat} {os : OsState}
theorem own_init : ".".intercalate ("Exception.__init__".cutAt '.').dropLast = "Exception" := by decide +kernel
theorem super_ga_b {so D x : Addr} {ox : Obj} {l₀ l : List Value} {K : Frag} {name : Str} {tk : Tok} {Q : Fin → Shared → Prop}
    (hso : h.get? so = some { cls := .type "super", dict := none, data := .fields #[.ref D, .ref x, .ref 100], slots := #[] }) (hno : Looks (model prog w) h (opaqueClassAbove (.ref 100)) none)
    (hC : Looks (model prog w) h (mroOf (.ref 100)) l₀) (hl : (l₀.dropWhile (· != .ref D)).drop 1 = l) (X : K.In h)
    (hf : alongIn K name l = some (some (.builtin "Exception.__init__"))) (hxC : x ≠ 100) (hn : (name == ("__class__" : Str)) = false) (hx : h.get? x = some ox) (hxc : ox.cls = .ref 100) (hsub : Looks (model prog w) h (isSubtype (.ref 100) (.type "Exception")) true)
    (hq : Q (.done (.ret (.ref h.objs.size))) ⟨h.push { cls := .type "method-wrapper", data := .fields #[.builtin "Exception.__init__", .ref x] }, g, d, t, os⟩) :
    wpAny (model prog w) A (Builtin.«super.__getattribute__» ⟨[.ref so, .str name tk], []⟩) Q E ⟨h, g, d, t, os⟩ := by
  have hlk := slot_wget.lookup
  have hne : (Value.ref x == Value.ref 100) = false := by simp [hxC]
  have hTf : (⟨h, g, d, t, os⟩ : Shared).TypeIs (.builtin "Exception.__init__") "wrapper_descriptor" := ty_init
  have hdt : ({ cls := .type "super", dict := none, data := .fields #[.ref D, .ref x, .ref 100], slots := #[] } : Obj).data = .fields #[.ref D, .ref x, .ref 100] := rfl
  have f0 : (#[.ref D, .ref x, .ref 100] : Array Value)[0]? = some (.ref D) := rfl
  have f1 : (#[.ref D, .ref x, .ref 100] : Array Value)[1]? = some (.ref x) := rfl
  have f2 : (#[.ref D, .ref x, .ref 100] : Array Value)[2]? = some (.ref 100) := rfl
  unfold Builtin.«super.__getattribute__»
  repeat (first
    | (with_reducible refine wpAny_field hso hdt f0 ?_) | (with_reducible refine wpAny_field hso hdt f1 ?_) | (with_reducible refine wpAny_field hso hdt f2 ?_)
    | (with_reducible refine PySem.ks_wpAny_notOpaque hno ?_)
    | (with_reducible refine Looks.at hC ?_; rw [hl])
    | (refine PySem.ks_forIn_along X (fun _ _ => rfl) rfl ?_ hf)
    | (with_reducible refine wpAny_typeOf hTf ?_)
    | (with_reducible refine wpAny_call_entry slot_wget hTf entry_wget ?_ (args_wget _ _ _))
    | (with_reducible refine ⟨_, rfl, ?_⟩)
    | (simp only [hn, hne, Bool.or_false, Bool.false_eq_true, if_false])
    | wp_step
    | dsimp only)
  rw [own_init, hxc]
  refine hsub.at ?_
  rw [if_neg (by decide)]
  refine wpAny_pure (wpAny_bind ?_)
  unfold newFields
  refine wpAny_newObj_type (wpAny_pure ⟨_, rfl, wpAny_bind (wpAny_pure (wpAny_pure ?_))⟩) (by show (2 : Nat) ≤ sizeLine + 2; rw [sizeLine_eq]; omega)
  exact wpAny_pure hq
theorem super_gm_b {so D x : Addr} {ox : Obj} {l₀ l : List Value} {K : Frag} {name : Str} {pl : Sem Bool} {Q : Value × List Value → Shared → Prop}
    (hso : h.get? so = some { cls := .type "super", dict := none, data := .fields #[.ref D, .ref x, .ref 100], slots := #[] }) (hno : Looks (model prog w) h (opaqueClassAbove (.ref 100)) none)
    (hC : Looks (model prog w) h (mroOf (.ref 100)) l₀) (hl : (l₀.dropWhile (· != .ref D)).drop 1 = l) (X : K.In h)
    (hf : alongIn K name l = some (some (.builtin "Exception.__init__"))) (hxC : x ≠ 100) (hn : (name == ("__class__" : Str)) = false) (hx : h.get? x = some ox) (hxc : ox.cls = .ref 100) (hsub : Looks (model prog w) h (isSubtype (.ref 100) (.type "Exception")) true)
    (hq : Q (.ref h.objs.size, []) ⟨h.push { cls := .type "method-wrapper", data := .fields #[.builtin "Exception.__init__", .ref x] }, g, d, t + 1, os⟩) :
    wpAny (model prog w) A (getMethod (.ref so) name pl) Q E ⟨h, g, d, t, os⟩ := by
  have hlk := PySem.F.ks_slot_super_ga.lookup
  have hcan := PySem.F.ks_canon_super_ga
  have hT : ∀ t', (⟨h, g, d, t', os⟩ : Shared).TypeIs (.ref so) "super" := fun _ => ⟨_, hso, rfl⟩
  unfold getMethod
  refine wpAny_bind (wpAny_specialOf (hT _) hlk ?_)
  show wpAny _ _ (if (Manifest.canonical "super.__getattribute__" != "object.__getattribute__") = true then _ else _) _ _ _
  rw [if_pos hcan]
  unfold getAttr getAttrBy
  refine wpAny_bind (wpAny_bind (wpAny_mkText (wpAny_holding (wpAny_bind (wpAny_typeOf (hT _) (wpAny_bind (wpAny_of_eq hlk ?_)))))))
  show wpAny _ _ (getAttrByItsOwn (.ref so) (.str name t) (.type "super") (.builtin "super.__getattribute__") true false) _ _ _
  unfold getAttrByItsOwn hookBefore callGetattribute boundAndCalled
  refine wpAny_bind (wpAny_of_eq (show (if onTheHeap (.type "super") then typeLookup (.type "super") "__getattr__" else pure none) = pure none from rfl) ?_)
  refine wpAny_bind (wpAny_attempt (wpAny_holding ?_))
  show wpAny _ _ (bindSpecial (.builtin "super.__getattribute__") (.ref so) >>= _) _ _ _
  refine wpAny_bind (wpAny_of_eq (PySem.F.ks_slot_super_ga.bind _) ?_)
  refine wpAny_mono (Q := fun v s' => v = .ref h.objs.size ∧ s' = ⟨h.push { cls := .type "method-wrapper", data := .fields #[.builtin "Exception.__init__", .ref x] }, g, d, t + 1, os⟩) (E := fun _ _ => False)
    (wpAny_call_entry PySem.F.ks_slot_super_ga (hT _) PySem.F.ks_entry_super_ga (super_ga_b hso hno hC hl X hf hxC hn hx hxc hsub ⟨_, rfl, rfl, rfl⟩) (PySem.F.ks_gaArgs_super _ _)) (fun v s' hv => ?_) fun _ _ z => z.elim
  obtain ⟨rfl, rfl⟩ := hv
  exact wpAny_pure (wpAny_pure hq)
section
variable {nm q : Str} {N : Addr} {bs : List Value} {hdct : Bool} {sn : List Str} {sub : List Value} {ab : Bool} {col : Option Bool} {dd : Option Addr} {k0 k1 k2 k3 k5 : Option Value}
theorem bound_check {M : Model} {e : Addr} {oe : Obj} {rest : List Value} {Q : Unit → Shared → Prop}
    (hC : h.get? 100 = some (excClassObj nm q 100 N bs bmS hdct sn sub ab col dd k0 k1 k2 k3 k5 "Exception.__new__")) (he : h.get? e = some oe) (hcls : oe.cls = .ref 100) (hq : Q () ⟨h, g, d, t, os⟩) :
    wpAny M A (checkBoundCall "Exception.__init__" ⟨.ref e :: rest, []⟩) Q E ⟨h, g, d, t, os⟩ := by
  have F := PySem.F.excBase_Exception
  have hcB : (Value.ref 100 :: bmS).contains (.type "Exception") = true := by decide
  have hshort := F.noStar
  simp only [checkBoundCall, F.initKind, F.initRow]
  rw [if_pos (by decide)]
  repeat (first | (with_reducible refine wpAny_loadPart_at he ?_; rw [hcls]) | with_reducible refine wpAny_loadPart_at hC ?_ | (with_reducible refine wpAny_isSubtype_exc hC ?_; rw [hcB]) | wp_step)
  refine wpAny_onRaise ?_
  rw [show ∀ (a b : String) (n : Nat), Bind.check ⟨.positional, "*", "Exception", .self, [⟨"args", .varPos, false⟩]⟩ a b n (List.map (fun x => x.fst) ({ pos := Value.ref e :: rest } : Args).kw) = pure () from
    fun a b n => check_star_args _ _ _ _ _ _]
  exact wpAny_pure hq
end
/-- the bound init of the base, called -/
theorem call_binit {R : Result → Shared → Prop} {b x : Addr} {rest : List Value} (hb : h.get? b = some { cls := .type "method-wrapper", dict := none, data := .fields #[.builtin "Exception.__init__", .ref x], slots := #[] })
    (hck : ∀ (Q : Unit → Shared → Prop) (E : Value → Shared → Prop), Q () ⟨h, g, d, t, os⟩ → wpAny (model prog w) A.in1 (checkBoundCall "Exception.__init__" ⟨.ref x :: rest, []⟩) Q E ⟨h, g, d, t, os⟩)
    (hq : codeAny (model prog w) A (.builtin "Exception.__init__" ⟨.ref x :: rest, []⟩) R ⟨h, g, d, t, os⟩) : codeAny (model prog w) A (.call (.ref b) ⟨rest, []⟩) R ⟨h, g, d, t, os⟩ := by
  refine codeAny_of_tree ?_
  show wpAny _ A.in1 (callAny (.ref b) ⟨rest, []⟩) _ _ _
  unfold callAny
  refine wpAny_bind (wpAny_load hb ?_)
  show wpAny _ A.in1 (checkBoundCall "Exception.__init__" ⟨.ref x :: rest, []⟩ >>= _) _ _ _
  refine wpAny_bind (hck _ _ ?_)
  exact wpAny_pure ⟨Code.quiet_builtin _ (by decide +kernel), hq⟩
end
end

section
set_option maxRecDepth 100000
open PySem PySem.W PyProof.Rows PySem.Calls PySem.SeqAt PySem.Builtin
section
variable {prog : Program} {w : World} {A : Around} {h : Heap} {g : Array GenState} {d : Drawn} {t : Nat} {os : OsState}
theorem exc_binit {R : Result → Shared → Prop} {e : Addr} {oe : Obj} {vs : Array Value} {rest : List Value} (he : h.get? e = some oe) (hd : oe.data = .fields vs) (hsz : 0 < vs.size) (hrest : rest.length ≤ 100)
    (hq : R (.ok (.ret .none)) ⟨(h.push { cls := .type "tuple", data := .seq rest.toArray }).update e (Obj.mapFields (·.setIfInBounds 0 (.ref h.objs.size))), g, d, t, os⟩) :
    codeAny (model prog w) A (.builtin "Exception.__init__" ⟨.ref e :: rest, []⟩) R ⟨h, g, d, t, os⟩ := by
  have F := PySem.F.excBase_Exception
  refine codeAny_builtin F.initEntry ?_
  rw [Around.under_plainId F.init.plain _]
  unfold Builtin.«BaseException.__init__»
  dsimp only
  rw [if_neg (by decide)]
  have he' : (h.push { cls := .type "tuple", data := .seq rest.toArray }).get? e = some oe := Heap.get?_push_of_some _ he
  refine wpAny_bind (wpAny_newTuple ?_ (by rw [sizeLine_eq]; omega))
  obtain ⟨old, h0⟩ : ∃ old, vs[0]? = some old := ⟨vs[0], by simp [hsz]⟩
  refine wpAny_bind ?_
  unfold Builtin.BaseException.bexcPut
  refine wpAny_bind (wpAny_field he' hd h0 ?_)
  refine wpAny_bind (wpAny_setField he' hd hsz ?_)
  have fin : wpAny (model prog w) A.in1 (ret Value.none) (fun fin s' => match fin with
      | Fin.done f => R (.ok f) s'
      | Fin.again c' => c'.quiet = true ∧ codeAny (model prog w) A c' R s') (fun e s' => R (.error e) s') ⟨(h.push { cls := .type "tuple", data := .seq rest.toArray }).update e (Obj.mapFields (·.setIfInBounds 0 (.ref h.objs.size))), g, d, t, os⟩ := wpAny_pure hq
  split
  · exact wpAny_letGo fin
  · exact wpAny_pure fin
end
end

section
set_option maxRecDepth 100000
open PySem PySem.W PyProof.Rows PySem.Calls PySem.SeqAt Builtin Builtin.ObjectAttr Builtin.Getset_descriptor
theorem refuse_bases (self : Value) : refuseLoop self "__setattr__" [.type "Exception", .type "BaseException", .type "object"] = pure () := by kernel_rfl
theorem refuse_exc (self : Value) : refuseLoop self "__setattr__" (.ref 100 :: bmS) = pure () := by
  unfold bmS
  rw [refuseLoop_ref, refuseLoop_ref, refuseLoop_ref]
  exact refuse_bases self
section
variable {prog : Program} {w : World} {A : Around} {K : Frag} {h : Heap} {g : Array GenState} {d : Drawn} {tk : Nat} {os : OsState}
/-- object.__setattr__ on an exception of this class, up to its own dict -/
theorem exc_osa {R : Result → Shared → Prop} {e : Addr} {oe : Obj} {name : Str} {t0 : Tok} {v : Value} (X : K.In h) (he : h.get? e = some oe) (hcls : oe.cls = .ref 100) (hm : Looks (model prog w) h (mroOf (.ref 100)) (.ref 100 :: bmS)) (hobj : Looks (model prog w) h (isSubtype (.ref 100) (.type "object")) true)
    (ht : takerIn K 100 name = some none)
    (hq : ∀ b, wpAny (model prog w) A.in1 (storeInOwnDict (.ref e) (.ref 100) (.str name t0) name v b)
      (fun (fin : PySem.Fin) s' => match fin with | .done f => R (.ok f) s' | .again c' => c'.quiet = true ∧ codeAny (model prog w) A c' R s') (fun e s' => R (.error e) s') ⟨h, g, d, tk, os⟩) :
    codeAny (model prog w) A (.call (.builtin "object.__setattr__") ⟨[.ref e, .str name t0, v], []⟩) R ⟨h, g, d, tk, os⟩ := by
  have SF := PySem.F.store_object
  have ty : Looks (model prog w) h (typeOf (.ref e)) (.ref 100) := by
    have := (Looks.ld (M := model prog w) (part := some headPart) he).andThen (f := fun o => pure o.cls) (b := .ref 100) (by rw [hcls]; exact .now)
    exact this
  have sub : Looks (model prog w) h (isInstance (.ref e) (.type "object")) true := ty.andThen hobj
  refine codeAny_call_builtin SF.slot.plain SF.entry (@check_slot (model prog w) _ _ ⟨h, g, d, tk, os⟩ "object.__setattr__" "object" "__setattr__" (.ref e) [.str name t0, v] [] _ SF.kind SF.split sub (SF.args (.ref e) (.str name t0) v) ?_)
  obtain ⟨attr, ha, hr⟩ := Option.bind_eq_some_iff.mp ht
  have L3 : Looks (model prog w) h (storeTaker? attr) none := by
    cases attr with
    | none => exact .now
    | some a =>
      obtain ⟨b, hb, hbb⟩ := Option.map_eq_some_iff.mp hr
      have : b = false := by cases b with | false => rfl | true => simp at hbb
      subst this
      exact (looks_takesIn X hb).andThen .now
  rw [osa_eq, refuse_eq]
  refine wpAny_bind (wpAny_bind (ty.here (wpAny_bind (hm.here ?_))))
  rw [refuse_exc]
  refine wpAny_pure (wpAny_bind (ty.here (wpAny_bind ((looks_findIn X ha).here (wpAny_bind (L3.here ?_))))))
  exact hq _
end
end

section
set_option maxRecDepth 100000
open PySem PySem.W PyProof.Rows PySem.Calls PySem.SeqAt Builtin Builtin.ObjectAttr Builtin.Getset_descriptor
/-- an exception under way, over a base that stays -/
noncomputable def ExcIn (Z h : Heap) (e : Addr) (k : Nat) : Prop := (∀ b o, Z.get? b = some o → h.get? b = some o) ∧ Z.get? e = none ∧ ∃ od t sl, h.get? e = some ⟨.ref 100, od, .fields #[.ref t, .none, .none, .none, .bool false, .none], sl⟩ ∧
  ∀ dx, od = some dx → Z.get? dx = none ∧ dx ≠ e ∧ ∃ es n, ∃ fs : Loc, h.get? dx = some (dictOf es n) ∧ AEnts h es fs ∧ fs.length ≤ k
section
variable {prog : Program} {w : World} {A : Around} {K : Frag} {Z h : Heap} {g : Array GenState} {d : Drawn} {tk : Nat} {os : OsState}
theorem exc_nsSet {R : PySem.Fin → Shared → Prop} {E : Value → Shared → Prop} {dx : Addr} {es : List DictEntry} {n : Nat} {fs : Loc} {name : Str} {t0 : Tok} {v : Value} (hd : h.get? dx = some (dictOf es n)) (hes : AEnts h es fs) (hf : fs.length ≤ 100)
    (hq : ∀ h' n' tk' tok, Heap.SameBut dx h h' → h'.get? dx = some (dictOf (putL name (PyData.keyHash w.params name) (.str name tok) v es) n') → R (.done (.ret .none)) ⟨h', g, d, tk', os⟩) :
    wpAny (model prog w) A (storeInDict dx (.str name t0) name v) R E ⟨h, g, d, tk, os⟩ := by
  have hl : (lookIn name (dictOf es n)).isSome = true := by
    rw [lookIn_dict]
    have := hes.get name
    split at this
    · obtain ⟨v, e, _⟩ := this; rw [e]; rfl
    · rw [this]; rfl
  unfold storeInDict newKeyGuard
  refine wpAny_bind (wpAny_pure (wpAny_bind ?_))
  unfold nsSet
  refine wpAny_bind (wpAny_bind (wpAny_askSetting (wpAny_pure (wpAny_bind (wpAny_mkText (wpAny_bind (wpAny_loadPart hd ?_)))))))
  dsimp only
  have c : (!es.toArray.any (·.key.isStr name) && es.toArray.any (·.refKey)) = false := by
    have := hes.noRef
    simp only [List.any_toArray, this, Bool.and_false]
  rw [aRefKeyMayBeTheName_at, c]
  refine wpAny_updatePart hd ?_
  have D' := Heap.get?_update_self (h := h) (Obj.putName name (PyData.keyHash w.params name) (.str name tk) v) hd (by rw [putName_dict]; rfl)
  rw [putName_dict] at D'
  have hv : V h Value.none PV.none := .none
  have hlen : (putL name (PyData.keyHash w.params name) (.str name tk) v es).length ≤ 900 := by
    have h1 : ∀ es : List DictEntry, (putL name (PyData.keyHash w.params name) (.str name tk) v es).length ≤ es.length + 1 := by
      intro es
      induction es with
      | nil => simp [putL]
      | cons a r ih => unfold putL; split <;> simp; exact ih
    have := h1 es
    rw [putL_len hes] at this
    omega
  refine wpAny_bind (wpAny_lookBehind D' (pastItsLine_dict (by rw [List.size_toArray, sizeLine_eq]; omega)) ?_)
  exact wpAny_pure (hq _ _ _ _ (Heap.SameBut.update ..) D')
theorem exc_setattr {E : Value → Shared → Prop} {Q : Unit → Shared → Prop} {e : Addr} {name : Str} {v : Value} {dv : PV} {k : Nat} (hk : k ≤ 90) (X : K.In h) (I : ExcIn Z h e k) (hcl : (clsIn K 100).any (·.hasDict) = true) (hm : Looks (model prog w) h (mroOf (.ref 100)) (.ref 100 :: bmS)) (hobj : Looks (model prog w) h (isSubtype (.ref 100) (.type "object")) true)
    (ht : takerIn K 100 name = some none) (hs : findIn K (.ref 100) "__setattr__" = some (some (.builtin "object.__setattr__"))) (hv : ∀ h', V h' v dv)
    (hq : ∀ h' tk', (∀ b o, Z.get? b = some o → h'.get? b = some o) → ExcIn Z h' e (k + 1) → Q () ⟨h', g, d, tk', os⟩) : wpAny (model prog w) A (setAttr (.ref e) name v) Q E ⟨h, g, d, tk, os⟩ := by
  obtain ⟨kZ, nZ, od, t, sl, he, hdict⟩ := I
  obtain ⟨cd, hc, hd'⟩ := any_some hcl
  have freshZ : ∀ a, h.objs.size ≤ a → Z.get? a = none := fun a ha => by
    cases q : Z.get? a with
    | none => rfl
    | some o => exact absurd (Heap.lt_size (kZ _ _ q)) (Nat.not_lt.mpr ha)
  cases od with
  | some dx =>
    obtain ⟨n1, n2, es, n, fs, hd, hes, hf⟩ := hdict dx rfl
    have IA : InstAt h e ⟨.ref 100, some dx, .fields #[.ref t, .none, .none, .none, .bool false, .none], sl⟩ 100 (some (dictOf es n)) := ⟨he, rfl, rfl, hd⟩
    refine set_plain X IA hs (exc_osa X he rfl hm hobj ht fun b => ?_)
    refine wpAny_bind (wpAny_pure (wpAny_bind (wpAny_bind (wpAny_loadPart he (wpAny_bind ((looks_clsIn X hc).here ?_))))))
    rw [hd']
    refine wpAny_pure (a := some dx) ?_
    refine exc_nsSet hd hes (by omega) fun h' n' tk' tok hsb hd2 => ?_
    have k' : ∀ b o, Z.get? b = some o → h'.get? b = some o := fun b o q => (hsb.2 b fun z => by rw [z, n1] at q; cases q).trans (kZ b o q)
    have tkk : TK h h' := fun a items ⟨o, q, c, n, r⟩ => ⟨o, (hsb.2 a fun z => by rw [z, hd] at q; cases q; cases r).trans q, c, n, r⟩
    refine hq h' tk' k' ⟨k', nZ, some dx, t, sl, (hsb.2 e (Ne.symm n2)).trans he, fun dx' e' => ?_⟩
    cases e'
    exact ⟨n1, n2, _, n', _, hd2, (hes.mono tkk).put (hv _), Nat.le_trans (Loc.set_len _ _ _) (by omega)⟩
  | none =>
    have IA : InstAt h e ⟨.ref 100, none, .fields #[.ref t, .none, .none, .none, .bool false, .none], sl⟩ 100 none := ⟨he, rfl, rfl, trivial⟩
    refine set_plain X IA hs (exc_osa X he rfl hm hobj ht fun b => ?_)
    refine wpAny_bind (wpAny_pure (wpAny_bind (wpAny_bind (wpAny_loadPart he (wpAny_bind ((looks_clsIn X hc).here ?_))))))
    rw [hd']
    show wpAny _ _ (alloc { cls := .type "dict", data := .dict #[] } >>= _) _ _ _
    refine wpAny_bind (wpAny_alloc ?_)
    have he1 : (h.push { cls := .type "dict", data := .dict #[] }).get? e = some ⟨.ref 100, none, .fields #[.ref t, .none, .none, .none, .bool false, .none], sl⟩ := Heap.get?_push_of_some _ he
    have hd1 : (h.push { cls := .type "dict", data := .dict #[] }).get? h.objs.size = some (dictOf [] 0) := Heap.get?_push_size _ rfl
    have hne : h.objs.size ≠ e := Nat.ne_of_gt (Heap.lt_size he)
    refine wpAny_bind (wpAny_update he1 ?_)
    have he2 := Heap.get?_update_self (fun o : Obj => { o with dict := some h.objs.size }) he1 rfl
    have hd2 := (Heap.get?_update_other (h.push { cls := .type "dict", data := .dict #[] }) (fun o : Obj => { o with dict := some h.objs.size }) (Ne.symm hne)).trans hd1
    have k1 : ∀ b o, Z.get? b = some o → ((h.push { cls := .type "dict", data := .dict #[] }).update e fun o => { o with dict := some h.objs.size }).get? b = some o := fun b o q => by
      rw [Heap.get?_update_other _ _ (fun z => by rw [← z, nZ] at q; cases q)]
      exact Heap.get?_push_of_some _ (kZ b o q)
    have nd := freshZ _ (Nat.le_refl _)
    refine wpAny_pure (a := some h.objs.size) ?_
    refine exc_nsSet (es := []) (n := 0) (fs := []) hd2 .nil (by simp) fun h' n' tk' tok hsb hd3 => ?_
    have k' : ∀ b o, Z.get? b = some o → h'.get? b = some o := fun b o q => (hsb.2 b fun z => by rw [z, nd] at q; cases q).trans (k1 b o q)
    refine hq h' tk' k' ⟨k', nZ, some h.objs.size, t, sl, (hsb.2 e (Ne.symm hne)).trans he2, fun dx' e' => ?_⟩
    cases e'
    exact ⟨nd, hne, _, n', _, hd3, AEnts.put .nil (hv _), by simp [Loc.set]⟩
end
end

section
set_option maxRecDepth 100000
open PySem PySem.W PyProof.Rows PySem.Calls PySem.SeqAt
section
variable {C : Cx} {A : Around} {s : Shared}
theorem super_node (g : Good C) (gr : ∀ b o, C.G.get? b = some o → s.heap.get? b = some o) {L f x D cda cc : Addr} {m : Str → Option Value} {body : List Stmt} {q : Str} {scope : Scope} {p0 p1 : Pos} {attr : Str} {whole : Sem Value} {fd : FuncData} {ar : Arg} {vs : Array Value} {file : Str} {tf : Tok} {oc ccl cl : Value} {od cdd cld : Option Addr} {osl ccs csl : Array (Option Value)} {cdD : ClassData} {ox : Obj} {fvs : Array Value} {Q : Value → Shared → Prop} {E : Value → Shared → Prop}
    (ns : s.heap.Ns L m) (hf : C.K.lookup f = some ⟨oc, od, .func fd, osl⟩) (hp : (fd.params.posonlyargs ++ fd.params.args).head? = some ar) (hv : m ar.arg = some (.ref x)) (hx : s.heap.get? x = some ox) (hxc : ox.cls = .ref 100) (hxd : ox.data = .fields fvs)
    (hcode : C.K.lookup cda = some ⟨ccl, cdd, .fields vs, ccs⟩) (hvs : vs[2]? = some (.str file tf)) (hfile : ((C.prog.main.file : Str) == file) = true)
    (hcell : C.K.lookup cc = some ⟨cl, cld, .cell (some (.ref D)), csl⟩) (hD : clsIn C.K D = some cdD) (hsub : mroIn C.K 100 (.ref D) = some true) (hsuper : nsIn C.K mainGlobals "super" = some none)
    (hat : (attr == ("__class__" : Str)) = false) (hks : scope.names.lookup ("super" : Str) = some .globalImplicit) (hkc : scope.names.lookup ("__class__" : Str) = some .free) (hka : scope.names.lookup ar.arg = some .local) (hk : scope.kind = .function)
    (htop : (C.prog.main.scope.names.lookup ("super" : Str)).isSome = false)
    (h : ∀ h', h'.get? s.heap.objs.size = some { cls := .type "super", dict := none, data := .fields #[.ref D, .ref x, .ref 100], slots := #[] } → (∀ y o, s.heap.get? y = some o → h'.get? y = some o) → Q (.ref s.heap.objs.size) { s with heap := h' }) :
    _root_.PySem.wpAt C.M A (.func body (ksEnv q scope L f (.ref cda) cc)) (attributeBase (.Call (.Name "super" p0) [] [] p1) attr (ksEnv q scope L f (.ref cda) cc) whole) Q E s := by
  have X : C.K.In s.heap := C.hK.keeps gr
  obtain ⟨hh, g', d, t, os⟩ := s
  dsimp only at *
  obtain ⟨oD, hD1, hD2⟩ : ∃ oD, hh.get? D = some oD ∧ oD.data = .cls cdD := by
    unfold clsIn at hD
    split at hD
    · rename_i c d cd' sl ho
      cases hD
      exact ⟨_, X _ _ ho, rfl⟩
    · cases hD
  refine ks_wpAt_super_base (env := ksEnv q scope L f (.ref cda) cc) hks hkc hat rfl (X _ _ hf) rfl hp rfl (X _ _ hcode) rfl hvs hfile htop ?_
  refine ks_loadName_global hk hks (loadGlobal_builtin (env := ksEnv q scope L f (.ref cda) cc) (C.hT.g.keeps gr) (mg_none_of C.hK C.hT.g hsuper) (C.hT.b.keeps gr) ((C.hT.builtins _ (by decide +kernel)).trans (by rfl : bootBuiltins "super" = some (.type "super"))) ⟨rfl, ?_⟩)
  refine wpAny_loadName_free hk hkc rfl ⟨_, X _ _ hcell, rfl⟩ ?_
  refine wpAny_loadName_local hk hka ns hv ?_
  refine ks_wpAny_isType_cls hD1 hD2 ⟨rfl, ?_⟩
  refine ks_wpAny_call_super hD1 hD2 hx hxc (fun c e => ?_) (looks_mroIn X hsub) (fun h' e k => ?_)
  · rw [hxd] at e; cases e
  · exact h _ e k

theorem call_ks {f cc : Addr} {name qual : Str} {params : Arguments} {body : List Stmt} {scope : Scope} {dV kV doc pm cdv ct oc : Value} {an od : Option Addr} {osl : Array (Option Value)} {vals : List Value} {binds : List (Str × Value)} {R : Result → Shared → Prop}
    (ho : C.K.lookup f = some ⟨oc, od, .func (ksFn name qual params body scope dV kV doc pm an cdv ct cc), osl⟩) (hcd : codeIn C.K cdv qual = true) (gr : ∀ b o, C.G.get? b = some o → s.heap.get? b = some o) (hroom : A.depth < recursionLimit)
    (hbind : bindArgs (ksFn name qual params body scope dV kV doc pm an cdv ct cc) ⟨vals, []⟩ = pure binds) (hloc : ∀ x ∈ binds, scope.names.lookup x.1 = some .local) (hcell : ∀ x ∈ scope.names, x.2 ≠ .cell) (hk : scope.kind = .function) (hco : scope.isCoroutine = false) (hgen : scope.isGenerator = false)
    (h : ∀ h₀, h₀.Ns s.heap.objs.size (fun x => binds.reverse.lookup x) → (∀ b o, s.heap.get? b = some o → h₀.get? b = some o) →
      _root_.PySem.wpAt C.M (A.deeper (ksEnv qual scope s.heap.objs.size f cdv cc)) (.func body (ksEnv qual scope s.heap.objs.size f cdv cc)) (execs body (ksEnv qual scope s.heap.objs.size f cdv cc)) (fun fl s' => R (.ok (.ret (match fl with | .ret v => v | _ => .none))) s') (fun _ _ => False)
        { s with heap := h₀, toks := s.toks + binds.length }) : codeAny C.M A (.call (.ref f) ⟨vals, []⟩) R s :=
  ks_codeAny_call_defAt (fd := ksFn name qual params body scope dV kV doc pm an cdv ct cc) (body := body) (binds := binds) hroom (gr _ _ (C.hK _ _ ho)) rfl (C.hT.nolimit.keeps gr) ((codeRec_of C.hK hcd).keeps gr) rfl (BindsTo.of_eq hbind) hcell hloc
    (fun h₀ hns hk₀ => ks_wpAt_mono (h h₀ hns hk₀) (fun _ _ x => x) fun _ _ x => x.elim) hco hgen hk
end
end

section
set_option maxRecDepth 100000
open PySem PySem.W PyProof.Rows PySem.Calls PySem.SeqAt
section
variable {C : Cx} {A : Around} {s : Shared}
abbrev mwObj (e : Addr) : Obj := { cls := .type "method-wrapper", dict := none, data := .fields #[.builtin "Exception.__init__", .ref e], slots := #[] }
theorem keeps_W {M : Model} {q e : Addr} (h : Heap) (X : h.get? q = some (mwObj e)) : ∃ k, (k = Keeper.frame ∨ k = Keeper.machine ∨ k = Keeper.boundFrame) ∧ Looks M h (keeperOf (.ref q)) k :=
  ⟨.machine, .inr (.inl rfl), (Looks.ld (part := none) X).andThen .now⟩
theorem callWith_W {env : Env} {pos : Pos} {q e : Addr} {a : Expr} {Q : Value → Shared → Prop} {E : Value → Shared → Prop} (h : wpAny C.M A (spliced (backTo pos (starEach [a] env))) (fun vs s₁ => s₁.heap.get? q = some (mwObj e) ∧ wpAny C.M A (call (.ref q) ([] ++ vs)) Q E s₁) E s)
    (he : starEach [a] env = (false, eval a env) :: starEach [] env := by rfl) : wpAny C.M A (callWith pos (.ref q) [] (backTo pos (starEach [a] env)) []) Q E s := by
  rw [he] at h ⊢
  exact callWith_of (P := fun h => h.get? q = some (mwObj e)) rfl keeps_W (evalArgs_plain h)
theorem mro100 (g : Good C) {h : Heap} (X : C.K.In h) : Looks C.M h (mroOf (.ref 100)) (.ref 100 :: bmS) := by
  have hcl : ∃ cd, clsIn C.K 100 = some cd ∧ cd.mro = .ref 100 :: bmS := by rw [g.hK]; exact ⟨_, rfl, rfl⟩
  obtain ⟨cd, hc, hm⟩ := hcl
  exact hm ▸ fun A Q E s k q => wpAny_bind ((looks_clsIn X hc) A _ E s k (wpAny_pure q))
theorem g_super (g : Good C) : nsIn C.K mainGlobals "super" = some none := by rw [g.hK]; exact rfl
theorem finder_init (g : Good C) {Z : Heap} {e : Addr} {k : Nat} {what : Str} {t : Tok} {R : Result → Shared → Prop} (hroom : A.depth < recursionLimit) (gZ : ∀ b o, C.G.get? b = some o → Z.get? b = some o) (I : ExcIn Z s.heap e k) (hk : k ≤ 50)
    (hq : ∀ h' tk', (∀ b o, Z.get? b = some o → h'.get? b = some o) → ExcIn Z h' e (k + 1) → R (.ok (.ret .none)) { s with heap := h', toks := tk' }) : codeAny C.M A (.call (.ref 37) ⟨[.ref e, .str what t], []⟩) R s := by
  obtain ⟨kZ, nZ, od, tt, sl, he, hdict⟩ := I
  have gr : ∀ b o, C.G.get? b = some o → s.heap.get? b = some o := fun b o q => kZ _ _ (gZ _ _ q)
  refine call_ks (cc := 25) (binds := [("self", .ref e), ("what", .str what t)]) (by rw [g.hK]; exact rfl) (by rw [g.hK]; exact rfl) gr hroom rfl (by intro x hx; simp only [List.mem_cons, List.not_mem_nil, or_false] at hx; rcases hx with rfl | rfl <;> rfl) (by decide) rfl rfl rfl fun h₀ hns hk₀ => ?_
  have gr0 : ∀ b o, C.G.get? b = some o → h₀.get? b = some o := fun b o q => hk₀ _ _ (gr _ _ q)
  refine ks_wpAt_execs_cons (ks_wpAt_Expr_any (ks_wpAt_MethodCall ?_))
  refine super_node (s := { s with heap := h₀, toks := s.toks + 2 }) g gr0 (D := 47) hns (by rw [g.hK]; exact rfl) rfl rfl (hk₀ _ _ he) rfl rfl (by rw [g.hK]; exact rfl) rfl (by rw [g.hP]; rfl) (by rw [g.hK]; exact rfl) (by rw [g.hK]; exact rfl) (by rw [g.hK]; exact rfl) (g_super g) rfl rfl rfl rfl rfl (by rw [g.hP]; rfl) fun h1 hso k1 => ?_
  have gr1 : ∀ b o, C.G.get? b = some o → h1.get? b = some o := fun b o q => k1 _ _ (gr0 _ _ q)
  have X1 : C.K.In h1 := C.hK.keeps gr1
  have he1 := k1 _ _ (hk₀ _ _ he)
  have hne : e ≠ 100 := by
    rintro rfl
    obtain ⟨_, _, _, _, _, _, _, _, _, _, _, _, _, _, _, hc⟩ := cls100 g
    have := X1 _ _ hc
    rw [he1] at this
    cases this
  refine super_gm_b (h := h1) hso (looks_opaque X1 (by rw [g.hK]; exact rfl)) (l₀ := .ref 100 :: bmS) ?_ rfl X1 (by rw [g.hK]; exact rfl) hne rfl he1 rfl (looks_mroIn X1 (by rw [g.hK]; exact rfl)) ?_
  · exact mro100 g X1
  have k2 := push_keep h1 (mwObj e)
  have hmw : (h1.push (mwObj e)).get? h1.objs.size = some (mwObj e) := Heap.get?_push_size _ rfl
  have ns2 : (h1.push (mwObj e)).Ns s.heap.objs.size _ := (hns.keeps k1).keeps k2
  refine callWith_W (e := e) ?_
  show wpAny _ _ (spliced ((false, _) :: backTo _ (starEach [] _))) _ _ _
  refine spliced_cons (wpAny_Name (wpAny_loadName_local rfl rfl ns2 rfl ?_) (by decide))
  refine wpAny_pure ⟨hmw, ?_⟩
  have he2 := k2 _ _ he1
  refine wpAny_call (call_binit hmw (fun Q E q => ?_) (exc_binit he2 rfl (by show (0 : Nat) < 6; omega) (by simp) ?_))
  · obtain ⟨_, _, _, _, _, _, _, _, _, _, _, _, _, _, _, hc⟩ := cls100 g
    exact bound_check (k2 _ _ (X1 _ _ hc)) he2 rfl q
  change _root_.PySem.wpAt _ _ _ _ _ _ ({ s with heap := ((h1.push (mwObj e)).push { cls := .type "tuple", data := .seq [Value.str what t].toArray }).update e (Obj.mapFields (·.setIfInBounds 0 (.ref (h1.push (mwObj e)).objs.size))), toks := s.toks + 2 + 1 } : Shared)
  generalize hT : ({ cls := .type "tuple", data := .seq [Value.str what t].toArray } : Obj) = tob
  have kall : ∀ b o, s.heap.get? b = some o → b ≠ e → (((h1.push (mwObj e)).push tob).update e (Obj.mapFields (·.setIfInBounds 0 (.ref (h1.push (mwObj e)).objs.size)))).get? b = some o := fun b o q hb => by
    rw [Heap.get?_update_other _ _ (Ne.symm hb)]
    exact push_keep _ _ _ _ (k2 _ _ (k1 _ _ (hk₀ _ _ q)))
  have he3 := Heap.get?_update_self (Obj.mapFields (·.setIfInBounds 0 (.ref (h1.push (mwObj e)).objs.size))) (push_keep _ tob _ _ he2) rfl
  have kns : ∀ b o, (h1.push (mwObj e)).get? b = some o → b ≠ e → (((h1.push (mwObj e)).push tob).update e (Obj.mapFields (·.setIfInBounds 0 (.ref (h1.push (mwObj e)).objs.size)))).get? b = some o := fun b o q hb => by
    rw [Heap.get?_update_other _ _ (Ne.symm hb)]
    exact push_keep _ _ _ _ q
  generalize (((h1.push (mwObj e)).push tob).update e (Obj.mapFields (·.setIfInBounds 0 (.ref (h1.push (mwObj e)).objs.size)))) = h3 at kall he3 kns ⊢
  have hLe : s.heap.objs.size ≠ e := Nat.ne_of_gt (Heap.lt_size he)
  have ns3 := ns2.at' fun o q => kns _ o q hLe
  have kZ3 : ∀ b o, Z.get? b = some o → h3.get? b = some o := fun b o q => kall b o (kZ _ _ q) (fun z => by rw [z, nZ] at q; cases q)
  have X3 : C.K.In h3 := C.hK.keeps fun b o q => kZ3 _ _ (gZ _ _ q)
  have tk3 : TK s.heap h3 := fun a items ⟨o, q, c, n, r⟩ => ⟨o, kall _ _ q (fun z => by rw [z, he] at q; cases q; cases r), c, n, r⟩
  have I3 : ExcIn Z h3 e k := ⟨kZ3, nZ, od, _, sl, he3, fun dx hd => by
    obtain ⟨z1, z2, es, n, fs, z3, z4, z5⟩ := hdict dx hd
    exact ⟨z1, z2, es, n, fs, kall _ _ z3 z2, z4.mono tk3, z5⟩⟩
  refine ks_wpAt_execs_cons (ks_wpAt_Assign_Attr (PySem.wpAt_of_wpAny (wpAny_Name (wpAny_loadName_local rfl rfl ns3 rfl (wpAny_Name (wpAny_loadName_local rfl rfl ns3 rfl ?_) (by decide))) (by decide))))
  refine exc_setattr (dv := .str what) (by omega) X3 I3 (by rw [g.hK]; exact rfl) (mro100 g X3) (looks_mroIn X3 (by rw [g.hK]; exact rfl)) (by rw [g.hK]; exact rfl) (by rw [g.hK]; exact rfl) (fun h' => .str _ _) fun h' tk' kk I' => ?_
  exact PySem.wpAt_of_wpAny (wpAny_pure (hq h' tk' kk I'))
end
end

section
set_option maxRecDepth 100000
open PySem PySem.W PyProof.Rows PySem.Calls PySem.SeqAt
section
variable {C : Cx} {A : Around} {s : Shared}
theorem callWith_B {env : Env} {pos : Pos} {q f e : Addr} (hf : fnIn C.K f = true) {a : Expr} {Q : Value → Shared → Prop} {E : Value → Shared → Prop} (h : wpAny C.M A (spliced (backTo pos (starEach [a] env))) (fun vs s₁ => MethP C.K q f (.ref e) s₁.heap ∧ wpAny C.M A (call (.ref q) ([] ++ vs)) Q E s₁) E s)
    (he : starEach [a] env = (false, eval a env) :: starEach [] env := by rfl) : wpAny C.M A (callWith pos (.ref q) [] (backTo pos (starEach [a] env)) []) Q E s := by
  rw [he] at h ⊢
  exact callWith_of (P := MethP C.K q f (.ref e)) rfl (keeps_M hf) (evalArgs_plain h)
theorem ExcIn.rebase {Z Z' h : Heap} {e : Addr} {k : Nat} (kk : ∀ b o, Z.get? b = some o → Z'.get? b = some o) (nZ : Z.get? e = none) (I : ExcIn Z' h e k) : ExcIn Z h e k := by
  obtain ⟨a, b, od, t, sl, c, d⟩ := I
  refine ⟨fun x o q => a _ _ (kk _ _ q), nZ, od, t, sl, c, fun dx hd => ?_⟩
  obtain ⟨d1, d2⟩ := d dx hd
  refine ⟨?_, d2⟩
  cases q : Z.get? dx with
  | none => rfl
  | some o => have := kk _ _ q; rw [d1] at this; cases this
theorem ExcIn.max {Z h : Heap} {e : Addr} {k : Nat} (I : ExcIn Z h e k) : ∃ Z' : Heap, (∀ b o, Z.get? b = some o → Z'.get? b = some o) ∧ ExcIn Z' h e k ∧ ∀ b o, h.get? b = some o → b ≠ e → (∀ oe, h.get? e = some oe → oe.dict ≠ some b) → Z'.get? b = some o := by
  obtain ⟨a, b, od, t, sl, c, d⟩ := I
  refine ⟨hid h fun x => x = e ∨ od = some x, fun x o q => hid_get (a _ _ q) ?_, ⟨fun x o q => (hid_of q).1, hid_none (.inl rfl), od, t, sl, c, fun dx hd => ?_⟩, fun x o q h1 h2 => hid_get q ?_⟩
  · rintro (rfl | z)
    · rw [b] at q; cases q
    · rw [(d x z).1] at q; cases q
  · exact ⟨hid_none (.inr hd), (d dx hd).2⟩
  · rintro (z | z)
    · exact h1 z
    · exact h2 _ c z
theorem spot_init (g : Good C) {Z : Heap} {e : Addr} {k : Nat} {what : Str} {i : Int} {t u : Tok} {R : Result → Shared → Prop} (hroom : A.depth + 10 < recursionLimit) (gZ : ∀ b o, C.G.get? b = some o → Z.get? b = some o) (I : ExcIn Z s.heap e k) (hk : k ≤ 40)
    (hq : ∀ h' tk', (∀ b o, Z.get? b = some o → h'.get? b = some o) → ExcIn Z h' e (k + 2) → R (.ok (.ret .none)) { s with heap := h', toks := tk' }) : codeAny C.M A (.call (.ref 66) ⟨[.ref e, .str what t, .int i u], []⟩) R s := by
  obtain ⟨kZ, nZ, od, tt, sl, he, hdict⟩ := I
  have gr : ∀ b o, C.G.get? b = some o → s.heap.get? b = some o := fun b o q => kZ _ _ (gZ _ _ q)
  refine call_ks (cc := 54) (binds := [("self", .ref e), ("what", .str what t), ("spot", .int i u)]) (by rw [g.hK]; exact rfl) (by rw [g.hK]; exact rfl) gr (by omega) rfl (by intro x hx; simp only [List.mem_cons, List.not_mem_nil, or_false] at hx; rcases hx with rfl | rfl | rfl <;> rfl) (by decide) rfl rfl rfl fun h₀ hns hk₀ => ?_
  have gr0 : ∀ b o, C.G.get? b = some o → h₀.get? b = some o := fun b o q => hk₀ _ _ (gr _ _ q)
  refine ks_wpAt_execs_cons (ks_wpAt_Expr_any (ks_wpAt_MethodCall ?_))
  refine super_node (s := { s with heap := h₀, toks := s.toks + 3 }) g gr0 (D := 76) hns (by rw [g.hK]; exact rfl) rfl rfl (hk₀ _ _ he) rfl rfl (by rw [g.hK]; exact rfl) rfl (by rw [g.hP]; rfl) (by rw [g.hK]; exact rfl) (by rw [g.hK]; exact rfl) (by rw [g.hK]; exact rfl) (g_super g) rfl rfl rfl rfl rfl (by rw [g.hP]; rfl) fun h1 hso k1 => ?_
  have gr1 : ∀ b o, C.G.get? b = some o → h1.get? b = some o := fun b o q => k1 _ _ (gr0 _ _ q)
  have X1 : C.K.In h1 := C.hK.keeps gr1
  have he1 := k1 _ _ (hk₀ _ _ he)
  have hne : e ≠ 100 := by
    rintro rfl
    obtain ⟨_, _, _, _, _, _, _, _, _, _, _, _, _, _, _, hc⟩ := cls100 g
    have := X1 _ _ hc
    rw [he1] at this
    cases this
  have hfo : ∃ of, h1.get? 37 = some of ∧ of.cls = .type "function" := by
    have : ∃ of, C.K.lookup 37 = some of ∧ of.cls = .type "function" := by rw [g.hK]; exact ⟨_, rfl, rfl⟩
    obtain ⟨of, h1', h2'⟩ := this
    exact ⟨of, X1 _ _ h1', h2'⟩
  obtain ⟨of, hof, hofc⟩ := hfo
  refine ks_wpAny_getMethod_super (h := h1) hso (looks_opaque X1 (by rw [g.hK]; exact rfl)) (l₀ := .ref 100 :: bmS) (mro100 g X1) rfl X1 (by rw [g.hK]; exact rfl) hof hofc hne rfl ?_
  have k2 := push_keep h1 (methodObj (.ref 37) (.ref e))
  have hmw : (h1.push (methodObj (.ref 37) (.ref e))).get? h1.objs.size = some (methodObj (.ref 37) (.ref e)) := Heap.get?_push_size _ rfl
  have ns2 : (h1.push (methodObj (.ref 37) (.ref e))).Ns s.heap.objs.size _ := (hns.keeps k1).keeps k2
  have X2 : C.K.In (h1.push (methodObj (.ref 37) (.ref e))) := C.hK.keeps fun b o q => k2 _ _ (gr1 _ _ q)
  refine callWith_B (f := 37) (e := e) (by rw [g.hK]; exact rfl) ?_
  show wpAny _ _ (spliced ((false, _) :: backTo _ (starEach [] _))) _ _ _
  refine spliced_cons (wpAny_Name (wpAny_loadName_local rfl rfl ns2 rfl ?_) (by decide))
  refine wpAny_pure ⟨⟨hmw, X2⟩, ?_⟩
  have kall : ∀ b o, s.heap.get? b = some o → (h1.push (methodObj (.ref 37) (.ref e))).get? b = some o := fun b o q => k2 _ _ (k1 _ _ (hk₀ _ _ q))
  have hLe : s.heap.objs.size ≠ e := Nat.ne_of_gt (Heap.lt_size he)
  have tk2 : TK s.heap (h1.push (methodObj (.ref 37) (.ref e))) := .of kall
  have I2 : ExcIn Z (h1.push (methodObj (.ref 37) (.ref e))) e k := ⟨fun b o q => kall _ _ (kZ _ _ q), nZ, od, tt, sl, kall _ _ he, fun dx hd => by
    obtain ⟨z1, z2, es, n, fs, z3, z4, z5⟩ := hdict dx hd
    exact ⟨z1, z2, es, n, fs, kall _ _ z3, z4.mono tk2, z5⟩⟩
  obtain ⟨Z', kZZ, I', kmax⟩ := I2.max
  refine wpAny_call (ks_codeAny_call_bound hmw (finder_init (s := { s with heap := h1.push (methodObj (.ref 37) (.ref e)), toks := _ }) g (by show A.depth + 1 < recursionLimit; omega) (fun b o q => kZZ _ _ (gZ _ _ q)) I' (by omega) fun h3 tk3 k3 I3 => ?_))
  have I3' := I3.rebase kZZ nZ
  have ns3 := ns2.at' fun o q => k3 _ _ (kmax _ o q hLe fun oe hoe => by
    rw [kall _ _ he] at hoe; cases hoe
    intro hod
    obtain ⟨_, _, es, n, fs, z3, _⟩ := hdict _ hod
    exact absurd (Heap.lt_size z3) (Nat.lt_irrefl _))
  have X3 : C.K.In h3 := C.hK.keeps fun b o q => I3'.1 _ _ (gZ _ _ q)
  refine ks_wpAt_execs_cons (ks_wpAt_Assign_Attr (PySem.wpAt_of_wpAny (wpAny_Name (wpAny_loadName_local rfl rfl ns3 rfl (wpAny_Name (wpAny_loadName_local rfl rfl ns3 rfl ?_) (by decide))) (by decide))))
  refine exc_setattr (dv := .int i) (by omega) X3 I3' (by rw [g.hK]; exact rfl) (mro100 g X3) (looks_mroIn X3 (by rw [g.hK]; exact rfl)) (by rw [g.hK]; exact rfl) (by rw [g.hK]; exact rfl) (fun h' => .int _ _) fun h' tk' kk I' => ?_
  exact PySem.wpAt_of_wpAny (wpAny_pure (hq h' tk' kk I'))
end
end

section
set_option maxRecDepth 100000
open PySem PySem.W PyProof.Rows PySem.Calls PySem.SeqAt
section
variable {C : Cx} {A : Around} {s : Shared}
theorem scope_made (g : Good C) {what : Str} {i : Int} {t u : Tok} {Q : Value → Shared → Prop} {E : Value → Shared → Prop} (hroom : A.depth + 12 < recursionLimit) (gr : ∀ b o, C.G.get? b = some o → s.heap.get? b = some o)
    (hq : ∀ h' tk' e, ExcIn s.heap h' e 2 → Q (.ref e) { s with heap := h', toks := tk' }) : wpAny C.M A (call (.ref 100) [.str what t, .int i u]) Q E s := by
  obtain ⟨h, gg, d, tk, os⟩ := s
  have X : C.K.In h := C.hK.keeps gr
  obtain ⟨nm, q, N, bs, hdct, sn, sub, ab, col, dd, k0, k1, k2, k3, k5, hc⟩ := cls100 g
  refine exc_call (X _ _ hc) (looks_findIn X (find100 g).1) (fun self => bind_fn X self (by rw [g.hK]; exact rfl)) (by simp [sizeLine_eq]) ?_
  have k : ∀ b o, h.get? b = some o → ((h.push { cls := .type "tuple", data := .seq [Value.str what t, .int i u].toArray }).push
      { cls := .ref 100, data := .fields #[.ref h.objs.size, .none, .none, .none, .bool false, .none] }).get? b = some o := fun b o e => Heap.get?_push_of_some _ (Heap.get?_push_of_some _ e)
  refine spot_init (Z := h) (k := 0) g (by show A.depth + 1 + 10 < recursionLimit; omega) gr (show ExcIn h _ (h.objs.size + 1) 0 from ⟨k, by cases e : h.get? (h.objs.size + 1) with | none => rfl | some o => exact absurd (Nat.lt_trans (Nat.lt_succ_self _) (Heap.lt_size e)) (Nat.lt_irrefl _), none, h.objs.size, #[], by heap_get, fun dx hd => by cases hd⟩) (by omega) fun h' tk' kk I => ⟨rfl, hq h' tk' _ I⟩
theorem raise_exc {prog : Program} {w : World} {M : Model} {A : Around} {E : Value → Shared → Prop} {env : Env} {s : Shared} {x : Sem Value} {Q : Flow → Shared → Prop}
    {nm q : Str} {N : Addr} {bs : List Value} {hdct : Bool} {sn : List Str} {sub : List Value} {ab : Bool} {col : Option Bool} {dd : Option Addr} {k0 k1 k2 k3 k5 : Option Value} (hh : A.handled = none)
    (h : wpAny M A x (fun v s₁ => ∃ e t od sl, v = .ref e ∧ s₁.heap.get? 100 = some (excClassObj nm q 100 N bs bmS hdct sn sub ab col dd k0 k1 k2 k3 k5 "Exception.__new__") ∧
      s₁.heap.get? e = some ⟨.ref 100, od, .fields #[.ref t, .none, .none, .none, .bool false, .none], sl⟩ ∧ E (.ref e) s₁) E s) :
    wpAny M A (raiseStmt env (some x) none) Q E s := by
  have hcB : (Value.ref 100 :: bmS).contains (.type "BaseException") = true := by decide
  unfold raiseStmt
  refine wpAny_bind (wpAny_mono h (fun v s₁ h₁ => ?_) fun _ _ x => x)
  obtain ⟨e, t, od, sl, rfl, hC, he, hE⟩ := h₁
  obtain ⟨hp, g, d, tk, os⟩ := s₁
  repeat (first | with_reducible refine wpAny_loadPart_at he ?_ | with_reducible refine wpAny_loadPart_at hC ?_ | (with_reducible refine wpAny_isSubtype_exc hC ?_; rw [hcB]) | wp_step)
  exact wpAny_raiseNew_none hh hE
end
end

section
set_option maxRecDepth 100000
open PySem PySem.W PyProof.Rows PySem.Calls PySem.SeqAt
/-! # raising -/
/-- an exception just raised -/
noncomputable def ExcF (B : Heap) (own : List Addr) (σ : St) (h : Heap) (e : Addr) : Prop :=
  B.get? e = none ∧ σ e = none ∧ e ∉ own ∧ ∃ od t sl, h.get? e = some ⟨.ref 100, od, .fields #[.ref t, .none, .none, .none, .bool false, .none], sl⟩
noncomputable def XPost (C : Cx) (B : Heap) (env : Env) (own : List Addr) (X : St → Prop) (s : Shared) (v : Value) (s' : Shared) : Prop :=
  ∃ e m' σ' h tk, v = .ref e ∧ s' = { s with heap := h, toks := tk } ∧ TK s.heap h ∧ Rep C B env own h m' σ' ∧ ExcF B own σ' h e ∧ X σ'
/-- an exception that has left a frame -/
noncomputable def ExcT (B : Heap) (own : List Addr) (σ : St) (h : Heap) (e : Addr) : Prop :=
  B.get? e = none ∧ σ e = none ∧ e ∉ own ∧ ∃ oe vs T oT ts, h.get? e = some oe ∧ oe.cls = .ref 100 ∧ oe.data = .fields vs ∧ vs[1]? = some (.ref T) ∧ T ≠ e ∧ h.get? T = some oT ∧ oT.data = .fields ts ∧ ts[3]? = some .none ∧
    B.get? T = none ∧ σ T = none ∧ T ∉ own
noncomputable def XSPost (C : Cx) (B : Heap) (X : St → Prop) (s : Shared) (v : Value) (s' : Shared) : Prop :=
  ∃ e σ' h tk, v = .ref e ∧ s' = { s with heap := h, toks := tk } ∧ TK s.heap h ∧ RepS C B h σ' ∧ ExcT B [] σ' h e ∧ X σ'
noncomputable def XTPost (C : Cx) (B : Heap) (env : Env) (own : List Addr) (m : Loc) (X : St → Prop) (s : Shared) (v : Value) (s' : Shared) : Prop :=
  ∃ e σ' h tk, v = .ref e ∧ s' = { s with heap := h, toks := tk } ∧ TK s.heap h ∧ Rep C B env own h m σ' ∧ ExcT B own σ' h e ∧ X σ'
noncomputable def RXPost (C : Cx) (B : Heap) (Q : PV → St → Prop) (X : St → Prop) (s : Shared) (r : Result) (s' : Shared) : Prop := match r with
  | .ok (.ret v) => SPost C B Q s v s'
  | .ok _ => False
  | .error v => XSPost C B X s v s'
/-- a call that may raise -/
noncomputable def XCallJ (C : Cx) (n : Nat) (f : Value) (args : List PV) (σ : St) (Q : PV → St → Prop) (X : St → Prop) : Prop :=
  ∀ A B s vals, VS s.heap vals args → FineC C n B A → RepS C B s.heap σ → codeAny C.M A (.call f ⟨vals, []⟩) (RXPost C B Q X s) s
/-- statements that may raise -/
noncomputable def SX (C : Cx) (n : Nat) (A : Around) (env : Env) (own : List Addr) (m : Loc) (σ : St) (st : List Stmt) (Qn : Loc → St → Prop) (Qr : PV → St → Prop) (X : St → Prop) : Prop :=
  ∀ B s, Fine C n B A env → Rep C B env own s.heap m σ → wpAny C.M A (execs st env) (FPost C B env own Qn Qr s) (XPost C B env own X s) s
noncomputable def SX1 (C : Cx) (n : Nat) (A : Around) (env : Env) (own : List Addr) (m : Loc) (σ : St) (st : Stmt) (Qn : Loc → St → Prop) (Qr : PV → St → Prop) (X : St → Prop) : Prop :=
  ∀ B s, Fine C n B A env → Rep C B env own s.heap m σ → wpAny C.M A (exec st env) (FPost C B env own Qn Qr s) (XPost C B env own X s) s
/-- an expression that may raise out of a call -/
noncomputable def EX (C : Cx) (n : Nat) (A : Around) (env : Env) (own : List Addr) (m : Loc) (σ : St) (e : Expr) (Q : PV → St → Prop) (X : St → Prop) : Prop :=
  ∀ B s, Fine C n B A env → Rep C B env own s.heap m σ → wpAny C.M A (eval e env) (EPost C B env own m Q s) (XTPost C B env own m X s) s

section
variable {C : Cx} {n : Nat} {A : Around} {env : Env} {own : List Addr} {m : Loc} {σ : St} {B : Heap} {s : Shared} {X : St → Prop}
theorem XPost.from {h1 : Heap} {tk1 : Nat} {v : Value} {s' : Shared} (k : TK s.heap h1) (p : XPost C B env own X { s with heap := h1, toks := tk1 } v s') : XPost C B env own X s v s' := by
  obtain ⟨e, m', σ', h, tk, a, b, c, d⟩ := p
  exact ⟨e, m', σ', h, tk, a, b, k.trans c, d⟩
theorem S.x {st : List Stmt} {Qn : Loc → St → Prop} {Qr : PV → St → Prop} (h : S C n A env own m σ st Qn Qr) : SX C n A env own m σ st Qn Qr X := fun B s F R => wpAny_mono (h B s F R) (fun _ _ x => x) fun _ _ x => x.elim
theorem S1.x {st : Stmt} {Qn : Loc → St → Prop} {Qr : PV → St → Prop} (h : S1 C n A env own m σ st Qn Qr) : SX1 C n A env own m σ st Qn Qr X := fun B s F R => wpAny_mono (h B s F R) (fun _ _ x => x) fun _ _ x => x.elim
theorem SX_nil {Qn : Loc → St → Prop} {Qr : PV → St → Prop} (q : Qn m σ) : SX C n A env own m σ [] Qn Qr X := (S_nil q).x
theorem SX_cons {st : Stmt} {rest : List Stmt} {Qn : Loc → St → Prop} {Qr : PV → St → Prop} (h : SX1 C n A env own m σ st (fun m' σ' => SX C n A env own m' σ' rest Qn Qr X) Qr X) : SX C n A env own m σ (st :: rest) Qn Qr X := fun B s F R => by
  refine wpAny_execs_cons (wpAny_mono (h B s F R) ?_ fun _ _ x => x)
  rintro f _ ⟨h1, tk1, rfl, K1, r⟩
  cases f with
  | next => obtain ⟨m', σ', R1, q⟩ := r; exact wpAny_mono (q B _ F R1) (fun _ _ p => p.from K1) fun _ _ p => p.from K1
  | ret v => exact ⟨h1, tk1, rfl, K1, r⟩
  | brk => exact r.elim
  | cont => exact r.elim
/-- a statement that does not raise ahead of others -/
theorem SX_s {st : Stmt} {rest : List Stmt} {Qn : Loc → St → Prop} {Qr : PV → St → Prop} (h : S1 C n A env own m σ st (fun m' σ' => SX C n A env own m' σ' rest Qn Qr X) Qr) : SX C n A env own m σ (st :: rest) Qn Qr X := SX_cons h.x
theorem SX_if {t : Expr} {a b : List Stmt} {pos : Pos} {Qn : Loc → St → Prop} {Qr : PV → St → Prop} (h : T C n A env own m σ t fun c σ1 => if c = true then SX C n A env own m σ1 a Qn Qr X else SX C n A env own m σ1 b Qn Qr X) : SX1 C n A env own m σ (.If t a b pos) Qn Qr X := fun B s F R => by
  refine wpAny_If (wpAny_mono (h B s F R) ?_ fun _ _ x => x.elim)
  rintro c _ ⟨σ1, h1, tk1, rfl, K1, R1, q⟩
  cases c with
  | true => exact wpAny_mono (q B _ F R1) (fun _ _ p => p.from K1) fun _ _ p => p.from K1
  | false => exact wpAny_mono (q B _ F R1) (fun _ _ p => p.from K1) fun _ _ p => p.from K1
theorem SX.forget {m0 : Loc} {st : List Stmt} {Qn : Loc → St → Prop} {Qr : PV → St → Prop} (k : LSub m0 m) (h : SX C n A env own m0 σ st Qn Qr X) : SX C n A env own m σ st Qn Qr X := fun B s F R => h B s F (R.weaken k.get)
theorem SX_seq {st : Stmt} {rest : List Stmt} {Qn : Loc → St → Prop} {Qr : PV → St → Prop} (P : Loc → St → Prop) (h : SX1 C n A env own m σ st P Qr X) (k : ∀ m' σ', P m' σ' → SX C n A env own m' σ' rest Qn Qr X) : SX C n A env own m σ (st :: rest) Qn Qr X := by
  refine SX_cons fun B s F R => wpAny_mono (h B s F R) ?_ fun _ _ x => x
  rintro f s' ⟨h1, tk1, e, K1, r⟩
  refine ⟨h1, tk1, e, K1, ?_⟩
  cases f with
  | next => obtain ⟨m', σ', R1, q⟩ := r; exact ⟨m', σ', R1, k _ _ q⟩
  | ret v => exact r
  | brk => exact r
  | cont => exact r

/-- the raise of ScopeFault -/
theorem SX_raise (g : Good C) {np cpos pos : Pos} {x : Str} {je ne : Expr} {Qn : Loc → St → Prop} {Qr : PV → St → Prop} (hn : 2 ≤ n) (hf : E C n A env own m σ (.Name x np) fun p σ1 => p = .ref 100 ∧ Es C n A env own m σ1 cpos [je, ne] fun ds σ2 => ∃ what i, ds = [.str what, .int i] ∧ X σ2)
    (he : starEach (je :: [ne]) env = (false, eval je env) :: starEach [ne] env := by rfl) (hplain : (backTo cpos (starEach [ne] env)).any (·.1) = false := by rfl) :
    SX1 C n A env own m σ (.Raise (some (.Call (.Name x np) [je, ne] [] cpos)) none pos) Qn Qr X := fun B s F R => by
  obtain ⟨nm, q, N, bs, hdct, sn, sub, ab, col, dd, k0, k1, k2, k3, k5, hc⟩ := cls100 g
  have hk : keepIn C.K (.ref 100) = true := by rw [g.hK]; exact rfl
  rw [arm_exec_Raise]
  refine wpAny_bind (wpAny_standAt ?_)
  refine raise_exc (prog := C.prog) (w := C.w) (nm := nm) (q := q) (N := N) (bs := bs) (hdct := hdct) (sn := sn) (sub := sub) (ab := ab) (col := col) (dd := dd) (k0 := k0) (k1 := k1) (k2 := k2) (k3 := k3) (k5 := k5) F.1.1 (wpAny_bind (wpAny_mono (wpAny_Call_ofName (wpAny_mono (hf B s F R) ?_ fun _ _ x => x.elim)) (fun v s3 h3 => wpAny_bind (wpAny_standAt (wpAny_pure h3))) fun _ _ x => x))
  rintro v _ ⟨p, σ1, h1, tk1, rfl, V1, K1, R1, rfl, H2⟩
  cases V1
  refine callWith_K C.hK hk (wpAny_mono (H2 B _ F R1) ?_ fun _ _ x => x.elim) he hplain
  rintro vals _ ⟨ds, σ2, h2, tk2, rfl, V2, K2, R2, what, i, rfl, hX⟩
  cases V2 with
  | cons a r =>
  cases r with
  | cons b r =>
  cases r
  cases a
  cases b
  refine ⟨C.hK.keeps R2.ground, ?_⟩
  refine scope_made g (by have := F.1.2.1; show A.depth + 12 < 1000; omega) R2.ground fun h' tk' e I => ?_
  obtain ⟨k, nZ, od, t, sl, hg, _⟩ := I
  dsimp only at k nZ
  refine ⟨e, t, od, sl, rfl, k _ _ (C.hK.keeps R2.ground _ _ hc), hg, ?_⟩
  have noE : ∀ o, h2.get? e ≠ some o := fun o z => by rw [nZ] at z; cases z
  refine ⟨e, m, σ2, h', tk', rfl, rfl, (K1.trans K2).trans (.of k), R2.keeps k, ⟨?_, ?_, ?_, od, t, sl, hg⟩, hX⟩
  · cases z : B.get? e with
    | none => rfl
    | some o => obtain ⟨o', z', _⟩ := R2.base _ _ z; exact absurd z' (noE _)
  · cases z : σ2 e with
    | none => rfl
    | some o => obtain ⟨o', z', _⟩ := (R2.st _ _ z).get; exact absurd z' (noE _)
  · intro z
    rcases R2.ownat e z with rfl | ⟨v, o, z', _⟩
    · obtain ⟨mv, ⟨o, _, _, z', _⟩, _⟩ := R2.loc; exact absurd z' (noE _)
    · exact absurd z' (noE _)
end
end

section
set_option maxRecDepth 100000
open PySem PySem.W PyProof.Rows PySem.Calls PySem.SeqAt
section
variable {C : Cx} {n : Nat} {A : Around} {env : Env} {own : List Addr} {m : Loc} {σ : St} {B : Heap} {s : Shared} {X : St → Prop}
noncomputable def FrsAt (C : Cx) (σ : St) (h : Heap) (l : List Env) : Prop := ∀ x ∈ l, x.scope.kind ≠ .module ∧ ∃ L o es n, x.frame = some L ∧ C.G.get? L = none ∧ σ L = none ∧ h.get? L = some o ∧ o.data = .dict es n
theorem Fine.frs {h : Heap} {l : List Env} (F : Fine C n B A env) (R : Rep C B env own h m σ) (hl : A.frames = some l) : FrsAt C σ h l := by
  obtain ⟨_, l', hl', fr⟩ := F
  rw [hl] at hl'; cases hl'
  intro x hx
  rcases fr x hx with ⟨a, L, o, es, k, h1, h2, h3, h4⟩ | ⟨a, h1, h2⟩
  · obtain ⟨o', h5, h6⟩ := R.base _ _ h3
    refine ⟨a, L, o', es, k, h1, h2, ?_, h5, h6.data.trans h4⟩
    cases z : σ L with
    | none => rfl
    | some ob => have := R.sep _ _ z; rw [h3] at this; cases this
  · obtain ⟨mv, ⟨o, es, ep, h3, h4, _⟩, _⟩ := R.loc
    exact ⟨a, _, o, es, ep, h1, h2, (R.ownsep _ R.ownL).2, h3, h4⟩

/-- all but an exception's own, and the frames -/
noncomputable def offX (h : Heap) (e : Addr) (P : Addr → Prop) (l : List Env) : Heap := hid h fun a => a = e ∨ P a ∨ a ∈ l.filterMap (·.frame)
theorem frs_mem {h : Heap} {l : List Env} (fr : FrsAt C σ h l) {a : Addr} (ha : a ∈ l.filterMap (·.frame)) : C.G.get? a = none ∧ σ a = none ∧ ∃ o es n, h.get? a = some o ∧ o.data = .dict es n := by
  obtain ⟨x, hx, e⟩ := List.mem_filterMap.mp ha
  obtain ⟨_, L, o, es, k, h1, h2, h3, h4, h5⟩ := fr x hx
  rw [h1] at e; cases e
  exact ⟨h2, h3, o, es, k, h4, h5⟩
theorem offX_frames {h : Heap} {e : Addr} {P : Addr → Prop} : ∀ {l l' : List Env}, FrsAt C σ h l → (∀ a ∈ l.filterMap (·.frame), a ∈ l'.filterMap (·.frame)) → h.FunFrames (offX h e P l') l
  | [], _, _, _ => trivial
  | x :: l, l', fr, sub => by
    obtain ⟨a, L, o, es, k, h1, h2, h3, h4, h5⟩ := fr x (.head _)
    refine ⟨a, ⟨L, o, h1, ?_, h4, fun vs q => by rw [h5] at q; cases q⟩, offX_frames (fun y hy => fr y (.tail _ hy)) fun b hb => sub b ?_⟩
    · refine hid_none (.inr (.inr (sub L ?_)))
      rw [List.filterMap_cons, h1]; exact .head _
    · rw [List.filterMap_cons, h1]; exact .tail _ hb
theorem offX_stays {h : Heap} {e : Addr} {P : Addr → Prop} {l : List Env} : (offX h e P l).StaysIn h := fun b o q => (hid_of q).1
theorem left_rep {h h' : Heap} {l : List Env} {e : Addr} {oe : Obj} {vs : Array Value} {P : Addr → Prop} (R : RepS C B h σ) (fr : FrsAt C σ h l) (he : h.get? e = some oe) (hd : oe.data = .fields vs) (hBe : B.get? e = none) (hσe : σ e = none)
    (hP : ∀ a, P a → B.get? a = none ∧ σ a = none) {cls : Value} (L : Heap.Left (offX h e P l) l e cls h h') :
    TK h h' ∧ RepS C B h' σ ∧ ∃ oe vs T oT ts, h'.get? e = some oe ∧ oe.cls = cls ∧ oe.data = .fields vs ∧ vs[1]? = some (.ref T) ∧ T ≠ e ∧ h'.get? T = some oT ∧ oT.data = .fields ts ∧ ts[3]? = some .none ∧
      B.get? T = none ∧ σ T = none ∧ ∀ o, h.get? T = some o → ∃ vs, o.data = .fields vs := by
  obtain ⟨l1, l2, l3, l4⟩ := L
  have tk : TK h h' := fun a items ⟨o, q, c, n, d⟩ => by
    obtain ⟨sl, q'⟩ := l4 a o q fun vs z => by rw [d] at z; cases z
    exact ⟨_, q', c, n, d⟩
  have frn : ∀ a o, h.get? a = some o → (∀ es n, o.data ≠ .dict es n) → a ∉ l.filterMap (·.frame) := fun a o q nd ha => by
    obtain ⟨_, _, o', es, k, q', d⟩ := frs_mem fr ha
    rw [q] at q'; cases q'; exact nd _ _ d
  refine ⟨tk, ⟨fun b o q => ?_, R.gB, fun b o q => ?_, fun a o q => (R.st a o q).mono tk fun ob z => ?_, R.sep, R.sys⟩, ?_⟩
  · refine l1 _ _ (hid_get (R.ground _ _ q) ?_)
    rintro (rfl | z | z)
    · rw [R.gB.none hBe] at q; cases q
    · rw [R.gB.none (hP _ z).1] at q; cases q
    · rw [(frs_mem fr z).1] at q; cases q
  · obtain ⟨o', q', sm⟩ := R.base _ _ q
    by_cases z : b ∈ l.filterMap (·.frame)
    · obtain ⟨_, _, o2, es, k, q2, d⟩ := frs_mem fr z
      rw [q'] at q2; cases q2
      obtain ⟨sl, q3⟩ := l4 b o' q' fun vs y => by rw [d] at y; cases y
      exact ⟨_, q3, sm.trans (.inr ⟨⟨es, k, d⟩, rfl, rfl, rfl⟩)⟩
    · refine ⟨o', l1 _ _ (hid_get q' ?_), sm⟩
      rintro (rfl | y | y)
      · rw [hBe] at q; cases q
      · rw [(hP _ y).1] at q; cases q
      · exact z y
  · refine l1 _ _ (hid_get z ?_)
    rintro (rfl | y | y)
    · rw [hσe] at q; cases q
    · rw [(hP _ y).2] at q; cases q
    · rw [(frs_mem fr y).2.1] at q; cases q
  · obtain ⟨oe', vs', T, oT, ts, t1, t2, t3, t4, t5, t6, t7, t8, t9⟩ := l3
    have nf : ∀ o, h.get? T = some o → ∃ vs, o.data = .fields vs := fun o q => by
      apply Classical.byContradiction
      intro z
      obtain ⟨sl, q'⟩ := l4 T o q fun vs y => z ⟨vs, y⟩
      rw [t7] at q'; cases q'; exact z ⟨_, t8⟩
    refine ⟨oe', vs', T, oT, ts, t1, t2, t3, t4, t6, t7, t8, t9, ?_, ?_, nf⟩
    · cases q : B.get? T with
      | none => rfl
      | some o =>
        obtain ⟨o', q', sm⟩ := R.base _ _ q
        obtain ⟨vs2, d2⟩ := nf _ q'
        have := hid_get (P := fun a => a = e ∨ P a ∨ a ∈ l.filterMap (·.frame)) q' (by
          rintro (y | y | y)
          · exact t6 y
          · rw [(hP _ y).1] at q; cases q
          · exact frn _ _ q' (fun es n z => by rw [d2] at z; cases z) y)
        exact absurd (t5.symm.trans this) nofun
    · cases q : σ T with
      | none => rfl
      | some ob =>
        obtain ⟨o', q', _⟩ := (R.st _ _ q).get
        obtain ⟨vs2, d2⟩ := nf _ q'
        have := hid_get (P := fun a => a = e ∨ P a ∨ a ∈ l.filterMap (·.frame)) q' (by
          rintro (y | y | y)
          · exact t6 y
          · rw [(hP _ y).2] at q; cases q
          · exact frn _ _ q' (fun es n z => by rw [d2] at z; cases z) y)
        exact absurd (t5.symm.trans this) nofun

variable {name qual : Str} {params : Arguments} {body : List Stmt} {scope : Scope} {cl : List (Str × Addr)} {dV kV doc pm cdv ct oc : Value} {an od : Option Addr} {osl : Array (Option Value)} {f : Addr}
theorem call_fnX {xs : List Str} {args : List PV} {Q : PV → St → Prop} (ho : C.K.lookup f = some ⟨oc, od, .func (fnX name qual params body scope cl dV kV doc pm an cdv ct), osl⟩) (hcd : codeIn C.K cdv qual = true)
    (hbind : ∀ vals : List Value, vals.length = args.length → bindArgs (fnX name qual params body scope cl dV kV doc pm an cdv ct) ⟨vals, []⟩ = pure (xs.zip vals)) (hlx : xs.length = args.length) (hnd : xs.Nodup) (hloc : ∀ x ∈ xs, scope.names.lookup x = some .local)
    (hcell : ∀ x ∈ scope.names, x.2 ≠ .cell) (hk : scope.kind = .function) (hco : scope.isCoroutine = false) (hgen : scope.isGenerator = false)
    (h : ∀ A L, (∃ l, A.frames = some (envX qual scope L f cdv cl :: l)) → SX C n A (envX qual scope L f cdv cl) [L] (xs.zip args) σ body (fun _ σ' => Q .none σ') Q X) : XCallJ C (n + 1) (.ref f) args σ Q X := fun A B s vals hv F R => by
  have hvl := hv.length
  have hlz : ∀ x ∈ xs.zip vals, scope.names.lookup x.1 = some .local := fun x hx => hloc _ (List.of_mem_zip hx).1
  refine codeAny_call_def (fd := fnX name qual params body scope cl dV kV doc pm an cdv ct) (body := body) (binds := xs.zip vals) (by have := F.1.2.1; show A.depth < 1000; omega) (R.ground _ _ (C.hK _ _ ho)) rfl (C.hT.nolimit.keeps R.ground) ((codeRec_of C.hK hcd).keeps R.ground) rfl (BindsTo.of_eq (hbind vals hvl)) hcell hlz (fun h₀ hns hk₀ => ?_) hco hgen hk
  have hG : C.G.get? s.heap.objs.size = none := by
    cases q : C.G.get? s.heap.objs.size with
    | none => rfl
    | some o => exact absurd (Heap.lt_size (R.ground _ _ q)) (Nat.lt_irrefl _)
  have R0 : Rep C B (envX qual scope s.heap.objs.size f cdv cl) [s.heap.objs.size] h₀ (xs.zip args) σ := {
    toRepS := R.keeps hk₀
    fn := hk
    loc := ⟨_, hns, fun x d e => by
      obtain ⟨v, e1, e2⟩ := lookup_zip (fun v d => V h₀ v d) hnd (hvl.trans hlx.symm) hlx.symm ((hv.mono (.of hk₀)).zip) x d e
      refine .loc (hloc x ?_) e1 e2
      have hm : (x, d) ∈ xs.zip args := by
        have : ∀ (l : List (Str × PV)), l.lookup x = some d → (x, d) ∈ l := fun l => by
          induction l with
          | nil => intro h; simp at h
          | cons p r ih =>
            intro h
            rw [List.lookup_cons] at h
            split at h
            · rename_i q; cases h; rw [beq_iff_eq.mp q]; exact .head _
            · exact .tail _ (ih h)
        exact this _ e
      exact (List.of_mem_zip hm).1⟩
    ownL := .head _
    ownsep := fun a ha => by
      rw [List.mem_singleton] at ha; subst ha; exact ⟨R.freshB, R.fresh⟩
    ownat := fun a ha => .inl (List.mem_singleton.mp ha) }
  obtain ⟨l, hl, _⟩ := F.2
  have hfr := Around.frames_deeper (env := envX qual scope s.heap.objs.size f cdv cl) hl
  have F0 := Fine.enter (e := envX qual scope s.heap.objs.size f cdv cl) F hk rfl hG
  refine wpAny_mono (h _ _ ⟨l, hfr⟩ B { s with heap := h₀, toks := s.toks + (xs.zip vals).length } F0 R0) ?_ ?_
  · rintro fl _ ⟨h1, tk1, rfl, K1, r⟩
    have K0 : TK s.heap h1 := (TK.of hk₀).trans K1
    cases fl with
    | next => obtain ⟨m', σ', R1, q⟩ := r; exact ⟨.none, σ', h1, tk1, rfl, .none, K0, R1.toRepS, q⟩
    | ret v => obtain ⟨d, m', σ', V1, R1, q⟩ := r; exact ⟨d, σ', h1, tk1, rfl, V1, K0, R1.toRepS, q⟩
    | brk => exact r.elim
    | cont => exact r.elim
  · rintro _ _ ⟨e, m', σ', h1, tk1, rfl, rfl, K1, R1, ⟨x1, x2, x3, od, t, sl, he⟩, hX⟩
    have fr := F0.frs R1 hfr
    refine wpAny_leaving_first (base := offX h1 e (fun _ => False) _) hfr (offX_frames fr fun _ z => z) rfl he offX_stays (hid_none (.inl rfl)) rfl rfl fun h' hL => ?_
    obtain ⟨k1, k2, k3⟩ := left_rep R1.toRepS fr he rfl x1 x2 (fun _ z => z.elim) hL
    obtain ⟨oe, vs, T, oT, ts, t1, t2, t3, t4, t5, t6, t7, t8, t9, t10, _⟩ := k3
    exact ⟨e, σ', h', tk1, rfl, rfl, (TK.of hk₀).trans (K1.trans k1), k2, ⟨x1, x2, nofun, oe, vs, T, oT, ts, t1, t2, t3, t4, t5, t6, t7, t8, t9, t10, nofun⟩, hX⟩
end
end

section
set_option maxRecDepth 100000
open PySem PySem.W PyProof.Rows PySem.Calls PySem.SeqAt
section
variable {C : Cx} {n : Nat} {A : Around} {env : Env} {own : List Addr} {m : Loc} {σ : St} {B : Heap} {s : Shared} {X : St → Prop}
theorem XTPost.from {h1 : Heap} {tk1 : Nat} {v : Value} {s' : Shared} (k : TK s.heap h1) (p : XTPost C B env own m X { s with heap := h1, toks := tk1 } v s') : XTPost C B env own m X s v s' := by
  obtain ⟨e, σ', h, tk, a, b, c, d⟩ := p
  exact ⟨e, σ', h, tk, a, b, k.trans c, d⟩
theorem XCallJ.lift {f : Value} {args : List PV} {Q : PV → St → Prop} (h : XCallJ C n f args σ Q X) {vals : List Value} (hv : VS s.heap vals args) (F : Fine C n B A env) (R : Rep C B env own s.heap m σ) :
    wpAny C.M A (call f vals) (EPost C B env own m Q s) (XTPost C B env own m X s) s := by
  have km := R.toRepS.kept_max
  have nown : ∀ a, (maxS s.heap σ).get? a = none → a ∉ own := fun a ha z => by
    have : ∃ o, s.heap.get? a = some o := by
      rcases R.ownat a z with rfl | ⟨v, o, e, _⟩
      · obtain ⟨mv, ⟨o, _, _, e, _⟩, _⟩ := R.loc; exact ⟨o, e⟩
      · exact ⟨o, e⟩
    obtain ⟨o, e⟩ := this
    have := hid_get (P := fun a => σ a ≠ none) e (by rw [(R.ownsep a z).2]; simp)
    exact absurd (this.symm.trans ha) nofun
  refine wpAny_call (codeAny_mono (h A _ s vals hv (F.call R) R.toRepS.max) fun r s' q => ?_)
  cases r with
  | error v =>
    obtain ⟨e, σ', h', tk, rfl, rfl, k, R', ⟨x1, x2, x3, oe, vs, T, oT, ts, t1, t2, t3, t4, t5, t6, t7, t8, t9, t10, t11⟩, hX⟩ := q
    exact ⟨e, σ', h', tk, rfl, rfl, k, R.back k R', ⟨km.none x1, x2, nown _ x1, oe, vs, T, oT, ts, t1, t2, t3, t4, t5, t6, t7, t8, km.none t9, t10, nown _ t9⟩, hX⟩
  | ok f => cases f with
    | ret v =>
      obtain ⟨d, σ', h', tk, rfl, hv, k, R', q⟩ := q
      exact ⟨d, σ', h', tk, rfl, hv, k, R.back k R', q⟩
    | next => exact q.elim
    | brk => exact q.elim
    | cont => exact q.elim
theorem EX_meth {o e : Expr} {rest : List Expr} {name : Str} {apos pos : Pos} {pl : Sem Bool} {Q : PV → St → Prop}
    (h : E C n A env own m σ o fun p σ1 => ∃ x D fs f, p = .ref x ∧ Inst σ1 x D fs ∧ methOK C.K D name f = true ∧ fnIn C.K f = true ∧ Loc.get fs name = none ∧ Es C n A env own m σ1 pos (e :: rest) fun ds σ2 => XCallJ C n (.ref f) (.ref x :: ds) σ2 Q X)
    (hm : eval (.Call (.Attribute o name apos) (e :: rest) [] pos) env = (do
      let ov ← eval o env
      standAt apos.atName
      let (f, first) ← holding [ov] (getMethod ov name pl)
      callWith pos f first (backTo pos (starEach (e :: rest) env)) (backToKw pos (keywordEach [] env))) := by rfl)
    (he : starEach (e :: rest) env = (false, eval e env) :: starEach rest env := by rfl) (hplain : (backTo pos (starEach rest env)).any (·.1) = false := by rfl) :
    EX C n A env own m σ (.Call (.Attribute o name apos) (e :: rest) [] pos) Q X := fun B s F R => by
  refine methodCall_KW (wpAny_mono (h B s F R) ?_ fun _ _ x => x.elim) hm
  rintro v _ ⟨p, σ1, h1, tk1, rfl, V1, K1, R1, x, D, fs, f, rfl, I, ok, hfn, hn, H2⟩
  cases V1
  refine getmeth (s := { s with heap := h1, toks := tk1 }) I ok hn R1.toRepS ?_
  refine callWith_K C.hK (keep_of_meth ok hfn) (wpAny_mono (H2 B _ F R1) ?_ fun _ _ x => x.elim) he hplain
  rintro vals _ ⟨ds, σ2, h2, tk2, rfl, V2, K2, R2, H3⟩
  exact ⟨C.hK.keeps R2.ground, wpAny_mono (H3.lift (s := { s with heap := h2, toks := tk2 }) (.cons (.ref _) V2) F R2) (fun _ _ p => (p.from K2).from K1) fun _ _ p => (p.from K2).from K1⟩

theorem noteFrame_next {base : Heap} {outer : List Env} {L e : Addr} {cls : Value} {E : Value → Shared → Prop} {Q : Unit → Shared → Prop}
    (hfr : A.frames = some (env :: outer)) (hl : s.heap.FunFrames base (env :: outer)) (hf : env.frame = some L) (ht : s.heap.Traced base e cls) (hkb : base.StaysIn s.heap) (hen : base.get? e = none)
    {M : Model} (h : ∀ h', Heap.Left base (env :: outer) e cls s.heap h' → Q () { s with heap := h' }) : wpAny M A (noteFrame (.ref e) env) (fun _ s' => wpAny M A (setFlight (.ref e) none) Q E s') E s := by
  obtain ⟨oe, vs, T, oT, ts, he, hcls, hd, h1, hnT, hTe, hT, hdT, h3⟩ := ht
  subst hcls
  unfold noteFrame
  simp only [hf]
  refine wpAny_bind (wpAny_field he hd h1 ?_)
  rw [if_pos (show (Value.ref T != Value.none) = true from by simp)]
  refine wpAny_bind (wpAny_field hT hdT h3 ?_)
  rw [if_neg (show ¬ ((Value.none == rawInt L) = true) from by simp [rawInt])]
  refine wpAny_bind (wpAny_setField hT hdT (Array.getElem?_eq_some_iff.mp h3).1 ?_)
  have other : ∀ b, b ≠ T → (s.heap.update T (Obj.mapFields (·.setIfInBounds 3 Value.none))).get? b = s.heap.get? b := fun b hb => Heap.get?_update_other _ _ (Ne.symm hb)
  have noRecord : ∀ b o, s.heap.get? b = some o → (∀ vs, o.data ≠ .fields vs) → b ≠ T := fun b o hb hnf q => by
    rw [q, hT] at hb; injection hb with hb; subst hb; exact hnf ts hdT
  exact wpAny_newEntry hfr (hl.of_keeps fun b o hb hnf => ⟨o, (other b (noRecord b o hb hnf)).trans hb, rfl⟩) hf ((other e (Ne.symm hTe)).trans he)
    (fun b o hbo => (other b fun q => by rw [q, hnT] at hbo; cases hbo).trans (hkb b o hbo)) hen hd (Array.getElem?_eq_some_iff.mp h1).1
    fun h' ⟨x1, x2, x3, x4⟩ => h h' ⟨x1, x2, x3, fun b o hb hnf => x4 b o ((other b (noRecord b o hb hnf)).trans hb) hnf⟩

theorem Rep.bare {h h' : Heap} (R : Rep C B env own h m σ) (R' : RepS C B h' σ) (k : ∀ a ∈ own, ∀ o, h.get? a = some o → (∀ vs, o.data ≠ .fields vs) → ∃ o', h'.get? a = some o' ∧ o'.data = o.data) : Rep C B env own h' [] σ where
  toRepS := R'
  fn := R.fn
  loc := by
    obtain ⟨mv, ⟨o, es, ep, e, d, r⟩, _⟩ := R.loc
    obtain ⟨o', e', d'⟩ := k _ R.ownL o e fun vs z => by rw [d] at z; cases z
    exact ⟨mv, ⟨o', es, ep, e', d'.trans d, r⟩, fun x d hx => by cases hx⟩
  ownL := R.ownL
  ownsep := R.ownsep
  ownat := fun a ha => (R.ownat a ha).imp id fun ⟨v, o, e, d⟩ => by
    obtain ⟨o', e', d'⟩ := k a ha o e fun vs z => by rw [d] at z; cases z
    exact ⟨v, o', e', d'.trans d⟩

/-- try: return … except ScopeFault: return None -/
theorem S_try (g : Good C) {ex : Expr} {x : Str} {np p rp rpos hpos pos : Pos} {k : Nat} {Qn : Loc → St → Prop} {Qr : PV → St → Prop} (hfr : ∃ l, A.frames = some (env :: l)) (hf : env.frame = some env.locals)
    (h : EX C n A env own m σ ex Qr X) (hX : ∀ σ', X σ' → Qr .none σ') (e100 : nsIn C.K mainGlobals x = some (some (.ref 100)))
    (hg : env.globals = mainGlobals) (hx : env.kindOf x = some .globalImplicit) (hd : (x == ("__debug__" : Str)) = false) :
    S1 C n A env own m σ (.Try [.Return (some ex) rpos] [.ExceptHandler (some (.Name x np)) none [.Return (some (.Constant .none k p)) rp] hpos] [] [] pos) Qn Qr := fun B s F R => by
  obtain ⟨nm, q, N, bs, hdct, sn, sub, ab, col, dd, k0, k1, k2, k3, k5, hc⟩ := cls100 g
  refine wpAny_Try_except (wpAny_execs_cons (wpAny_Return_some (wpAny_mono (h B s F R) ?_ ?_)))
  · rintro v _ ⟨d, σ1, h1, tk1, rfl, V1, K1, R1, q⟩
    exact ⟨h1, tk1, rfl, K1, d, m, σ1, V1, R1, q⟩
  · rintro _ _ ⟨e, σ', h1, tk1, rfl, rfl, K1, R1, ⟨x1, x2, x3, oe, vs, T, oT, ts, t1, t2, t3, t4, t5, t6, t7, t8, t9, t10, t11⟩, qX⟩
    obtain ⟨l, hl⟩ := hfr
    have fr := F.frs R1 hl
    refine noteFrame_next (s := { s with heap := h1, toks := tk1 }) (base := offX h1 e (fun a => a = T) (env :: l)) (L := env.locals) hl (offX_frames fr fun _ z => z) hf
      ⟨oe, vs, T, oT, ts, t1, t2, t3, t4, hid_none (.inr (.inl rfl)), t5, t6, t7, t8⟩ offX_stays (hid_none (.inl rfl)) fun h2 hL => ?_
    obtain ⟨y1, y2, oe2, vs2, T2, oT2, ts2, u1, u2, u3, u4, u5, u6, u7, u8, u9, u10, u11⟩ := left_rep R1.toRepS fr t1 t3 x1 x2 (fun a (z : a = T) => z ▸ ⟨t9, t10⟩) hL
    have ownk : ∀ a ∈ own, ∀ o, h1.get? a = some o → (∀ vs, o.data ≠ .fields vs) → ∃ o', h2.get? a = some o' ∧ o'.data = o.data := fun a _ o z nf => by
      obtain ⟨sl, z'⟩ := hL.2.2.2 a o z nf
      exact ⟨_, z', rfl⟩
    have R2 : Rep C B env own h2 [] σ' := R1.bare y2 ownk
    have T2own : T2 ∉ own := fun z => by
      have nf : ∃ o, h1.get? T2 = some o ∧ ∀ vs, o.data ≠ .fields vs := by
        rcases R1.ownat T2 z with z' | ⟨v, o, e, d⟩
        · obtain ⟨mv, ⟨o, es, ep, e, d, _⟩, _⟩ := R1.loc
          exact ⟨o, z' ▸ e, fun vs y => by rw [d] at y; cases y⟩
        · exact ⟨o, e, fun vs y => by rw [d] at y; cases y⟩
      obtain ⟨o, e', nf⟩ := nf
      obtain ⟨vs, d⟩ := u11 o e'
      exact nf vs d
    have X2 : C.K.In h2 := C.hK.keeps R2.ground
    refine wpAny_handleBy_cons (codeAny_handlers_test (Name_function_global R.fn hx (loadGlobal_global (env := env) (by rw [hg]; exact C.hT.g.keeps R2.ground) (mg_of C.hK C.hT.g e100) ?_) hd)) nofun
    refine wpAny_excMatches_sub_self (X2 _ _ hc) u1 u2 (by decide) ?_
    refine codeAny_handlers_suite ?_
    refine wpAny_setFlight_none u1 u3 u4 u6 u7 (Array.getElem?_eq_some_iff.mp u8).1 ?_
    have sb := Heap.SameBut.update (h := h2) (a := T2) (f := Obj.mapFields (·.setIfInBounds 3 .none))
    have y3 : TK h2 (h2.update T2 (Obj.mapFields (·.setIfInBounds 3 .none))) := fun a items ⟨o, z, c, nn, d⟩ => by
      refine ⟨o, (sb.2 a fun w => ?_).trans z, c, nn, d⟩
      rw [w, u6] at z; cases z; rw [u7] at d; cases d
    have R3 : Rep C B env own (h2.update T2 (Obj.mapFields (·.setIfInBounds 3 .none))) [] σ' := R2.bare (R2.toRepS.ownTurn u9 u10 sb y3) fun a ha o z _ => ⟨o, (sb.2 a fun w => T2own (w ▸ ha)).trans z, rfl⟩
    refine wpAny_execs_cons (wpAny_Return_some (wpAny_pure ?_))
    exact ⟨_, tk1, rfl, (K1.trans y1).trans y3, .none, [], σ', .none, R3, hX _ qX⟩
theorem XCallJ.caught {f : Value} {args : List PV} {Q : PV → St → Prop} (h : XCallJ C n f args σ Q fun _ => False) : CallJ C n f args σ Q := fun A B s vals hv F R =>
  codeAny_mono (h A B s vals hv F R) fun r s' q => by
    cases r with
    | error e => obtain ⟨_, _, _, _, _, _, _, _, _, z⟩ := q; exact z.elim
    | ok f => cases f with
      | ret v => exact q
      | next => exact q.elim
      | brk => exact q.elim
      | cont => exact q.elim
end
end

section
set_option maxRecDepth 100000
open PySem PySem.W PyProof.Rows PySem.Calls PySem.SeqAt

theorem hundred_text : ∀ k : Fin 101, (toString ((k.val : Nat) : Int) : String).length ≤ 5 := by decide +kernel
theorem text_le {i : Int} (h0 : 0 ≤ i) (h1 : i ≤ 100) : (Str.ofString (toString i)).length ≤ 5 := by
  have := hundred_text ⟨i.toNat, by omega⟩
  have e : ((i.toNat : Nat) : Int) = i := Int.toNat_of_nonneg h0
  rw [show (⟨i.toNat, by omega⟩ : Fin 101).val = i.toNat from rfl, e] at this
  rw [PySem.ofString_length]; exact this
section
variable {C : Cx} {n : Nat} {A : Around} {env : Env} {own : List Addr} {m : Loc} {σ : St}
theorem E_fstr {x1 x2 : Str} {p1 p2 p3 p4 p5 pos : Pos} {k : Nat} {c : Str} {a : Str} {i : Int} {Q : PV → St → Prop} (h1 : m.get x1 = some (.str a)) (h2 : m.get x2 = some (.int i)) (ha : a.length ≤ 100) (hc : c.length ≤ 100) (h0 : 0 ≤ i) (h100 : i ≤ 100) (q : ∀ t, Q (.str t) σ)
    (hd1 : (x1 == ("__debug__" : Str)) = false) (hd2 : (x2 == ("__debug__" : Str)) = false) :
    E C n A env own m σ (.JoinedStr [.FormattedValue (.Name x1 p1) (-1) none p2, .Constant (.str c) k p3, .FormattedValue (.Name x2 p4) (-1) none p5] pos) Q := fun B s F R => by
  have hl : i.natAbs.log2 < 1920 := by
    have : i.natAbs.log2 ≤ 10 := by
      rcases Nat.eq_zero_or_pos i.natAbs with h0 | hp
      · rw [h0]; decide
      · exact Nat.le_of_lt_succ ((Nat.log2_lt (Nat.ne_of_gt hp)).mpr (by omega))
    omega
  have ht := text_le h0 h100
  have e0 : (Str.empty ++ a).length ≤ 100 := by rw [strLen_append]; show Str.empty.length + _ ≤ _; have : Str.empty.length = 0 := rfl; omega
  have e1 : (Str.empty ++ a ++ c).length ≤ 200 := by rw [strLen_append]; omega
  have e2 : (Str.empty ++ a ++ c ++ Str.ofString (toString i)).length ≤ 205 := by rw [strLen_append]; omega
  refine JoinedStr_many (joinParts_cons (FormattedValue_plain (wpAny_mono (E_var (Q := fun d σ' => d = .str a ∧ σ' = σ) h1 ⟨rfl, rfl⟩ hd1 B s F R) ?_ fun _ _ x => x)))
  rintro v _ ⟨d, σ1, h', tk, rfl, V1, K1, R1, rfl, rfl⟩
  cases V1
  refine formatField_str (fun t' tk' => ?_) (by rw [sizeLine_eq]; omega)
  refine ⟨by rw [sizeLine_eq]; omega, ?_⟩
  refine joinParts_cons (wpAny_Constant_str ?_)
  refine ⟨by rw [sizeLine_eq]; omega, ?_⟩
  refine joinParts_cons (FormattedValue_plain (wpAny_mono (E_var (Q := fun d σ' => d = .int i ∧ σ' = σ1) h2 ⟨rfl, rfl⟩ hd2 B { s with heap := h', toks := _ } F R1) ?_ fun _ _ x => x))
  rintro v _ ⟨d, σ2, h2, tk2, rfl, V2, K2, R2, rfl, rfl⟩
  cases V2
  refine formatField_int_small hl ?_
  refine ⟨by rw [sizeLine_eq]; exact Nat.le_trans e2 (by omega), ?_⟩
  exact joinParts_nil ⟨_, _, h2, _, rfl, .str _ _, K1.trans K2, R2, q _⟩ (by rw [sizeLine_eq]; exact Nat.le_trans e2 (by omega))
end
end

section
set_option maxRecDepth 100000
open PySem PySem.W PyProof.Rows PySem.Calls PySem.SeqAt

theorem lineD_get (l : List Str) (k : Str) : (Loc.get (lineD l) k).isSome = l.any (· == k) := by
  unfold Loc.get lineD
  induction l with
  | nil => rfl
  | cons x r ih =>
    rw [List.map_cons, List.lookup_cons, List.any_cons]
    cases h : k == x with
    | true =>
      have : (x == k) = true := by simpa using (beq_iff_eq.mp h).symm
      rw [this]; rfl
    | false =>
      have : (x == k) = false := by simpa using fun z => (beq_eq_false_iff_ne.mp h) z.symm
      rw [this]; exact ih
theorem lookup_mem {td : Told} {nm : Str} {p : Bool × Int} (h : td.lookup nm = some p) : (nm, p) ∈ td := by
  induction td with
  | nil => cases h
  | cons a b ih =>
    rw [List.lookup_cons] at h
    split at h
    · rename_i z; cases h; rw [beq_iff_eq.mp z]; exact .head _
    · exact .tail _ (ih h)
section
variable {C : Cx} {σ : St} {x nb : Addr} {its : List Row} {lined : List Str} {td : Told} {d : Int} {row : Row}
theorem g_scope (g : Good C) : nsIn C.K mainGlobals "ScopeFault" = some (some (.ref 100)) := by rw [g.hK]; exact rfl
theorem g_nowhere (g : Good C) : ∃ t, nsIn C.K mainGlobals "NOWHERE" = some (some (.int (-1) t)) := by rw [g.hK]; exact ⟨_, rfl⟩
theorem g_min (g : Good C) : nsIn C.K mainGlobals "min" = some none := by rw [g.hK]; exact rfl
set_option maxHeartbeats 4000000 in
theorem nlot_spec (g : Good C) {rk : Str → Nat} (w : RowsOK its rk) (S : SigR σ x its lined) (N : NumR σ nb x d td lined) (hrow : row ∈ its) (hb : ∀ p ∈ td, 0 ≤ p.2.2 ∧ p.2.2 ≤ 100) {Q : PV → St → Prop} {X : St → Prop}
    (q : ∀ σ', Sub [] σ σ' → ∀ p, lotF row (usualF its d row) (td.lookup row.name) (lined.any (· == row.name)) = some p → Q (lotV (some p)) σ')
    (qX : ∀ σ', Sub [] σ σ' → lotF row (usualF its d row) (td.lookup row.name) (lined.any (· == row.name)) = none → X σ') : XCallJ C 5 (.ref 135) [.ref nb, .str row.name] σ Q X := by
  obtain ⟨tk, hnw⟩ := g_nowhere g
  refine call_fnX (xs := ["self", "sig"]) (by rw [g.hK]; exact rfl) (by rw [g.hK]; exact rfl) (fun vals h => ?_) rfl (by decide) (by decide) (by decide) rfl rfl rfl fun A L hfr => ?_
  · match vals, h with
    | [a, b], _ => rfl
  have N0 := N
  obtain ⟨ta, oa, I, et, eo⟩ := N
  have S0 := S
  obtain ⟨ea, sa, oa', ra, fs', fl, hS, ho, hr, eo', er, hp⟩ := S
  have hf := findR_mem w.nd hrow
  have hlen := w.len
  have hname := w.sz row hrow
  generalize hP : (td.lookup row.name).getD (false, usualF its d row) = P
  refine SX_s (S_unpack (xs := ["is_exact", "many"]) rfl ?_ ?_)
  · intro y hy
    simp only [List.mem_cons, List.not_mem_nil, or_false] at hy
    rcases hy with rfl | rfl <;> exact .loc rfl
  refine E_bmeth PySem.F.plainAttrs_dict PySem.F.slot_dict_get PySem.F.type_dict_get (E_attr ?_)
  walk_at "sts"
  refine ⟨nb, 145, _, _, rfl, I, an_told g, rfl, nofun, ta, rfl, .inr ⟨rfl, _, et⟩, ?_⟩
  walk_at "sts"
  refine E_meth ?_
  walk_at "sts"
  refine ⟨nb, 145, _, 128, rfl, I, (mn_usual g).1, (mn_usual g).2, rfl, ?_⟩
  walk_at "sts"
  refine (nusual_spec g w S0 N0 hrow fun σ1 s1 => ?_).le (by omega)
  walk_at "sts"
  have I1 := I.sub s1 nofun
  have et1 := s1 _ _ nofun et
  have eo1 := s1 _ _ nofun eo
  have hS1 := hS.sub s1
  intro s vals hv
  cases hv with
  | cons a hv =>
  cases hv with
  | cons b hv =>
  cases hv
  refine op_get et1 a b ?_
  rw [show (Loc.get (toldD td) row.name).getD (.tup [.bool false, .int (usualF its d row)]) = .tup [.bool P.1, .int P.2] by
    rw [toldD_get, ← hP]; cases td.lookup row.name <;> rfl]
  refine ⟨_, rfl, rfl, ?_⟩
  refine SX.forget (m0 := [("self", .ref nb), ("sig", .str row.name), ("is_exact", .bool P.1), ("many", .int P.2)]) (.cons rfl (.cons rfl (.cons rfl (.cons rfl .nil)))) ?_
  refine SX_s (S_assign (.loc rfl) ?_)
  refine E_sm (m_mult g) (by decide) (E_attr ?_)
  walk_at "sts"
  refine ⟨nb, 145, _, _, rfl, I1, an_sigs g, rfl, nofun, x, its, ea, sa, fs', rfl, hS1, ?_⟩
  walk_at "sts"
  refine (mult_spec g hS1 hf ?_).le (by omega)
  have hq := q σ1 s1
  have hX := qX σ1 s1
  unfold lotF at hq hX
  rw [hP] at hq hX
  have hfs : ∀ p, td.lookup row.name = some p → 0 ≤ P.2 ∧ P.2 ≤ 100 := fun p hp => by
    rw [hp] at hP
    have := hb _ (lookup_mem hp)
    cases hP; exact this
  refine SX.forget (m0 := [("self", .ref nb), ("sig", .str row.name), ("is_exact", .bool P.1), ("many", .int P.2), ("mult", .str row.mult)]) (.cons rfl (.cons rfl (.cons rfl (.cons rfl (.cons rfl .nil))))) ?_
  refine SX_cons (SX_if ?_)
  walk_at "sts"
  refine o_eq_str ⟨_, rfl, ?_⟩
  cases h1 : row.mult == ("one" : Str) with
  | true =>
    rw [if_pos rfl]
    have h3 : (row.mult == ("lone" : Str)) = false := by
      have : row.mult = "one" := by simpa using h1
      rw [this]; decide
    rw [h1, h3] at hq hX
    refine SX_cons (SX_if ?_)
    walk_at "sts"
    refine E_attr ?_
    walk_at "sts"
    refine ⟨nb, 145, _, _, rfl, I1, an_told g, rfl, nofun, ?_⟩
    refine o_in_dict et1 ⟨_, rfl, ?_⟩
    rw [toldD_get]
    cases hl : td.lookup row.name with
    | none =>
      rw [if_neg (by decide), if_neg (by decide)]
      rw [hl] at hq
      refine SX_nil (S.x ?_)
      walk_at "sts"
      exact hq (true, 1) (by simp)
    | some p =>
      rw [if_pos (show (Option.map toldV (some p)).isSome = true from rfl)]
      rw [hl] at hq hX
      obtain ⟨b0, b1⟩ := hfs p hl
      walk_at "sts"
      refine o_ne_int ⟨_, rfl, ?_⟩
      cases h2 : P.2 != 1 with
      | true =>
        rw [if_pos rfl]
        walk_at "sts"
        rw [if_pos rfl]
        refine SX_cons (SX_raise g (by omega) (E_glob (g_scope g) (fun _ => .ref _) ⟨rfl, Es_cons (E_fstr rfl rfl (by omega) (by decide) b0 b1 (fun t => Es_cons (E_glob hnw (fun _ => .int _ _) (Es_nil ⟨t, -1, rfl, ?_⟩))) rfl rfl)⟩))
        exact hX (by simp at h2; simp [h2])
      | false =>
        rw [if_neg (by decide), if_neg (by decide)]
        refine SX_nil (S.x ?_)
        walk_at "sts"
        exact hq (true, 1) (by simp at h2; simp [h2])
  | false =>
    rw [if_neg (by decide)]
    rw [h1] at hq hX
    refine SX_nil ?_
    refine SX_seq (fun m' σ' => σ' = σ1 ∧ ¬ ((td.lookup row.name).isSome = true ∧ (row.mult == ("lone" : Str)) = true ∧ P.1 = true ∧ 1 < P.2) ∧ LSub [("self", .ref nb), ("sig", .str row.name), ("is_exact", .bool P.1), ("many", .int (if (row.mult == ("lone" : Str)) = true ∧ 1 < P.2 then 1 else P.2))] m') (SX_if ?_) ?_
    · walk_at "sts"
      refine o_eq_str ⟨_, rfl, ?_⟩
      cases h3 : row.mult == ("lone" : Str) with
      | false =>
        rw [if_neg (by decide)]
        exact SX_nil ⟨rfl, by simp, .cons rfl (.cons rfl (.cons rfl (.cons (by simp; rfl) .nil)))⟩
      | true =>
        rw [if_pos rfl]
        rw [h3] at hX
        refine SX_cons (SX_if (T.mono (Q := fun b σ' => σ' = σ1 ∧ b = decide ((td.lookup row.name).isSome = true ∧ P.1 = true ∧ 1 < P.2)) ?_ ?_))
        · walk_at "sts"
          refine E_attr ?_
          walk_at "sts"
          refine ⟨nb, 145, _, _, rfl, I1, an_told g, rfl, nofun, ?_⟩
          refine o_in_dict et1 ⟨_, rfl, ?_⟩
          rw [toldD_get]
          cases hl : td.lookup row.name with
          | none =>
            rw [if_neg (by decide)]
            exact ⟨rfl, by simp⟩
          | some p =>
            rw [if_pos (show (Option.map toldV (some p)).isSome = true from rfl)]
            walk_at "sts"
            refine ⟨_, rfl, ?_⟩
            cases h4 : P.1 with
            | false =>
              rw [if_neg (by decide)]
              exact ⟨rfl, by simp⟩
            | true =>
              rw [if_pos rfl]
              walk_at "sts"
              refine o_gt ⟨_, rfl, ?_⟩
              cases h5 : decide (1 < P.2) with
              | true =>
                rw [if_pos rfl]
                walk_at "sts"
                exact ⟨rfl, by simp_all⟩
              | false =>
                rw [if_neg (by decide)]
                exact ⟨rfl, by simp_all⟩
        · rintro b _ ⟨rfl, rfl⟩
          split
          · rename_i h
            rw [decide_eq_true_eq] at h
            obtain ⟨p, hp⟩ := Option.isSome_iff_exists.mp h.1
            obtain ⟨b0, b1⟩ := hfs p hp
            refine SX_cons (SX_raise g (by omega) (E_glob (g_scope g) (fun _ => .ref _) ⟨rfl, Es_cons (E_fstr rfl rfl (by omega) (by decide) b0 b1 (fun t => Es_cons (E_glob hnw (fun _ => .int _ _) (Es_nil ⟨t, -1, rfl, ?_⟩))) rfl rfl)⟩))
            exact hX (by simp [h.1, h.2.1, h.2.2])
          · rename_i h
            rw [decide_eq_true_eq] at h
            refine SX_nil (SX_s (S_assign (.loc rfl) (E_blt1 (f := .Name "many" ⟨0, 0, 0, 0⟩) (E_blt (v := .builtin "min") (g_min g) rfl (fun _ => .blt _) ⟨rfl, ?_⟩))))
            walk_at "sts"
            intro s vals hv
            cases hv with
            | cons a hv =>
            cases hv with
            | cons b hv =>
            cases hv
            refine op_min a b ?_
            refine SX_nil ⟨rfl, fun z => h ⟨z.1, z.2.2⟩, .cons rfl (.cons rfl (.cons rfl (.cons ?_ .nil)))⟩
            show some (PV.int _) = some (PV.int _)
            congr 2
            by_cases h6 : 1 < P.2
            · rw [if_pos ⟨rfl, h6⟩]; exact Int.min_eq_right (by omega)
            · rw [if_neg fun z => h6 z.2]; exact Int.min_eq_left (by omega)
    · rintro m' σ2 ⟨hs, hno, hm⟩
      rw [hs]; clear hs
      refine SX.forget hm (S.x ?_)
      have hq := hq (P.1 || lined.any (· == row.name), if (row.mult == ("lone" : Str)) = true ∧ 1 < P.2 then 1 else P.2) (by
        rw [if_neg, if_neg (by decide)]
        rintro ⟨z1, z2 | z2⟩
        · exact absurd z2.1 (by decide)
        · exact hno ⟨z1, z2⟩)
      walk_at "sts"
      refine E.at (.bool (P.1 || lined.any (· == row.name))) σ1 (E_or2 ?_) ?_
      · walk_at "sts"
        refine ⟨_, rfl, ?_⟩
        cases h4 : P.1 with
        | true => rw [if_pos rfl]; exact ⟨by simp, rfl⟩
        | false =>
          rw [if_neg (by decide)]
          walk_at "sts"
          refine E_attr ?_
          walk_at "sts"
          refine ⟨nb, 145, _, _, rfl, I1, an_ordered g, rfl, nofun, ?_⟩
          refine o_in_dict eo1 ⟨?_, rfl⟩
          rw [lineD_get, Bool.false_or]
      · walk_at "sts"
        exact hq
end
end

section
set_option maxRecDepth 100000
open PySem PySem.W PyProof.Rows PySem.Calls PySem.SeqAt

set_option maxHeartbeats 1000000 in
theorem heard_ok {C : Cx} (g : Good C) : Heard C := by
  intro σ x nb its lined td d row rk w S N hrow hb Q q
  refine XCallJ.caught (call_fnX (xs := ["numbers", "top"]) (by rw [g.hK]; exact rfl) (by rw [g.hK]; exact rfl) (fun vals h => ?_) rfl (by decide) (by decide) (by decide) rfl rfl rfl fun A L hfr => ?_)
  · match vals, h with
    | [a, b], _ => rfl
  have N0 := N
  obtain ⟨ta, oa, I, et, eo⟩ := N
  refine SX_s (S_try g (X := fun σ' => Q (lotV none) σ') hfr rfl (EX_meth ?_) (fun _ h => h) (g_scope g) rfl rfl rfl)
  walk_at "sts"
  refine ⟨nb, 145, _, 135, rfl, I, (mn_lot g).1, (mn_lot g).2, rfl, ?_⟩
  walk_at "sts"
  refine nlot_spec g w S N0 hrow hb (fun σ' s p hp => ?_) (fun σ' s hp => ?_)
  · have := q σ' s; rw [hp] at this; exact this
  · have := q σ' s; rw [hp] at this; exact this
end

end Mine
end

theorem PySem.Challenge.cw_rr0089_01_holds : PySem.Challenge.rw_rr0089_01.Holds := by
  exact Mine.law_walk fun C g => Mine.heard_ok g
